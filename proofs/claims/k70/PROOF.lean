import PyProof.Rows.All
import Wide.All
import OpenK.AllK
import Wide.FinOn
import HandS.ForMost
import HandS.IsInst
import HandS.Flow
import HandS.Style
import HandS.Wide
import HandS.Defaults
import HandS.Dict
import HandS.DictTup
import KE.KeyNested
import KE.KDictKeyed
import HandS.TupAny
import HandS.GenList
import HandS.AnyAll
import KE.KNestM
import HandS.Head0
import HandS.Head1
import HandS.Head2
import HandS.HeadEnd
import HandS.HeadHook1
import HandS.HeadHook2
import HandS.EndTab
import HandS.HeadWalk
import HandS.Zip
import HandS.Deep
import HandS.TupMul
import HandS.SortRule
import HandS.SortInts
import PyProof.Rows.SortKeyStr
import KE.KSortTup
import KE.KDictSum
import KE.KDictWalk
import KE.SortKeyed
import HandS.SortKw
import KE.KDictDisplayH
import HandS.TupLe
import PyProof.Draws
import PyProof.EnumMake
import HandS.Conv
import HandS.TupSets
import HandS.Iter
import HandS.TryOnly
import HandS.Nested
import KE.KNest
import KE.KLam
import KE.GoesCell
import HandS.SetKeys
import KE.KDictCopyH
import PySem.Challenge.RW_wholestrewn_k70_whole_systems_and_stands

section
set_option Elab.async false
set_option linter.all false
set_option maxRecDepth 100000
set_option maxHeartbeats 4000000
/-! N0: keys of dicts: data as keys, a dict with tuples as keys as an object of the abstract heap. -/
namespace Fz
open PySem PySem.Spec PyProof.Rows L2
mutual
/-- data as a key: no bools -/
def nk : PyData → Option NestedKey
  | .none => some .none
  | .int i => some (.num i)
  | .str x => some (.text x)
  | .tuple ds => (nks ds).map .tup
  | _ => none
def nks : List PyData → Option (List NestedKey)
  | [] => some []
  | d :: ds => match nk d, nks ds with
    | some k, some ks => some (k :: ks)
    | _, _ => none
end
/-- a flat key -/
def fk : PyData → Option Key
  | .int i => some (.inl i)
  | .str x => some (.inr x)
  | _ => none
/-- a tuple as a key, to depth 8 -/
def tk (d : PyData) : Option NestedKey := match d with
  | .tuple ds => (match nk (.tuple ds) with
    | some k => if k.depth ≤ 8 then some k else none
    | none => none)
  | _ => none
theorem tk_nk {d : PyData} {k : NestedKey} (h : tk d = some k) : nk d = some k ∧ k.depth ≤ 8 ∧ ∃ ds, d = .tuple ds := by
  cases d with
  | tuple ds =>
    simp only [tk] at h
    cases e : nk (.tuple ds) with
    | none => rw [e] at h; cases h
    | some k2 =>
      rw [e] at h
      simp only at h
      split at h
      · cases h; exact ⟨rfl, by assumption, ds, rfl⟩
      · cases h
  | _ => cases h
mutual
theorem nk_inj : ∀ {d e : PyData} {k : NestedKey}, nk d = some k → nk e = some k → d = e
  | .none, e, k, h, g => by
    simp only [nk, Option.some.injEq] at h; subst h
    cases e <;> simp [nk] at g ⊢
  | .int i, e, k, h, g => by
    simp only [nk, Option.some.injEq] at h; subst h
    cases e <;> simp [nk] at g ⊢
    exact g.symm
  | .str i, e, k, h, g => by
    simp only [nk, Option.some.injEq] at h; subst h
    cases e <;> simp [nk] at g ⊢
    exact g.symm
  | .tuple ds, e, k, h, g => by
    simp only [nk, Option.map_eq_some_iff] at h
    obtain ⟨ks, h1, rfl⟩ := h
    cases e with
    | tuple es =>
      simp only [nk, Option.map_eq_some_iff] at g
      obtain ⟨ks2, g1, g2⟩ := g
      cases g2
      rw [nks_inj h1 g1]
    | _ => simp [nk] at g
  | .bool _, _, _, h, _ => by simp [nk] at h
  | .list _, _, _, h, _ => by simp [nk] at h
  | .dict _, _, _, h, _ => by simp [nk] at h
theorem nks_inj : ∀ {ds es : List PyData} {ks : List NestedKey}, nks ds = some ks → nks es = some ks → ds = es
  | [], es, ks, h, g => by
    simp only [nks, Option.some.injEq] at h; subst h
    cases es with
    | nil => rfl
    | cons e es =>
      simp only [nks] at g
      cases e1 : nk e <;> cases e2 : nks es <;> simp [e1, e2] at g
  | d :: ds, es, ks, h, g => by
    simp only [nks] at h
    cases e1 : nk d with
    | none => simp [e1] at h
    | some k1 =>
      cases e2 : nks ds with
      | none => simp [e1, e2] at h
      | some k2 =>
        simp only [e1, e2, Option.some.injEq] at h
        subst h
        cases es with
        | nil => simp [nks] at g
        | cons e es =>
          simp only [nks] at g
          cases f1 : nk e with
          | none => simp [f1] at g
          | some l1 =>
            cases f2 : nks es with
            | none => simp [f1, f2] at g
            | some l2 =>
              simp only [f1, f2, Option.some.injEq, List.cons.injEq] at g
              obtain ⟨g1, g2⟩ := g
              subst g1; subst g2
              rw [nk_inj e1 f1, nks_inj e2 f2]
end
/-- the dict with tuples as keys at a -/
def DicP (w : World) (a : Addr) (raw : List (NestedKey × Addr × V)) (h : Heap) : Prop := raw.length ≤ sizeLine ∧ (a == sysModules) = false ∧ ∃ xs : List (NestedKey × Addr × Value),
  Paired (fun p q => p.1 = q.1 ∧ p.2.1 = q.2.1 ∧ RelV p.2.2 q.2.2) raw xs ∧ ∃ o es ep, h.get? a = some o ∧ o.ExactDict ∧ o.data = .dict es ep ∧ es.toList = xs.map (fun x => (⟨x.1.hash w, .ref x.2.1, x.2.2⟩ : DictEntry)) ∧ (xs.map (·.1)).Nodup
def DicT (w : World) (a : Addr) (raw : List (NestedKey × Addr × V)) : HO := .ext (DicP w a raw)
theorem DicP.stays {w : World} {a : Addr} {raw : List (NestedKey × Addr × V)} {h1 h2 : Heap} (x : DicP w a raw h1) (k : ∀ o, h1.get? a = some o → h2.get? a = some o) : DicP w a raw h2 := by
  obtain ⟨z, hd, xs, r, o, es, ep, e, c⟩ := x
  exact ⟨z, hd, xs, r, o, es, ep, k _ e, c⟩
theorem DicT.ok {P : Program} {w : World} {H : Hp} {a : Addr} {raw : List (NestedKey × Addr × V)} {h : Heap} (x : DicP w a raw h) : ObjOk P w H h a (DicT w a raw) := by
  obtain ⟨_, _, _, _, o, _, _, e, _⟩ := id x
  exact ⟨x, ⟨o, e⟩, fun h1 h2 y k => y.stays k⟩
end Fz
end

section
set_option Elab.async false
set_option linter.all false
set_option maxRecDepth 100000
set_option maxHeartbeats 4000000
/-! F0: pure data, their relation to the abstract heap, the state of a def's slots, the judgements by plain functions. -/
namespace Fz
open PySem PySem.Spec PyProof.Rows L2

abbrev D := PyData
abbrev Sl := L2.St
abbrev Fg := PySem.W.Frag

/-- a list that never changes any more -/
def FrzL (K : Fg) (H : Hp) (a : Addr) (xs : List V) : Prop := (∃ o, H a = some (.frz o (.lst xs))) ∨ SqL K (fun _ => none) a xs
theorem FrzL.sq {K : Fg} {H : Hp} {a : Addr} {xs : List V} (h : FrzL K H a xs) : SqL K H a xs := by
  rcases h with ⟨o, h⟩ | h
  · exact .inl (.inr ⟨o, h⟩)
  · rcases h with (h | ⟨o, h⟩) | h
    · cases h
    · cases h
    · exact .inr h
/-- a table of code objects -/
def TabT (H : Hp) (P : Addr) : Prop := ∃ ps : Array Value, H P = some (.tbl ps) ∧ TriplesOk ps.toList
/-- what never changes is kept, a table stays one -/
structure Pers (H H' : Hp) : Prop where
  tup : ∀ a xs, H a = some (.tup xs) → H' a = some (.tup xs)
  frz : ∀ a o u, H a = some (.frz o u) → H' a = some (.frz o u)
  tbl : ∀ a, TabT H a → TabT H' a
theorem Pers.refl (H : Hp) : Pers H H := ⟨fun _ _ h => h, fun _ _ _ h => h, fun _ h => h⟩
theorem Pers.trans {H H1 H2 : Hp} (a : Pers H H1) (b : Pers H1 H2) : Pers H H2 := ⟨fun p xs h => b.tup p xs (a.tup p xs h), fun p o u h => b.frz p o u (a.frz p o u h), fun p h => b.tbl p (a.tbl p h)⟩
theorem FrzL.mono {K : Fg} {H H' : Hp} {a : Addr} {xs : List V} (p : Pers H H') (h : FrzL K H a xs) : FrzL K H' a xs := by
  rcases h with ⟨o, h⟩ | h
  · exact .inl ⟨o, p.frz _ _ _ h⟩
  · exact .inr h
theorem sqT_mono {K : Fg} {H H' : Hp} {a : Addr} {xs : List V} (p : Pers H H') (h : SqT K H a xs) : SqT K H' a xs := by
  rcases h with (h | ⟨o, h⟩) | h
  · exact .inl (.inl (p.tup _ _ h))
  · exact .inl (.inr ⟨o, p.frz _ _ _ h⟩)
  · exact .inr h
mutual
/-- the value is the data d, and stays it -/
inductive Pd (K : Fg) (H : Hp) : V → D → Prop
  | non : Pd K H .non .none
  | bl (b : Bool) : Pd K H (.bl b) (.bool b)
  | int (i : Int) : Pd K H (.int i) (.int i)
  | str (x : Str) : Pd K H (.str x) (.str x)
  | tup {a : Addr} {xs : List V} {ds : List D} (h : SqT K H a xs) (r : PdAll K H xs ds) : Pd K H (.ref a) (.tuple ds)
  | lst {a : Addr} {xs : List V} {ds : List D} (h : FrzL K H a xs) (r : PdAll K H xs ds) : Pd K H (.ref a) (.list ds)
inductive PdAll (K : Fg) (H : Hp) : List V → List D → Prop
  | nil : PdAll K H [] []
  | cons {x : V} {d : D} {xs : List V} {ds : List D} (h : Pd K H x d) (r : PdAll K H xs ds) : PdAll K H (x :: xs) (d :: ds)
end
mutual
theorem Pd.mono {K : Fg} {H H' : Hp} (p : Pers H H') : ∀ {x : V} {d : D}, Pd K H x d → Pd K H' x d
  | _, _, .non => .non
  | _, _, .bl b => .bl b
  | _, _, .int i => .int i
  | _, _, .str x => .str x
  | _, _, .tup h r => .tup (sqT_mono p h) (PdAll.mono p r)
  | _, _, .lst h r => .lst (h.mono p) (PdAll.mono p r)
theorem PdAll.mono {K : Fg} {H H' : Hp} (p : Pers H H') : ∀ {xs : List V} {ds : List D}, PdAll K H xs ds → PdAll K H' xs ds
  | _, _, .nil => .nil
  | _, _, .cons h r => .cons (Pd.mono p h) (PdAll.mono p r)
end
mutual
theorem Pd.dp {K : Fg} {H : Hp} : ∀ {x : V} {d : D}, Pd K H x d → Dp K H x d
  | _, _, .non => .non
  | _, _, .bl b => .bl b
  | _, _, .int i => .int i
  | _, _, .str x => .str x
  | _, _, .tup h r => .tup h (PdAll.dp r)
  | _, _, .lst h r => .lst h.sq (PdAll.dp r)
theorem PdAll.dp {K : Fg} {H : Hp} : ∀ {xs : List V} {ds : List D}, PdAll K H xs ds → DpAll K H xs ds
  | _, _, .nil => .nil
  | _, _, .cons h r => .cons h.dp (PdAll.dp r)
end

/-! ### objects that one slot owns, what a slot holds -/
inductive Ob where
  | lst (ds : List D)
  | dic (kvs : List (D × D))
/-- d: data for good; own: an object that no one else holds; pin: an object that the caller holds, too (a parameter) -/
abbrev FnD := List D → Option D
/-- ro: an object that no one changes while the frame runs; fn: a function that keeps all, within k levels, and answers g; loc: the j-th function that this frame's text makes -/
inductive SX where
  | ro (o : Ob)
  | fn (k : Nat) (g : FnD)
  | loc (j : Nat)
inductive SV where
  | d (x : D)
  | own (o : Ob)
  | pin (o : Ob)
  | x (e : SX)
abbrev FS := List (Option SV)
structure Exn where
  cls : Str
  val : D
inductive Res (α : Type) where
  | ok (a : α) (S : FS)
  | exn (e : Exn) (S : FS)
  | bad
def Res.bind {α β : Type} (r : Res α) (k : α → FS → Res β) : Res β := match r with
  | .ok a S => k a S
  | .exn e S => .exn e S
  | .bad => .bad
@[simp] theorem Res.bind_ok {α β : Type} (a : α) (S : FS) (k : α → FS → Res β) : (Res.ok a S).bind k = k a S := rfl
@[simp] theorem Res.bind_exn {α β : Type} (e : Exn) (S : FS) (k : α → FS → Res β) : (Res.exn e S : Res α).bind k = .exn e S := rfl
@[simp] theorem Res.bind_bad {α β : Type} (k : α → FS → Res β) : (Res.bad : Res α).bind k = .bad := rfl
/-- one after another -/
def bnd {α β : Type} (fa : FS → Res α) (k : α → FS → Res β) : FS → Res β := fun S => (fa S).bind k

/-- a dict with keys that are flat, or tuples -/
def DicG (K : Fg) (w : World) (H : Hp) (a : Addr) (T : HO → Prop) (kvs : List (D × D)) : Prop :=
  (∃ raw : List (Key × V), T (.dK raw) ∧ Paired (fun (p : Key × V) (q : D × D) => fk q.1 = some p.1 ∧ Pd K H p.2 q.2) raw kvs) ∨
  ∃ raw : List (NestedKey × Addr × V), kvs ≠ [] ∧ T (DicT w a raw) ∧ Paired (fun (p : NestedKey × Addr × V) (q : D × D) => tk q.1 = some p.1 ∧ Pd K H (.ref p.2.1) q.1 ∧ Pd K H p.2.2 q.2) raw kvs
def DicR (K : Fg) (w : World) (H : Hp) (a : Addr) (kvs : List (D × D)) : Prop := DicG K w H a (fun u => H a = some u) kvs
/-- .. as it may be read -/
def DicV (K : Fg) (w : World) (H : Hp) (a : Addr) (kvs : List (D × D)) : Prop := DicG K w H a (Rd H a) kvs
/-- an object that is known to the letter -/
def RoR (K : Fg) (w : World) (H : Hp) (a : Addr) : Ob → Prop
  | .lst ds => ∃ o vs, H a = some (.frz o (.lst vs)) ∧ PdAll K H vs ds
  | .dic kvs => ∃ o, DicG K w H a (fun u => H a = some (.frz o u)) kvs
def ObR (K : Fg) (w : World) (H : Hp) (a : Addr) : Ob → Prop
  | .lst ds => ∃ vs, H a = some (.lst vs) ∧ PdAll K H vs ds
  | .dic kvs => DicR K w H a kvs
def isTbl : HO → Bool
  | .tbl _ => true
  | _ => false
/-- the fields of a code object whose table is at P -/
def CodeFs (vs : Array Value) (P : Addr) : Prop := ∃ file tf flags tg inF text tt, vs.getD 11 .none = .ref P ∧ vs.getD 18 .none = .str file tf ∧ vs.getD 7 .none = .int flags tg ∧ vs.getD 9 .none = .bool inF ∧ vs.getD 10 .none = .int text tt
/-- a code object that is made while the text runs, and its own table -/
def CodeG (H : Hp) (cv : Value) : Prop := ∃ (c : Addr) (oc : Obj) (u : HO) (vs : Array Value) (q : Str) (t : Tok) (P : Addr), cv = .ref c ∧ H c = some (.frz oc u) ∧ oc.cls = .type "code" ∧ oc.data = .fields vs ∧ vs[1]? = some (.str q t) ∧ vs[11]? = some (.ref P) ∧ CodeFs vs P ∧ c ≠ P ∧ TabT H P ∧ ∃ y, u = .own y
theorem mut_tbl : ∀ {u : HO}, Mut (some u) → isTbl u = false
  | .tbl _, h => h.elim
  | .lst _, _ => rfl
  | .tup _, _ => rfl
  | .dK _, _ => rfl
  | .dT _, _ => rfl
  | .set _ _, _ => rfl
  | .ins _ _ _, _ => rfl
  | .own _, _ => rfl
  | .xd _, _ => rfl
  | .met _ _, _ => rfl
  | .rng _ _, _ => rfl
  | .frz _ _, _ => rfl
  | .ext _, _ => rfl
def TabOk (H : Hp) (P : Addr) : Prop := ∃ ps : Array Value, H P = some (.tbl ps) ∧ TriplesOk ps.toList ∧ ∀ pos cv, codeAmong pos ps.toList = some cv → CodeG H cv
theorem CodeG.later {H H' : Hp} {cv : Value} (h : CodeG H cv) (p : Pers H H') : CodeG H' cv :=
  let ⟨c, oc, u, vs, q, t, P, h1, h2, h3, h4, h5, h6, h7, h8, h9, h10⟩ := h
  ⟨c, oc, u, vs, q, t, P, h1, p.frz _ _ _ h2, h3, h4, h5, h6, h7, h8, p.tbl _ h9, h10⟩
theorem TabOk.later {H H' : Hp} {P : Addr} (h : TabOk H P) (p : Pers H H') (k : ∀ b ps, H b = some (.tbl ps) → H' b = some (.tbl ps)) : TabOk H' P :=
  let ⟨ps, e, t, c⟩ := h
  ⟨ps, k _ _ e, t, fun pos cv z => (c pos cv z).later p⟩

/-- what a body knows of its frame: the heap at its entry, the pinned parameters by slot, the tables of code objects, the wish about exceptions -/
structure ClX where
  clo : Hp → V → Nat → FnD → Prop
  cloM : ∀ {H H' : Hp} {x : V} {k : Nat} {g : FnD}, Pers H H' → clo H x k g → clo H' x k g
  loc : Hp → V → Nat → Prop
  locM : ∀ {H H' : Hp} {x : V} {j : Nat}, Pers H H' → loc H x j → loc H' x j
  self : Hp → Prop
  selfM : ∀ {H H' : Hp}, Pers H H' → self H → self H'
structure Fx where
  H0 : Hp
  pins : List (Nat × Addr)
  tabs : List Addr
  held : List (Addr × HO)
  E : XK
  w : World
  cl : ClX
def SxR (K : Fg) (F : Fx) (H : Hp) (x : V) : SX → Prop
  | .ro ob => ∃ a, x = .ref a ∧ RoR K F.w H a ob
  | .fn k g => F.cl.clo H x k g
  | .loc j => F.cl.loc H x j
def SvR (K : Fg) (F : Fx) (i : Nat) (H : Hp) (x : V) : SV → Prop
  | .d d => Pd K H x d
  | .own ob => ∃ a, x = .ref a ∧ ObR K F.w H a ob ∧ F.H0 a = none
  | .pin ob => ∃ a, x = .ref a ∧ ObR K F.w H a ob ∧ (i, a) ∈ F.pins
  | .x e => SxR K F H x e
def Owned (S : FS) (i : Nat) : Prop := ∃ ob, S[i]? = some (some (.own ob)) ∨ S[i]? = some (some (.pin ob))
structure Rel (K : Fg) (F : Fx) (S : FS) (σ : Sl) (H : Hp) : Prop where
  len : S.length = σ.length
  slot : ∀ i sv, S[i]? = some (some sv) → ∃ x, σ[i]? = some (some x) ∧ SvR K F i H x sv
  apart : ∀ i j a, i ≠ j → Owned S i → Owned S j → σ[i]? = some (some (.ref a)) → σ[j]? ≠ some (some (.ref a))
  keep : ∀ a o, F.H0 a = some o → a ∉ F.pins.map (·.2) → isTbl o = false → H a = some o
  there : ∀ a o, F.H0 a = some o → ∃ u, H a = some u
  tabs : ∀ P ∈ F.tabs, TabOk H P
  self : F.cl.self H
  held : ∀ p ∈ F.held, (H p.1 = some p.2 ∧ Mut (some p.2)) ∧ F.H0 p.1 = none ∧ ∀ i, Owned S i → σ[i]? ≠ some (some (.ref p.1))
/-- a value behind an expression: data, or a new object that no slot holds -/
def VR (K : Fg) (F : Fx) (S : FS) (σ : Sl) (H : Hp) (x : V) : SV → Prop
  | .d d => Pd K H x d
  | .own ob => ∃ a, x = .ref a ∧ ObR K F.w H a ob ∧ F.H0 a = none ∧ (∀ i, Owned S i → σ[i]? ≠ some (some (.ref a))) ∧ ∀ p ∈ F.held, p.1 ≠ a
  | .pin _ => False
  | .x _ => False
def PR (K : Fg) (_ : Fx) (_ : FS) (_ : Sl) (H : Hp) (x : V) (d : D) : Prop := Pd K H x d
/-- data for the moment: data, or a list that may change later, of data -/
def Qd (K : Fg) (H : Hp) (x : V) (d : D) : Prop := Pd K H x d ∨ ∃ a vs ds, x = .ref a ∧ d = .list ds ∧ SqL K H a vs ∧ PdAll K H vs ds
theorem Qd.dp {K : Fg} {H : Hp} {x : V} {d : D} (h : Qd K H x d) : Dp K H x d := by
  rcases h with h | ⟨a, vs, ds, rfl, rfl, h, r⟩
  · exact h.dp
  · exact .lst h r.dp
/-- a list's items -/
theorem Qd.list {K : Fg} {H : Hp} {x : V} {ds : List D} (h : Qd K H x (.list ds)) : ∃ a vs, x = .ref a ∧ SqL K H a vs ∧ PdAll K H vs ds := by
  rcases h with h | ⟨a, vs, ds, rfl, e, h, r⟩
  · cases h with
    | lst h r => exact ⟨_, _, rfl, h.sq, r⟩
  · cases e; exact ⟨_, _, rfl, h, r⟩
theorem Qd.pd {K : Fg} {H : Hp} {x : V} {d : D} (h : Qd K H x d) (n : ∀ ds, d ≠ .list ds) : Pd K H x d := by
  rcases h with h | ⟨a, vs, ds, rfl, e, h, r⟩
  · exact h
  · exact absurd e (n ds)
theorem Qd.tuple {K : Fg} {H : Hp} {x : V} {ds : List D} (h : Qd K H x (.tuple ds)) : ∃ a vs, x = .ref a ∧ SqT K H a vs ∧ PdAll K H vs ds := by
  cases h.pd (fun _ e => nomatch e) with
  | tup h2 r => exact ⟨_, _, rfl, h2, r⟩
theorem Qd.int {K : Fg} {H : Hp} {x : V} {i : Int} (h : Qd K H x (.int i)) : x = .int i := by
  cases h.pd (fun _ e => nomatch e); rfl
theorem Qd.bl {K : Fg} {H : Hp} {x : V} {i : Bool} (h : Qd K H x (.bool i)) : x = .bl i := by
  cases h.pd (fun _ e => nomatch e); rfl
theorem Qd.str {K : Fg} {H : Hp} {x : V} {i : Str} (h : Qd K H x (.str i)) : x = .str i := by
  cases h.pd (fun _ e => nomatch e); rfl
theorem Qd.non {K : Fg} {H : Hp} {x : V} (h : Qd K H x .none) : x = .non := by
  cases h.pd (fun _ e => nomatch e); rfl
theorem PdAll.length {K : Fg} {H : Hp} : ∀ {xs : List V} {ds : List D}, PdAll K H xs ds → xs.length = ds.length
  | _, _, .nil => rfl
  | _, _, .cons _ r => by rw [List.length_cons, List.length_cons, PdAll.length r]
theorem PdAll.append {K : Fg} {H : Hp} : ∀ {xs ys : List V} {ds es : List D}, PdAll K H xs ds → PdAll K H ys es → PdAll K H (xs ++ ys) (ds ++ es)
  | _, _, _, _, .nil, s => s
  | _, _, _, _, .cons h r, s => .cons h (PdAll.append r s)
theorem PdAll.take {K : Fg} {H : Hp} : ∀ {xs : List V} {ds : List D} (n : Nat), PdAll K H xs ds → PdAll K H (xs.take n) (ds.take n)
  | _, _, 0, _ => .nil
  | _, _, _ + 1, .nil => .nil
  | _, _, n + 1, .cons h r => .cons h (PdAll.take n r)
theorem PdAll.drop {K : Fg} {H : Hp} : ∀ {xs : List V} {ds : List D} (n : Nat), PdAll K H xs ds → PdAll K H (xs.drop n) (ds.drop n)
  | _, _, 0, r => r
  | _, _, _ + 1, .nil => .nil
  | _, _, n + 1, .cons _ r => PdAll.drop n r
theorem PdAll.get {K : Fg} {H : Hp} : ∀ {xs : List V} {ds : List D} {i : Nat} {d : D}, PdAll K H xs ds → ds[i]? = some d → ∃ x, xs[i]? = some x ∧ Pd K H x d
  | _, _, _, _, .nil, e => by simp at e
  | _, _, 0, _, .cons h _, e => by simp at e; subst e; exact ⟨_, rfl, h⟩
  | _, _, i + 1, d, .cons _ r, e => by
    obtain ⟨x, h1, h2⟩ := PdAll.get (i := i) (d := d) r (by simpa using e)
    exact ⟨x, by simpa using h1, h2⟩
theorem PdAll.set {K : Fg} {H : Hp} {x : V} {d : D} (q : Pd K H x d) : ∀ {xs : List V} {ds : List D} (i : Nat), PdAll K H xs ds → PdAll K H (xs.set i x) (ds.set i d)
  | _, _, _, .nil => .nil
  | _, _, 0, .cons _ r => .cons q r
  | _, _, i + 1, .cons h r => .cons h (PdAll.set q i r)
theorem PdAll.reverse {K : Fg} {H : Hp} {xs : List V} {ds : List D} (h : PdAll K H xs ds) : PdAll K H xs.reverse ds.reverse := by
  induction xs generalizing ds with
  | nil => cases h; exact .nil
  | cons x xs ih =>
    cases h with
    | cons h r => rw [List.reverse_cons, List.reverse_cons]; exact (ih r).append (.cons h .nil)
theorem PdAll.rep {K : Fg} {H : Hp} {xs : List V} {ds : List D} (h : PdAll K H xs ds) : ∀ k : Nat, PdAll K H (List.replicate k xs).flatten (List.replicate k ds).flatten
  | 0 => .nil
  | k + 1 => by rw [List.replicate_succ, List.replicate_succ, List.flatten_cons, List.flatten_cons]; exact h.append (PdAll.rep h k)
def QR (K : Fg) (_ : Fx) (_ : FS) (_ : Sl) (H : Hp) (x : V) (d : D) : Prop := Qd K H x d
/-- an exception of a class of the text: told later -/
def ExR (K : Fg) (H : Hp) (e : Exn) (c : Value) (dx : Option Addr) : Prop := False
abbrev GRel (β α : Type) := Fg → Fx → FS → Sl → Hp → β → α → Prop
abbrev VRel (α : Type) := GRel V α
def postG {β α : Type} (K : Fg) (F : Fx) (R : GRel β α) (r : Res α) (σ : Sl) (H : Hp) (Q : β → Hp → Prop) : Prop := match r with
  | .ok d S => ∀ x H', Pers H H' → Rel K F S σ H' → R K F S σ H' x d → Q x H'
  | .exn e S => ∀ c dx H', Pers H H' → Rel K F S σ H' → ExR K H' e c dx → F.E c dx H'
  | .bad => False
def rdG {β α : Type} (K : Fg) (F : Fx) (R : GRel β α) (f : FS → Res α) : Sl → Hp → (β → Hp → Prop) → Prop := fun σ H Q => ∃ S, Rel K F S σ H ∧ postG K F R (f S) σ H Q
/-- an expression's value: data or an own object; data; data for the moment -/
abbrev EV (X : Cx) (F : Fx) (e : Expr) (f : FS → Res SV) : Prop := PE X e (rdG X.K F VR f)
abbrev ED (X : Cx) (F : Fx) (e : Expr) (f : FS → Res D) : Prop := PE X e (rdG X.K F PR f)
abbrev EQ (X : Cx) (F : Fx) (e : Expr) (f : FS → Res D) : Prop := PE X e (rdG X.K F QR f)
def postT (K : Fg) (F : Fx) (r : Res Bool) (σ : Sl) (H : Hp) (Q : Bool → Hp → Prop) : Prop := match r with
  | .ok b S => ∀ H', Pers H H' → Rel K F S σ H' → Q b H'
  | .exn e S => ∀ c dx H', Pers H H' → Rel K F S σ H' → ExR K H' e c dx → F.E c dx H'
  | .bad => False
def rdT (K : Fg) (F : Fx) (f : FS → Res Bool) : TT := fun σ H Q => ∃ S, Rel K F S σ H ∧ postT K F (f S) σ H Q
abbrev ET (X : Cx) (F : Fx) (e : Expr) (f : FS → Res Bool) : Prop := PT X e (rdT X.K F f)

section
variable {α β ι κ : Type} {K : Fg} {F : Fx} {R : GRel ι α} {R' : GRel κ β} {σ : Sl} {H H' : Hp}
theorem postG.later {r : Res α} {Q : ι → Hp → Prop} (p : Pers H H') (h : postG K F R r σ H Q) : postG K F R r σ H' Q := by
  cases r with
  | ok d S => exact fun x H2 q r v => h x H2 (p.trans q) r v
  | exn e S => exact fun c dx H2 q r v => h c dx H2 (p.trans q) r v
  | bad => exact h
theorem postT.later {r : Res Bool} {Q : Bool → Hp → Prop} (p : Pers H H') (h : postT K F r σ H Q) : postT K F r σ H' Q := by
  cases r with
  | ok d S => exact fun H2 q r => h H2 (p.trans q) r
  | exn e S => exact fun c dx H2 q r v => h c dx H2 (p.trans q) r v
  | bad => exact h
theorem postG.imp {r : Res α} {Q Q' : ι → Hp → Prop} (h : postG K F R r σ H Q) (hq : ∀ x H, Q x H → Q' x H) : postG K F R r σ H Q' := by
  cases r with
  | ok d S => exact fun x H2 q r v => hq _ _ (h x H2 q r v)
  | exn e S => exact h
  | bad => exact h
theorem rdG.imp {f : FS → Res α} {Q Q' : ι → Hp → Prop} (h : rdG K F R f σ H Q) (hq : ∀ x H, Q x H → Q' x H) : rdG K F R f σ H Q' :=
  let ⟨S, r, p⟩ := h; ⟨S, r, p.imp hq⟩
/-- the first of two: what is known behind it -/
theorem rdG.bind {fa : FS → Res α} {k : α → FS → Res β} {Q : κ → Hp → Prop} (h : rdG K F R' (bnd fa k) σ H Q) :
    rdG K F R fa σ H fun x H1 => ∃ d S1, Rel K F S1 σ H1 ∧ R K F S1 σ H1 x d ∧ Pers H H1 ∧ postG K F R' (k d S1) σ H1 Q := by
  obtain ⟨S, r, p⟩ := h
  refine ⟨S, r, ?_⟩
  unfold bnd at p
  cases e : fa S with
  | ok d S1 => rw [e] at p; exact fun x H1 q r1 v => ⟨d, S1, r1, v, q, postG.later q p⟩
  | exn e2 S1 => rw [e] at p; exact p
  | bad => rw [e] at p; exact p
theorem rdG.bindT {fa : FS → Res α} {k : α → FS → Res Bool} {Q : Bool → Hp → Prop} (h : rdT K F (bnd fa k) σ H Q) :
    rdG K F R fa σ H fun x H1 => ∃ d S1, Rel K F S1 σ H1 ∧ R K F S1 σ H1 x d ∧ Pers H H1 ∧ postT K F (k d S1) σ H1 Q := by
  obtain ⟨S, r, p⟩ := h
  refine ⟨S, r, ?_⟩
  unfold bnd at p
  cases e : fa S with
  | ok d S1 => rw [e] at p; exact fun x H1 q r1 v => ⟨d, S1, r1, v, q, postT.later q p⟩
  | exn e2 S1 => rw [e] at p; exact p
  | bad => rw [e] at p; exact p
theorem rdT.bind {fa : FS → Res Bool} {k : Bool → FS → Res β} {Q : κ → Hp → Prop} (h : rdG K F R' (bnd fa k) σ H Q) :
    rdT K F fa σ H fun b H1 => ∃ S1, Rel K F S1 σ H1 ∧ Pers H H1 ∧ postG K F R' (k b S1) σ H1 Q := by
  obtain ⟨S, r, p⟩ := h
  refine ⟨S, r, ?_⟩
  unfold bnd at p
  cases e : fa S with
  | ok d S1 => rw [e] at p; exact fun H1 q r1 => ⟨S1, r1, q, postG.later q p⟩
  | exn e2 S1 => rw [e] at p; exact p
  | bad => rw [e] at p; exact p
theorem rdT.bindT {fa : FS → Res Bool} {k : Bool → FS → Res Bool} {Q : Bool → Hp → Prop} (h : rdT K F (bnd fa k) σ H Q) :
    rdT K F fa σ H fun b H1 => ∃ S1, Rel K F S1 σ H1 ∧ Pers H H1 ∧ postT K F (k b S1) σ H1 Q := by
  obtain ⟨S, r, p⟩ := h
  refine ⟨S, r, ?_⟩
  unfold bnd at p
  cases e : fa S with
  | ok d S1 => rw [e] at p; exact fun H1 q r1 => ⟨S1, r1, q, postT.later q p⟩
  | exn e2 S1 => rw [e] at p; exact p
  | bad => rw [e] at p; exact p
theorem rdT.imp {f : FS → Res Bool} {Q Q' : Bool → Hp → Prop} (h : rdT K F f σ H Q) (hq : ∀ x H, Q x H → Q' x H) : rdT K F f σ H Q' := by
  obtain ⟨S, r, p⟩ := h
  refine ⟨S, r, ?_⟩
  cases e : f S with
  | ok d S1 => rw [e] at p; exact fun H1 q r1 => hq _ _ (p H1 q r1)
  | exn e2 S1 => rw [e] at p; exact p
  | bad => rw [e] at p; exact p
/-- the end of a chain, nothing done to the heap -/
theorem postG.ok {d : α} {S : FS} {Q : ι → Hp → Prop} {x : ι} (h : postG K F R (.ok d S) σ H Q) (r : Rel K F S σ H) (v : R K F S σ H x d) : Q x H := h x H (.refl H) r v
theorem postT.ok {b : Bool} {S : FS} {Q : Bool → Hp → Prop} (h : postT K F (.ok b S) σ H Q) (r : Rel K F S σ H) : Q b H := h H (.refl H) r
end
/-- a rule by a weaker reading -/
theorem _root_.L2.PE.via {X : Cx} {e : Expr} {t t' : TE} (h : PE X e t) (hw : ∀ σ H Q, t' σ H Q → t σ H Q) : PE X e t' := ⟨fun pins s σ H Q I q => h.run pins s σ H Q I (hw σ H Q q)⟩
theorem _root_.L2.PT.via {X : Cx} {e : Expr} {t t' : TT} (h : PT X e t) (hw : ∀ σ H Q, t' σ H Q → t σ H Q) : PT X e t' := ⟨fun pins s σ H Q I q => h.run pins s σ H Q I (hw σ H Q q)⟩
theorem _root_.L2.PS.via {X : Cx} {e : Stmt} {t t' : TS} (h : PS X e t) (hw : ∀ D σ H, t' D σ H → t D σ H) : PS X e t' := ⟨fun pins s σ H D I q => h.run pins s σ H D I (hw D σ H q)⟩
end Fz
end

section
set_option Elab.async false
set_option linter.all false
set_option maxRecDepth 100000
set_option maxHeartbeats 4000000
/-! F1: the relation under stores and new objects; names, constants, freezing. -/
namespace Fz
open PySem PySem.Spec PyProof.Rows L2

section
variable {K : Fg} {F : Fx} {S S' : FS} {σ : Sl} {H H' : Hp} {a : Addr} {o : HO}
theorem Pers.put (h : Mut (H a) ∨ H a = none) : Pers H (upd H a o) := by
  have ne : ∀ b u, H b = some u → ¬ Mut (some u) → b ≠ a := fun b u e nm z => by
    subst z
    rcases h with h | h
    · rw [e] at h; exact nm h
    · rw [e] at h; cases h
  exact ⟨fun b xs e => by rw [upd_ne (ne b _ e (fun z => z))]; exact e, fun b ob u e => by rw [upd_ne (ne b _ e (fun z => z))]; exact e, fun b ⟨ps, e, t⟩ => ⟨ps, by rw [upd_ne (ne b _ e (fun z => z))]; exact e, t⟩⟩
theorem ObR.later {w : World} {b : Addr} {ob : Ob} (h : ObR K w H b ob) (p : Pers H H') (e : H' b = H b) : ObR K w H' b ob := by
  cases ob with
  | lst ds => obtain ⟨vs, q, r⟩ := h; exact ⟨vs, e.trans q, r.mono p⟩
  | dic kvs =>
    rcases h with ⟨raw, q, r⟩ | ⟨raw, n, q, r⟩
    · exact .inl ⟨raw, e.trans q, Paired.mapP r fun _ _ z => ⟨z.1, z.2.mono p⟩⟩
    · exact .inr ⟨raw, n, e.trans q, Paired.mapP r fun _ _ z => ⟨z.1, z.2.1.mono p, z.2.2.mono p⟩⟩
theorem DicG.mono {w : World} {b : Addr} {T T' : HO → Prop} {kvs : List (D × D)} (h : DicG K w H b T kvs) (p : Pers H H') (e : ∀ u, T u → T' u) : DicG K w H' b T' kvs := by
  rcases h with ⟨raw, q, r⟩ | ⟨raw, n, q, r⟩
  · exact .inl ⟨raw, e _ q, Paired.mapP r fun _ _ z => ⟨z.1, z.2.mono p⟩⟩
  · exact .inr ⟨raw, n, e _ q, Paired.mapP r fun _ _ z => ⟨z.1, z.2.1.mono p, z.2.2.mono p⟩⟩
theorem DicR.v {w : World} {b : Addr} {kvs : List (D × D)} (h : DicR K w H b kvs) : DicV K w H b kvs := DicG.mono h (.refl H) fun _ e => .inl e
theorem RoR.mono {w : World} {b : Addr} {ob : Ob} (h : RoR K w H b ob) (p : Pers H H') : RoR K w H' b ob := by
  cases ob with
  | lst ds => obtain ⟨o, vs, q, r⟩ := h; exact ⟨o, vs, p.frz _ _ _ q, r.mono p⟩
  | dic kvs => obtain ⟨o, q⟩ := h; exact ⟨o, q.mono p fun u e => p.frz _ _ _ e⟩
theorem SxR.later {x : V} {e : SX} (h : SxR K F H x e) (p : Pers H H') (k : ∀ a o, F.H0 a = some o → a ∉ F.pins.map (·.2) → isTbl o = false → H a = some o) (k' : ∀ a o, F.H0 a = some o → a ∉ F.pins.map (·.2) → isTbl o = false → H' a = some o) : SxR K F H' x e := by
  cases e with
  | ro ob =>
    obtain ⟨a, rfl, q⟩ := h
    exact ⟨a, rfl, q.mono p⟩
  | fn k g => exact F.cl.cloM p h
  | loc j => exact F.cl.locM p h
theorem ObR.there {w : World} {b : Addr} {ob : Ob} (h : ObR K w H b ob) : ∃ u, H b = some u ∧ Mut (some u) ∧ isTbl u = false := by
  cases ob with
  | lst ds => obtain ⟨vs, q, r⟩ := h; exact ⟨_, q, trivial, rfl⟩
  | dic kvs => rcases h with ⟨raw, q, r⟩ | ⟨raw, n, q, r⟩ <;> exact ⟨_, q, trivial, rfl⟩
/-- an owned slot's object -/
theorem Rel.obj (r : Rel K F S σ H) {i : Nat} {ob : Ob} (h : S[i]? = some (some (.own ob)) ∨ S[i]? = some (some (.pin ob))) :
    ∃ a, σ[i]? = some (some (.ref a)) ∧ ObR K F.w H a ob ∧ (F.H0 a = none ∨ a ∈ F.pins.map (·.2)) := by
  rcases h with h | h
  · obtain ⟨x, e, a, rfl, q, n⟩ := r.slot i _ h; exact ⟨a, e, q, .inl n⟩
  · obtain ⟨x, e, a, rfl, q, n⟩ := r.slot i _ h; exact ⟨a, e, q, .inr (List.mem_map.mpr ⟨_, n, rfl⟩)⟩
/-- an object is written (or new): the slots of S' stand as told -/
theorem Rel.put (r : Rel K F S σ H) (hm : Mut (H a) ∨ H a = none) (h0 : F.H0 a = none ∨ a ∈ F.pins.map (·.2)) (hh : ∀ p ∈ F.held, p.1 ≠ a) (hl : S'.length = S.length)
    (hs : ∀ j sv, S'[j]? = some (some sv) → (S[j]? = some (some sv) ∧ (Owned S j → σ[j]? ≠ some (some (.ref a)))) ∨ ∃ x, σ[j]? = some (some x) ∧ SvR K F j (upd H a o) x sv)
    (ho : ∀ j, Owned S' j → Owned S j) : Rel K F S' σ (upd H a o) := by
  have p : Pers H (upd H a o) := Pers.put hm
  have kp : ∀ b u, F.H0 b = some u → b ∉ F.pins.map (·.2) → isTbl u = false → upd H a o b = some u := fun b u e nb nt => by
    have na : b ≠ a := fun h => by
      subst h
      rcases h0 with h0 | h0
      · rw [e] at h0; cases h0
      · exact nb h0
    rw [upd_ne na]; exact r.keep b u e nb nt
  refine ⟨hl.trans r.len, fun j sv e => ?_, fun i j b ne hi hj => r.apart i j b ne (ho i hi) (ho j hj), kp, fun b u e => ?_, fun P hP => ?_, F.cl.selfM p r.self, fun p hp => ?_⟩
  · rcases hs j sv e with ⟨e1, q⟩ | q
    · obtain ⟨x, ex, v⟩ := r.slot j sv e1
      refine ⟨x, ex, ?_⟩
      cases sv with
      | d d => exact Pd.mono p v
      | own ob =>
        obtain ⟨b, rfl, w, z⟩ := v
        have nb : b ≠ a := fun h => q ⟨ob, .inl e1⟩ (h ▸ ex)
        exact ⟨b, rfl, w.later p (upd_ne nb), z⟩
      | pin ob =>
        obtain ⟨b, rfl, w, z⟩ := v
        have nb : b ≠ a := fun h => q ⟨ob, .inr e1⟩ (h ▸ ex)
        exact ⟨b, rfl, w.later p (upd_ne nb), z⟩
      | x e => exact SxR.later v p r.keep kp
    · exact q
  · by_cases hb : b = a
    · subst hb; exact ⟨o, upd_same⟩
    · rw [upd_ne hb]; exact r.there b u e
  · refine (r.tabs P hP).later p fun b ps e => ?_
    have na : b ≠ a := fun h => by
      subst h
      rcases hm with hm | hm
      · rw [e] at hm; exact hm
      · rw [e] at hm; cases hm
    rw [upd_ne na]; exact e
  · obtain ⟨⟨e, em⟩, n, q⟩ := r.held p hp
    exact ⟨⟨by rw [upd_ne (hh p hp)]; exact e, em⟩, n, fun i hi => q i (ho i hi)⟩
theorem Rel.none0 (r : Rel K F S σ H) (hn : H a = none) : F.H0 a = none := by
  cases e : F.H0 a with
  | none => rfl
  | some o => obtain ⟨u, q⟩ := r.there a o e; rw [hn] at q; cases q
theorem Rel.unslot (r : Rel K F S σ H) (hn : H a = none) {j : Nat} (hj : Owned S j) : σ[j]? ≠ some (some (.ref a)) := fun hx => by
  obtain ⟨ob, hj⟩ := hj
  obtain ⟨b, eb, q, _⟩ := r.obj hj
  rw [hx] at eb; cases eb
  obtain ⟨u, e, _⟩ := q.there
  rw [hn] at e; cases e
/-- a new object -/
theorem Rel.new (r : Rel K F S σ H) (hn : H a = none) : Rel K F S σ (upd H a o) :=
  r.put (.inr hn) (.inl (r.none0 hn)) (fun p hp e => by obtain ⟨⟨q, _⟩, _⟩ := r.held p hp; rw [e, hn] at q; cases q) rfl (fun j sv e => .inl ⟨e, fun hj => r.unslot hn hj⟩) fun j h => h
theorem Pers.new (hn : H a = none) : Pers H (upd H a o) := Pers.put (.inr hn)
/-- a slot is stored with data -/
theorem Rel.setD (r : Rel K F S σ H) {i : Nat} {x : V} {d : D} (v : Pd K H x d) : Rel K F (S.set i (some (.d d))) (σ.set i (some x)) H := by
  have e0 : ∀ j, j ≠ i → (S.set i (some (.d d)))[j]? = S[j]? := fun j h => List.getElem?_set_ne (Ne.symm h)
  have e1 : ∀ j, j ≠ i → (σ.set i (some x))[j]? = σ[j]? := fun j h => List.getElem?_set_ne (Ne.symm h)
  have own : ∀ j, Owned (S.set i (some (.d d))) j → j ≠ i ∧ Owned S j := fun j ⟨ob, h⟩ => by
    by_cases hj : j = i
    · subst hj
      by_cases hl : j < S.length
      · rw [List.getElem?_set_self hl] at h
        rcases h with h | h <;> cases h
      · have q : (S.set j (some (.d d)))[j]? = none := List.getElem?_eq_none (by rw [List.length_set]; omega)
        rw [q] at h
        rcases h with h | h <;> cases h
    · rw [e0 j hj] at h; exact ⟨hj, ob, h⟩
  refine ⟨by rw [List.length_set, List.length_set]; exact r.len, fun j sv e => ?_, fun j k a ne hj hk => ?_, r.keep, r.there, r.tabs, r.self, fun p hp => ⟨(r.held p hp).1, (r.held p hp).2.1, fun j hj => by
    obtain ⟨nj, oj⟩ := own j hj
    rw [e1 j nj]
    exact (r.held p hp).2.2 j oj⟩⟩
  · by_cases hj : j = i
    · subst hj
      have hl : j < S.length := by
        have := List.getElem?_eq_some_iff.mp e
        obtain ⟨h, _⟩ := this
        rw [List.length_set] at h; exact h
      rw [List.getElem?_set_self hl] at e
      cases e
      exact ⟨x, List.getElem?_set_self (by rw [← r.len]; exact hl), v⟩
    · rw [e0 j hj] at e
      rw [e1 j hj]
      exact r.slot j sv e
  · obtain ⟨nj, oj⟩ := own j hj
    obtain ⟨nk, ok⟩ := own k hk
    rw [e1 j nj, e1 k nk]
    exact r.apart j k a ne oj ok
/-- a slot takes an own object over -/
theorem Rel.setO (r : Rel K F S σ H) {i : Nat} {x : V} {ob : Ob} (v : VR K F S σ H x (.own ob)) : Rel K F (S.set i (some (.own ob))) (σ.set i (some x)) H := by
  obtain ⟨a, rfl, q, n, nu, nh⟩ := v
  have e0 : ∀ j, j ≠ i → (S.set i (some (.own ob)))[j]? = S[j]? := fun j h => List.getElem?_set_ne (Ne.symm h)
  have e1 : ∀ j, j ≠ i → (σ.set i (some (V.ref a)))[j]? = σ[j]? := fun j h => List.getElem?_set_ne (Ne.symm h)
  have own : ∀ j, j ≠ i → Owned (S.set i (some (.own ob))) j → Owned S j := fun j hj ⟨ob2, h⟩ => by
    rw [e0 j hj] at h; exact ⟨ob2, h⟩
  refine ⟨by rw [List.length_set, List.length_set]; exact r.len, fun j sv e => ?_, fun j k b ne hj hk => ?_, r.keep, r.there, r.tabs, r.self, fun p hp => ⟨(r.held p hp).1, (r.held p hp).2.1, fun j hj => by
    by_cases h1 : j = i
    · subst h1
      intro hx
      by_cases hl : j < σ.length
      · rw [List.getElem?_set_self hl] at hx
        cases hx
        exact nh p hp rfl
      · rw [List.getElem?_eq_none (by rw [List.length_set]; omega)] at hx
        cases hx
    · rw [e1 j h1]
      exact (r.held p hp).2.2 j (own j h1 hj)⟩⟩
  · by_cases hj : j = i
    · subst hj
      have hl : j < S.length := by
        obtain ⟨h, _⟩ := List.getElem?_eq_some_iff.mp e
        rw [List.length_set] at h; exact h
      rw [List.getElem?_set_self hl] at e
      cases e
      exact ⟨_, List.getElem?_set_self (by rw [← r.len]; exact hl), a, rfl, q, n⟩
    · rw [e0 j hj] at e
      rw [e1 j hj]
      exact r.slot j sv e
  · by_cases h1 : j = i
    · subst h1
      have nk : k ≠ j := Ne.symm ne
      rw [e1 k nk]
      intro hx
      by_cases hl : j < σ.length
      · rw [List.getElem?_set_self hl] at hx
        cases hx
        exact nu k (own k nk hk)
      · rw [List.getElem?_eq_none (by rw [List.length_set]; omega)] at hx
        cases hx
    · rw [e1 j h1]
      by_cases h2 : k = i
      · subst h2
        intro hx hy
        by_cases hl : k < σ.length
        · rw [List.getElem?_set_self hl] at hy
          cases hy
          exact nu j (own j h1 hj) hx
        · rw [List.getElem?_eq_none (by rw [List.length_set]; omega)] at hy
          cases hy
      · rw [e1 k h2]
        exact r.apart j k b ne (own j h1 hj) (own k h2 hk)
/-- a list's own slot, frozen -/
theorem Rel.freeze (r : Rel K F S σ H) {i : Nat} {ds : List D} (h : S[i]? = some (some (.own (.lst ds)))) {vs : List V} {od : Obj} (e : σ[i]? = some (some (.ref a))) (hH : H a = some (.lst vs)) (hv : PdAll K H vs ds) :
    Rel K F (S.set i (some (.d (.list ds)))) σ (upd H a (.frz od (.lst vs))) ∧ Pers H (upd H a (.frz od (.lst vs))) ∧ Pd K (upd H a (.frz od (.lst vs))) (.ref a) (.list ds) := by
  have hm : Mut (H a) := by rw [hH]; trivial
  have p : Pers H (upd H a (.frz od (.lst vs))) := Pers.put (.inl hm)
  have pd : Pd K (upd H a (.frz od (.lst vs))) (.ref a) (.list ds) := .lst (.inl ⟨od, upd_same⟩) (hv.mono p)
  have hl : i < S.length := (List.getElem?_eq_some_iff.mp h).1
  have n0 : F.H0 a = none := by
    obtain ⟨x, ex, b, e2, q, n⟩ := r.slot i _ h
    rw [e] at ex; cases ex; cases e2; exact n
  refine ⟨?_, p, pd⟩
  refine r.put (.inl hm) (.inl n0) (fun p hp e' => (r.held p hp).2.2 i ⟨_, .inl h⟩ (e' ▸ e)) (List.length_set ..) (fun j sv ej => ?_) fun j ⟨ob, hj⟩ => ?_
  · by_cases hj : j = i
    · subst hj
      rw [List.getElem?_set_self hl] at ej
      cases ej
      exact .inr ⟨_, e, pd⟩
    · rw [List.getElem?_set_ne (Ne.symm hj)] at ej
      exact .inl ⟨ej, fun oj => r.apart i j a (Ne.symm hj) ⟨_, .inl h⟩ oj e⟩
  · by_cases hj2 : j = i
    · subst hj2; exact ⟨_, .inl h⟩
    · rw [List.getElem?_set_ne (Ne.symm hj2)] at hj; exact ⟨ob, hj⟩
end

/-! ### names, constants -/
section
variable {X : Cx} {F : Fx} {e : Expr}
def fVar (i : Nat) : FS → Res D := fun S => match S[i]? with
  | some (some (.d d)) => .ok d S
  | some (some (.own (.lst ds))) => .ok (.list ds) (S.set i (some (.d (.list ds))))
  | _ => .bad
theorem e_var {i : Nat} (h : PE X e (tVar i)) : ED X F e (fVar i) := by
  refine ⟨fun pins s σ H Q I ⟨S, r, p⟩ => ?_⟩
  unfold fVar at p
  split at p
  · rename_i d hd
    obtain ⟨x, ex, v⟩ := r.slot i _ hd
    exact h.run pins s σ H Q I ⟨x, ex, p.ok r v⟩
  · rename_i ds hd
    obtain ⟨x, ex, a, rfl, ⟨vs, hH, hv⟩, n⟩ := r.slot i _ hd
    obtain ⟨od, I1⟩ := I.lock hH trivial
    obtain ⟨r1, p1, v1⟩ := r.freeze (od := od) hd ex hH hv
    exact h.run pins s σ _ Q I1 ⟨_, ex, p _ _ p1 r1 v1⟩
  · exact p.elim
/-- a look at a name, nothing frozen -/
def fPeek (i : Nat) : FS → Res D := fun S => match S[i]? with
  | some (some (.d d)) => .ok d S
  | some (some (.own (.lst ds))) => .ok (.list ds) S
  | some (some (.pin (.lst ds))) => .ok (.list ds) S
  | some (some (.x (.ro (.lst ds)))) => .ok (.list ds) S
  | _ => .bad
theorem e_peek {i : Nat} (h : PE X e (tVar i)) : EQ X F e (fPeek i) := by
  refine ⟨fun pins s σ H Q I ⟨S, r, p⟩ => ?_⟩
  unfold fPeek at p
  split at p
  · rename_i d hd
    obtain ⟨x, ex, v⟩ := r.slot i _ hd
    exact h.run pins s σ H Q I ⟨x, ex, p.ok r (Or.inl v)⟩
  · rename_i ds hd
    obtain ⟨x, ex, a, rfl, ⟨vs, hH, hv⟩, n⟩ := r.slot i _ hd
    exact h.run pins s σ H Q I ⟨_, ex, p.ok r (Or.inr ⟨a, vs, ds, rfl, rfl, .inl (.inl hH), hv⟩)⟩
  · rename_i ds hd
    obtain ⟨x, ex, a, rfl, ⟨vs, hH, hv⟩, n⟩ := r.slot i _ hd
    exact h.run pins s σ H Q I ⟨_, ex, p.ok r (Or.inr ⟨a, vs, ds, rfl, rfl, .inl (.inl hH), hv⟩)⟩
  · rename_i ds hd
    obtain ⟨x, ex, a, rfl, o, vs, hH, hv⟩ := r.slot i _ hd
    exact h.run pins s σ H Q I ⟨_, ex, p.ok r (Or.inr ⟨a, vs, ds, rfl, rfl, .inl (.inr ⟨o, hH⟩), hv⟩)⟩
  · exact p.elim
def fC {α : Type} (d : α) : FS → Res α := fun S => .ok d S
theorem e_int {i : Int} {j : Nat} {pos : Pos} : ED X F (.Constant (.int i) j pos) (fC (.int i)) := pe_int.via fun σ H Q ⟨S, r, p⟩ => p.ok r (.int i)
theorem e_bl {b : Bool} {j : Nat} {pos : Pos} : ED X F (.Constant (.bool b) j pos) (fC (.bool b)) := pe_bl.via fun σ H Q ⟨S, r, p⟩ => p.ok r (.bl b)
theorem e_non {j : Nat} {pos : Pos} : ED X F (.Constant .none j pos) (fC .none) := pe_non.via fun σ H Q ⟨S, r, p⟩ => p.ok r .non
theorem e_str {x : Str} {j : Nat} {pos : Pos} : ED X F (.Constant (.str x) j pos) (fC (.str x)) := pe_str.via fun σ H Q ⟨S, r, p⟩ => p.ok r (.str x)
/-- data as a value; data as data for the moment -/
def fV (f : FS → Res D) : FS → Res SV := bnd f fun d => fC (.d d)
theorem ED.v {f : FS → Res D} (h : ED X F e f) : EV X F e (fV f) := h.via fun σ H Q hw => hw.bind.imp fun x H1 ⟨d, S1, r, v, p, q⟩ => q.ok r v
theorem ED.q {f : FS → Res D} (h : ED X F e f) : EQ X F e f := h.via fun σ H Q ⟨S, r, p⟩ => ⟨S, r, by
  cases e : f S with
  | ok d S1 => rw [e] at p; exact fun x H1 q r1 v => p x H1 q r1 (Or.inl v)
  | exn e2 S1 => rw [e] at p; exact p
  | bad => rw [e] at p; exact p⟩
/-- a value as data: a new list is frozen -/
def fFrz (f : FS → Res SV) : FS → Res D := bnd f fun sv S => match sv with
  | .d d => .ok d S
  | .own (.lst ds) => .ok (.list ds) S
  | _ => .bad
theorem EV.frz {f : FS → Res SV} (h : EV X F e f) : ED X F e (fFrz f) := by
  refine ⟨fun pins s σ H Q I hw => ?_⟩
  refine thn (h.run pins s σ H _ I (rdG.bind hw)) fun u s1 ⟨x, H1, I1, rx, sv, S1, r, v, p, q⟩ => ?_
  cases sv with
  | d d => exact ⟨x, H1, I1, rx, q.ok r v⟩
  | own ob =>
    cases ob with
    | lst ds =>
      obtain ⟨a, rfl, ⟨vs, hH, hv⟩, n, nu, nh⟩ := v
      obtain ⟨od, I2⟩ := I1.lock hH trivial
      have hm : Mut (H1 a) := by rw [hH]; trivial
      have p2 : Pers H1 (upd H1 a (.frz od (.lst vs))) := Pers.put (.inl hm)
      have r2 : Rel X.K F S1 σ (upd H1 a (.frz od (.lst vs))) := r.put (.inl hm) (.inl n) nh rfl (fun j sv e => .inl ⟨e, nu j⟩) fun j h => h
      exact ⟨_, _, I2, rx, q _ _ p2 r2 (Pd.lst (.inl ⟨od, upd_same⟩) (hv.mono p2))⟩
    | dic kvs => exact q.elim
  | pin ob => exact q.elim
  | x e => exact q.elim
/-- .. for the moment: nothing is frozen -/
theorem EV.q {f : FS → Res SV} (h : EV X F e f) : EQ X F e (fFrz f) := h.via fun σ H Q hw => (rdG.bind hw).imp fun x H1 ⟨sv, S1, r, v, p, q⟩ => by
  cases sv with
  | d d => exact q.ok r (Or.inl v)
  | own ob =>
    cases ob with
    | lst ds => obtain ⟨a, rfl, ⟨vs, hH, hv⟩, n, nu, nh⟩ := v; exact q.ok r (Or.inr ⟨a, vs, ds, rfl, rfl, .inl (.inl hH), hv⟩)
    | dic kvs => exact q.elim
  | pin ob => exact q.elim
  | x e => exact q.elim
end
end Fz
end

section
set_option Elab.async false
set_option linter.all false
set_option maxRecDepth 100000
set_option maxHeartbeats 4000000
/-! F2: operators. -/
namespace Fz
open PySem PySem.Spec PyProof.Rows L2
section
variable {X : Cx} {F : Fx} {α : Type} {R : VRel α}
/-- an operation by data: what is asked of the two values -/
def rOp {α : Type} (K : Fg) (F : Fx) (R : VRel α) (g : D → D → FS → Res α) : R2 := fun x y H Q => ∃ S σ d e, Rel K F S σ H ∧ Qd K H x d ∧ Qd K H y e ∧ postG K F R (g d e S) σ H Q
abbrev OpF (X : Cx) (F : Fx) (R : VRel α) (f : Value → Value → Sem Value) (g : D → D → FS → Res α) : Prop := OpR X f (rOp X.K F R g)
/-- by cases of the data: each by a rule of its own -/
theorem opF_by {f : Value → Value → Sem Value} {g : D → D → FS → Res α}
    (h : ∀ S σ d e H, (∃ r : R2, OpR X f r ∧ ∀ x y Q, Rel X.K F S σ H → Qd X.K H x d → Qd X.K H y e → postG X.K F R (g d e S) σ H Q → r x y H Q) ∨ g d e S = .bad) : OpF X F R f g := by
  intro pins s σ0 H x y v u Q I rx ry ⟨S, σ, d, e, r, hx, hy, p⟩
  rcases h S σ d e H with ⟨r2, o, k⟩ | hb
  · exact o pins s σ0 H x y v u Q I rx ry (k x y Q r hx hy p)
  · rw [hb] at p; exact p.elim
/-- sums -/
def pAdd (d e : D) : FS → Res SV := fun S => match d, e with
  | .int i, .int j => .ok (.d (.int (i + j))) S
  | .str a, .str b => if a.length + b.length ≤ sizeLine then .ok (.d (.str (a ++ b))) S else .bad
  | .tuple xs, .tuple ys => if xs.length + ys.length ≤ sizeLine then .ok (.d (.tuple (xs ++ ys))) S else .bad
  | .list xs, .list ys => if xs.length + ys.length ≤ sizeLine then .ok (.own (.lst (xs ++ ys))) S else .bad
  | _, _ => .bad
def rCatQ (K : Fg) : R2 := fun x y H Q => ∃ l b xs zs, x = .ref l ∧ y = .ref b ∧ SqL K H l xs ∧ SqL K H b zs ∧ xs.length + zs.length ≤ sizeLine ∧ ∀ p, H p = none → Q (.ref p) (upd H p (.lst (xs ++ zs)))
theorem op_catQ : OpR X (binaryOp .Add) (rCatQ X.K) := by
  intro pins s σ H x y v u Q I rx ry h
  obtain ⟨l, b, xs, zs, rfl, rfl, hH, hB, hz, q⟩ := h
  cases rx
  cases ry
  obtain ⟨its, r, ⟨⟨c1, dd1, dt1, sl1⟩, n, e, k1, k2, k3⟩, _⟩ := I.list hH
  obtain ⟨its2, r2, ⟨⟨c2, dd2, dt2, sl2⟩, n2, e2, l1, l2, l3⟩, _⟩ := I.list hB
  simp only at k1 k2 k3 l1 l2 l3
  subst k1 k2 k3 l1 l2 l3
  have hz2 : its.length + its2.length ≤ sizeLine := by rw [← r.length, ← r2.length]; exact hz
  refine concat_meets ⟨_, e, rfl⟩ ⟨_, e2, rfl⟩ noFill_list_add seq_list_add PySem.F.slot_list_add PySem.F.entry_list_add (PySem.F.args_list_add_2 _ _)
    (list_addW l b its.toArray its2.toArray n n2 _ _ sl1 sl2 (by simpa using hz2)) ⟨e, e2, ?_⟩
  have ea : its.toArray ++ its2.toArray = (its ++ its2).toArray := by simp
  rw [ea]
  exact ⟨.ref _, _, I.lnew (t' := s.toks) (r.append r2) (by rw [List.length_append]; exact hz), rfl, q _ I.fresh⟩
/-- a new list is an own value -/
theorem newList {K : Fg} {S : FS} {σ : Sl} {H : Hp} {p : Addr} {vs : List V} {ds : List D} {Q : VK} (r : Rel K F S σ H) (hv : PdAll K H vs ds) (hp : H p = none) (q : postG K F VR (.ok (.own (.lst ds)) S) σ H Q) : Q (.ref p) (upd H p (.lst vs)) := by
  have p1 : Pers H (upd H p (.lst vs)) := Pers.new hp
  exact q _ _ p1 (r.new hp) ⟨p, rfl, ⟨vs, upd_same, hv.mono p1⟩, r.none0 hp, fun j hj => r.unslot hp hj, fun b hb e => by obtain ⟨⟨q, _⟩, _⟩ := r.held b hb; rw [e, hp] at q; cases q⟩
theorem newTup {K : Fg} {S : FS} {σ : Sl} {H : Hp} {p : Addr} {vs : List V} {ds : List D} (r : Rel K F S σ H) (hv : PdAll K H vs ds) (hp : H p = none) :
    Pers H (upd H p (.tup vs)) ∧ Rel K F S σ (upd H p (.tup vs)) ∧ Pd K (upd H p (.tup vs)) (.ref p) (.tuple ds) := by
  have p1 : Pers H (upd H p (.tup vs)) := Pers.new hp
  exact ⟨p1, r.new hp, .tup (.inl (.inl upd_same)) (hv.mono p1)⟩
theorem op_addF : OpF X F VR (binaryOp .Add) pAdd := opF_by fun S σ d e H => by
  cases d with
  | int i =>
    cases e with
    | int j => exact .inl ⟨_, op_add, fun x y Q r hx hy p => ⟨i, j, hx.int, hy.int, p.ok r (Pd.int _)⟩⟩
    | _ => exact .inr rfl
  | str a =>
    cases e with
    | str b =>
      by_cases hl : a.length + b.length ≤ sizeLine
      · refine .inl ⟨_, op_add_str, fun x y Q r hx hy p => ⟨a, b, hx.str, hy.str, hl, ?_⟩⟩
        simp only [pAdd, if_pos hl] at p
        exact p.ok r (Pd.str _)
      · exact .inr (if_neg hl)
    | _ => exact .inr rfl
  | tuple xs =>
    cases e with
    | tuple ys =>
      by_cases hl : xs.length + ys.length ≤ sizeLine
      · refine .inl ⟨_, op_catA, fun x y Q r hx hy p => ?_⟩
        simp only [pAdd, if_pos hl] at p
        obtain ⟨a, vs, rfl, h1, r1⟩ := hx.tuple
        obtain ⟨b, ws, rfl, h2, r2⟩ := hy.tuple
        refine ⟨a, b, vs, ws, rfl, rfl, h1, h2, by rw [r1.length, r2.length]; exact hl, fun e0 => ?_, fun _ e0 => ?_, fun _ _ q hq => ?_⟩
        · subst e0
          cases r1
          exact p.ok r (Pd.tup h2 r2)
        · subst e0
          cases r2
          rw [List.append_nil] at p
          exact p.ok r (Pd.tup h1 r1)
        · obtain ⟨p1, r3, v⟩ := newTup r (r1.append r2) hq
          exact p _ _ p1 r3 v
      · exact .inr (if_neg hl)
    | _ => exact .inr rfl
  | list xs =>
    cases e with
    | list ys =>
      by_cases hl : xs.length + ys.length ≤ sizeLine
      · refine .inl ⟨_, op_catQ, fun x y Q r hx hy p => ?_⟩
        simp only [pAdd, if_pos hl] at p
        obtain ⟨a, vs, rfl, h1, r1⟩ := hx.list
        obtain ⟨b, ws, rfl, h2, r2⟩ := hy.list
        exact ⟨a, b, vs, ws, rfl, rfl, h1, h2, by rw [r1.length, r2.length]; exact hl, fun q hq => newList r (r1.append r2) hq p⟩
      · exact .inr (if_neg hl)
    | _ => exact .inr rfl
  | none => exact .inr rfl
  | bool b => exact .inr rfl
  | dict k => exact .inr rfl
/-- ints alone -/
def pInt (g : Int → Int → Option Int) (d e : D) : FS → Res D := fun S => match d, e with
  | .int i, .int j => (match g i j with
    | some k => .ok (.int k) S
    | none => .bad)
  | _, _ => .bad
theorem op_intF {f : Value → Value → Sem Value} {C : Int → Int → Prop} [∀ i j, Decidable (C i j)] {g : Int → Int → Int} (h : OpR X f (rI C fun i j => .int (g i j))) : OpF X F PR f (pInt fun i j => if C i j then some (g i j) else none) := opF_by fun S σ d e H => by
  cases d with
  | int i =>
    cases e with
    | int j =>
      by_cases hc : C i j
      · refine .inl ⟨_, h, fun x y Q r hx hy p => ⟨i, j, hx.int, hy.int, hc, ?_⟩⟩
        simp only [pInt, if_pos hc] at p
        exact p.ok r (Pd.int _)
      · exact .inr (by simp only [pInt, if_neg hc])
    | _ => exact .inr rfl
  | _ => exact .inr rfl
noncomputable instance (i j : Int) : Decidable (CMulW i j) := Classical.propDecidable _
noncomputable instance (i j : Int) : Decidable (CDivW i j) := Classical.propDecidable _
noncomputable instance (i j : Int) : Decidable (CPow i j) := Classical.propDecidable _
abbrev pSub := pInt fun i j => some (i - j)
noncomputable abbrev pDiv := pInt fun i j => if CDivW i j then some (i / j) else none
abbrev pMod := pInt fun i j => if 0 < j then some (i % j) else none
noncomputable abbrev pPow := pInt fun i j => if CPow i j then some (i ^ j.toNat) else none
theorem op_int0 {f : Value → Value → Sem Value} {g : Int → Int → Int} (h : OpR X f (rI0 fun i j => .int (g i j))) : OpF X F PR f (pInt fun i j => some (g i j)) := opF_by fun S σ d e H => by
  cases d with
  | int i =>
    cases e with
    | int j => exact .inl ⟨_, h, fun x y Q r hx hy p => ⟨i, j, hx.int, hy.int, p.ok r (Pd.int _)⟩⟩
    | _ => exact .inr rfl
  | _ => exact .inr rfl
theorem op_subF : OpF X F PR (binaryOp .Sub) pSub := op_int0 op_sub
theorem op_divF : OpF X F PR (binaryOp .FloorDiv) pDiv := op_intF op_fdivW
theorem op_modF : OpF X F PR (binaryOp .Mod) pMod := op_intF op_mod
theorem op_powF : OpF X F PR (binaryOp .Pow) pPow := op_intF op_pow
/-- comparisons of ints -/
def pCmp (g : Int → Int → Bool) (d e : D) : FS → Res D := fun S => match d, e with
  | .int i, .int j => .ok (.bool (g i j)) S
  | _, _ => .bad
theorem op_cmpF {f : Value → Value → Sem Value} {g : Int → Int → Bool} (h : OpR X f (rI0 fun i j => .bl (g i j))) : OpF X F PR f (pCmp g) := opF_by fun S σ d e H => by
  cases d with
  | int i =>
    cases e with
    | int j => exact .inl ⟨_, h, fun x y Q r hx hy p => ⟨i, j, hx.int, hy.int, p.ok r (Pd.bl _)⟩⟩
    | _ => exact .inr rfl
  | _ => exact .inr rfl
abbrev pLt := pCmp fun i j => decide (i < j)
abbrev pLe := pCmp fun i j => decide (i ≤ j)
abbrev pGt := pCmp fun i j => decide (j < i)
abbrev pGe := pCmp fun i j => decide (j ≤ i)
theorem op_ltF : OpF X F PR (compareOp .Lt) pLt := op_cmpF op_lt
theorem op_leF : OpF X F PR (compareOp .LtE) pLe := op_cmpF op_le
theorem op_gtF : OpF X F PR (compareOp .Gt) pGt := op_cmpF op_gt
theorem op_geF : OpF X F PR (compareOp .GtE) pGe := op_cmpF op_ge
/-- == and != of data -/
def strs2 : D → D → Bool
  | .str _, .str _ => true
  | _, _ => false
/-- two texts, or data without dicts, of texts that can be written -/
def eqOk (d e : D) : Bool := strs2 d e || (SeqAt.shaped d && SeqAt.shaped e)
def pEq (d e : D) : FS → Res D := fun S => if eqOk d e = true then .ok (.bool (PyData.eqv d e)) S else .bad
def pNe (d e : D) : FS → Res D := fun S => if eqOk d e = true then .ok (.bool (!PyData.eqv d e)) S else .bad
theorem eqOk_cases {d e : D} (h : eqOk d e = true) : (∃ a b, d = .str a ∧ e = .str b) ∨ (SeqAt.shaped d = true ∧ SeqAt.shaped e = true) := by
  unfold eqOk at h
  rcases Bool.or_eq_true_iff.mp h with h | h
  · unfold strs2 at h
    split at h
    · exact .inl ⟨_, _, rfl, rfl⟩
    · cases h
  · exact .inr (Bool.and_eq_true_iff.mp h)
theorem op_eqF (hu : X.A.units + 64 < cLine) : OpF X F PR (compareOp .Eq) pEq := opF_by fun S σ d e H => by
  by_cases hc : eqOk d e = true
  · rcases eqOk_cases hc with ⟨a, b, rfl, rfl⟩ | hs
    · refine .inl ⟨_, op_eq, fun x y Q r hx hy p => ?_⟩
      rw [hx.str, hy.str]
      unfold pEq at p; rw [if_pos hc] at p
      refine ⟨rfl, ?_⟩
      rw [dec_str]
      have q := p.ok r (Pd.bl _)
      simpa only [PyData.eqv] using q
    · refine .inl ⟨_, op_eqD hu, fun x y Q r hx hy p => ⟨d, e, hx.dp, hy.dp, hs.1, hs.2, ?_⟩⟩
      unfold pEq at p; rw [if_pos hc] at p
      exact p.ok r (Pd.bl _)
  · exact .inr (by unfold pEq; rw [if_neg hc])
theorem op_neF (hu : X.A.units + 64 < cLine) : OpF X F PR (compareOp .NotEq) pNe := opF_by fun S σ d e H => by
  by_cases hc : eqOk d e = true
  · rcases eqOk_cases hc with ⟨a, b, rfl, rfl⟩ | hs
    · refine .inl ⟨_, op_ne, fun x y Q r hx hy p => ?_⟩
      rw [hx.str, hy.str]
      unfold pNe at p; rw [if_pos hc] at p
      refine ⟨rfl, ?_⟩
      rw [dec_str]
      have q := p.ok r (Pd.bl _)
      simpa only [PyData.eqv] using q
    · refine .inl ⟨_, op_neD hu, fun x y Q r hx hy p => ⟨d, e, hx.dp, hy.dp, hs.1, hs.2, ?_⟩⟩
      unfold pNe at p; rw [if_pos hc] at p
      exact p.ok r (Pd.bl _)
  · exact .inr (by unfold pNe; rw [if_neg hc])
def dNone : D → Bool
  | .none => true
  | _ => false
theorem Qd.isNone {K : Fg} {H : Hp} {x : V} {d : D} (h : Qd K H x d) : decide (x = .non) = dNone d := by
  rcases h with h | ⟨a, vs, ds, rfl, rfl, h, r⟩
  · cases h <;> rfl
  · rfl
end

/-! ### two operands -/
section
variable {X : Cx} {F : Fx} {α : Type} {R : VRel α} {a b : Expr} {pos : Pos} {fa fb : FS → Res D} {g : D → D → FS → Res α}
def fOp {α : Type} (g : D → D → FS → Res α) (fa fb : FS → Res D) : FS → Res α := bnd fa fun d => bnd fb fun e => g d e
/-- the left one is a name: it is looked at behind the right one -/
def fOpN {α : Type} (g : D → D → FS → Res α) (i : Nat) (fb : FS → Res D) : FS → Res α := bnd (fPeek i) fun _ => bnd fb fun e => bnd (fPeek i) fun d => g d e
theorem tOp_of {σ : Sl} {H : Hp} {Q : VK} (h : rdG X.K F R (fOp g fa fb) σ H Q) : tOp (rOp X.K F R g) (rdG X.K F PR fa) (rdG X.K F QR fb) σ H Q := by
  refine (rdG.bind h).imp fun x H1 ⟨d, S1, r1, v1, p1, q1⟩ => ?_
  refine (rdG.bind (k := fun e => g d e) (⟨S1, r1, q1⟩ : rdG X.K F R (bnd fb fun e => g d e) σ H1 Q)).imp fun y H2 ⟨e, S2, r2, v2, p2, q2⟩ => ?_
  exact ⟨S2, σ, d, e, r2, .inl (Pd.mono p2 v1), v2, q2⟩
theorem peek_val {K : Fg} {S : FS} {σ : Sl} {H : Hp} {i : Nat} {d : D} {S' : FS} (r : Rel K F S σ H) (h : fPeek i S = .ok d S') : S' = S ∧ ∃ x, σ[i]? = some (some x) ∧ Qd K H x d := by
  unfold fPeek at h
  split at h
  · rename_i d' hd
    cases h
    obtain ⟨x, ex, v⟩ := r.slot i _ hd
    exact ⟨rfl, x, ex, .inl v⟩
  · rename_i ds hd
    cases h
    obtain ⟨x, ex, a, rfl, ⟨vs, hH, hv⟩, n⟩ := r.slot i _ hd
    exact ⟨rfl, _, ex, .inr ⟨a, vs, ds, rfl, rfl, .inl (.inl hH), hv⟩⟩
  · rename_i ds hd
    cases h
    obtain ⟨x, ex, a, rfl, ⟨vs, hH, hv⟩, n⟩ := r.slot i _ hd
    exact ⟨rfl, _, ex, .inr ⟨a, vs, ds, rfl, rfl, .inl (.inl hH), hv⟩⟩
  · rename_i ds hd
    cases h
    obtain ⟨x, ex, a, rfl, o, vs, hH, hv⟩ := r.slot i _ hd
    exact ⟨rfl, _, ex, .inr ⟨a, vs, ds, rfl, rfl, .inl (.inr ⟨o, hH⟩), hv⟩⟩
  · cases h
theorem peek_ok {i : Nat} {S : FS} : (∃ d, fPeek i S = .ok d S) ∨ fPeek i S = .bad := by
  unfold fPeek
  split
  · exact .inl ⟨_, rfl⟩
  · exact .inl ⟨_, rfl⟩
  · exact .inl ⟨_, rfl⟩
  · exact .inl ⟨_, rfl⟩
  · exact .inr rfl
/-- behind the right operand: the name's value -/
theorem peek_in {K : Fg} {S : FS} {σ : Sl} {H : Hp} {i : Nat} {k : D → FS → Res α} {Q : VK} (r : Rel K F S σ H) (p : postG K F R (bnd (fPeek i) k S) σ H Q) : ∃ x d, σ[i]? = some (some x) ∧ Qd K H x d ∧ postG K F R (k d S) σ H Q := by
  unfold bnd at p
  rcases peek_ok (i := i) (S := S) with ⟨d, e⟩ | e
  · obtain ⟨_, x, ex, v⟩ := peek_val r e
    rw [e] at p
    exact ⟨x, d, ex, v, p⟩
  · rw [e] at p; exact p.elim
theorem tOpN_of {i : Nat} {σ : Sl} {H : Hp} {Q : VK} (h : rdG X.K F R (fOpN g i fb) σ H Q) : tOp (rOp X.K F R g) (tVar i) (rdG X.K F QR fb) σ H Q := by
  obtain ⟨S, r, p⟩ := h
  obtain ⟨x, d0, ex, _, p⟩ := peek_in (k := fun _ => bnd fb fun e => bnd (fPeek i) fun d => g d e) r p
  refine ⟨x, ex, (rdG.bind (k := fun e => bnd (fPeek i) fun d => g d e) (R' := R) ⟨S, r, p⟩).imp fun y H1 ⟨e, S1, r1, v1, p1, q1⟩ => ?_⟩
  obtain ⟨x', d, ex', vd, q2⟩ := peek_in r1 q1
  rw [ex] at ex'; cases ex'
  exact ⟨S1, σ, d, e, r1, vd, v1, q2⟩
theorem e_op {op : Operator} (ho : OpF X F R (binaryOp op) g) (ha : ED X F a fa) (hb : EQ X F b fb) : PE X (.BinOp a op b pos) (rdG X.K F R (fOp g fa fb)) := (pe_op ho ha hb).via fun _ _ _ h => tOp_of h
theorem e_opN {i : Nat} {op : Operator} (ho : OpF X F R (binaryOp op) g) (ha : PE X a (tVar i)) (hb : EQ X F b fb) : PE X (.BinOp a op b pos) (rdG X.K F R (fOpN g i fb)) := (pe_op ho ha hb).via fun _ _ _ h => tOpN_of h
theorem e_cmp {op : CmpOp} (ho : OpF X F R (compareOp op) g) (ha : ED X F a fa) (hb : EQ X F b fb) (hm : behindInMarks op b = false) : PE X (.Compare a [op] [b] pos) (rdG X.K F R (fOp g fa fb)) := (pe_cmpR ho ha hb hm).via fun _ _ _ h => tOp_of h
theorem e_cmpN {i : Nat} {op : CmpOp} (ho : OpF X F R (compareOp op) g) (ha : PE X a (tVar i)) (hb : EQ X F b fb) (hm : behindInMarks op b = false) : PE X (.Compare a [op] [b] pos) (rdG X.K F R (fOpN g i fb)) := (pe_cmpR ho ha hb hm).via fun _ _ _ h => tOpN_of h
/-- a bool's value as a test -/
def fT (f : FS → Res D) : FS → Res Bool := bnd f fun d S => match d with
  | .bool b => .ok b S
  | _ => .bad
theorem tTest_of {σ : Sl} {H : Hp} {Q : Bool → Hp → Prop} {f : FS → Res D} {t : TE} (h : rdT X.K F (fT f) σ H Q) (ht : ∀ Q, rdG X.K F PR f σ H Q → t σ H Q) : tTest t σ H Q := by
  refine ht _ ((rdG.bindT h).imp fun x H1 ⟨d, S1, r, v, p, q⟩ => ?_)
  cases d with
  | bool b => cases v; exact ⟨b, rfl, q.ok r⟩
  | _ => exact q.elim
theorem t_cmp {op : CmpOp} {g : D → D → FS → Res D} (ho : OpF X F PR (compareOp op) g) (ha : ED X F a fa) (hb : EQ X F b fb) (hm : behindInMarks op b = false) : ET X F (.Compare a [op] [b] pos) (fT (fOp g fa fb)) :=
  (pt_cmpR ho ha hb hm).via fun _ _ _ h => tTest_of h fun _ h => tOp_of h
theorem t_cmpN {i : Nat} {op : CmpOp} {g : D → D → FS → Res D} (ho : OpF X F PR (compareOp op) g) (ha : PE X a (tVar i)) (hb : EQ X F b fb) (hm : behindInMarks op b = false) : ET X F (.Compare a [op] [b] pos) (fT (fOpN g i fb)) :=
  (pt_cmpR ho ha hb hm).via fun _ _ _ h => tTest_of h fun _ h => tOpN_of h
def fOrT (f g : FS → Res Bool) : FS → Res Bool := bnd f fun b => if b = true then fC true else g
def fNotT (f : FS → Res Bool) : FS → Res Bool := bnd f fun b => fC (!b)
abbrev EW (X : Cx) (F : Fx) (e : Expr) (f : FS → Res Bool) : Prop := PW X e (rdT X.K F f)
theorem _root_.L2.PW.via {X : Cx} {e : Expr} {t t' : TT} (h : PW X e t) (hw : ∀ σ H Q, t' σ H Q → t σ H Q) : PW X e t' := ⟨fun wh pins s σ H Q I q => h.run wh pins s σ H Q I (hw σ H Q q)⟩
variable {f f2 : FS → Res Bool} {rest : List Expr}
theorem w_or1 (ha : ET X F a f) : EW X F (.BoolOp .Or [a] pos) f := pw_or1 ha
theorem w_or (ha : ET X F a f) (hb : EW X F (.BoolOp .Or (b :: rest) pos) f2) : EW X F (.BoolOp .Or (a :: b :: rest) pos) (fOrT f f2) :=
  (pw_or ha hb).via fun σ H Q h => (rdT.bindT h).imp fun c H1 ⟨S1, r, p, q⟩ => by
    cases c with
    | true => exact q.ok r
    | false => exact ⟨S1, r, q⟩
theorem t_not (ha : ET X F a f) : ET X F (.UnaryOp .Not a pos) (fNotT f) :=
  (pt_not ha).via fun σ H Q h => (rdT.bindT h).imp fun c H1 ⟨S1, r, p, q⟩ => q.ok r
/-- a value's truth -/
def dTru : D → Option Bool
  | .none => some false
  | .bool b => some b
  | .int i => some (i != 0)
  | .str x => if x.length ≤ sizeLine then some (x.length != 0) else none
  | .tuple ds => some (!ds.isEmpty)
  | .list ds => some (!ds.isEmpty)
  | .dict _ => none
def fTru (f : FS → Res D) : FS → Res Bool := bnd f fun d S => match dTru d with
  | some b => .ok b S
  | none => .bad
theorem PdAll.isEmpty {K : Fg} {H : Hp} {xs : List V} {ds : List D} (h : PdAll K H xs ds) : xs.isEmpty = ds.isEmpty := by cases h <;> rfl
theorem Qd.tru {K : Fg} {H : Hp} {x : V} {d : D} {b : Bool} (h : Qd K H x d) (e : dTru d = some b) : TruV K x H b := by
  cases d with
  | none => cases h.non; cases e; rfl
  | bool k => cases h.bl; cases e; rfl
  | int k => cases h.int; cases e; rfl
  | str k =>
    cases h.str
    by_cases hk : k.length ≤ sizeLine
    · simp only [dTru, if_pos hk] at e; cases e; exact ⟨hk, by rw [Bool.eq_iff_iff]; simp⟩
    · simp only [dTru, if_neg hk] at e; cases e
  | tuple ds =>
    obtain ⟨a, vs, rfl, h1, r1⟩ := h.tuple
    cases e
    exact .inr (.inl ⟨vs, h1, by rw [r1.isEmpty]⟩)
  | list ds =>
    obtain ⟨a, vs, rfl, h1, r1⟩ := h.list
    cases e
    exact .inl ⟨vs, h1, by rw [r1.isEmpty]⟩
  | dict _ => cases e
theorem t_tru {e : Expr} {f : FS → Res D} (h : EQ X F e f) (he : ∀ whole, isTrue e X.env whole = (do let v ← whole; standAt e.pos; holding [v] (truthy v)) := by intro _; rfl) : ET X F e (fTru f) :=
  (pt_truth h he).via fun σ H Q h => (rdG.bindT h).imp fun x H1 ⟨d, S1, r, v, p, q⟩ => by
    cases e : dTru d with
    | none => rw [e] at q; exact q.elim
    | some b => rw [e] at q; exact ⟨b, Qd.tru v e, q.ok r⟩
/-- and, or of bools as values -/
def fAndV (f g : FS → Res D) : FS → Res D := bnd f fun d => match d with
  | .bool true => g
  | .bool false => fC (.bool false)
  | _ => fun _ => .bad
theorem v_one {op : BoolOp} {f : FS → Res D} (h : ED X F a f) : ED X F (.BoolOp op [a] pos) f := pe_one h
theorem v_and (ha : ED X F a fa) (hb : ED X F (.BoolOp .And (b :: rest) pos) fb) : ED X F (.BoolOp .And (a :: b :: rest) pos) (fAndV fa fb) :=
  (pe_and ha hb).via fun σ H Q h => (rdG.bind h).imp fun x H1 ⟨d, S1, r, v, p, q⟩ => by
    cases d with
    | bool k =>
      cases v
      refine ⟨k, rfl, ?_⟩
      cases k with
      | true => exact ⟨S1, r, q⟩
      | false => exact q.ok r (Pd.bl _)
    | _ => exact q.elim
def fNotV (f : FS → Res D) : FS → Res D := bnd (fTru f) fun b => fC (.bool (!b))
theorem v_not (ha : EQ X F a fa) : ED X F (.UnaryOp .Not a pos) (fNotV fa) :=
  (pe_notT ha).via fun σ H Q ⟨S, r, p⟩ => by
    unfold fNotV fTru at p
    have p' : rdG X.K F PR (bnd fa fun d => bnd (fun S => match dTru d with | some b => Res.ok b S | none => Res.bad) fun b => fC (.bool (!b))) σ H Q := ⟨S, r, by
      unfold bnd at p ⊢
      cases e : fa S with
      | ok d S1 => rw [e] at p; exact p
      | exn e2 S1 => rw [e] at p; exact p
      | bad => rw [e] at p; exact p⟩
    refine (rdG.bind p').imp fun x H1 ⟨d, S1, r, v, p, q⟩ => ?_
    unfold bnd at q
    cases e : dTru d with
    | none => rw [e] at q; exact q.elim
    | some b => rw [e] at q; exact ⟨b, Qd.tru v e, q.ok r (Pd.bl _)⟩
/-- a if t else b -/
def fIte {α : Type} (t : FS → Res Bool) (f g : FS → Res α) : FS → Res α := bnd t fun b => if b = true then f else g
theorem e_ite {c : Expr} {t : FS → Res Bool} {f1 f3 : FS → Res α} (hc : ET X F c t) (ha : PE X a (rdG X.K F R f1)) (hb : PE X b (rdG X.K F R f3)) : PE X (.IfExp c a b pos) (rdG X.K F R (fIte t f1 f3)) :=
  (pe_ifExp hc ha hb).via fun σ H Q h => (rdT.bind h).imp fun c H1 ⟨S1, r, p, q⟩ => by
    cases c with
    | true => exact ⟨S1, r, q⟩
    | false => exact ⟨S1, r, q⟩
/-- -a -/
def pNeg (d : D) : FS → Res D := fun S => match d with
  | .int i => .ok (.int (-i)) S
  | _ => .bad
theorem e_neg (ha : ED X F a fa) : ED X F (.UnaryOp .USub a pos) (bnd fa pNeg) :=
  (pe_un un_neg ha).via fun σ H Q h => (rdG.bind h).imp fun x H1 ⟨d, S1, r, v, p, q⟩ => by
    cases d with
    | int i => cases v; exact ⟨i, rfl, q.ok r (Pd.int _)⟩
    | _ => exact q.elim
end
end Fz
end

section
set_option Elab.async false
set_option linter.all false
set_option maxRecDepth 100000
set_option maxHeartbeats 4000000
/-! F3: argument lists, displays, subscripts, slices, calls of built-ins. -/
namespace Fz
open PySem PySem.Spec PyProof.Rows L2
/-! ### argument lists -/
inductive QAll (K : Fg) (H : Hp) : List V → List D → Prop
  | nil : QAll K H [] []
  | cons {x : V} {d : D} {xs : List V} {ds : List D} (h : Qd K H x d) (r : QAll K H xs ds) : QAll K H (x :: xs) (d :: ds)
def AR (K : Fg) (_ : Fx) (_ : FS) (_ : Sl) (H : Hp) (xs : List V) (ds : List D) : Prop := PdAll K H xs ds
def AQ (K : Fg) (_ : Fx) (_ : FS) (_ : Sl) (H : Hp) (xs : List V) (ds : List D) : Prop := QAll K H xs ds
abbrev EA (X : Cx) (F : Fx) (es : List Expr) (f : FS → Res (List D)) : Prop := PA X es (rdG X.K F AR f)
abbrev EAQ (X : Cx) (F : Fx) (es : List Expr) (f : FS → Res (List D)) : Prop := PA X es (rdG X.K F AQ f)
theorem _root_.L2.PA.via {X : Cx} {e : List Expr} {t t' : TA} (h : PA X e t) (hw : ∀ σ H Q, t' σ H Q → t σ H Q) : PA X e t' := ⟨fun p pins s σ H Q I q => h.run p pins s σ H Q I (hw σ H Q q)⟩
def fCons (f : FS → Res D) (g : FS → Res (List D)) : FS → Res (List D) := bnd f fun d => bnd g fun ds => fC (d :: ds)
section
variable {X : Cx} {F : Fx} {e : Expr} {es : List Expr} {f : FS → Res D} {g : FS → Res (List D)} {pos : Pos} {α : Type} {R : VRel α}
theorem a_nil : EA X F [] (fC []) := pa_nil.via fun _ _ _ ⟨_, r, p⟩ => p.ok r .nil
theorem a_cons (ha : ED X F e f) (hr : EA X F es g) (hs : starEach (e :: es) X.env = (false, eval e X.env) :: starEach es X.env := by rfl) : EA X F (e :: es) (fCons f g) :=
  (pa_cons ha hr hs).via fun σ H Q h => (rdG.bind h).imp fun x H1 ⟨d, S1, r1, v1, p1, q1⟩ =>
    (rdG.bind (k := fun ds => fC (d :: ds)) (R' := AR) ⟨S1, r1, q1⟩).imp fun xs H2 ⟨ds, S2, r2, v2, p2, q2⟩ => q2.ok r2 (.cons (Pd.mono p2 v1) v2)
/-- the last argument may be looked at -/
theorem a_last (ha : EQ X F e f) (hs : starEach [e] X.env = (false, eval e X.env) :: starEach [] X.env := by rfl) : EAQ X F [e] (fCons f (fC [])) :=
  (pa_cons ha pa_nil hs).via fun σ H Q h => (rdG.bind h).imp fun x H1 ⟨d, S1, r1, v1, p1, q1⟩ => q1.ok r1 (.cons v1 .nil)
theorem a_consQ (ha : ED X F e f) (hr : EAQ X F es g) (hs : starEach (e :: es) X.env = (false, eval e X.env) :: starEach es X.env := by rfl) : EAQ X F (e :: es) (fCons f g) :=
  (pa_cons ha hr hs).via fun σ H Q h => (rdG.bind h).imp fun x H1 ⟨d, S1, r1, v1, p1, q1⟩ =>
    (rdG.bind (k := fun ds => fC (d :: ds)) (R' := AQ) ⟨S1, r1, q1⟩).imp fun xs H2 ⟨ds, S2, r2, v2, p2, q2⟩ => q2.ok r2 (.cons (.inl (Pd.mono p2 v1)) v2)
/-! ### displays -/
def fTup (g : FS → Res (List D)) : FS → Res D := bnd g fun ds S => if ds.length ≤ sizeLine then .ok (.tuple ds) S else .bad
def fLst (g : FS → Res (List D)) : FS → Res SV := bnd g fun ds S => if ds.length ≤ sizeLine then .ok (.own (.lst ds)) S else .bad
theorem e_tup {k : Nat} (h : EA X F es g) : ED X F (.Tuple es k pos) (fTup g) := (pe_tup h).via fun σ H Q h => (rdG.bind h).imp fun xs H1 ⟨ds, S1, r, v, p, q⟩ => by
  split at q
  · rename_i hl
    refine ⟨by rw [PdAll.length v]; exact hl, fun a ha => ?_⟩
    obtain ⟨p1, r3, v3⟩ := newTup r v ha
    exact q _ _ p1 r3 v3
  · exact q.elim
theorem e_lst (h : EA X F es g) : EV X F (.List es pos) (fLst g) := (pe_lst h).via fun σ H Q h => (rdG.bind h).imp fun xs H1 ⟨ds, S1, r, v, p, q⟩ => by
  split at q
  · rename_i hl
    exact ⟨by rw [PdAll.length v]; exact hl, fun a ha => newList r v ha q⟩
  · exact q.elim
end
/-! ### subscripts -/
section
variable {X : Cx} {F : Fx} {α : Type} {R : VRel α} {a b : Expr} {pos : Pos} {fa fb : FS → Res D} {g : D → D → FS → Res α}
def pIx (d e : D) : FS → Res D := fun S => match d, e with
  | .tuple ds, .int i => (match atI ds i with
    | some d => .ok d S
    | none => .bad)
  | .list ds, .int i => (match atI ds i with
    | some d => .ok d S
    | none => .bad)
  | .str z, .int i => if z.length ≤ sizeLine then (match atI z.cps.toList i with
    | some c => .ok (.str ⟨#[c]⟩) S
    | none => .bad) else .bad
  | _, _ => .bad
theorem PdAll.atI {K : Fg} {H : Hp} {xs : List V} {ds : List D} {i : Int} {d : D} (h : PdAll K H xs ds) (e : atI ds i = some d) : ∃ x, L2.atI xs i = some x ∧ Pd K H x d := by
  unfold L2.atI at e ⊢
  rw [h.length]
  cases q : ixN ds.length i with
  | none => rw [q] at e; cases e
  | some j =>
    rw [q] at e
    obtain ⟨x, h1, h2⟩ := h.get (show ds[j]? = some d from e)
    exact ⟨x, h1, h2⟩
theorem ix_F : IxR X (rOp X.K F PR pIx) := by
  intro value slice pins s σ0 H x y v u Q I rx ry ⟨S, σ, d, e, r, hx, hy, p⟩ hs
  cases d with
  | tuple ds =>
    cases e with
    | int i =>
      cases q : atI ds i with
      | none => simp only [pIx, q] at p; exact p.elim
      | some d =>
        simp only [pIx, q] at p
        obtain ⟨a, vs, rfl, h1, r1⟩ := hx.tuple
        obtain ⟨z, h2, h3⟩ := r1.atI q
        exact ix_tup value slice pins s σ0 H _ y v u Q I rx ry ⟨a, vs, i, z, rfl, hy.int, h1, h2, p.ok r h3⟩ hs
    | _ => exact p.elim
  | list ds =>
    cases e with
    | int i =>
      cases q : atI ds i with
      | none => simp only [pIx, q] at p; exact p.elim
      | some d =>
        simp only [pIx, q] at p
        obtain ⟨a, vs, rfl, h1, r1⟩ := hx.list
        obtain ⟨z, h2, h3⟩ := r1.atI q
        exact ix_list value slice pins s σ0 H _ y v u Q I rx ry ⟨a, vs, i, z, rfl, hy.int, h1, h2, p.ok r h3⟩ hs
    | _ => exact p.elim
  | str z =>
    cases e with
    | int i =>
      by_cases hl : z.length ≤ sizeLine
      · cases q : atI z.cps.toList i with
        | none => simp only [pIx, q, if_pos hl] at p; exact p.elim
        | some c =>
          simp only [pIx, q, if_pos hl] at p
          exact ix_str value slice pins s σ0 H _ y v u Q I rx ry ⟨z, i, c, hx.str, hy.int, hl, q, p.ok r (Pd.str _)⟩ hs
      · simp only [pIx, if_neg hl] at p; exact p.elim
    | _ => exact p.elim
  | _ => exact p.elim
theorem e_ixN {i : Nat} (ha : PE X a (tVar i)) (hb : ED X F b fb) (hs : PlainIx b := by exact fun _ _ => rfl) : ED X F (.Subscript a b pos) (fOpN pIx i fb) := (pe_ix ix_F ha hb.q hs).via fun _ _ _ h => tOpN_of h
/-! ### slices -/
def OR (_ : Fg) (_ : Fx) (_ : FS) (_ : Sl) (_ : Hp) (o o' : Option Int) : Prop := o = o'
abbrev EO (X : Cx) (F : Fx) (e : Option Expr) (f : FS → Res (Option Int)) : Prop := PO X e (rdG X.K F OR f)
theorem _root_.L2.PO.via {X : Cx} {e : Option Expr} {t t' : TO} (h : PO X e t) (hw : ∀ σ H Q, t' σ H Q → t σ H Q) : PO X e t' := ⟨fun pins s σ H Q I q => h.run pins s σ H Q I (hw σ H Q q)⟩
def fPart (f : FS → Res D) : FS → Res (Option Int) := bnd f fun d S => match d with
  | .int i => .ok (some i) S
  | _ => .bad
theorem o_none : EO X F none (fC none) := po_none.via fun _ _ _ ⟨_, r, p⟩ => p.ok r rfl
theorem o_some (h : ED X F a fa) : EO X F (some a) (fPart fa) := (po_some h).via fun σ H Q h => (rdG.bind h).imp fun x H1 ⟨d, S1, r, v, p, q⟩ => by
  cases d with
  | int i => cases v; exact ⟨i, rfl, q.ok r rfl⟩
  | _ => exact q.elim
def cutL {β : Type} (xs : List β) (lo hi : Option Int) : List β := (xs.drop (HT.sIx xs.length 0 lo)).take (HT.sIx xs.length xs.length hi - HT.sIx xs.length 0 lo)
def pSl (d : D) (lo hi : Option Int) : FS → Res SV := fun S => match d with
  | .tuple ds => .ok (.d (.tuple (cutL ds lo hi))) S
  | .list ds => .ok (.own (.lst (cutL ds lo hi))) S
  | .str z => if z.length ≤ sizeLine then .ok (.d (.str (cutS z lo hi))) S else .bad
  | _ => .bad
def rSlF (K : Fg) (F : Fx) : V → Option Int → Option Int → Hp → VK → Prop := fun x lo hi H Q => ∃ S σ d, Rel K F S σ H ∧ Qd K H x d ∧ postG K F VR (pSl d lo hi S) σ H Q
theorem PdAll.cut {K : Fg} {H : Hp} {xs : List V} {ds : List D} (h : PdAll K H xs ds) (lo hi : Option Int) : PdAll K H (cutV xs lo hi) (cutL ds lo hi) := by
  unfold cutV cutL
  rw [h.length]
  exact (h.drop _).take _
theorem sl_F : SlR X (rSlF X.K F) := by
  intro pins s σ0 H x v vl vu lo hi sl Q I rx hs pl pu ⟨S, σ, d, r, hx, p⟩
  cases d with
  | tuple ds =>
    obtain ⟨a, vs, rfl, h1, r1⟩ := hx.tuple
    refine sl_tupA pins s σ0 H _ v vl vu lo hi sl Q I rx hs pl pu ⟨a, vs, rfl, h1, fun hw => ?_, fun hw q hq => ?_⟩
    · have e : cutL ds lo hi = ds := by
        unfold cutL
        rw [← r1.length, hw.1, hw.2, List.drop_zero, Nat.sub_zero, r1.length]
        exact List.take_length
      have p' : postG X.K F VR (.ok (.d (.tuple (cutL ds lo hi))) S) σ H Q := p
      rw [e] at p'
      exact p'.ok r (Pd.tup h1 r1)
    · obtain ⟨p1, r3, v3⟩ := newTup r (r1.cut lo hi) hq
      exact p _ _ p1 r3 v3
  | list ds =>
    obtain ⟨a, vs, rfl, h1, r1⟩ := hx.list
    exact sl_list pins s σ0 H _ v vl vu lo hi sl Q I rx hs pl pu ⟨a, vs, rfl, h1, fun q hq => newList r (r1.cut lo hi) hq p⟩
  | str z =>
    by_cases hl : z.length ≤ sizeLine
    · simp only [pSl, if_pos hl] at p
      exact sl_str pins s σ0 H _ v vl vu lo hi sl Q I rx hs pl pu ⟨z, hx.str, hl, p.ok r (Pd.str _)⟩
    · simp only [pSl, if_neg hl] at p; exact p.elim
  | _ => exact p.elim
def fSlN (i : Nat) (fl fh : FS → Res (Option Int)) : FS → Res SV := bnd (fPeek i) fun _ => bnd fl fun lo => bnd fh fun hi => bnd (fPeek i) fun d => pSl d lo hi
theorem e_slN {i : Nat} {lo hi : Option Expr} {p2 : Pos} {fl fh : FS → Res (Option Int)} (ha : PE X a (tVar i)) (hl : EO X F lo fl) (hh : EO X F hi fh) : EV X F (.Subscript a (.Slice lo hi none p2) pos) (fSlN i fl fh) :=
  (pe_slice sl_F ha hl hh).via fun σ H Q ⟨S, r, p⟩ => by
    obtain ⟨x, d0, ex, _, p⟩ := peek_in (k := fun _ => bnd fl fun lo => bnd fh fun hi => bnd (fPeek i) fun d => pSl d lo hi) r p
    refine ⟨x, ex, (rdG.bind (k := fun lo => bnd fh fun hi => bnd (fPeek i) fun d => pSl d lo hi) (R' := VR) ⟨S, r, p⟩).imp fun l H2 ⟨lo, S2, r2, e2, p2, q2⟩ => ?_⟩
    cases e2
    refine (rdG.bind (k := fun hi => bnd (fPeek i) fun d => pSl d l hi) (R' := VR) ⟨S2, r2, q2⟩).imp fun u H3 ⟨hi, S3, r3, e3, p3, q3⟩ => ?_
    cases e3
    obtain ⟨x', d, ex', vd, q4⟩ := peek_in r3 q3
    rw [ex] at ex'; cases ex'
    exact ⟨S3, σ, d, r3, vd, q4⟩
end
/-! ### built-ins by name -/
section
variable {X : Cx} {F : Fx} {α : Type} {R : VRel α} {g : List D → FS → Res α} {pos p : Pos}
def rCallF {α : Type} (K : Fg) (F : Fx) (R : VRel α) (g : List D → FS → Res α) : List V → Hp → VK → Prop := fun xs H Q => ∃ S σ ds, Rel K F S σ H ∧ QAll K H xs ds ∧ postG K F R (g ds S) σ H Q
abbrev CallF (X : Cx) (F : Fx) (R : VRel α) (f : Value) (g : List D → FS → Res α) : Prop := CallR X f (rCallF X.K F R g)
def fCall {α : Type} (g : List D → FS → Res α) (fs : FS → Res (List D)) : FS → Res α := bnd fs g
theorem tCB_of {fs : FS → Res (List D)} {σ : Sl} {H : Hp} {Q : VK} (h : rdG X.K F R (fCall g fs) σ H Q) : tCB (rCallF X.K F R g) (rdG X.K F AQ fs) σ H Q :=
  (rdG.bind h).imp fun xs H1 ⟨ds, S1, r1, v1, p1, q1⟩ => ⟨S1, σ, ds, r1, v1, q1⟩
theorem e_callB {id : String} {x : Str} {e : Expr} {es : List Expr} {fs : FS → Res (List D)} (hc : CallF X F R (.builtin id) g) (hg : Gl X x) (hm : X.mg x = none) (hv : bootBuiltins x = some (.builtin id)) (ha : EAQ X F (e :: es) fs)
    (hn : x ≠ "__name__" := by decide) (hdb : (x == ("__debug__" : Str)) = false := by decide) (he : starEach (e :: es) X.env = (false, eval e X.env) :: starEach es X.env := by rfl) (hpl : (backTo pos (starEach es X.env)).any (·.1) = false := by rfl) :
    PE X (.Call (.Name x p) (e :: es) [] pos) (rdG X.K F R (fCall g fs)) := (pe_callB hc hg hm hv ha hn hdb he hpl).via fun _ _ _ h => tCB_of h
theorem e_callTy {T : String} {x : Str} {e : Expr} {es : List Expr} {fs : FS → Res (List D)} (hc : CallF X F R (.type T) g) (hg : Gl X x) (hm : X.mg x = none) (hv : bootBuiltins x = some (.type T)) (ha : EAQ X F (e :: es) fs)
    (hn : x ≠ "__name__" := by decide) (hdb : (x == ("__debug__" : Str)) = false := by decide) (he : starEach (e :: es) X.env = (false, eval e X.env) :: starEach es X.env := by rfl) (hpl : (backTo pos (starEach es X.env)).any (·.1) = false := by rfl) :
    PE X (.Call (.Name x p) (e :: es) [] pos) (rdG X.K F R (fCall g fs)) := (pe_callTy hc hg hm hv ha hn hdb he hpl).via fun _ _ _ h => tCB_of h
/-- one argument -/
def one {α : Type} (g : D → FS → Res α) : List D → FS → Res α
  | [d], S => g d S
  | _, _ => .bad
def two {α : Type} (g : D → D → FS → Res α) : List D → FS → Res α
  | [d, e], S => g d e S
  | _, _ => .bad
theorem callF_one {f : Value} {g : D → FS → Res α} (h : ∀ d, (∃ r : List V → Hp → VK → Prop, CallR X f r ∧ ∀ S σ H x Q, Rel X.K F S σ H → Qd X.K H x d → postG X.K F R (g d S) σ H Q → r [x] H Q) ∨ ∀ S, g d S = .bad) : CallF X F R f (one g) := by
  intro pins s σ0 H xs us Q I rx ⟨S, σ, ds, r, ha, p⟩
  cases ha with
  | nil => exact p.elim
  | cons h1 hr =>
    cases hr with
    | nil =>
      rcases h _ with ⟨r2, o, k⟩ | hb
      · exact o pins s σ0 H _ us Q I rx (k S σ H _ Q r h1 p)
      · simp only [one] at p; rw [hb] at p; exact p.elim
    | cons _ _ => exact p.elim
theorem callF_two {f : Value} {g : D → D → FS → Res α} (h : ∀ d e, (∃ r : List V → Hp → VK → Prop, CallR X f r ∧ ∀ S σ H x y Q, Rel X.K F S σ H → Qd X.K H x d → Qd X.K H y e → postG X.K F R (g d e S) σ H Q → r [x, y] H Q) ∨ ∀ S, g d e S = .bad) : CallF X F R f (two g) := by
  intro pins s σ0 H xs us Q I rx ⟨S, σ, ds, r, ha, p⟩
  cases ha with
  | nil => exact p.elim
  | cons h1 hr =>
    cases hr with
    | nil => exact p.elim
    | cons h2 hr =>
      cases hr with
      | nil =>
        rcases h _ _ with ⟨r2, o, k⟩ | hb
        · exact o pins s σ0 H _ us Q I rx (k S σ H _ _ Q r h1 h2 p)
        · simp only [two] at p; rw [hb] at p; exact p.elim
      | cons _ _ => exact p.elim
def pLen (d : D) : FS → Res D := fun S => match d with
  | .tuple ds => .ok (.int ds.length) S
  | .list ds => .ok (.int ds.length) S
  | .str z => if z.length ≤ sizeLine then .ok (.int z.length) S else .bad
  | _ => .bad
theorem c_len : CallF X F PR (.builtin "len") (one pLen) := callF_one fun d => by
  cases d with
  | tuple ds => exact .inl ⟨_, call_len, fun S σ H x Q r hx p => by
      obtain ⟨a, vs, rfl, h1, r1⟩ := hx.tuple
      exact ⟨_, _, rfl, .inr ⟨vs, h1, rfl⟩, p.ok r (by rw [r1.length]; exact Pd.int _)⟩⟩
  | list ds => exact .inl ⟨_, call_len, fun S σ H x Q r hx p => by
      obtain ⟨a, vs, rfl, h1, r1⟩ := hx.list
      exact ⟨_, _, rfl, .inl ⟨vs, h1, rfl⟩, p.ok r (by rw [r1.length]; exact Pd.int _)⟩⟩
  | str z =>
    by_cases hl : z.length ≤ sizeLine
    · exact .inl ⟨_, call_len, fun S σ H x Q r hx p => by
        simp only [pLen, if_pos hl] at p
        cases hx.str
        exact ⟨_, _, rfl, ⟨hl, rfl⟩, p.ok r (Pd.int _)⟩⟩
    · exact .inr fun S => if_neg hl
  | _ => exact .inr fun _ => rfl
def pToInt (d : D) : FS → Res D := fun S => match d with
  | .int i => .ok (.int i) S
  | .bool b => .ok (.int (if b then 1 else 0)) S
  | _ => .bad
theorem c_int : CallF X F PR (.type "int") (one pToInt) := callF_one fun d => by
  cases d with
  | int i => exact .inl ⟨_, call_int1, fun S σ H x Q r hx p => .inl ⟨i, by rw [hx.int], p.ok r (Pd.int _)⟩⟩
  | bool i => exact .inl ⟨_, call_int1, fun S σ H x Q r hx p => .inr ⟨i, by rw [hx.bl], p.ok r (Pd.int _)⟩⟩
  | _ => exact .inr fun _ => rfl
def pAbs (d : D) : FS → Res D := fun S => match d with
  | .int i => .ok (.int (if i < 0 then -i else i)) S
  | _ => .bad
theorem c_abs : CallF X F PR (.builtin "abs") (one pAbs) := callF_one fun d => by
  cases d with
  | int i => exact .inl ⟨_, call_abs, fun S σ H x Q r hx p => ⟨i, by rw [hx.int], p.ok r (Pd.int _)⟩⟩
  | _ => exact .inr fun _ => rfl
def pMax2 (d e : D) : FS → Res D := fun S => match d, e with
  | .int i, .int j => .ok (.int (if j > i then j else i)) S
  | _, _ => .bad
def pMin2 (d e : D) : FS → Res D := fun S => match d, e with
  | .int i, .int j => .ok (.int (if j < i then j else i)) S
  | _, _ => .bad
theorem c_max2 (hc : X.calm = true) : CallF X F PR (.builtin "max") (two pMax2) := callF_two fun d e => by
  cases d with
  | int i =>
    cases e with
    | int j => exact .inl ⟨_, call_max2 hc, fun S σ H x y Q r hx hy p => ⟨i, j, by rw [hx.int, hy.int], p.ok r (Pd.int _)⟩⟩
    | _ => exact .inr fun _ => rfl
  | _ => exact .inr fun _ => rfl
theorem c_min2 (hc : X.calm = true) : CallF X F PR (.builtin "min") (two pMin2) := callF_two fun d e => by
  cases d with
  | int i =>
    cases e with
    | int j => exact .inl ⟨_, call_min2 hc, fun S σ H x y Q r hx hy p => ⟨i, j, by rw [hx.int, hy.int], p.ok r (Pd.int _)⟩⟩
    | _ => exact .inr fun _ => rfl
  | _ => exact .inr fun _ => rfl
def pTuple (d : D) : FS → Res D := fun S => match d with
  | .tuple ds => .ok (.tuple ds) S
  | .list ds => .ok (.tuple ds) S
  | _ => .bad
theorem c_tuple : CallF X F PR (.type "tuple") (one pTuple) := callF_one fun d => by
  cases d with
  | tuple ds => exact .inl ⟨_, call_tuple_of, fun S σ H x Q r hx p => by
      obtain ⟨a, vs, rfl, h1, r1⟩ := hx.tuple
      exact ⟨a, vs, rfl, .inr ⟨h1, p.ok r (Pd.tup h1 r1)⟩⟩⟩
  | list ds => exact .inl ⟨_, call_tuple_of, fun S σ H x Q r hx p => by
      obtain ⟨a, vs, rfl, h1, r1⟩ := hx.list
      refine ⟨a, vs, rfl, .inl ⟨h1, fun l hl => ?_⟩⟩
      obtain ⟨p1, r3, v3⟩ := newTup r r1 hl
      exact p _ _ p1 r3 v3⟩
  | _ => exact .inr fun _ => rfl
def pList (d : D) : FS → Res SV := fun S => match d with
  | .tuple ds => .ok (.own (.lst ds)) S
  | .list ds => .ok (.own (.lst ds)) S
  | _ => .bad
theorem c_list : CallF X F VR (.type "list") (one pList) := callF_one fun d => by
  cases d with
  | tuple ds => exact .inl ⟨_, call_list_of, fun S σ H x Q r hx p => by
      obtain ⟨a, vs, rfl, h1, r1⟩ := hx.tuple
      exact ⟨a, vs, rfl, .inr h1, fun l hl => newList r r1 hl p⟩⟩
  | list ds => exact .inl ⟨_, call_list_of, fun S σ H x Q r hx p => by
      obtain ⟨a, vs, rfl, h1, r1⟩ := hx.list
      exact ⟨a, vs, rfl, .inl h1, fun l hl => newList r r1 hl p⟩⟩
  | _ => exact .inr fun _ => rfl
/-- all, any of a list of bools -/
def bls : List D → Option (List Bool)
  | [] => some []
  | .bool b :: r => (bls r).map (b :: ·)
  | _ :: _ => none
theorem PdAll.bls {K : Fg} {H : Hp} : ∀ {xs : List V} {ds : List D} {bs : List Bool}, PdAll K H xs ds → Fz.bls ds = some bs → xs = bs.map V.bl
  | _, _, _, .nil, e => by cases e; rfl
  | _, _, bs, .cons (d := d) h r, e => by
    cases d with
    | bool b =>
      cases h
      unfold Fz.bls at e
      obtain ⟨cs, e1, rfl⟩ := Option.map_eq_some_iff.mp e
      rw [PdAll.bls r e1]; rfl
    | _ => cases e
def pAll (d : D) : FS → Res D := fun S => match d with
  | .list ds => (match bls ds with
    | some bs => .ok (.bool (bs.all id)) S
    | none => .bad)
  | _ => .bad
theorem c_all (hc : X.calm = true) : CallF X F PR (.builtin "all") (one pAll) := callF_one fun d => by
  cases d with
  | list ds =>
    cases q : bls ds with
    | none => exact .inr fun _ => by simp only [pAll, q]
    | some bs => exact .inl ⟨_, cr_all hc, fun S σ H x Q r hx p => by
        simp only [pAll, q] at p
        obtain ⟨a, vs, rfl, h1, r1⟩ := hx.list
        have e := r1.bls q
        subst e
        exact ⟨a, bs, rfl, h1, p.ok r (Pd.bl _)⟩⟩
  | _ => exact .inr fun _ => rfl
/-! isinstance of a built-in class -/
def dTyp : D → String
  | .none => "NoneType"
  | .bool _ => "bool"
  | .int _ => "int"
  | .str _ => "str"
  | .tuple _ => "tuple"
  | .list _ => "list"
  | .dict _ => "dict"
def isT (a T : String) : Bool := a == T || (a == "bool" && T == "int")
theorem Qd.ty {K : Fg} {H : Hp} {x : V} {d : D} (h : Qd K H x d) : TyX K H x (.type (dTyp d)) := by
  have tl : ∀ {a vs}, SqL K H a vs → TyX K H (.ref a) (.type "list") := fun {a vs} h => by
    rcases h with (h | ⟨o, h⟩) | ⟨o, its, n, h, hc, _⟩
    · exact .base (.lst h)
    · exact .base (.frz h)
    · exact .kList h hc
  rcases h with h | ⟨a, vs, ds, rfl, rfl, h, r⟩
  · cases h with
    | non => exact .base .non
    | bl b => exact .base (.bl b)
    | int b => exact .base (.int b)
    | str b => exact .base (.str b)
    | tup h r =>
      rcases h with (h | ⟨o, h⟩) | ⟨o, its, n, h, hc, _⟩
      · exact .base (.tup h)
      · exact .fTuple h
      · exact .kTuple h hc
    | lst h r => exact tl h.sq
  · exact tl h
theorem kit_all {K : Fg} : ∀ d : D, ∀ T ∈ ["int", "bool", "str", "tuple", "list", "dict"], PySem.W.kitOne K (.type (dTyp d)) (.type T) = some (isT (dTyp d) T) := by
  have key : ∀ a ∈ ["NoneType", "bool", "int", "str", "tuple", "list", "dict"], ∀ T ∈ ["int", "bool", "str", "tuple", "list", "dict"], kitB a T = some (isT a T) := by decide +kernel
  intro d T hT
  refine kit_ty (key _ ?_ T hT)
  cases d <;> simp [dTyp]
def fIsi (T : String) (f : FS → Res D) : FS → Res D := bnd f fun d S => .ok (.bool (isT (dTyp d) T)) S
theorem e_isi {T : String} {x : Str} {e : Expr} {f : FS → Res D} {q : Pos} (hg : Gl X "isinstance") (hm : X.mg "isinstance" = none) (hv : bootBuiltins "isinstance" = some (.builtin "isinstance")) (he : EQ X F e f)
    (hg2 : Gl X x) (hm2 : X.mg x = none) (hv2 : bootBuiltins x = some (.type T)) (hn2 : x ≠ "__name__" := by decide) (hdb2 : (x == ("__debug__" : Str)) = false := by decide) (hT : T ∈ ["int", "bool", "str", "tuple", "list", "dict"] := by decide)
    (hs : starEach [e, .Name x q] X.env = (false, eval e X.env) :: starEach [.Name x q] X.env := by rfl) (hs2 : starEach [.Name x q] X.env = (false, eval (.Name x q) X.env) :: starEach [] X.env := by rfl) (hpl : (backTo pos (starEach [.Name x q] X.env)).any (·.1) = false := by rfl) :
    ED X F (.Call (.Name "isinstance" p) [e, .Name x q] [] pos) (fIsi T f) :=
  (pe_callB call_isi hg hm hv (pa_cons he (pa_cons (pe_bltn (v := .ty T) hg2 hm2 hv2 rfl hn2 hdb2) pa_nil hs2) hs) (by decide) (by decide) hs hpl).via fun σ H Q h => (rdG.bind h).imp fun x H1 ⟨d, S1, r, v, p, q⟩ =>
    ⟨_, _, _, _, _, rfl, .ty T, v.ty, kit_all d T hT, q.ok r (Pd.bl _)⟩
end
end Fz
end

section
set_option Elab.async false
set_option linter.all false
set_option maxRecDepth 100000
set_option maxHeartbeats 4000000
/-! F4: statements. -/
namespace Fz
open PySem PySem.Spec PyProof.Rows L2
inductive SRes where
  | nx (S : FS)
  | rt (v : SV) (S : FS)
  | bk (S : FS)
  | ct (S : FS)
  | exn (e : Exn) (S : FS)
  | bad
def bndS {α : Type} (fa : FS → Res α) (k : α → FS → SRes) : FS → SRes := fun S => match fa S with
  | .ok a S1 => k a S1
  | .exn e S1 => .exn e S1
  | .bad => .bad
def postS (K : Fg) (F : Fx) (r : SRes) (D : Ends) (H : Hp) : Prop := match r with
  | .nx S => ∀ σ H', Pers H H' → Rel K F S σ H' → D.nx σ H'
  | .rt v S => ∀ x σ H', Pers H H' → Rel K F S σ H' → VR K F S σ H' x v → D.rt x H'
  | .bk S => ∀ σ H', Pers H H' → Rel K F S σ H' → D.bk σ H'
  | .ct S => ∀ σ H', Pers H H' → Rel K F S σ H' → D.ct σ H'
  | .exn e S => ∀ c dx σ H', Pers H H' → Rel K F S σ H' → ExR K H' e c dx → F.E c dx H'
  | .bad => False
def rdS (K : Fg) (F : Fx) (f : FS → SRes) : TS := fun D σ H => ∃ S, Rel K F S σ H ∧ postS K F (f S) D H
abbrev ES (X : Cx) (F : Fx) (st : Stmt) (f : FS → SRes) : Prop := PS X st (rdS X.K F f)
abbrev EB (X : Cx) (F : Fx) (st : List Stmt) (f : FS → SRes) : Prop := PSs X st (rdS X.K F f)
theorem _root_.L2.PSs.via {X : Cx} {e : List Stmt} {t t' : TS} (h : PSs X e t) (hw : ∀ D σ H, t' D σ H → t D σ H) : PSs X e t' := ⟨fun pins s σ H D I q => h.run pins s σ H D I (hw D σ H q)⟩
section
variable {α ι : Type} {K : Fg} {F : Fx} {R : GRel ι α} {σ : Sl} {H H' : Hp} {D D' : Ends}
theorem postS.later {r : SRes} (p : Pers H H') (h : postS K F r D H) : postS K F r D H' := by
  cases r with
  | nx S => exact fun σ H2 q r => h σ H2 (p.trans q) r
  | rt v S => exact fun x σ H2 q r => h x σ H2 (p.trans q) r
  | bk S => exact fun σ H2 q r => h σ H2 (p.trans q) r
  | ct S => exact fun σ H2 q r => h σ H2 (p.trans q) r
  | exn e S => exact fun c dx σ H2 q r => h c dx σ H2 (p.trans q) r
  | bad => exact h
theorem rdG.bindS {fa : FS → Res α} {k : α → FS → SRes} (h : rdS K F (bndS fa k) D σ H) :
    rdG K F R fa σ H fun x H1 => ∃ d S1, Rel K F S1 σ H1 ∧ R K F S1 σ H1 x d ∧ Pers H H1 ∧ postS K F (k d S1) D H1 := by
  obtain ⟨S, r, p⟩ := h
  refine ⟨S, r, ?_⟩
  unfold bndS at p
  cases e : fa S with
  | ok d S1 => rw [e] at p; exact fun x H1 q r1 v => ⟨d, S1, r1, v, q, postS.later q p⟩
  | exn e2 S1 => rw [e] at p; exact fun c dx H1 q r1 v => p c dx σ H1 q r1 v
  | bad => rw [e] at p; exact p
theorem rdT.bindS {fa : FS → Res Bool} {k : Bool → FS → SRes} (h : rdS K F (bndS fa k) D σ H) :
    rdT K F fa σ H fun b H1 => ∃ S1, Rel K F S1 σ H1 ∧ Pers H H1 ∧ postS K F (k b S1) D H1 := by
  obtain ⟨S, r, p⟩ := h
  refine ⟨S, r, ?_⟩
  unfold bndS at p
  cases e : fa S with
  | ok d S1 => rw [e] at p; exact fun H1 q r1 => ⟨S1, r1, q, postS.later q p⟩
  | exn e2 S1 => rw [e] at p; exact fun c dx H1 q r1 v => p c dx σ H1 q r1 v
  | bad => rw [e] at p; exact p
end
def fSeq (f g : FS → SRes) : FS → SRes := fun S => match f S with
  | .nx S1 => g S1
  | r => r
section
variable {X : Cx} {F : Fx} {st : Stmt} {rest : List Stmt} {f g : FS → SRes} {pos : Pos} {e : Expr}
theorem s_nil : EB X F [] (fun S => .nx S) := pss_nil.via fun D σ H ⟨S, r, p⟩ => p σ H (.refl H) r
theorem s_cons (h1 : ES X F st f) (h2 : EB X F rest g) : EB X F (st :: rest) (fSeq f g) := (pss_cons h1 h2).via fun D σ H ⟨S, r, p⟩ => by
  refine ⟨S, r, ?_⟩
  unfold fSeq at p
  cases e : f S with
  | nx S1 => rw [e] at p; exact fun σ' H' q r1 => ⟨S1, r1, p.later q⟩
  | rt v S1 => rw [e] at p; exact p
  | bk S1 => rw [e] at p; exact p
  | ct S1 => rw [e] at p; exact p
  | exn e2 S1 => rw [e] at p; exact p
  | bad => rw [e] at p; exact p
theorem s_one (h1 : ES X F st f) : EB X F [st] f := pss_one h1
/-- not to be come to -/
theorem s_never : ES X F st (fun _ => .bad) := ps_never.via fun D σ H ⟨S, r, p⟩ => p
def fRet (f : FS → Res SV) : FS → SRes := bndS f fun v S => .rt v S
def fRetD (f : FS → Res D) : FS → SRes := bndS f fun v S => .rt (.d v) S
theorem s_ret {f : FS → Res SV} (h : EV X F e f) : ES X F (.Return (some e) pos) (fRet f) := (ps_ret h).via fun D σ H h => (rdG.bindS h).imp fun x H1 ⟨d, S1, r, v, p, q⟩ => q x σ H1 (.refl H1) r v
theorem s_retD {f : FS → Res D} (h : ED X F e f) : ES X F (.Return (some e) pos) (fRetD f) := (ps_ret h).via fun D σ H h => (rdG.bindS h).imp fun x H1 ⟨d, S1, r, v, p, q⟩ => q x σ H1 (.refl H1) r v
def fDrop {α : Type} (f : FS → Res α) : FS → SRes := bndS f fun _ S => .nx S
theorem s_expr {α : Type} {R : VRel α} {f : FS → Res α} (he : PE X e (rdG X.K F R f)) (hs : swapsWith e none pos.line X.env = pure false := by rfl) : ES X F (.Expr e pos) (fDrop f) :=
  (ps_expr he hs).via fun D σ H h => (rdG.bindS h).imp fun x H1 ⟨d, S1, r, v, p, q⟩ => q σ H1 (.refl H1) r
def fIf (t : FS → Res Bool) (f g : FS → SRes) : FS → SRes := bndS t fun b => if b = true then f else g
theorem s_if {c : Expr} {a b : List Stmt} {t : FS → Res Bool} (hc : ET X F c t) (ha : EB X F a f) (hb : EB X F b g) : ES X F (.If c a b pos) (fIf t f g) :=
  (ps_if hc ha hb).via fun D σ H h => (rdT.bindS h).imp fun b H1 ⟨S1, r, p, q⟩ => by
    cases b with
    | true => exact ⟨S1, r, q⟩
    | false => exact ⟨S1, r, q⟩
def fSet (i : Nat) (f : FS → Res SV) : FS → SRes := bndS f fun v S => .nx (S.set i (some v))
def fSetD (i : Nat) (f : FS → Res D) : FS → SRes := bndS f fun v S => .nx (S.set i (some (.d v)))
theorem Rel.setV {K : Fg} {S : FS} {σ : Sl} {H : Hp} {i : Nat} {x : V} {v : SV} (r : Rel K F S σ H) (h : VR K F S σ H x v) : Rel K F (S.set i (some v)) (σ.set i (some x)) H := by
  cases v with
  | d d => exact r.setD h
  | own ob => exact r.setO h
  | pin ob => exact h.elim
  | x e => exact h.elim
theorem s_set {i : Nat} {x : Str} {pos' : Pos} {f : FS → Res SV} (hN : X.N.Nodup) (hi : X.N[i]? = some x) (hx : Loc X.env.scope x) (he : EV X F e f) (hs : swapsWith e (some (.Name x pos')) pos.line X.env = pure false := by rfl)
    (hf : X.fn x = true ∨ X.env.scope.names.lookup x = some .local := by first | exact .inl rfl | exact .inr rfl | assumption) : ES X F (.Assign [.Name x pos'] e pos) (fSet i f) :=
  (ps_set hN hi hx he hs hf).via fun D σ H h => (rdG.bindS h).imp fun x H1 ⟨d, S1, r, v, p, q⟩ => q _ H1 (.refl H1) (r.setV v)
theorem s_setD {i : Nat} {x : Str} {pos' : Pos} {f : FS → Res D} (hN : X.N.Nodup) (hi : X.N[i]? = some x) (hx : Loc X.env.scope x) (he : ED X F e f) (hs : swapsWith e (some (.Name x pos')) pos.line X.env = pure false := by rfl)
    (hf : X.fn x = true ∨ X.env.scope.names.lookup x = some .local := by first | exact .inl rfl | exact .inr rfl | assumption) : ES X F (.Assign [.Name x pos'] e pos) (fSetD i f) :=
  (ps_set hN hi hx he hs hf).via fun D σ H h => (rdG.bindS h).imp fun x H1 ⟨d, S1, r, v, p, q⟩ => q _ H1 (.refl H1) (r.setD v)
theorem peek_inS {K : Fg} {S : FS} {σ : Sl} {H : Hp} {i : Nat} {k : D → FS → SRes} {D : Ends} (r : Rel K F S σ H) (p : postS K F (bndS (fPeek i) k S) D H) : ∃ x d, σ[i]? = some (some x) ∧ Qd K H x d ∧ postS K F (k d S) D H := by
  unfold bndS at p
  rcases peek_ok (i := i) (S := S) with ⟨d, e⟩ | e
  · obtain ⟨_, x, ex, v⟩ := peek_val r e
    rw [e] at p
    exact ⟨x, d, ex, v, p⟩
  · rw [e] at p; exact p.elim

/-! ### while -/
end
/-! ### targets -/
section
variable {X : Cx} {F : Fx} {pos : Pos}
/-- the slots beside ts stay -/
def Beside (ts : List Nat) (σ σ' : Sl) : Prop := σ'.length = σ.length ∧ ∀ j, j ∉ ts → σ'[j]? = σ[j]?
theorem Beside.refl (ts : List Nat) (σ : Sl) : Beside ts σ σ := ⟨rfl, fun _ _ => rfl⟩
theorem Beside.trans {ts : List Nat} {σ σ1 σ2 : Sl} (a : Beside ts σ σ1) (b : Beside ts σ1 σ2) : Beside ts σ σ2 := ⟨b.1.trans a.1, fun j h => (b.2 j h).trans (a.2 j h)⟩
theorem Beside.mono {ts ts' : List Nat} {σ σ' : Sl} (a : Beside ts σ σ') (h : ∀ j, j ∈ ts → j ∈ ts') : Beside ts' σ σ' := ⟨a.1, fun j hj => a.2 j fun z => hj (h j z)⟩
theorem Beside.set {σ : Sl} {i : Nat} {v : Option V} : Beside [i] σ (σ.set i v) := ⟨List.length_set .., fun j h => List.getElem?_set_ne (fun e => h (by simp [e]))⟩
def rdTG (K : Fg) (F : Fx) (ts : List Nat) (g : D → FS → Option FS) : TG := fun v σ H Q => ∃ S d, Rel K F S σ H ∧ Pd K H v d ∧ match g d S with
  | some S' => ∀ σ' H', Pers H H' → Rel K F S' σ' H' → Beside ts σ σ' → Q σ' H'
  | none => False
def rdTGs (K : Fg) (F : Fx) (ts : List Nat) (g : List D → FS → Option FS) : TGs := fun vs σ H Q => ∃ S ds, Rel K F S σ H ∧ PdAll K H vs ds ∧ match g ds S with
  | some S' => ∀ σ' H', Pers H H' → Rel K F S' σ' H' → Beside ts σ σ' → Q σ' H'
  | none => False
abbrev EG (X : Cx) (F : Fx) (e : Expr) (ts : List Nat) (g : D → FS → Option FS) : Prop := PG X e (rdTG X.K F ts g)
abbrev EGs (X : Cx) (F : Fx) (e : List Expr) (ts : List Nat) (g : List D → FS → Option FS) : Prop := PGs X e (rdTGs X.K F ts g)
theorem _root_.L2.PG.via {X : Cx} {e : Expr} {t t' : TG} (h : PG X e t) (hw : ∀ v σ H Q, t' v σ H Q → t v σ H Q) : PG X e t' := ⟨fun pins s σ H v u Q I r q => h.run pins s σ H v u Q I r (hw v σ H Q q)⟩
theorem _root_.L2.PGs.via {X : Cx} {e : List Expr} {t t' : TGs} (h : PGs X e t) (hw : ∀ v σ H Q, t' v σ H Q → t v σ H Q) : PGs X e t' := ⟨fun pins s σ H v u Q I r q => h.run pins s σ H v u Q I r (hw v σ H Q q)⟩
def gN (i : Nat) : D → FS → Option FS := fun d S => some (S.set i (some (.d d)))
theorem g_name {i : Nat} {x : Str} (hN : X.N.Nodup) (hi : X.N[i]? = some x) (hx : Loc X.env.scope x) (hf : X.fn x = true ∨ X.env.scope.names.lookup x = some .local := by first | exact .inl rfl | exact .inr rfl | assumption) : EG X F (.Name x pos) [i] (gN i) :=
  (pg_name hN hi hx hf).via fun v σ H Q ⟨S, d, r, hd, q⟩ => q _ _ (.refl H) (r.setD hd) .set
def gNl : List D → FS → Option FS
  | [], S => some S
  | _ :: _, _ => none
def gCs (g : D → FS → Option FS) (h : List D → FS → Option FS) : List D → FS → Option FS
  | d :: ds, S => (g d S).bind (h ds)
  | [], _ => none
theorem gs_nil : EGs X F [] [] gNl := pgs_nil.via fun v σ H Q ⟨S, ds, r, hd, q⟩ => by
  cases hd with
  | nil => exact ⟨rfl, q _ _ (.refl H) r (.refl _ _)⟩
  | cons _ _ => exact q.elim
theorem gs_cons {e : Expr} {es : List Expr} {ts us : List Nat} {g : D → FS → Option FS} {h : List D → FS → Option FS} (h1 : EG X F e ts g) (h2 : EGs X F es us h)
    (hs : (assignEach (e :: es) X.env).map (·.2) = assign e X.env :: (assignEach es X.env).map (·.2) := by rfl) : EGs X F (e :: es) (ts ++ us) (gCs g h) :=
  (pgs_cons h1 h2 hs).via fun v σ H Q ⟨S, ds, r, hd, q⟩ => by
    cases hd with
    | nil => exact q.elim
    | cons hd hr =>
      refine ⟨_, _, rfl, S, _, r, hd, ?_⟩
      simp only [gCs] at q
      cases e1 : g _ S with
      | none => rw [e1] at q; exact q.elim
      | some S1 =>
        rw [e1] at q
        intro σ1 H1 p1 r1 b1
        refine ⟨S1, _, r1, hr.mono p1, ?_⟩
        simp only [Option.bind_some] at q
        cases e2 : h _ S1 with
        | none => rw [e2] at q; exact q.elim
        | some S2 => rw [e2] at q; exact fun σ2 H2 p2 r2 b2 => q σ2 H2 (p1.trans p2) r2 ((b1.mono fun j h => List.mem_append_left _ h).trans (b2.mono fun j h => List.mem_append_right _ h))
def gTp (n : Nat) (g : List D → FS → Option FS) : D → FS → Option FS
  | .tuple ds, S => if ds.length = n then g ds S else none
  | _, _ => none
theorem g_tup {es : List Expr} {k : Nat} {ts : List Nat} {g : List D → FS → Option FS} {n : Nat} (hc : X.calm = true) (h : EGs X F es ts g) (hn : (assignEach es X.env).length = n := by rfl) (hst : (assignEach es X.env).findIdx? (·.1) = none := by rfl) : EG X F (.Tuple es k pos) ts (gTp n g) :=
  (pg_tup hc h hn hst).via fun v σ H Q ⟨S, d, r, hd, q⟩ => by
    cases hd with
    | @tup _ _ ds hs hr =>
      simp only [gTp] at q
      by_cases hl : ds.length = n
      · rw [if_pos hl] at q
        exact ⟨_, _, rfl, hs, by rw [hr.length]; exact hl, S, _, r, hr, q⟩
      · rw [if_neg hl] at q
        exact q.elim
    | _ => exact q.elim
/-- target = e -/
def fAsg (g : D → FS → Option FS) (f : FS → Res D) : FS → SRes := bndS f fun d S => match g d S with
  | some S' => .nx S'
  | none => .bad
theorem s_asg {tg e : Expr} {ts : List Nat} {f : FS → Res D} {g : D → FS → Option FS} (he : ED X F e f) (hg : EG X F tg ts g) (hs : swapsWithSole [tg] e pos.line X.env = pure false := by rfl) (hw : swappedStores [tg] e X.env = pure none := by rfl)
    (h1 : (assignEach [tg] X.env).map (·.2) = [assign tg X.env] := by rfl) : ES X F (.Assign [tg] e pos) (fAsg g f) :=
  (ps_asg he hg hs hw h1).via fun D σ H h => (rdG.bindS h).imp fun x H1 ⟨d, S1, r, v, p, q⟩ => ⟨S1, d, r, v, by
    cases e : g d S1 with
    | none => rw [e] at q; exact q
    | some S2 => rw [e] at q; exact fun σ' H' p r _ => q σ' H' p r⟩
end
end Fz
end

section
set_option Elab.async false
set_option linter.all false
set_option maxRecDepth 100000
set_option maxHeartbeats 4000000
/-! F5: for, list methods, stores to items. -/
namespace Fz
open PySem PySem.Spec PyProof.Rows L2
/-- J hands the data ds out, one after another, while what is for good stays -/
structure Yields (K : Fg) (J : It) (H1 : Hp) (ds : List D) : Prop where
  go : ∀ i H, Pers H1 H → i < ds.length → J.go i H
  stop : ∀ H, Pers H1 H → J.stop ds.length H
  yld : ∀ i H x H' d, Pers H1 H → ds[i]? = some d → J.yld i H x H' → Pers H H' ∧ (∀ F S σ, Rel K F S σ H → Rel K F S σ H') ∧ Pd K H' x d
def rdI (K : Fg) (F : Fx) (f : FS → Res (List D)) : TI := fun σ H R => ∃ S, Rel K F S σ H ∧ match f S with
  | .ok ds S1 => ∀ J H1, Pers H H1 → Rel K F S1 σ H1 → Yields K J H1 ds → R J H1
  | .exn e S1 => ∀ c dx H1, Pers H H1 → Rel K F S1 σ H1 → ExR K H1 e c dx → F.E c dx H1
  | .bad => False
abbrev EI (X : Cx) (F : Fx) (tg iter : Expr) (f : FS → Res (List D)) : Prop := PI X tg iter (rdI X.K F f)
def forF (g : D → FS → Option FS) (b : FS → SRes) : List D → FS → SRes
  | [], S => .nx S
  | d :: ds, S => match g d S with
    | some S1 => (match b S1 with
      | .nx S2 => forF g b ds S2
      | .ct S2 => forF g b ds S2
      | .bk S2 => .nx S2
      | r => r)
    | none => .bad
def fFor (it : FS → Res (List D)) (g : D → FS → Option FS) (b : FS → SRes) : FS → SRes := bndS it fun ds => forF g b ds
section
variable {X : Cx} {F : Fx} {pos : Pos}
theorem s_for {tg iter : Expr} {ts : List Nat} {body : List Stmt} {it : FS → Res (List D)} {g : D → FS → Option FS} {b : FS → SRes} (hp : PassesOwn (model X.prog X.w) X.A X.env X.xe) (hc : X.calm = true) (hi : EI X F tg iter it) (hg : EG X F tg ts g) (hb : EB X F body b)
    (hs : ∀ x, foldedSetIterable iter X.env x = pure x := by intro _; rfl) : ES X F (.For tg iter body [] pos) (fFor it g b) :=
  (ps_for hp hc hi hg hb hs).via fun D σ H ⟨S, r, p⟩ => by
    refine ⟨S, r, ?_⟩
    unfold fFor bndS at p
    cases e : it S with
    | exn e2 S1 => rw [e] at p; exact fun c dx H1 p1 r1 v => p c dx σ H1 p1 r1 v
    | bad => rw [e] at p; exact p
    | ok ds S1 =>
      rw [e] at p
      intro J H1 p1 r1 y
      refine ⟨fun i m σ H => ∃ S, Rel X.K F S σ H ∧ Pers H1 H ∧ m = ds.length - i ∧ i ≤ ds.length ∧ postS X.K F (forF g b (ds.drop i) S) D H, ⟨ds.length, S1, r1, .refl H1, rfl, Nat.zero_le _, postS.later p1 p⟩, ?_⟩
      rintro i m σ H ⟨S, r, pH, rfl, hi, p⟩
      by_cases hl : i < ds.length
      · refine .inr ⟨y.go i H pH hl, fun σ' H' => ∃ S, Rel X.K F S σ' H' ∧ Pers H1 H' ∧ postS X.K F (forF g b (ds.drop (i + 1)) S) D H', fun σ' H' ⟨S2, r2, p2, q2⟩ => ⟨ds.length - (i + 1), by omega, S2, r2, p2, rfl, hl, q2⟩, fun x H' hy => ?_⟩
        obtain ⟨p2, k2, v2⟩ := y.yld i H x H' ds[i] pH (List.getElem?_eq_getElem hl) hy
        rw [List.drop_eq_getElem_cons hl] at p
        simp only [forF] at p
        refine ⟨S, ds[i], k2 F S σ r, v2, ?_⟩
        cases e2 : g ds[i] S with
        | none => rw [e2] at p; exact p
        | some S1 =>
          rw [e2] at p
          simp only at p
          intro σ3 H3 p3 r3 _
          refine ⟨S1, r3, ?_⟩
          have p13 : Pers H1 H3 := (pH.trans p2).trans p3
          have p03 : Pers H H3 := p2.trans p3
          cases e3 : b S1 with
          | nx S2 => rw [e3] at p; exact fun σ4 H4 p4 r4 => ⟨S2, r4, p13.trans p4, p.later (p03.trans p4)⟩
          | ct S2 => rw [e3] at p; exact fun σ4 H4 p4 r4 => ⟨S2, r4, p13.trans p4, p.later (p03.trans p4)⟩
          | bk S2 => rw [e3] at p; exact postS.later p03 p
          | rt v S2 => rw [e3] at p; exact postS.later p03 p
          | exn v S2 => rw [e3] at p; exact postS.later p03 p
          | bad => rw [e3] at p; exact p
      · have e : i = ds.length := by omega
        subst e
        rw [List.drop_length] at p
        exact .inl ⟨y.stop H pH, p σ H (.refl H) r⟩
/-- a list, a tuple walked -/
theorem yields_list {K : Fg} {H1 : Hp} {a : Addr} {vs : List V} {ds : List D} (h : FrzL K H1 a vs) (r : PdAll K H1 vs ds) : Yields K (Itl K a) H1 ds where
  go := fun i H p hi => by
    obtain ⟨x, h1, _⟩ := r.get (List.getElem?_eq_getElem hi)
    exact ⟨vs, x, (h.mono p).sq, h1⟩
  stop := fun H p => ⟨vs, (h.mono p).sq, by rw [r.length]; exact Nat.le_refl _⟩
  yld := fun i H x H' d p hd ⟨e, q⟩ => by
    subst e
    have h1 := q vs (h.mono p).sq
    obtain ⟨y, h2, h3⟩ := r.get hd
    rw [h1] at h2; cases h2
    exact ⟨.refl _, fun _ _ _ r => r, h3.mono p⟩
theorem yields_tup {K : Fg} {H1 : Hp} {a : Addr} {vs : List V} {ds : List D} (h : SqT K H1 a vs) (r : PdAll K H1 vs ds) : Yields K (Itt K a) H1 ds where
  go := fun i H p hi => by
    obtain ⟨x, h1, _⟩ := r.get (List.getElem?_eq_getElem hi)
    exact ⟨vs, x, sqT_mono p h, h1⟩
  stop := fun H p => ⟨vs, sqT_mono p h, by rw [r.length]; exact Nat.le_refl _⟩
  yld := fun i H x H' d p hd ⟨e, q⟩ => by
    subst e
    have h1 := q vs (sqT_mono p h)
    obtain ⟨y, h2, h3⟩ := r.get hd
    rw [h1] at h2; cases h2
    exact ⟨.refl _, fun _ _ _ r => r, h3.mono p⟩
def fItems (f : FS → Res D) : FS → Res (List D) := bnd f fun d S => match d with
  | .list ds => .ok ds S
  | .tuple ds => .ok ds S
  | _ => .bad
theorem i_seq {tg l : Expr} {f : FS → Res D} (h : ED X F l f) : EI X F tg l (fItems f) := by
  refine ⟨fun pins s σ H R I ⟨S, r, p⟩ => ?_⟩
  unfold fItems bnd at p
  cases e : f S with
  | exn e2 S1 =>
    rw [e] at p
    refine (pi_list (tl := rdG X.K F PR f) h).run pins s σ H R I ⟨S, r, ?_⟩
    rw [e]; exact p
  | bad => rw [e] at p; exact p.elim
  | ok d S1 =>
    rw [e] at p
    cases d with
    | list ds =>
      refine (pi_list (tl := rdG X.K F PR f) h).run pins s σ H R I ⟨S, r, ?_⟩
      rw [e]
      intro x H1 p1 r1 v
      cases v with
      | lst h2 r2 => exact ⟨_, rfl, ⟨_, h2.sq⟩, p _ H1 p1 r1 (yields_list h2 r2)⟩
    | tuple ds =>
      refine (pi_tup (tl := rdG X.K F PR f) h).run pins s σ H R I ⟨S, r, ?_⟩
      rw [e]
      intro x H1 p1 r1 v
      cases v with
      | tup h2 r2 => exact ⟨_, rfl, ⟨_, h2⟩, p _ H1 p1 r1 (yields_tup h2 r2)⟩
    | _ => exact p.elim
def rngD (lo : Int) (n : Nat) : List D := (List.range n).map fun i => .int (lo + (i : Nat))
theorem yields_rng {K : Fg} {H1 : Hp} {lo : Int} {n : Nat} : Yields K (Itr lo n) H1 (rngD lo n) where
  go := fun i H p hi => by
    have e : (rngD lo n).length = n := by simp [rngD]
    rw [e] at hi; exact hi
  stop := fun H p => by show n ≤ _; simp [rngD]
  yld := fun i H x H' d p hd ⟨e, q⟩ => by
    subst e q
    unfold rngD at hd
    rw [List.getElem?_map] at hd
    obtain ⟨j, h1, rfl⟩ := Option.map_eq_some_iff.mp hd
    have h2 : j = i := by
      obtain ⟨hl, e⟩ := List.getElem?_eq_some_iff.mp h1
      rw [List.getElem_range] at e; exact e.symm
    subst h2
    exact ⟨.refl _, fun _ _ _ r => r, .int _⟩
def inR (j : Int) : Prop := -(2 ^ 62) ≤ j ∧ j < 2 ^ 62
noncomputable instance (j : Int) : Decidable (inR j) := Classical.propDecidable _
noncomputable def fRange1 (f : FS → Res D) : FS → Res (List D) := bnd f fun d S => match d with
  | .int j => if inR j then .ok (rngD 0 j.toNat) S else .bad
  | _ => .bad
theorem i_range1 {tg a : Expr} {f : FS → Res D} {p : Pos} (hg : Gl X "range") (hm : X.mg "range" = none) (ha : ED X F a f) (hsa : starEach [a] X.env = (false, eval a X.env) :: starEach [] X.env := by rfl) (hs : starEach [a] X.env = [(false, eval a X.env)] := by rfl) : EI X F tg (.Call (.Name "range" p) [a] [] pos) (fRange1 f) := by
  refine ⟨fun pins s σ H R I ⟨S, r, q⟩ => ?_⟩
  refine (pi_range1 hg hm (pa_cons ha pa_nil hsa) hs).run pins s σ H R I ⟨S, r, ?_⟩
  unfold fRange1 bnd at q
  cases e : f S with
  | exn e2 S1 => rw [e] at q; exact q
  | bad => rw [e] at q; exact q
  | ok d S1 =>
    rw [e] at q
    intro x H1 p1 r1 v
    cases d with
    | int j =>
      cases v
      simp only [Res.bind_ok] at q
      by_cases hj : inR j
      · rw [if_pos hj] at q
        exact ⟨j, rfl, hj.1, hj.2, q _ H1 p1 r1 yields_rng⟩
      · rw [if_neg hj] at q; exact q.elim
    | _ => exact q.elim
end
/-! ### the list of a slot -/
def lstAt (S : FS) (i : Nat) : Option (List D) := match S[i]? with
  | some (some (.own (.lst ds))) => some ds
  | some (some (.pin (.lst ds))) => some ds
  | _ => none
def putLst (S : FS) (i : Nat) (ds : List D) : FS := match S[i]? with
  | some (some (.pin _)) => S.set i (some (.pin (.lst ds)))
  | _ => S.set i (some (.own (.lst ds)))
theorem Rel.lst {K : Fg} {F : Fx} {S : FS} {σ : Sl} {H : Hp} {i : Nat} {ds : List D} (r : Rel K F S σ H) (h : lstAt S i = some ds) : ∃ a vs, σ[i]? = some (some (.ref a)) ∧ H a = some (.lst vs) ∧ PdAll K H vs ds ∧
    ∀ vs' ds', PdAll K H vs' ds' → Rel K F (putLst S i ds') σ (upd H a (.lst vs')) ∧ Pers H (upd H a (.lst vs')) := by
  have main : ∀ (sv : SV) (mk : List D → SV), sv = mk ds → (∀ z, putLst S i z = S.set i (some (mk z))) → S[i]? = some (some sv) → (∀ z, mk z = .own (.lst z)) ∨ (∀ z, mk z = .pin (.lst z)) → ∃ a vs, σ[i]? = some (some (.ref a)) ∧ H a = some (.lst vs) ∧ PdAll K H vs ds ∧
      ∀ vs' ds', PdAll K H vs' ds' → Rel K F (putLst S i ds') σ (upd H a (.lst vs')) ∧ Pers H (upd H a (.lst vs')) := by
    intro sv mk es ep hs hm
    have ow : S[i]? = some (some (.own (.lst ds))) ∨ S[i]? = some (some (.pin (.lst ds))) := by
      rcases hm with hm | hm
      · exact .inl (by rw [hs, es, hm])
      · exact .inr (by rw [hs, es, hm])
    obtain ⟨a, ea, ⟨vs, hH, hv⟩, h0⟩ := r.obj ow
    refine ⟨a, vs, ea, hH, hv, fun vs' ds' hv' => ?_⟩
    have hmu : Mut (H a) := by rw [hH]; trivial
    have pp : Pers H (upd H a (.lst vs')) := Pers.put (.inl hmu)
    have hl : i < S.length := (List.getElem?_eq_some_iff.mp hs).1
    have oi : Owned S i := ⟨_, ow⟩
    refine ⟨?_, pp⟩
    rw [ep ds']
    refine r.put (.inl hmu) h0 (fun p hp e' => (r.held p hp).2.2 i oi (e' ▸ ea)) (List.length_set ..) (fun j sv2 ej => ?_) fun j ⟨ob, hj⟩ => ?_
    · by_cases hj : j = i
      · subst hj
        rw [List.getElem?_set_self hl] at ej
        cases ej
        refine .inr ⟨_, ea, ?_⟩
        obtain ⟨x, ex, sr⟩ := r.slot j _ hs
        rw [ea] at ex; cases ex
        rcases hm with hm | hm
        · rw [es, hm] at sr
          rw [hm]
          obtain ⟨b, eb, _, n⟩ := sr
          cases eb
          exact ⟨a, rfl, ⟨vs', upd_same, hv'.mono pp⟩, n⟩
        · rw [es, hm] at sr
          rw [hm]
          obtain ⟨b, eb, _, n⟩ := sr
          cases eb
          exact ⟨a, rfl, ⟨vs', upd_same, hv'.mono pp⟩, n⟩
      · rw [List.getElem?_set_ne (Ne.symm hj)] at ej
        exact .inl ⟨ej, fun oj => r.apart i j a (Ne.symm hj) oi oj ea⟩
    · by_cases hj2 : j = i
      · subst hj2; exact oi
      · rw [List.getElem?_set_ne (Ne.symm hj2)] at hj; exact ⟨ob, hj⟩
  unfold lstAt at h
  split at h
  · rename_i d hd
    cases h
    exact main _ (fun z => .own (.lst z)) rfl (fun z => by unfold putLst; rw [hd]) hd (.inl fun _ => rfl)
  · rename_i d hd
    cases h
    exact main _ (fun z => .pin (.lst z)) rfl (fun z => by unfold putLst; rw [hd]) hd (.inr fun _ => rfl)
  · cases h
section
variable {X : Cx} {F : Fx} {pos : Pos}
/-- a look at the list of a slot -/
def wLst (i : Nat) (k : List D → FS → SRes) : FS → SRes := fun S => match lstAt S i with
  | some ds => k ds S
  | none => .bad
theorem wLst_in {K : Fg} {S : FS} {i : Nat} {k : List D → FS → SRes} {D' : Ends} {H : Hp} (p : postS K F (wLst i k S) D' H) : ∃ ds, lstAt S i = some ds ∧ postS K F (k ds S) D' H := by
  unfold wLst at p
  cases e : lstAt S i with
  | none => rw [e] at p; exact p.elim
  | some ds => rw [e] at p; exact ⟨ds, rfl, p⟩
/-- x[k] = e -/
def fSetIx (i : Nat) (fe fk : FS → Res D) : FS → SRes := bndS fe fun d => bndS (fPeek i) fun _ => bndS fk fun k => wLst i fun ds S => match k with
  | .int j => (match ixN ds.length j with
    | some m => .nx (putLst S i (ds.set m d))
    | none => .bad)
  | _ => .bad
theorem s_setIx {i : Nat} {o k e : Expr} {fe fk : FS → Res D} {p1 : Pos} (ho : PE X o (tVar i)) (he : ED X F e fe) (hk : ED X F k fk)
    (ha : ∀ v, assign (.Subscript o k p1) X.env v = (do
      let ov ← holding [v] (eval o X.env)
      let iv ← holding [v, ov] (eval k X.env)
      standAt p1
      holding [v, ov, iv] (setItem ov iv v)
      release [v, ov, iv] []) := by intro _; rfl)
    (hs : swapsWithSole [.Subscript o k p1] e pos.line X.env = pure false := by rfl) (hw : swappedStores [.Subscript o k p1] e X.env = pure none := by rfl)
    (h1 : (assignEach [.Subscript o k p1] X.env).map (·.2) = [assign (.Subscript o k p1) X.env] := by rfl) : ES X F (.Assign [.Subscript o k p1] e pos) (fSetIx i fe fk) :=
  (ps_asg he (pg_sub ho hk set_list ha) hs hw h1).via fun D σ H ⟨S, r, p⟩ => by
    refine (rdG.bindS (R := PR) ⟨S, r, p⟩).imp fun y H1 ⟨d, S1, r1, v1, p1, q1⟩ => ?_
    obtain ⟨x, d0, ex, _, q1⟩ := peek_inS r1 q1
    refine ⟨x, ex, (rdG.bindS (R := PR) ⟨S1, r1, q1⟩).imp fun z H2 ⟨kd, S2, r2, v2, p2, q2⟩ => ?_⟩
    obtain ⟨ds, e2, q2⟩ := wLst_in q2
    obtain ⟨a, vs, ea, hH, hv, put⟩ := r2.lst e2
    rw [ex] at ea; cases ea
    cases kd with
    | int j =>
      cases v2
      cases em : ixN ds.length j with
      | none => simp only [em] at q2; exact q2.elim
      | some m =>
        simp only [em] at q2
        have hy : Pd X.K H2 y d := Pd.mono p2 v1
        obtain ⟨r3, p3⟩ := put (vs.set m y) (ds.set m d) (hv.set hy m)
        exact ⟨a, vs, j, m, rfl, rfl, hH, by rw [hv.length]; exact em, q2 _ _ p3 r3⟩
    | _ => exact q2.elim
end
end Fz
end

section
set_option Elab.async false
set_option linter.all false
set_option maxRecDepth 100000
set_option maxHeartbeats 4000000
/-! F6: list comprehensions. -/
namespace Fz
open PySem PySem.Spec PyProof.Rows L2
/-- the slots vs stored anew -/
def setAll {β : Type} (S : List β) : List Nat → (Nat → β) → List β
  | [], _ => S
  | v :: vs, f => (setAll S vs f).set v (f v)
theorem setAll_length {β : Type} (S : List β) (f : Nat → β) : ∀ vs, (setAll S vs f).length = S.length
  | [] => rfl
  | v :: vs => by unfold setAll; rw [List.length_set, setAll_length S f vs]
theorem setAll_in {β : Type} {S : List β} {f : Nat → β} {j : Nat} : ∀ {vs : List Nat}, j ∈ vs → j < S.length → (setAll S vs f)[j]? = some (f j)
  | v :: vs, h, hl => by
    unfold setAll
    by_cases e : v = j
    · subst e
      exact List.getElem?_set_self (by rw [setAll_length]; exact hl)
    · rw [List.getElem?_set_ne e]
      exact setAll_in ((List.mem_cons.mp h).resolve_left (Ne.symm e)) hl
theorem setAll_out {β : Type} {S : List β} {f : Nat → β} {j : Nat} : ∀ {vs : List Nat}, j ∉ vs → (setAll S vs f)[j]? = S[j]?
  | [], _ => rfl
  | v :: vs, h => by
    unfold setAll
    rw [List.getElem?_set_ne (fun e => h (by simp [e]))]
    exact setAll_out fun z => h (List.mem_cons_of_mem _ z)
theorem wipe_eq (σ : Sl) : ∀ vs, wipe σ vs = setAll σ vs fun _ => none
  | [] => rfl
  | v :: vs => by unfold wipe setAll; rw [wipe_eq σ vs]
def wipeS (S : FS) (vs : List Nat) : FS := setAll S vs fun _ => none
def keepD : Option SV → Option SV
  | some (.d d) => some (.d d)
  | _ => none
/-- behind the block: its own slots as they stood ahead of it (data alone) -/
def restS (S S2 : FS) (vs : List Nat) : FS := setAll S2 vs fun v => keepD (S.getD v none)
theorem keepD_some {o : Option SV} {sv : SV} (h : keepD o = some sv) : ∃ d, sv = .d d ∧ o = some (.d d) := by
  unfold keepD at h
  split at h
  · cases h; exact ⟨_, rfl, rfl⟩
  · cases h
/-- the frame within a block: D holds what is made so far, nothing may leave -/
def Fx.blk (F : Fx) (D : Addr) (acc : List V) : Fx := { F with held := (D, .lst acc) :: F.held, E := fun _ _ _ => False }
theorem setAll_some {S : FS} {vs : List Nat} {f : Nat → Option SV} {j : Nat} {sv : SV} (h : (setAll S vs f)[j]? = some (some sv)) : (j ∉ vs ∧ S[j]? = some (some sv)) ∨ (j ∈ vs ∧ j < S.length ∧ f j = some sv) := by
  by_cases hj : j ∈ vs
  · by_cases hl : j < S.length
    · rw [setAll_in hj hl] at h
      exact .inr ⟨hj, hl, Option.some.inj h⟩
    · rw [List.getElem?_eq_none (by rw [setAll_length]; omega)] at h; cases h
  · rw [setAll_out hj] at h; exact .inl ⟨hj, h⟩
section
variable {K : Fg} {F : Fx} {S S2 : FS} {σ σ2 : Sl} {H H2 : Hp} {vs : List Nat}
theorem Rel.wiped (r : Rel K F S σ H) : Rel K F (wipeS S vs) (wipe σ vs) H := by
  rw [wipe_eq]
  have down : ∀ j sv, (wipeS S vs)[j]? = some (some sv) → j ∉ vs ∧ S[j]? = some (some sv) := fun j sv h => by
    rcases setAll_some h with h | ⟨_, _, h⟩
    · exact h
    · cases h
  have ow : ∀ j, Owned (wipeS S vs) j → j ∉ vs ∧ Owned S j := fun j ⟨ob, h⟩ => by
    rcases h with h | h
    · exact ⟨(down j _ h).1, ob, .inl (down j _ h).2⟩
    · exact ⟨(down j _ h).1, ob, .inr (down j _ h).2⟩
  refine ⟨by unfold wipeS; rw [setAll_length, setAll_length]; exact r.len, fun j sv h => ?_, fun i j a ne hi hj => ?_, r.keep, r.there, r.tabs, r.self, fun p hp => ⟨(r.held p hp).1, (r.held p hp).2.1, fun i hi => ?_⟩⟩
  · obtain ⟨h1, h2⟩ := down j sv h
    rw [setAll_out h1]; exact r.slot j sv h2
  · obtain ⟨h1, h2⟩ := ow i hi
    obtain ⟨h3, h4⟩ := ow j hj
    rw [setAll_out h1, setAll_out h3]; exact r.apart i j a ne h2 h4
  · obtain ⟨h1, h2⟩ := ow i hi
    rw [setAll_out h1]; exact (r.held p hp).2.2 i h2
theorem Rel.hold (r : Rel K F S σ H) {D : Addr} {acc : List V} (h : H D = some (.lst acc)) (h0 : F.H0 D = none) (hu : ∀ i, Owned S i → σ[i]? ≠ some (some (.ref D))) : Rel K (F.blk D acc) S σ H := by
  refine ⟨r.len, r.slot, r.apart, r.keep, r.there, r.tabs, r.self, fun p hp => ?_⟩
  rcases List.mem_cons.mp hp with e | hp
  · subst e; exact ⟨⟨h, trivial⟩, h0, hu⟩
  · exact r.held p hp
theorem Rel.unhold {D : Addr} {acc : List V} (r : Rel K (F.blk D acc) S σ H) : Rel K F S σ H :=
  ⟨r.len, r.slot, r.apart, r.keep, r.there, r.tabs, r.self, fun p hp => r.held p (List.mem_cons_of_mem _ hp)⟩
/-- behind a block -/
theorem Rel.rest (r0 : Rel K F S σ H) (r : Rel K F S2 σ2 H2) (p : Pers H H2) (hw : wipe σ2 vs = wipe σ vs) : Rel K F (restS S S2 vs) σ H2 := by
  have len : σ2.length = σ.length := by
    have := congrArg List.length hw
    rw [wipe_length, wipe_length] at this; exact this
  have out : ∀ j, j ∉ vs → σ2[j]? = σ[j]? := fun j hj => by
    have := congrArg (fun l : Sl => l[j]?) hw
    simp only [wipe_eq] at this
    rw [setAll_out hj, setAll_out hj] at this; exact this
  have ow : ∀ j, Owned (restS S S2 vs) j → j ∉ vs ∧ Owned S2 j := fun j ⟨ob, h⟩ => by
    rcases h with h | h
    · rcases setAll_some h with ⟨h1, h2⟩ | ⟨_, _, h2⟩
      · exact ⟨h1, ob, .inl h2⟩
      · obtain ⟨d, e, _⟩ := keepD_some h2; cases e
    · rcases setAll_some h with ⟨h1, h2⟩ | ⟨_, _, h2⟩
      · exact ⟨h1, ob, .inr h2⟩
      · obtain ⟨d, e, _⟩ := keepD_some h2; cases e
  refine ⟨by unfold restS; rw [setAll_length, r.len, len], fun j sv h => ?_, fun i j a ne hi hj => ?_, r.keep, r.there, r.tabs, r.self, fun q hq => ⟨(r.held q hq).1, (r.held q hq).2.1, fun i hi => ?_⟩⟩
  · rcases setAll_some h with ⟨h1, h2⟩ | ⟨h1, hl, h2⟩
    · rw [← out j h1]; exact r.slot j sv h2
    · obtain ⟨d, rfl, e⟩ := keepD_some h2
      have e2 : S[j]? = some (some (.d d)) := by
        rw [List.getD_eq_getElem?_getD] at e
        cases q : S[j]? with
        | none => rw [q] at e; cases e
        | some o => rw [q] at e; simp only [Option.getD_some] at e; rw [e]
      obtain ⟨x, ex, v⟩ := r0.slot j _ e2
      exact ⟨x, ex, Pd.mono p v⟩
  · obtain ⟨h1, h2⟩ := ow i hi
    obtain ⟨h3, h4⟩ := ow j hj
    rw [← out i h1, ← out j h3]; exact r.apart i j a ne h2 h4
  · obtain ⟨h1, h2⟩ := ow i hi
    rw [← out i h1]; exact (r.held q hq).2.2 i h2
end
/-- tests of a comprehension -/
abbrev ETs (X : Cx) (F : Fx) (ifs : List Expr) (f : FS → Res Bool) : Prop := PTs X ifs (rdT X.K F f)
theorem ts_nil {X : Cx} {F : Fx} : ETs X F [] (fC true) := ⟨fun pins s σ H Q I ⟨S, r, p⟩ => pts_nil.run pins s σ H Q I (p.ok r)⟩
/-- the turns -/
def lcF (g : D → FS → Option FS) (t : FS → Res Bool) (fe : FS → Res D) (vs : List Nat) : List D → FS → List D → Res SV
  | [], S, acc => .ok (.own (.lst acc)) S
  | d :: ds, S, acc => match g d (wipeS S vs) with
    | none => .bad
    | some S1 => match t S1 with
      | .ok false S2 => lcF g t fe vs ds (restS S S2 vs) acc
      | .ok true S2 => (match fe S2 with
        | .ok y S3 => if acc.length < sizeLine then lcF g t fe vs ds (restS S S3 vs) (acc ++ [y]) else .bad
        | _ => .bad)
      | _ => .bad
def fLc (it : FS → Res (List D)) (g : D → FS → Option FS) (t : FS → Res Bool) (fe : FS → Res D) (vs : List Nat) : FS → Res SV := bnd it fun ds S => lcF g t fe vs ds S []
section
variable {X : Cx} {F : Fx} {elt tg iter : Expr} {ifs : List Expr} {scope : Scope} {own : List (Str × Nat)} {pos : Pos} {it : FS → Res (List D)} {g : D → FS → Option FS} {t : FS → Res Bool} {fe : FS → Res D} {ts : List Nat}
/-- the parts by their readings for every held list: joined -/
def jTG (K : Fg) (F : Fx) (ts : List Nat) (g : D → FS → Option FS) : TG := fun v σ H Q => ∃ D acc, rdTG K (F.blk D acc) ts g v σ H Q
def jT (K : Fg) (F : Fx) (t : FS → Res Bool) : TT := fun σ H Q => ∃ D acc, rdT K (F.blk D acc) t σ H Q
def jE (K : Fg) (F : Fx) (f : FS → Res D) : TE := fun σ H Q => ∃ D acc, rdG K (F.blk D acc) PR f σ H Q
theorem jG_ok {X : Cx} {e : Expr} (h : ∀ D acc, EG X (F.blk D acc) e ts g) : PG X e (jTG X.K F ts g) := ⟨fun pins s σ H v u Q I r ⟨D, acc, q⟩ => (h D acc).run pins s σ H v u Q I r q⟩
theorem jT_ok {X : Cx} {e : List Expr} (h : ∀ D acc, ETs X (F.blk D acc) e t) : PTs X e (jT X.K F t) := ⟨fun pins s σ H Q I ⟨D, acc, q⟩ => (h D acc).run pins s σ H Q I q⟩
theorem jE_ok {X : Cx} {e : Expr} (h : ∀ D acc, ED X (F.blk D acc) e fe) : PE X e (jE X.K F fe) := ⟨fun pins s σ H Q I ⟨D, acc, q⟩ => (h D acc).run pins s σ H Q I q⟩
theorem lc_read {vs : List Nat} (hts : ∀ j, j ∈ ts → j ∈ vs) {σ : Sl} {H : Hp} {Q : VK} (h : rdG X.K F VR (fLc it g t fe vs) σ H Q) : tLc (rdI X.K F it) (jTG X.K F ts g) (jT X.K F t) (jE X.K F fe) vs σ H Q := by
  obtain ⟨S, r, p⟩ := h
  refine ⟨S, r, ?_⟩
  unfold fLc bnd at p
  cases e : it S with
  | exn e2 S1 => rw [e] at p; exact p
  | bad => rw [e] at p; exact p
  | ok ds S1 =>
    rw [e] at p
    simp only [Res.bind_ok] at p
    intro J H1 p1 r1 y D hD
    have d0 : F.H0 D = none := r1.none0 hD
    have nh : ∀ q ∈ F.held, q.1 ≠ D := fun q hq e => by obtain ⟨⟨z, _⟩, _⟩ := r1.held q hq; rw [e, hD] at z; cases z
    refine ⟨fun i m H => ∃ S vsA acc, Rel X.K F S σ H ∧ Pers H1 H ∧ m = ds.length - i ∧ i ≤ ds.length ∧ H D = some (.lst vsA) ∧ PdAll X.K H vsA acc ∧ (∀ i, Owned S i → σ[i]? ≠ some (some (.ref D))) ∧ postG X.K F VR (lcF g t fe vs (ds.drop i) S acc) σ H Q,
      ⟨ds.length, S1, [], [], r1.new hD, Pers.new hD, rfl, Nat.zero_le _, upd_same, .nil, fun j hj => r1.unslot hD hj, postG.later (p1.trans (Pers.new hD)) p⟩, ?_⟩
    rintro i m H ⟨S, vsA, acc, r, pH, rfl, hi, hDl, hA, hu, p⟩
    by_cases hl : i < ds.length
    · refine .inr ⟨y.go i H pH hl, fun H' => ∃ S vsA acc, Rel X.K F S σ H' ∧ Pers H1 H' ∧ H' D = some (.lst vsA) ∧ PdAll X.K H' vsA acc ∧ (∀ i, Owned S i → σ[i]? ≠ some (some (.ref D))) ∧ postG X.K F VR (lcF g t fe vs (ds.drop (i + 1)) S acc) σ H' Q,
        fun H' ⟨S, vsA, acc, a1, a2, a3, a4, a5, a6⟩ => ⟨ds.length - (i + 1), by omega, S, vsA, acc, a1, a2, rfl, hl, a3, a4, a5, a6⟩, fun x H' hy => ?_⟩
      obtain ⟨p2, k2, v2⟩ := y.yld i H x H' ds[i] pH (List.getElem?_eq_getElem hl) hy
      rw [List.drop_eq_getElem_cons hl] at p
      simp only [lcF] at p
      have rb : Rel X.K (F.blk D vsA) S σ H := r.hold hDl d0 hu
      have rb2 : Rel X.K (F.blk D vsA) S σ H' := k2 _ _ _ rb
      have rw2 := rb2.wiped (vs := vs)
      refine ⟨D, vsA, wipeS S vs, ds[i], rw2, v2, ?_⟩
      cases e2 : g ds[i] (wipeS S vs) with
      | none => rw [e2] at p; exact p
      | some S1 =>
        rw [e2] at p
        simp only at p
        intro σ3 H3 p3 r3 b3
        have hw3 : wipe σ3 vs = wipe σ vs := by
          apply List.ext_getElem?
          intro j
          by_cases hj : j ∈ vs
          · have l1 : (wipe σ3 vs).length = (wipe σ vs).length := by rw [wipe_length, b3.1]
            by_cases hl2 : j < σ.length
            · rw [wipe_eq, wipe_eq, setAll_in hj (by rw [b3.1, wipe_length]; exact hl2), setAll_in hj hl2]
            · rw [List.getElem?_eq_none (by rw [l1, wipe_length]; omega), List.getElem?_eq_none (by rw [wipe_length]; omega)]
          · rw [wipe_eq, setAll_out hj, b3.2 j (fun z => hj (hts j z)), wipe_eq]
        refine ⟨hw3, D, vsA, S1, r3, ?_⟩
        have pH3 : Pers H1 H3 := (pH.trans p2).trans p3
        cases e3 : t S1 with
        | exn e4 S2 => rw [e3] at p; exact p.elim
        | bad => rw [e3] at p; exact p
        | ok k S2 =>
          rw [e3] at p
          intro H4 p4 r4
          have pH4 := pH3.trans p4
          have pp4 : Pers H H4 := (p2.trans p3).trans p4
          cases k with
          | false =>
            rw [if_neg Bool.false_ne_true]
            have rr := r.rest r4.unhold pp4 hw3
            have h4 := r4.held (D, .lst vsA) (List.mem_cons_self ..)
            refine ⟨_, vsA, acc, rr, pH4, h4.1.1, hA.mono pp4, fun j hj => ?_, postG.later pp4 p⟩
            obtain ⟨ob, hj⟩ := hj
            have : j ∉ vs ∧ Owned S2 j := by
              rcases hj with h | h
              · rcases setAll_some h with ⟨h1, h2⟩ | ⟨_, _, h2⟩
                · exact ⟨h1, ob, .inl h2⟩
                · obtain ⟨d, e, _⟩ := keepD_some h2; cases e
              · rcases setAll_some h with ⟨h1, h2⟩ | ⟨_, _, h2⟩
                · exact ⟨h1, ob, .inr h2⟩
                · obtain ⟨d, e, _⟩ := keepD_some h2; cases e
            have q := h4.2.2 j this.2
            have out : σ3[j]? = σ[j]? := by rw [b3.2 j (fun z => this.1 (hts j z)), wipe_eq, setAll_out this.1]
            rw [← out]; exact q
          | true =>
            rw [if_pos rfl]
            refine ⟨D, vsA, S2, r4, ?_⟩
            simp only at p
            cases e5 : fe S2 with
            | exn e6 S3 => rw [e5] at p; exact p.elim
            | bad => rw [e5] at p; exact p
            | ok yd S3 =>
              rw [e5] at p
              simp only at p
              intro yv H5 p5 r5 v5
              have pp5 : Pers H H5 := pp4.trans p5
              have h5 := r5.held (D, .lst vsA) (List.mem_cons_self ..)
              have rr := r.rest r5.unhold pp5 hw3
              have hu5 : ∀ j, Owned (restS S S3 vs) j → σ[j]? ≠ some (some (.ref D)) := fun j hj => by
                obtain ⟨ob, hj⟩ := hj
                have : j ∉ vs ∧ Owned S3 j := by
                  rcases hj with h | h
                  · rcases setAll_some h with ⟨h1, h2⟩ | ⟨_, _, h2⟩
                    · exact ⟨h1, ob, .inl h2⟩
                    · obtain ⟨d, e, _⟩ := keepD_some h2; cases e
                  · rcases setAll_some h with ⟨h1, h2⟩ | ⟨_, _, h2⟩
                    · exact ⟨h1, ob, .inr h2⟩
                    · obtain ⟨d, e, _⟩ := keepD_some h2; cases e
                have q := h5.2.2 j this.2
                have out : σ3[j]? = σ[j]? := by rw [b3.2 j (fun z => this.1 (hts j z)), wipe_eq, setAll_out this.1]
                rw [← out]; exact q
              by_cases hz : acc.length < sizeLine
              · rw [if_pos hz] at p
                have hm : Mut (H5 D) := by rw [h5.1.1]; trivial
                have p6 : Pers H5 (upd H5 D (.lst (vsA ++ [yv]))) := Pers.put (.inl hm)
                have r6 : Rel X.K F (restS S S3 vs) σ (upd H5 D (.lst (vsA ++ [yv]))) := rr.put (.inl hm) (.inl d0) nh rfl (fun j sv e => .inl ⟨e, hu5 j⟩) fun j h => h
                exact ⟨vsA, h5.1.1, by rw [hA.length]; exact hz, _, _, acc ++ [yd], r6, (pH4.trans p5).trans p6, upd_same, ((hA.mono pp5).mono p6).append (.cons (Pd.mono p6 v5) .nil), hu5, postG.later (pp5.trans p6) p⟩
              · rw [if_neg hz] at p; exact p.elim
    · have e : i = ds.length := by omega
      subst e
      rw [List.drop_length] at p
      exact .inl ⟨y.stop H pH, p _ H (.refl H) r ⟨D, rfl, ⟨vsA, hDl, hA⟩, d0, hu, nh⟩⟩
theorem e_lc (hc : X.calm = true) (hN : X.N.Nodup) (hi : EI X F tg iter it) (ok : BlkOk X.N X.env.scope scope own) (hts : ∀ j, j ∈ ts → j ∈ own.map (·.2))
    (hg : ∀ (s : Shared) (H : Hp) (C : Addr) (cl : List (Str × Addr)) (fp : List Addr) (D : Addr) (acc : List V), EG (X.blk s H scope (compEnvC scope cl C X.env) fp) (F.blk D acc) tg ts g)
    (ht : ∀ (s : Shared) (H : Hp) (C : Addr) (cl : List (Str × Addr)) (fp : List Addr) (D : Addr) (acc : List V), ETs (X.blk s H scope (compEnvC scope cl C X.env) fp) (F.blk D acc) ifs t)
    (he : ∀ (s : Shared) (H : Hp) (C : Addr) (cl : List (Str × Addr)) (fp : List Addr) (D : Addr) (acc : List V), ED (X.blk s H scope (compEnvC scope cl C X.env) fp) (F.blk D acc) elt fe)
    (hs : ∀ x, foldedSetIterable iter X.env x = pure x := by intro _; rfl) : EV X F (.ListComp elt [⟨tg, iter, ifs, 0⟩] scope pos) (fLc it g t fe (own.map (·.2))) :=
  (pe_lc hc hN hi ok (fun s H C cl fp => jG_ok (F := F) (hg s H C cl fp)) (fun s H C cl fp => jT_ok (F := F) (ht s H C cl fp)) (fun s H C cl fp => jE_ok (F := F) (he s H C cl fp)) hs).via fun σ H Q h => lc_read hts h
end
end Fz
end

section
set_option Elab.async false
set_option linter.all false
set_option maxRecDepth 100000
set_option maxHeartbeats 4000000
/-! F7: defs and their calls. -/
namespace Fz
open PySem PySem.Spec PyProof.Rows L2
inductive CRes where
  | ok (v : SV) (args : List SV)
  | exn (e : Exn) (args : List SV)
  | bad
abbrev Den := List SV → CRes
/-- room, and no object is being shown -/
structure RoomG (k : Nat) (A : Around) : Prop where
  rm : Room k A
  gd : A.guards = some []
theorem RoomG.mono {j k : Nat} {A : Around} (r : RoomG k A) (h : j ≤ k) : RoomG j A := ⟨r.rm.mono h, r.gd⟩
theorem RoomG.deeper {k : Nat} {A : Around} (r : RoomG (k + 1) A) (env : Env) : RoomG k (A.deeper env) := ⟨r.rm.deeper env, r.gd⟩
/-- x is a function that keeps all and answers g, from now on, in each frame below -/
def CloOk (P : Program) (w : World) (K : Fg) (mg : Str → Option Value) (base : Heap) (T : List Addr) (H : Hp) (x : V) (k : Nat) (g : FnD) : Prop :=
  ∃ (f : Addr) (oc : Value) (od : Option Addr) (fd : FuncData) (sl : Array (Option Value)) (u : HO), x = .ref f ∧ H f = some (.frz ⟨oc, od, .func fd, sl⟩ u) ∧
    ∀ H1, Pers H H1 → ∀ (A : Around) (outer : List Env) (s : Shared) (us : List Value) (vs : List V) (ds : List D) (d : D) (Q : VK) (E : XK), RoomG k A → Env0 P w K mg base A outer s H1 → (∀ P ∈ T, TabOk H1 P) → Vals vs us → PdAll K H1 vs ds → g ds = some d →
      (∀ y H2, Pers H1 H2 → (∀ a o, H1 a = some o → isTbl o = false → H2 a = some o) → (∀ a o, H1 a = some o → ∃ u, H2 a = some u) → (∀ P ∈ T, TabOk H2 P) → Pd K H2 y d → Q y H2) → codeAny (model P w) A (.call (.ref f) ⟨us, []⟩) (CR CX0 outer P w H1 s Q E) s
/-- the words of a function that a frame makes -/
structure FnT where
  name : Str
  params : Arguments
  body : FuncBody
  scope : Scope
/-- a function that a frame with these cells has made -/
def fnG (t : FnT) (qual : Str) (cl : List (Str × Addr)) (pm cdv ct doc : Value) : FuncData :=
  { name := t.name, qualname := qual, params := t.params, body := t.body, scope := t.scope, globals := mainGlobals, closure := cl, closureTuple := ct, code := cdv, builtins := builtinsNs, defaults := .none, kwdefaults := .none, annotations := none, pyModule := pm, doc := doc }
def FnMade (cells : List (Str × Addr)) (t : FnT) (H : Hp) (x : V) : Prop :=
  ∃ (f : Addr) (qual : Str) (pm cdv ct doc : Value) (u : HO), x = .ref f ∧ H f = some (.frz { cls := .type "function", data := .func (fnG t qual (cloFrom cells t.scope.names []) pm cdv ct doc) } u) ∧ CodeG H cdv ∧ ∀ xs, u ≠ .lst xs
theorem FnMade.later {cells : List (Str × Addr)} {t : FnT} {H H' : Hp} {x : V} (h : FnMade cells t H x) (p : Pers H H') : FnMade cells t H' x :=
  let ⟨f, qual, pm, cdv, ct, doc, u, h1, h2, h3, h4⟩ := h; ⟨f, qual, pm, cdv, ct, doc, u, h1, p.frz _ _ _ h2, h3.later p, h4⟩
/-- x is the j-th function of those that the frame with these cells makes -/
def LocOk (cells : List (Str × Addr)) (nfs : List FnT) (H : Hp) (x : V) (j : Nat) : Prop := ∃ t, nfs[j]? = some t ∧ FnMade cells t H x
def cloX (P : Program) (w : World) (K : Fg) (mg : Str → Option Value) (base : Heap) (T : List Addr) (cells : List (Str × Addr)) (nfs : List FnT) : ClX where
  clo := CloOk P w K mg base T
  cloM := fun p ⟨f, oc, od, fd, sl, u, h1, h2, h3⟩ => ⟨f, oc, od, fd, sl, u, h1, p.frz _ _ _ h2, fun H1 q => h3 H1 (p.trans q)⟩
  loc := LocOk cells nfs
  locM := fun p ⟨t, h1, h2⟩ => ⟨t, h1, h2.later p⟩
  self := fun _ => True
  selfM := fun _ _ => trivial
abbrev CloR := Hp → V → Nat → FnD → Prop
def ArgR (K : Fg) (w : World) (c : CloR) (H : Hp) (x : V) : SV → Prop
  | .d d => Pd K H x d
  | .pin ob => ∃ a, x = .ref a ∧ ObR K w H a ob
  | .own _ => False
  | .x (.fn k g) => c H x k g
  | .x _ => False
def PinIx (svs : List SV) (i : Nat) : Prop := ∃ ob, svs[i]? = some (.pin ob)
structure ArgsR (K : Fg) (w : World) (c : CloR) (H : Hp) (vs : List V) (svs : List SV) : Prop where
  len : vs.length = svs.length
  get : ∀ (i : Nat) (sv : SV), svs[i]? = some sv → ∃ x, vs[i]? = some x ∧ ArgR K w c H x sv
  apart : ∀ (i j : Nat) (a : Addr), i ≠ j → PinIx svs i → PinIx svs j → vs[i]? = some (.ref a) → vs[j]? ≠ some (.ref a)
def PinAd (vs : List V) (svs : List SV) (a : Addr) : Prop := ∃ i, PinIx svs i ∧ vs[i]? = some (.ref a)
/-- what a call leaves -/
structure Left (K : Fg) (w : World) (T : List Addr) (vs : List V) (svs svs' : List SV) (H H' : Hp) : Prop where
  pers : Pers H H'
  keep : ∀ a o, H a = some o → ¬ PinAd vs svs a → isTbl o = false → H' a = some o
  there : ∀ a o, H a = some o → ∃ u, H' a = some u
  tabs : ∀ P ∈ T, TabOk H' P
  args : ∀ (i : Nat) (ob : Ob) (a : Addr), svs'[i]? = some (.pin ob) → vs[i]? = some (.ref a) → ObR K w H' a ob
def RetR (K : Fg) (w : World) (H H' : Hp) (x : V) : SV → Prop
  | .d d => Pd K H' x d
  | .own ob => ∃ a, x = .ref a ∧ ObR K w H' a ob ∧ H a = none
  | .pin _ => False
  | .x _ => False
def spF (K : Fg) (w : World) (c : CloR) (T : List Addr) (n : Nat) (den : Den) : Sp := fun vs H Q E => ∃ svs, svs.length = n ∧ ArgsR K w c H vs svs ∧ (∀ P ∈ T, TabOk H P) ∧ match den svs with
  | .ok ret svs' => ∀ x H', Left K w T vs svs svs' H H' → RetR K w H H' x ret → Q x H'
  | .exn e svs' => ∀ c dx H', Left K w T vs svs svs' H H' → ExR K H' e c dx → E c dx H'
  | .bad => False
abbrev spG (P : Program) (w : World) (K : Fg) (mg : Str → Option Value) (base : Heap) (T : List Addr) (n : Nat) (den : Den) : Sp := spF K w (CloOk P w K mg base T) T n den
/-! ### a body's den as a def's -/
/-- the pinned arguments as they stand at the end -/
def pinsAt : List SV → FS → Option (List SV)
  | [], _ => some []
  | .pin _ :: r, some (.pin ob) :: S => (pinsAt r S).map (.pin ob :: ·)
  | .pin _ :: _, _ => none
  | sv :: r, _ :: S => (pinsAt r S).map (sv :: ·)
  | _ :: _, [] => none
def startS (n : Nat) (svs : List SV) : FS := svs.map some ++ List.replicate (n - svs.length) none
def denOf (n : Nat) (body : FS → SRes) : Den := fun svs => match body (startS n svs) with
  | .rt v S => (match pinsAt svs S with
    | some svs' => .ok v svs'
    | none => .bad)
  | .nx S => (match pinsAt svs S with
    | some svs' => .ok (.d .none) svs'
    | none => .bad)
  | .exn e S => (match pinsAt svs S with
    | some svs' => .exn e svs'
    | none => .bad)
  | _ => .bad
def pinL : Nat → List V → List SV → List (Nat × Addr)
  | i, .ref a :: vs, .pin _ :: svs => (i, a) :: pinL (i + 1) vs svs
  | i, _ :: vs, _ :: svs => pinL (i + 1) vs svs
  | _, _, _ => []
theorem mem_pinL {j : Nat} {a : Addr} : ∀ {i : Nat} {vs : List V} {svs : List SV}, (j, a) ∈ pinL i vs svs ↔ i ≤ j ∧ (∃ ob, svs[j - i]? = some (.pin ob)) ∧ vs[j - i]? = some (.ref a)
  | i, [], svs => by cases svs <;> simp [pinL]
  | i, v :: vs, [] => by cases v <;> simp [pinL]
  | i, v :: vs, sv :: svs => by
    have step : (j, a) ∈ pinL (i + 1) vs svs ↔ i + 1 ≤ j ∧ (∃ ob, (sv :: svs)[j - i]? = some (.pin ob)) ∧ (v :: vs)[j - i]? = some (.ref a) := by
      rw [mem_pinL (i := i + 1)]
      constructor
      · rintro ⟨h1, h2, h3⟩
        have e : j - i = (j - (i + 1)) + 1 := by omega
        exact ⟨h1, by rw [e]; simpa using h2, by rw [e]; simpa using h3⟩
      · rintro ⟨h1, h2, h3⟩
        have e : j - i = (j - (i + 1)) + 1 := by omega
        rw [e] at h2 h3
        exact ⟨h1, by simpa using h2, by simpa using h3⟩
    have here : ∀ {P : Prop}, (i ≤ j → i ≠ j → P) → (i + 1 ≤ j → P) := fun h q => h (by omega) (by omega)
    cases sv with
    | pin ob =>
      cases v with
      | ref b =>
        simp only [pinL, List.mem_cons, Prod.mk.injEq]
        constructor
        · rintro (⟨rfl, rfl⟩ | h)
          · exact ⟨Nat.le_refl _, ⟨ob, by simp⟩, by simp⟩
          · obtain ⟨h1, h2, h3⟩ := step.mp h
            exact ⟨by omega, h2, h3⟩
        · rintro ⟨h1, h2, h3⟩
          by_cases e : j = i
          · subst e
            simp at h3
            exact .inl ⟨rfl, h3.symm⟩
          · exact .inr (step.mpr ⟨by omega, h2, h3⟩)
      | _ =>
        simp only [pinL]
        rw [step]
        constructor
        · rintro ⟨h1, h2, h3⟩; exact ⟨by omega, h2, h3⟩
        · rintro ⟨h1, h2, h3⟩
          refine ⟨?_, h2, h3⟩
          by_cases e : j = i
          · subst e; simp at h3
          · omega
    | d x =>
      have e0 : pinL i (v :: vs) (.d x :: svs) = pinL (i + 1) vs svs := by cases v <;> rfl
      rw [e0, step]
      constructor
      · rintro ⟨h1, h2, h3⟩; exact ⟨by omega, h2, h3⟩
      · rintro ⟨h1, h2, h3⟩
        refine ⟨?_, h2, h3⟩
        by_cases e : j = i
        · subst e; simp at h2
        · omega
    | x x =>
      have e0 : pinL i (v :: vs) (.x x :: svs) = pinL (i + 1) vs svs := by cases v <;> rfl
      rw [e0, step]
      constructor
      · rintro ⟨h1, h2, h3⟩; exact ⟨by omega, h2, h3⟩
      · rintro ⟨h1, h2, h3⟩
        refine ⟨?_, h2, h3⟩
        by_cases e : j = i
        · subst e; simp at h2
        · omega
    | own x =>
      have e0 : pinL i (v :: vs) (.own x :: svs) = pinL (i + 1) vs svs := by cases v <;> rfl
      rw [e0, step]
      constructor
      · rintro ⟨h1, h2, h3⟩; exact ⟨by omega, h2, h3⟩
      · rintro ⟨h1, h2, h3⟩
        refine ⟨?_, h2, h3⟩
        by_cases e : j = i
        · subst e; simp at h2
        · omega
theorem pinsAt_get : ∀ {svs : List SV} {S : FS} {svs' : List SV} {i : Nat} {ob : Ob}, pinsAt svs S = some svs' → svs'[i]? = some (.pin ob) → S[i]? = some (some (.pin ob)) ∧ PinIx svs i
  | [], S, svs', i, ob, h, e => by simp [pinsAt] at h; subst h; simp at e
  | .pin o :: r, [], svs', i, ob, h, e => by simp [pinsAt] at h
  | .pin o :: r, none :: S, svs', i, ob, h, e => by simp [pinsAt] at h
  | .pin o :: r, some (.d d) :: S, svs', i, ob, h, e => by simp [pinsAt] at h
  | .pin o :: r, some (.own d) :: S, svs', i, ob, h, e => by simp [pinsAt] at h
  | .pin o :: r, some (.x d) :: S, svs', i, ob, h, e => by simp [pinsAt] at h
  | .pin o :: r, some (.pin o2) :: S, svs', i, ob, h, e => by
    simp only [pinsAt, Option.map_eq_some_iff] at h
    obtain ⟨t, h1, rfl⟩ := h
    cases i with
    | zero => simp at e; subst e; exact ⟨by simp, o, by simp⟩
    | succ i =>
      obtain ⟨h2, o3, h3⟩ := pinsAt_get (i := i) h1 (by simpa using e)
      exact ⟨by simpa using h2, o3, by simpa using h3⟩
  | .d d :: r, [], svs', i, ob, h, e => by simp [pinsAt] at h
  | .own d :: r, [], svs', i, ob, h, e => by simp [pinsAt] at h
  | .x d :: r, [], svs', i, ob, h, e => by simp [pinsAt] at h
  | .x d :: r, s0 :: S, svs', i, ob, h, e => by
    simp only [pinsAt, Option.map_eq_some_iff] at h
    obtain ⟨t, h1, rfl⟩ := h
    cases i with
    | zero => simp at e
    | succ i =>
      obtain ⟨h2, o3, h3⟩ := pinsAt_get (i := i) h1 (by simpa using e)
      exact ⟨by simpa using h2, o3, by simpa using h3⟩
  | .d d :: r, s0 :: S, svs', i, ob, h, e => by
    simp only [pinsAt, Option.map_eq_some_iff] at h
    obtain ⟨t, h1, rfl⟩ := h
    cases i with
    | zero => simp at e
    | succ i =>
      obtain ⟨h2, o3, h3⟩ := pinsAt_get (i := i) h1 (by simpa using e)
      exact ⟨by simpa using h2, o3, by simpa using h3⟩
  | .own d :: r, s0 :: S, svs', i, ob, h, e => by
    simp only [pinsAt, Option.map_eq_some_iff] at h
    obtain ⟨t, h1, rfl⟩ := h
    cases i with
    | zero => simp at e
    | succ i =>
      obtain ⟨h2, o3, h3⟩ := pinsAt_get (i := i) h1 (by simpa using e)
      exact ⟨by simpa using h2, o3, by simpa using h3⟩
section
variable {K : Fg} {w : World} {c : ClX} {T : List Addr} {N : List Str} {vs : List V} {svs : List SV} {H : Hp}
theorem startS_get {n i : Nat} {sv : SV} (h : (startS n svs)[i]? = some (some sv)) : svs[i]? = some sv := by
  unfold startS at h
  by_cases hi : i < svs.length
  · rw [List.getElem?_append_left (by simpa using hi), List.getElem?_map] at h
    cases e : svs[i]? with
    | none => rw [e] at h; cases h
    | some x => rw [e] at h; simpa using h
  · rw [List.getElem?_append_right (by simpa using hi)] at h
    rw [List.getElem?_replicate] at h
    split at h <;> cases h
theorem start_get {i : Nat} {x : V} (h : vs[i]? = some x) : (L2.start N vs)[i]? = some (some x) := by
  unfold L2.start
  have hi : i < vs.length := (List.getElem?_eq_some_iff.mp h).1
  rw [List.getElem?_append_left (by simpa using hi), List.getElem?_map, h]
  rfl
theorem rel_start (hl : svs.length ≤ N.length) (a : ArgsR K w c.clo H vs svs) (ht : ∀ P ∈ T, TabOk H P) (hself : c.self H) (E : XK) : Rel K ⟨H, pinL 0 vs svs, T, [], E, w, c⟩ (startS N.length svs) (L2.start N vs) H where
  len := by
    unfold startS L2.start
    simp only [List.length_append, List.length_map, List.length_replicate]
    rw [a.len]
  slot := fun i sv h => by
    have h2 := startS_get h
    obtain ⟨x, ex, ar⟩ := a.get i sv h2
    refine ⟨x, start_get ex, ?_⟩
    cases sv with
    | d d => exact ar
    | own ob => exact ar.elim
    | pin ob =>
      obtain ⟨b, rfl, q⟩ := ar
      exact ⟨b, rfl, q, mem_pinL.mpr ⟨Nat.zero_le _, ⟨ob, h2⟩, ex⟩⟩
    | x e =>
      cases e with
      | ro ob => exact ar.elim
      | fn k g => exact ar
      | loc j => exact ar.elim
  apart := fun i j b ne ⟨o1, h1⟩ ⟨o2, h2⟩ e1 e2 => by
    have k : ∀ {i o}, (startS N.length svs)[i]? = some (some (.own o)) ∨ (startS N.length svs)[i]? = some (some (.pin o)) → PinIx svs i := fun {i o} h => by
      rcases h with h | h
      · obtain ⟨x, _, ar⟩ := a.get i _ (startS_get h); exact ar.elim
      · exact ⟨o, startS_get h⟩
    have p1 := k h1
    have p2 := k h2
    have back : ∀ {i}, PinIx svs i → (L2.start N vs)[i]? = some (some (.ref b)) → vs[i]? = some (.ref b) := fun {i} ⟨o, h⟩ e => by
      obtain ⟨x, ex, _⟩ := a.get i _ h
      rw [start_get ex] at e
      cases e; exact ex
    exact a.apart i j b ne p1 p2 (back p1 e1) (back p2 e2)
  keep := fun _ _ e _ _ => e
  there := fun _ o e => ⟨o, e⟩
  tabs := ht
  self := hself
  held := fun _ h => nomatch h
/-- at a def's end -/
theorem left_of {E : XK} {S : FS} {σ : Sl} {H' : Hp} {svs' : List SV} (p : Pers H H') (r : Rel K ⟨H, pinL 0 vs svs, T, [], E, w, c⟩ S σ H') (e : pinsAt svs S = some svs') : Left K w T vs svs svs' H H' where
  pers := p
  keep := fun a o ho hn ht => r.keep a o ho (fun hm => by
    obtain ⟨⟨i, b⟩, h1, rfl⟩ := List.mem_map.mp hm
    obtain ⟨_, h2, h3⟩ := mem_pinL.mp h1
    exact hn ⟨i, h2, h3⟩) ht
  there := r.there
  tabs := r.tabs
  args := fun i ob a h1 h2 => by
    obtain ⟨h3, _⟩ := pinsAt_get e h1
    obtain ⟨x, ex, b, rfl, q, hp⟩ := r.slot i _ h3
    obtain ⟨_, _, h4⟩ := mem_pinL.mp hp
    have h5 : vs[i]? = some (.ref b) := h4
    rw [h2] at h5; cases h5; exact q
theorem ret_of {E : XK} {S : FS} {σ : Sl} {H' : Hp} {x : V} {v : SV} (h : VR K ⟨H, pinL 0 vs svs, T, [], E, w, c⟩ S σ H' x v) : RetR K w H H' x v := by
  cases v with
  | d d => exact h
  | own ob => obtain ⟨a, e, q, n, _⟩ := h; exact ⟨a, e, q, n⟩
  | pin ob => exact h.elim
  | x e => exact h.elim
end
/-- a function's promise, asked where no object is being shown -/
structure GOk (P : Program) (w : World) (K : Fg) (mg : Str → Option Value) (base : Heap) (k : Nat) (f : Addr) (fd : FuncData) (ps : List Str) (sp : Sp) : Prop where
  many : ∀ vs H Q E, sp vs H Q E → vs.length = ps.length
  go : ∀ (A : Around) (outer : List Env) (s : Shared) (H : Hp) (args : Args) (us : List Value) (vs : List V) (Q : VK) (E : XK), RoomG k A → Env0 P w K mg base A outer s H → BindsTo s fd args (ps.zip us) → Vals vs us → sp vs H Q E → codeAny (model P w) A (.call (.ref f) args) (CR CX0 outer P w H s Q E) s
/-- the body's den at the start, read -/
theorem den_read {K : Fg} {w : World} {c : ClX} {T : List Addr} {n : Nat} {fb : FS → SRes} {vs : List V} {svs : List SV} {H : Hp} {Q : VK} {E : XK} {N : List Str} (hn : N.length = n) (hl : svs.length ≤ N.length) (h2 : ArgsR K w c.clo H vs svs) (h3 : ∀ P ∈ T, TabOk H P) (hself : c.self H)
    (h4 : match denOf n fb svs with
      | .ok ret svs' => ∀ x H', Left K w T vs svs svs' H H' → RetR K w H H' x ret → Q x H'
      | .exn e svs' => ∀ c dx H', Left K w T vs svs svs' H H' → ExR K H' e c dx → E c dx H'
      | .bad => False) : rdS K ⟨H, pinL 0 vs svs, T, [], E, w, c⟩ fb { nx := fun _ H' => Q .non H', rt := Q } (L2.start N vs) H := by
  subst hn
  refine ⟨startS N.length svs, rel_start hl h2 h3 hself E, ?_⟩
  unfold denOf at h4
  cases e : fb (startS N.length svs) with
  | rt v S1 =>
    rw [e] at h4
    simp only at h4
    cases e2 : pinsAt svs S1 with
    | none => rw [e2] at h4; exact h4.elim
    | some svs' => rw [e2] at h4; exact fun x σ H' p r v => h4 x H' (left_of p r e2) (ret_of v)
  | nx S1 =>
    rw [e] at h4
    simp only at h4
    cases e2 : pinsAt svs S1 with
    | none => rw [e2] at h4; exact h4.elim
    | some svs' => rw [e2] at h4; exact fun σ H' p r => h4 .non H' (left_of p r e2) .non
  | exn e3 S1 =>
    rw [e] at h4
    simp only at h4
    cases e2 : pinsAt svs S1 with
    | none => rw [e2] at h4; exact h4.elim
    | some svs' => rw [e2] at h4; exact fun c dx σ H' p r v => h4 c dx H' (left_of p r e2) v
  | bk S1 => rw [e] at h4; exact h4.elim
  | ct S1 => rw [e] at h4; exact h4.elim
  | bad => rw [e] at h4; exact h4.elim
/-- THE RULE for a def: its body's den -/
theorem def_ok {P : Program} {w : World} {K : Fg} {mg : Str → Option Value} {base : Heap} {x qual : Str} {params : Arguments} {body : List Stmt} {scope : Scope} {f : Addr} {fd : FuncData} {N ps : List Str} {k : Nat} {T : List Addr} {fb : FS → SRes} {dvs : List V} {kws : List (Str × V)} {nfs : List FnT}
    (F : FunD K x qual params body scope dvs kws f fd) (S : FnScope N ps scope) (hl : ps.length ≤ N.length)
    (hb : ∀ (A : Around) (outer : List Env) (s : Shared) (H : Hp) (E1 : XK) (H0 : Hp) (pins : List (Nat × Addr)) (E : XK), RoomG k (A.deeper (envOfC qual scope s.heap.objs.size f fd.code)) → EB (cxOf CX0 P w K mg base N qual scope f fd.code A outer s H E1).nox ⟨H0, pins, T, [], E, w, cloX P w K mg base T (cxOf CX0 P w K mg base N qual scope f fd.code A outer s H E1).env.cells nfs⟩ body fb) :
    GOk P w K mg base (k + 1) f fd ps (spG P w K mg base T ps.length (denOf N.length fb)) := by
  obtain ⟨oc, od, dV, kV, doc, pm, an, cdv, ct, osl, rfl, lk, hcd, _, _⟩ := F.ex
  refine ⟨fun vs H Q E ⟨svs, h1, h2, _⟩ => h2.len.trans h1, fun A outer s H args us vs Q E hr e0 bt rv ⟨svs, h1, h2, h3, h4⟩ => ?_⟩
  have kin : K.In s.heap := e0.mod.kin.keeps fun a ob q => (e0.bs a ob q).1
  have nlim : s.heap.NoLimit := e0.mod.nolimit.keeps fun a ob q => (e0.bs a ob q).1
  -- the parameters are names of the def's own
  have names : ∀ y ∈ ps.zip us, scope.names.lookup y.1 = some .local ∨ (scope.names.lookup y.1 = some .cell ∧ ((cellsFrom (s.heap.objs.size + 1) scope.names []).lookup y.1).isSome = true) := fun y hy =>
    (S.par y.1 (List.of_mem_zip hy).1).imp id fun q => ⟨q, PySem.W.cellsFrom_some _ _ _ (.inl q)⟩
  refine codeAny_call_function hr.rm.depth (kin _ _ lk) rfl S.co S.gen rfl (PySem.W.codeRec_of kin hcd) (bt _ _ _ _ (wpAny_newFunctionEnv_cells S.kind names fun env he s1 x => ?_))
  subst he
  refine ⟨nlim.keeps x.toInCall.keep, codeAny_func ?_⟩
  have I := inv_start (CX := CX0) (E := E) S hr.rm.hd e0 (h2.len.trans h1) rv x
  have body_ := PSs.nox (hb A outer s H E H (pinL 0 vs svs) E (hr.deeper _))
  refine wpAny_mono (body_.run [] s1 _ H _ I (den_read rfl (by omega) h2 h3 trivial h4)) (fun fl s' q => ?_) fun _ _ q => q
  cases fl with
  | next => obtain ⟨σ2, H2, J, z⟩ := q; exact ⟨.non, H2, J.os, J.bare, J.base, J.hok, rfl, z⟩
  | ret u => obtain ⟨v, σ2, H2, J, rr, z⟩ := q; exact ⟨v, H2, J.os, J.bare, J.base, J.hok, rr, z⟩
  | brk => obtain ⟨_, _, _, z⟩ := q; exact z.elim
  | cont => obtain ⟨_, _, _, z⟩ := q; exact z.elim
/-! ### arguments: data, or a slot that is handed on -/
inductive AD where
  | d (x : D)
  | s (i : Nat)
def ADR (K : Fg) (H : Hp) (σ : Sl) (x : V) : AD → Prop
  | .d d => Pd K H x d
  | .s i => σ[i]? = some (some x)
def AS (K : Fg) (_ : Fx) (_ : FS) (σ : Sl) (H : Hp) (xs : List V) (as : List AD) : Prop := Paired (ADR K H σ) xs as
abbrev EAS (X : Cx) (F : Fx) (es : List Expr) (f : FS → Res (List AD)) : Prop := PA X es (rdG X.K F AS f)
abbrev EKS (X : Cx) (F : Fx) (es : List Keyword) (f : FS → Res (List AD)) : Prop := PK X es (rdG X.K F AS f)
theorem _root_.L2.PK.via {X : Cx} {e : List Keyword} {t t' : TA} (h : PK X e t) (hw : ∀ σ H Q, t' σ H Q → t σ H Q) : PK X e t' := ⟨fun p pins s σ H Q I q => h.run p pins s σ H Q I (hw σ H Q q)⟩
def fAD (f : FS → Res D) (g : FS → Res (List AD)) : FS → Res (List AD) := bnd f fun d => bnd g fun ds => fC (.d d :: ds)
def fAS (i : Nat) (g : FS → Res (List AD)) : FS → Res (List AD) := fun S => match S[i]? with
  | some (some _) => bnd g (fun ds => fC (.s i :: ds)) S
  | _ => .bad
section
variable {X : Cx} {F : Fx} {e : Expr} {es : List Expr} {f : FS → Res D} {g : FS → Res (List AD)} {pos kpos p : Pos} {kws : List Keyword} {nm : Option Str}
theorem as_nil : EAS X F [] (fC []) := pa_nil.via fun _ _ _ ⟨_, r, p⟩ => p.ok r .nil
theorem tConsD_of {t : TA} {σ : Sl} {H : Hp} {Q : List V → Hp → Prop} (ht : ∀ Q, rdG X.K F AS g σ H Q → t σ H Q) (h : rdG X.K F AS (fAD f g) σ H Q) : ∀ (hb : ∀ σ H Q, rdG X.K F AS g σ H Q → t σ H Q), tCons (rdG X.K F PR f) t σ H Q := fun hb =>
  (rdG.bind h).imp fun x H1 ⟨d, S1, r1, v1, p1, q1⟩ => hb _ _ _ ((rdG.bind (k := fun ds => fC (.d d :: ds)) (R' := AS) ⟨S1, r1, q1⟩).imp fun xs H2 ⟨ds, S2, r2, v2, p2, q2⟩ => q2.ok r2 (.cons (show ADR _ _ _ _ (.d d) from Pd.mono p2 v1) v2))
theorem tConsS_of {i : Nat} {t : TA} {σ : Sl} {H : Hp} {Q : List V → Hp → Prop} (h : rdG X.K F AS (fAS i g) σ H Q) (hb : ∀ σ H Q, rdG X.K F AS g σ H Q → t σ H Q) : tCons (tVar i) t σ H Q := by
  obtain ⟨S, r, p⟩ := h
  unfold fAS at p
  split at p
  · rename_i sv hs
    obtain ⟨x, ex, _⟩ := r.slot i _ hs
    exact ⟨x, ex, hb _ _ _ ((rdG.bind (k := fun ds => fC (.s i :: ds)) (R' := AS) ⟨S, r, p⟩).imp fun xs H2 ⟨ds, S2, r2, v2, p2, q2⟩ => q2.ok r2 (.cons (show ADR _ _ _ _ (.s i) from ex) v2))⟩
  · exact p.elim
theorem as_d (ha : ED X F e f) (hr : EAS X F es g) (hs : starEach (e :: es) X.env = (false, eval e X.env) :: starEach es X.env := by rfl) : EAS X F (e :: es) (fAD f g) :=
  (pa_cons ha hr hs).via fun σ H Q h => tConsD_of (fun _ h => h) h fun _ _ _ h => h
theorem as_s {i : Nat} (ha : PE X e (tVar i)) (hr : EAS X F es g) (hs : starEach (e :: es) X.env = (false, eval e X.env) :: starEach es X.env := by rfl) : EAS X F (e :: es) (fAS i g) :=
  (pa_cons ha hr hs).via fun σ H Q h => tConsS_of h fun _ _ _ h => h
theorem ks_nil : EKS X F [] (fC []) := pk_nil.via fun _ _ _ ⟨_, r, p⟩ => p.ok r .nil
theorem ks_d (ha : ED X F e f) (hr : EKS X F kws g) : EKS X F (⟨nm, e, kpos⟩ :: kws) (fAD f g) := (pk_cons ha hr).via fun σ H Q h => tConsD_of (fun _ h => h) h fun _ _ _ h => h
/-- the arguments as a callee takes them -/
def resolve (S : FS) : List AD → Option (List SV)
  | [] => some []
  | .d d :: r => (resolve S r).map (.d d :: ·)
  | .s i :: r => match S[i]? with
    | some (some (.own ob)) => (resolve S r).map (.pin ob :: ·)
    | some (some (.pin ob)) => (resolve S r).map (.pin ob :: ·)
    | _ => none
/-- the slots behind the call -/
def setOb (S : FS) (i : Nat) (ob : Ob) : FS := match S[i]? with
  | some (some (.pin _)) => S.set i (some (.pin ob))
  | _ => S.set i (some (.own ob))
def back : List AD → List SV → FS → Option FS
  | [], _, S => some S
  | .d _ :: r, _ :: svs, S => back r svs S
  | .s i :: r, .pin ob :: svs, S => back r svs (setOb S i ob)
  | _, _, _ => none
def slotsOf : List AD → List Nat
  | [] => []
  | .d _ :: r => slotsOf r
  | .s i :: r => i :: slotsOf r
/-- what a call does -/
def callD (den : Den) (as : List AD) : FS → Res SV := fun S => if (slotsOf as).Nodup then (match resolve S as with
  | some svs => (match den svs with
    | .ok ret svs' => (match back as svs' S with
      | some S' => .ok ret S'
      | none => .bad)
    | .exn e svs' => (match back as svs' S with
      | some S' => .exn e S'
      | none => .bad)
    | .bad => .bad)
  | none => .bad) else .bad
theorem setOb_length (S : FS) (i : Nat) (ob : Ob) : (setOb S i ob).length = S.length := by
  unfold setOb; split <;> exact List.length_set ..
theorem setOb_ne {S : FS} {i j : Nat} {ob : Ob} (h : j ≠ i) : (setOb S i ob)[j]? = S[j]? := by
  unfold setOb; split <;> exact List.getElem?_set_ne (Ne.symm h)
theorem setOb_get {S : FS} {i : Nat} {ob : Ob} (h : i < S.length) : (setOb S i ob)[i]? = some (some (match S[i]? with | some (some (.pin _)) => .pin ob | _ => .own ob)) := by
  unfold setOb
  split <;> rw [List.getElem?_set_self h]
theorem setOb_congr {S1 S2 : FS} {i : Nat} {ob : Ob} (hl : S1.length = S2.length) (h : S1[i]? = S2[i]?) : (setOb S1 i ob)[i]? = (setOb S2 i ob)[i]? := by
  by_cases hi : i < S1.length
  · rw [setOb_get hi, setOb_get (hl ▸ hi), h]
  · rw [List.getElem?_eq_none (by rw [setOb_length]; omega), List.getElem?_eq_none (by rw [setOb_length]; omega)]
theorem back_length : ∀ {as : List AD} {svs : List SV} {S S' : FS}, back as svs S = some S' → S'.length = S.length
  | [], _, S, S', h => by simp [back] at h; rw [h]
  | .d _ :: r, [], S, S', h => by simp [back] at h
  | .d _ :: r, _ :: svs, S, S', h => back_length (as := r) (by simpa [back] using h)
  | .s i :: r, [], S, S', h => by simp [back] at h
  | .s i :: r, .d _ :: svs, S, S', h => by simp [back] at h
  | .s i :: r, .own _ :: svs, S, S', h => by simp [back] at h
  | .s i :: r, .x _ :: svs, S, S', h => by simp [back] at h
  | .s i :: r, .pin ob :: svs, S, S', h => (back_length (as := r) (by simpa [back] using h)).trans (setOb_length ..)
theorem back_out {j : Nat} : ∀ {as : List AD} {svs : List SV} {S S' : FS}, back as svs S = some S' → j ∉ slotsOf as → S'[j]? = S[j]?
  | [], _, S, S', h, _ => by simp [back] at h; rw [h]
  | .d _ :: r, [], S, S', h, _ => by simp [back] at h
  | .d _ :: r, _ :: svs, S, S', h, hj => back_out (as := r) (by simpa [back] using h) hj
  | .s i :: r, [], S, S', h, _ => by simp [back] at h
  | .s i :: r, .d _ :: svs, S, S', h, _ => by simp [back] at h
  | .s i :: r, .own _ :: svs, S, S', h, _ => by simp [back] at h
  | .s i :: r, .x _ :: svs, S, S', h, _ => by simp [back] at h
  | .s i :: r, .pin ob :: svs, S, S', h, hj => by
    have h1 : j ≠ i := fun e => hj (by simp [slotsOf, e])
    have h2 : j ∉ slotsOf r := fun e => hj (by simp [slotsOf, e])
    exact (back_out (as := r) (by simpa [back] using h) h2).trans (setOb_ne h1)
theorem slots_mem {j : Nat} : ∀ {as : List AD}, j ∈ slotsOf as ↔ ∃ i : Nat, as[i]? = some (.s j)
  | [] => by simp [slotsOf]
  | .d x :: r => by
    rw [show slotsOf (.d x :: r) = slotsOf r from rfl, slots_mem (as := r)]
    constructor
    · rintro ⟨i, h⟩; exact ⟨i + 1, by simpa using h⟩
    · rintro ⟨i, h⟩
      cases i with
      | zero => simp at h
      | succ i => exact ⟨i, by simpa using h⟩
  | .s k :: r => by
    rw [show slotsOf (.s k :: r) = k :: slotsOf r from rfl, List.mem_cons, slots_mem (as := r)]
    constructor
    · rintro (rfl | ⟨i, h⟩)
      · exact ⟨0, rfl⟩
      · exact ⟨i + 1, by simpa using h⟩
    · rintro ⟨i, h⟩
      cases i with
      | zero => simp at h; exact .inl h.symm
      | succ i => exact .inr ⟨i, by simpa using h⟩
theorem slots_inj {j : Nat} : ∀ {as : List AD} {i i' : Nat}, (slotsOf as).Nodup → as[i]? = some (.s j) → as[i']? = some (.s j) → i = i'
  | [], i, i', _, h, _ => by simp at h
  | .d _ :: r, i, i', hn, h, h' => by
    cases i with
    | zero => simp at h
    | succ i =>
      cases i' with
      | zero => simp at h'
      | succ i' => exact congrArg Nat.succ (slots_inj (as := r) (i := i) (i' := i') (j := j) hn (by simpa using h) (by simpa using h'))
  | .s k :: r, i, i', hn, h, h' => by
    obtain ⟨n1, n2⟩ := List.nodup_cons.mp hn
    cases i with
    | zero =>
      cases i' with
      | zero => rfl
      | succ i' =>
        simp at h
        subst h
        exact absurd (slots_mem.mpr ⟨i', by simpa using h'⟩) n1
    | succ i =>
      cases i' with
      | zero =>
        simp at h'
        subst h'
        exact absurd (slots_mem.mpr ⟨i, by simpa using h⟩) n1
      | succ i' => exact congrArg Nat.succ (slots_inj (as := r) (i := i) (i' := i') (j := j) n2 (by simpa using h) (by simpa using h'))
theorem back_in {j : Nat} : ∀ {as : List AD} {svs : List SV} {S S' : FS} {i : Nat}, back as svs S = some S' → (slotsOf as).Nodup → as[i]? = some (.s j) →
    ∃ ob, svs[i]? = some (.pin ob) ∧ S'[j]? = (setOb S j ob)[j]?
  | [], _, S, S', i, h, _, e => by simp at e
  | .d _ :: r, [], S, S', i, h, _, _ => by simp [back] at h
  | .d _ :: r, _ :: svs, S, S', i, h, hn, e => by
    cases i with
    | zero => simp at e
    | succ i =>
      obtain ⟨ob, h1, h2⟩ := back_in (as := r) (i := i) (by simpa [back] using h) hn (by simpa using e)
      exact ⟨ob, by simpa using h1, h2⟩
  | .s k :: r, [], S, S', i, h, _, _ => by simp [back] at h
  | .s k :: r, .d _ :: svs, S, S', i, h, _, _ => by simp [back] at h
  | .s k :: r, .own _ :: svs, S, S', i, h, _, _ => by simp [back] at h
  | .s k :: r, .x _ :: svs, S, S', i, h, _, _ => by simp [back] at h
  | .s k :: r, .pin ob :: svs, S, S', i, h, hn, e => by
    obtain ⟨n1, n2⟩ := List.nodup_cons.mp hn
    have hb : back r svs (setOb S k ob) = some S' := by simpa [back] using h
    cases i with
    | zero =>
      simp at e
      subst e
      exact ⟨ob, by simp, back_out hb n1⟩
    | succ i =>
      have e' : r[i]? = some (.s j) := by simpa using e
      obtain ⟨ob2, h1, h2⟩ := back_in (as := r) (i := i) hb n2 e'
      have ne : j ≠ k := fun z => n1 (slots_mem.mpr ⟨i, by rw [← z]; exact e'⟩)
      exact ⟨ob2, by simpa using h1, h2.trans (setOb_congr (setOb_length ..) (setOb_ne ne))⟩
theorem res_get {S : FS} : ∀ {as : List AD} {svs : List SV}, resolve S as = some svs → svs.length = as.length ∧ ∀ (i : Nat) (sv : SV), svs[i]? = some sv → (∃ d, as[i]? = some (.d d) ∧ sv = .d d) ∨ ∃ j ob, as[i]? = some (.s j) ∧ sv = .pin ob ∧ (S[j]? = some (some (.own ob)) ∨ S[j]? = some (some (.pin ob)))
  | [], svs, h => by simp [resolve] at h; subst h; simp
  | .d x :: r, svs, h => by
    simp only [resolve, Option.map_eq_some_iff] at h
    obtain ⟨t, h1, rfl⟩ := h
    obtain ⟨l, g⟩ := res_get (as := r) h1
    refine ⟨by simp [l], fun i sv e => ?_⟩
    cases i with
    | zero => simp at e; subst e; exact .inl ⟨x, by simp, rfl⟩
    | succ i => simpa using g i sv (by simpa using e)
  | .s k :: r, svs, h => by
    simp only [resolve] at h
    have main : ∀ ob, (S[k]? = some (some (.own ob)) ∨ S[k]? = some (some (.pin ob))) → (resolve S r).map (SV.pin ob :: ·) = some svs → svs.length = (AD.s k :: r).length ∧ ∀ (i : Nat) (sv : SV), svs[i]? = some sv → (∃ d, (AD.s k :: r)[i]? = some (.d d) ∧ sv = .d d) ∨ ∃ j ob, (AD.s k :: r)[i]? = some (.s j) ∧ sv = .pin ob ∧ (S[j]? = some (some (.own ob)) ∨ S[j]? = some (some (.pin ob))) := by
      intro ob ho h
      simp only [Option.map_eq_some_iff] at h
      obtain ⟨t, h1, rfl⟩ := h
      obtain ⟨l, g⟩ := res_get (as := r) h1
      refine ⟨by simp [l], fun i sv e => ?_⟩
      cases i with
      | zero => simp at e; subst e; exact .inr ⟨k, ob, by simp, rfl, ho⟩
      | succ i => simpa using g i sv (by simpa using e)
    split at h
    · rename_i ob q; exact main ob (.inl q) h
    · rename_i ob q; exact main ob (.inr q) h
    · cases h
theorem paired_get {α β : Type} {R : α → β → Prop} : ∀ {xs : List α} {ys : List β} {i : Nat} {y : β}, Paired R xs ys → ys[i]? = some y → ∃ x, xs[i]? = some x ∧ R x y
  | _, _, _, _, .nil, e => by simp at e
  | _, _, 0, _, .cons h _, e => by simp at e; subst e; exact ⟨_, rfl, h⟩
  | _, _, i + 1, y, .cons _ r, e => by
    obtain ⟨x, h1, h2⟩ := paired_get (i := i) r (by simpa using e)
    exact ⟨x, by simpa using h1, h2⟩
theorem paired_len {α β : Type} {R : α → β → Prop} : ∀ {xs : List α} {ys : List β}, Paired R xs ys → xs.length = ys.length
  | _, _, .nil => rfl
  | _, _, .cons _ r => by rw [List.length_cons, List.length_cons, paired_len r]
section
variable {K : Fg} {F : Fx} {S S' : FS} {σ : Sl} {H H' : Hp} {vs : List V} {as : List AD} {svs svs' : List SV}
theorem args_of (r : Rel K F S σ H) (v : Paired (ADR K H σ) vs as) (hn : (slotsOf as).Nodup) (e : resolve S as = some svs) : ArgsR K F.w F.cl.clo H vs svs ∧
    ∀ i, PinIx svs i → ∃ j a, as[i]? = some (.s j) ∧ vs[i]? = some (.ref a) ∧ σ[j]? = some (some (.ref a)) ∧ Owned S j := by
  obtain ⟨l, g⟩ := res_get e
  have pin : ∀ i, PinIx svs i → ∃ j a, as[i]? = some (.s j) ∧ vs[i]? = some (.ref a) ∧ σ[j]? = some (some (.ref a)) ∧ Owned S j := fun i ⟨ob, h⟩ => by
    rcases g i _ h with ⟨d, _, z⟩ | ⟨j, ob2, h1, h2, h3⟩
    · cases z
    · cases h2
      obtain ⟨x, ex, hx⟩ := paired_get v h1
      obtain ⟨a, ea, _, _⟩ := r.obj h3
      have hx' : σ[j]? = some (some x) := hx
      rw [ea] at hx'; cases hx'
      exact ⟨j, a, h1, ex, ea, ob, h3⟩
  refine ⟨⟨(paired_len v).trans l.symm, fun i sv h => ?_, fun i j a ne hi hj e1 e2 => ?_⟩, pin⟩
  · rcases g i _ h with ⟨d, h1, rfl⟩ | ⟨j, ob, h1, rfl, h3⟩
    · obtain ⟨x, ex, hx⟩ := paired_get v h1
      exact ⟨x, ex, hx⟩
    · obtain ⟨x, ex, hx⟩ := paired_get v h1
      obtain ⟨a, ea, q, _⟩ := r.obj h3
      have hx' : σ[j]? = some (some x) := hx
      rw [ea] at hx'; cases hx'
      exact ⟨_, ex, a, rfl, q⟩
  · obtain ⟨j1, a1, h1, h2, h3, h4⟩ := pin i hi
    obtain ⟨j2, a2, k1, k2, k3, k4⟩ := pin j hj
    rw [e1] at h2; cases h2
    rw [e2] at k2; cases k2
    have nj : j1 ≠ j2 := fun z => ne (slots_inj hn h1 (z ▸ k1))
    exact r.apart j1 j2 a nj h4 k4 h3 k3
theorem rel_back (r : Rel K F S σ H) (v : Paired (ADR K H σ) vs as) (hn : (slotsOf as).Nodup) (e : resolve S as = some svs) (hl : Left K F.w F.tabs vs svs svs' H H') (hb : back as svs' S = some S') : Rel K F S' σ H' := by
  obtain ⟨ar, pin⟩ := args_of r v hn e
  obtain ⟨l, g⟩ := res_get e
  -- a pinned address stands in a handed slot
  have pinad : ∀ a, PinAd vs svs a → ∃ j, j ∈ slotsOf as ∧ σ[j]? = some (some (.ref a)) ∧ Owned S j := fun a ⟨i, hi, h⟩ => by
    obtain ⟨j, a1, h1, h2, h3, h4⟩ := pin i hi
    rw [h] at h2; cases h2
    exact ⟨j, slots_mem.mpr ⟨i, h1⟩, h3, h4⟩
  have own : ∀ j, Owned S' j → Owned S j := fun j ⟨ob, h⟩ => by
    by_cases hj : j ∈ slotsOf as
    · obtain ⟨i, hi⟩ := slots_mem.mp hj
      obtain ⟨x, ex, hx⟩ := paired_get v hi
      have hi2 : i < svs.length := by rw [l]; exact (List.getElem?_eq_some_iff.mp hi).1
      rcases g i _ (List.getElem?_eq_getElem hi2) with ⟨d, z, _⟩ | ⟨j2, ob2, z, _, h3⟩
      · rw [hi] at z; cases z
      · rw [hi] at z; cases z; exact ⟨ob2, h3⟩
    · rw [back_out hb hj] at h; exact ⟨ob, h⟩
  have kept : ∀ j b, j ∉ slotsOf as → Owned S j → σ[j]? = some (some (.ref b)) → H' b = H b := fun j b hj oj eb => by
    obtain ⟨ob, h⟩ := oj
    obtain ⟨b2, eb2, q, _⟩ := r.obj h
    rw [eb] at eb2; cases eb2
    obtain ⟨u, eu, _, nt⟩ := q.there
    rw [eu]
    refine hl.keep b u eu (fun hp => ?_) nt
    obtain ⟨j2, m2, e2, o2⟩ := pinad b hp
    exact r.apart j j2 b (fun z => hj (z ▸ m2)) ⟨ob, h⟩ o2 eb e2
  have kp : ∀ a o, F.H0 a = some o → a ∉ F.pins.map (·.2) → isTbl o = false → H' a = some o := fun a o ho hp ht => by
    have h1 := r.keep a o ho hp ht
    refine hl.keep a o h1 (fun hpa => ?_) ht
    obtain ⟨j, _, e2, ob, h2⟩ := pinad a hpa
    obtain ⟨b, eb, _, q⟩ := r.obj h2
    rw [e2] at eb; cases eb
    rcases q with q | q
    · rw [ho] at q; cases q
    · exact hp q
  refine ⟨(back_length hb).trans r.len, fun j sv h => ?_, fun i j a ne hi hj => r.apart i j a ne (own i hi) (own j hj), kp, fun a o ho => ?_, hl.tabs, F.cl.selfM hl.pers r.self, fun p hp => ?_⟩
  · by_cases hj : j ∈ slotsOf as
    · obtain ⟨i, hi⟩ := slots_mem.mp hj
      have hi2 : i < svs.length := by rw [l]; exact (List.getElem?_eq_some_iff.mp hi).1
      rcases g i _ (List.getElem?_eq_getElem hi2) with ⟨d, z, _⟩ | ⟨j2, ob2, z, ep, h3⟩
      · rw [hi] at z; cases z
      · rw [hi] at z; cases z
        obtain ⟨j3, a, q1, q2, q3, q4⟩ := pin i ⟨ob2, by rw [List.getElem?_eq_getElem hi2, ep]⟩
        rw [hi] at q1; cases q1
        obtain ⟨ob, h4, h5⟩ := back_in hb hn hi
        have ok := hl.args i ob a h4 q2
        have hjl : j < S.length := by rcases h3 with z | z <;> exact (List.getElem?_eq_some_iff.mp z).1
        rw [h5] at h
        refine ⟨_, q3, ?_⟩
        unfold setOb at h
        rcases h3 with h3 | h3
        · rw [h3] at h
          simp only at h
          rw [List.getElem?_set_self hjl] at h
          cases h
          obtain ⟨x, ex, b, eb, _, n⟩ := r.slot j _ h3
          rw [q3] at ex; cases ex; cases eb
          exact ⟨a, rfl, ok, n⟩
        · rw [h3] at h
          simp only at h
          rw [List.getElem?_set_self hjl] at h
          cases h
          obtain ⟨x, ex, b, eb, _, n⟩ := r.slot j _ h3
          rw [q3] at ex; cases ex; cases eb
          exact ⟨a, rfl, ok, n⟩
    · rw [back_out hb hj] at h
      obtain ⟨x, ex, w⟩ := r.slot j sv h
      refine ⟨x, ex, ?_⟩
      cases sv with
      | d d => exact Pd.mono hl.pers w
      | own ob =>
        obtain ⟨b, rfl, q, n⟩ := w
        exact ⟨b, rfl, q.later hl.pers (kept j b hj ⟨ob, .inl h⟩ ex), n⟩
      | pin ob =>
        obtain ⟨b, rfl, q, n⟩ := w
        exact ⟨b, rfl, q.later hl.pers (kept j b hj ⟨ob, .inr h⟩ ex), n⟩
      | x e => exact SxR.later w hl.pers r.keep kp
  · obtain ⟨u, hu⟩ := r.there a o ho
    exact hl.there a u hu
  · obtain ⟨⟨h1, em⟩, h2, h3⟩ := r.held p hp
    refine ⟨⟨hl.keep _ _ h1 (fun hpa => ?_) (mut_tbl em), em⟩, h2, fun i hi => h3 i (own i hi)⟩
    obtain ⟨j, _, e2, oj⟩ := pinad _ hpa
    exact h3 j oj e2
theorem vr_back (r : Rel K F S σ H) (r2 : Rel K F S' σ H') (how : ∀ j, Owned S' j → Owned S j) {x : V} {ret : SV} (h : RetR K F.w H H' x ret) : VR K F S' σ H' x ret := by
  cases ret with
  | d d => exact h
  | own ob =>
    obtain ⟨a, rfl, q, n⟩ := h
    exact ⟨a, rfl, q, r.none0 n, fun i hi => r.unslot n (how i hi), fun p hp e => by obtain ⟨⟨z, _⟩, _⟩ := r.held p hp; rw [e, n] at z; cases z⟩
  | pin ob => exact h.elim
  | x e => exact h.elim
theorem own_back (hn : (slotsOf as).Nodup) (e : resolve S as = some svs) (hb : back as svs' S = some S') : ∀ j, Owned S' j → Owned S j := fun j ⟨ob, h⟩ => by
  obtain ⟨l, g⟩ := res_get e
  by_cases hj : j ∈ slotsOf as
  · obtain ⟨i, hi⟩ := slots_mem.mp hj
    have hi2 : i < svs.length := by rw [l]; exact (List.getElem?_eq_some_iff.mp hi).1
    rcases g i _ (List.getElem?_eq_getElem hi2) with ⟨d, z, _⟩ | ⟨j2, ob2, z, _, h3⟩
    · rw [hi] at z; cases z
    · rw [hi] at z; cases z; exact ⟨ob2, h3⟩
  · rw [back_out hb hj] at h; exact ⟨ob, h⟩
/-- a call's reading: the callee's promise -/
theorem call_in {den : Den} {n : Nat} {Q : VK} (r : Rel K F S σ H) (v : Paired (ADR K H σ) vs as) (hl : as.length = n) (p : postG K F VR (callD den as S) σ H Q) : spF K F.w F.cl.clo F.tabs n den vs H Q F.E := by
  unfold callD at p
  by_cases hn : (slotsOf as).Nodup
  · rw [if_pos hn] at p
    cases e : resolve S as with
    | none => rw [e] at p; exact p.elim
    | some svs =>
      rw [e] at p
      simp only at p
      obtain ⟨ar, _⟩ := args_of r v hn e
      refine ⟨svs, (res_get e).1.trans hl, ar, r.tabs, ?_⟩
      cases e2 : den svs with
      | bad => rw [e2] at p; exact p
      | ok ret svs' =>
        rw [e2] at p
        simp only at p
        intro x H' lf rr
        cases e3 : back as svs' S with
        | none => rw [e3] at p; exact p.elim
        | some S' =>
          rw [e3] at p
          have r2 := rel_back r v hn e lf e3
          exact p x H' lf.pers r2 (vr_back r r2 (own_back hn e e3) rr)
      | exn ex svs' =>
        rw [e2] at p
        simp only at p
        intro c dx H' lf rr
        cases e3 : back as svs' S with
        | none => rw [e3] at p; exact p.elim
        | some S' =>
          rw [e3] at p
          exact p c dx H' lf.pers (rel_back r v hn e lf e3) rr
  · rw [if_neg hn] at p; exact p.elim
end
def fCallP (den : Den) (n : Nat) (f : FS → Res (List AD)) : FS → Res SV := bnd f fun as => if as.length = n then callD den as else fun _ => .bad
/-- how a def of the text is called: all that a call asks -/
structure Fn (P : Program) (w : World) (K : Fg) (mg : Str → Option Value) (base : Heap) (T : List Addr) (k : Nat) (x : Str) (ps : List Str) (n : Nat) (den : Den) : Prop where
  ex : ∃ f fd, GOk P w K mg base k f fd ps (spG P w K mg base T n den) ∧ mg x = some (.ref f) ∧ PySem.W.keepIn K (.ref f) = true ∧ Binds K fd ps []
theorem run_g {k : Nat} {f : Addr} {fd : FuncData} {ps : List Str} {sp : Sp} {pins : List (Addr × Obj)} {σ : L2.St} {H : Hp} {s : Shared} {Q : VK} {E : XK} {args : Args} {us : List Value} {vs : List V} (G : GOk X.prog X.w X.K X.mg X.base k f fd ps sp) (hr : RoomG k X.A)
    (I : Inv X pins σ H s) (hb : BindsTo s fd args (ps.zip us)) (r : Vals vs us) (h : sp vs H Q E) : codeAny (model X.prog X.w) X.A (.call (.ref f) args) (fun r s' => match r with
      | .ok (.ret u) => EP X pins σ Q u s'
      | .ok _ => False
      | .error e => X.xe e s') s :=
  codeAny_mono (G.go X.A X.stack s H args us vs Q E hr I.env0 hb r h) fun r s' q => match r, q with
    | .ok (.ret _), q => I.after q
theorem e_call {den : Den} {k j n : Nat} {x : Str} {ps : List Str} {g : FS → Res (List AD)} (G : Fn X.prog X.w X.K X.mg X.base F.tabs k x ps n den) (hr : RoomG j X.A) (hk : k ≤ j) (hg : Gl X x) (ha : EAS X F (e :: es) g)
    (hw : F.w = X.w := by rfl) (hcl : F.cl.clo = CloOk X.prog X.w X.K X.mg X.base F.tabs := by rfl) (hdb : (x == ("__debug__" : Str)) = false := by decide) (he : starEach (e :: es) X.env = (false, eval e X.env) :: starEach es X.env := by rfl) (hpl : (backTo pos (starEach es X.env)).any (·.1) = false := by rfl) :
    EV X F (.Call (.Name x p) (e :: es) [] pos) (fCallP den n g) := by
  obtain ⟨f, fd, F1, hm, kp, b⟩ := G.ex
  refine ⟨fun pins s σ H Q I h => wpAny_Call_Name_kw (ld_glob I hg hm ?_ hdb)⟩
  refine PySem.W.callWith_K (h₀ := X.base) I.ok.mod.kin kp (thn (ha.run pos pins s σ H _ I (rdG.bind h)) fun us s1 ⟨vs, H1, I1, rv, as, S1, r, v, p, q⟩ => ⟨I1.kIn, ?_⟩) he hpl
  split at q
  · rename_i hl
    have sp := call_in r v hl q
    rw [hw, hcl] at sp
    have hn : us.length = ps.length := rv.length.symm.trans (F1.many _ _ _ _ sp)
    have bd := b s1 us I1.kIn (by rw [List.append_nil]; exact hn)
    rw [List.append_nil] at bd
    exact wpAny_call (run_g F1 (hr.mono hk) I1 bd rv sp)
  · exact q.elim
end
end Fz
end

section
set_option Elab.async false
set_option linter.all false
set_option maxRecDepth 100000
set_option maxHeartbeats 4000000
/-! F8: several values at once, keywords, chains, is of bools. -/
namespace Fz
open PySem PySem.Spec PyProof.Rows L2
/-! ### x is True -/
theorem is_bool_gen {M : Model} {A : Around} {E : Value → Shared → Prop} {s : Shared} {Q : Value → Shared → Prop} {v : Value} {b : Bool} (hv : ∀ id, v ≠ .builtin id) (h : Q (.bool (v == .bool b)) s) : wpAny M A (compareOp .Is v (.bool b)) Q E s := by
  cases v <;> first | exact wpAny_pure h | exact absurd rfl (hv _)
theorem relV_nobuiltin {x : V} {v : Value} (r : RelV x v) : ∀ id, v ≠ .builtin id := fun id e => by
  subst e
  cases x with
  | int _ => obtain ⟨t, e⟩ := r; cases e
  | str _ => obtain ⟨t, e⟩ := r; cases e
  | byt _ => obtain ⟨t, e⟩ := r; cases e
  | flt _ => obtain ⟨t, e⟩ := r; cases e
  | _ => cases r
theorem relV_bool {x : V} {v : Value} {b : Bool} (r : RelV x v) : (v == Value.bool b) = decide (x = .bl b) := by
  cases x with
  | non => cases r; rfl
  | bl c =>
    cases r
    by_cases e : c = b
    · subst e; simp
    · rw [decide_eq_false (fun z => e (V.bl.inj z))]
      exact beq_eq_false_iff_ne.mpr fun z => e (Value.bool.inj z)
  | int _ => obtain ⟨t, rfl⟩ := r; rfl
  | str _ => obtain ⟨t, rfl⟩ := r; rfl
  | byt _ => obtain ⟨t, rfl⟩ := r; rfl
  | flt _ => obtain ⟨t, rfl⟩ := r; rfl
  | ref _ => cases r; rfl
  | ty _ => cases r; rfl
def dIsB (b : Bool) : D → Bool
  | .bool c => c == b
  | _ => false
theorem Qd.isBool {K : Fg} {H : Hp} {x : V} {d : D} {b : Bool} (h : Qd K H x d) : decide (x = .bl b) = dIsB b d := by
  rcases h with h | ⟨a, vs, ds, rfl, rfl, h, r⟩
  · cases h with
    | bl c => cases c <;> cases b <;> rfl
    | _ => rfl
  · rfl
def pIsB (d e : D) : FS → Res D := fun S => match e with
  | .bool b => .ok (.bool (dIsB b d)) S
  | .none => .ok (.bool (dNone d)) S
  | _ => .bad
section
variable {X : Cx} {F : Fx}
theorem op_isBF : OpF X F PR (compareOp .Is) pIsB := by
  intro pins s σ0 H x y v u Q I rx ry ⟨S, σ, d, e, r, hx, hy, p⟩
  cases e with
  | bool b =>
    cases hy.bl
    cases (show u = Value.bool b from ry)
    refine is_bool_gen (relV_nobuiltin rx) ?_
    rw [relV_bool rx, hx.isBool]
    exact ⟨.bl _, H, I, rfl, p.ok r (Pd.bl _)⟩
  | none => exact op_isN pins s σ0 H x y v u Q I rx ry ⟨hy.non, by rw [hx.isNone]; exact p.ok r (Pd.bl _)⟩
  | _ => exact p.elim
end
/-! ### several own values at once -/
inductive AVR (K : Fg) (F : Fx) (S : FS) (σ : Sl) (H : Hp) : List V → List SV → Prop
  | nil : AVR K F S σ H [] []
  | cons {x : V} {sv : SV} {xs : List V} {svs : List SV} (h : VR K F S σ H x sv) (n : ∀ (ob : Ob) (a : Addr), sv = .own ob → x = .ref a → ∀ (i : Nat) (ob' : Ob), svs[i]? = some (.own ob') → xs[i]? ≠ some (.ref a)) (r : AVR K F S σ H xs svs) : AVR K F S σ H (x :: xs) (sv :: svs)
abbrev EAV (X : Cx) (F : Fx) (es : List Expr) (f : FS → Res (List SV)) : Prop := PA X es (rdG X.K F AVR f)
def Fx.hold (F : Fx) (a : Addr) (u : HO) : Fx := { F with held := (a, u) :: F.held }
def fConsV (f : FS → Res SV) (g : FS → Res (List SV)) : FS → Res (List SV) := bnd f fun d => match d with
  | .d d => bnd g fun ds => fC (.d d :: ds)
  | .own ob => bnd g fun ds => fC (.own ob :: ds)
  | _ => fun _ => .bad
section
variable {X : Cx} {F : Fx} {e : Expr} {es : List Expr} {f : FS → Res SV} {g : FS → Res (List SV)} {pos : Pos}
theorem av_nil : EAV X F [] (fC []) := pa_nil.via fun _ _ _ ⟨_, r, p⟩ => p.ok r .nil
def jAV (K : Fg) (F : Fx) (g : FS → Res (List SV)) : TA := fun σ H Q => rdG K F AVR g σ H Q ∨ ∃ a vs, rdG K (F.hold a vs) AVR g σ H Q
theorem av_unhold {K : Fg} {F : Fx} {S : FS} {σ : Sl} {H : Hp} {a : Addr} {vs : HO} {xs : List V} {svs : List SV} (h : AVR K (F.hold a vs) S σ H xs svs) : AVR K F S σ H xs svs ∧ ∀ (i : Nat) (ob : Ob), svs[i]? = some (.own ob) → xs[i]? ≠ some (.ref a) := by
  induction h with
  | nil => exact ⟨.nil, fun i ob h => by simp at h⟩
  | @cons x sv xs svs h n r ih =>
    refine ⟨.cons ?_ n ih.1, fun i ob h1 h2 => ?_⟩
    · cases sv with
      | d d => exact h
      | own ob => obtain ⟨b, e, q, n0, nu, nh⟩ := h; exact ⟨b, e, q, n0, nu, fun p hp => nh p (List.mem_cons_of_mem _ hp)⟩
      | pin ob => exact h
      | x e => exact h
    · cases i with
      | zero =>
        simp at h1 h2
        subst h1
        obtain ⟨b2, e, q, n0, nu, nh⟩ := h
        rw [h2] at e; cases e
        exact nh (a, vs) (List.mem_cons_self ..) rfl
      | succ i => exact ih.2 i ob (by simpa using h1) (by simpa using h2)
theorem rel_hold {K : Fg} {F : Fx} {S : FS} {σ : Sl} {H : Hp} {a : Addr} {vs : HO} (r : Rel K F S σ H) (h : H a = some vs) (hm : Mut (some vs)) (h0 : F.H0 a = none) (hu : ∀ i, Owned S i → σ[i]? ≠ some (some (.ref a))) : Rel K (F.hold a vs) S σ H := by
  refine ⟨r.len, r.slot, r.apart, r.keep, r.there, r.tabs, r.self, fun p hp => ?_⟩
  rcases List.mem_cons.mp hp with e | hp
  · subst e; exact ⟨⟨h, hm⟩, h0, hu⟩
  · exact r.held p hp
theorem rel_unhold {K : Fg} {F : Fx} {S : FS} {σ : Sl} {H : Hp} {a : Addr} {vs : HO} (r : Rel K (F.hold a vs) S σ H) : Rel K F S σ H :=
  ⟨r.len, r.slot, r.apart, r.keep, r.there, r.tabs, r.self, fun p hp => r.held p (List.mem_cons_of_mem _ hp)⟩
theorem av_cons (ha : EV X F e f) (hr : EAV X F es g) (hr2 : ∀ a vs, EAV X (F.hold a vs) es g) (hs : starEach (e :: es) X.env = (false, eval e X.env) :: starEach es X.env := by rfl) : EAV X F (e :: es) (fConsV f g) := by
  have hj : PA X es (jAV X.K F g) := ⟨fun p pins s σ H Q I h => by
    rcases h with h | ⟨a, vs, h⟩
    · exact hr.run p pins s σ H Q I h
    · exact (hr2 a vs).run p pins s σ H Q I h⟩
  refine (pa_cons ha hj hs).via fun σ H Q h => (rdG.bind h).imp fun x H1 ⟨d, S1, r1, v1, p1, q1⟩ => ?_
  cases d with
  | d d =>
    exact .inl ((rdG.bind (k := fun ds => fC (.d d :: ds)) (R' := AVR) ⟨S1, r1, q1⟩).imp fun xs H2 ⟨ds, S2, r2, v2, p2, q2⟩ => q2.ok r2 (.cons (show VR _ _ _ _ _ _ (.d d) from Pd.mono p2 v1) (fun _ _ e => nomatch e) v2))
  | own ob =>
    obtain ⟨a, rfl, qo, n0, nu, nh⟩ := v1
    obtain ⟨u, hu, mu, _⟩ := qo.there
    have rh := rel_hold r1 hu mu n0 nu
    refine .inr ⟨a, u, ⟨S1, rh, ?_⟩⟩
    simp only [bnd] at q1
    cases e2 : g S1 with
    | bad => rw [e2] at q1; exact q1
    | exn e3 S2 => rw [e2] at q1; exact fun c dx H2 p2 r2 w => q1 c dx H2 p2 (rel_unhold r2) w
    | ok ds S2 =>
      rw [e2] at q1
      intro xs H2 p2 r2 v2
      have hh := r2.held (a, u) (List.mem_cons_self ..)
      obtain ⟨v3, ne⟩ := av_unhold v2
      exact q1 _ H2 p2 (rel_unhold r2) (.cons (show VR _ _ _ _ _ _ (.own ob) from ⟨a, rfl, qo.later p2 (hh.1.1.trans hu.symm), n0, hh.2.2, nh⟩) (fun _ _ _ e i ob' h1 => by cases e; exact ne i ob' h1) v3)
  | pin ob => exact v1.elim
  | x e => exact v1.elim
/-- a, b, c = x, y, z: all stored -/
def setsV : List Nat → List SV → FS → Option FS
  | [], [], S => some S
  | i :: is, v :: vs, S => setsV is vs (S.set i (some v))
  | _, _, _ => none
def setsX : List Nat → List V → Sl → Sl
  | i :: is, x :: xs, σ => setsX is xs (σ.set i (some x))
  | _, _, σ => σ
def fPars (is : List Nat) (f : FS → Res (List SV)) : FS → SRes := bndS f fun vs S => match setsV is vs S with
  | some S' => .nx S'
  | none => .bad
theorem vr_set {K : Fg} {F : Fx} {S : FS} {σ : Sl} {H : Hp} {i : Nat} {x y : V} {v w : SV} (hy : VR K F S σ H y w) (hx : VR K F S σ H x v) (n : ∀ (ob : Ob) (a : Addr), v = .own ob → x = .ref a → ∀ ob', w = .own ob' → y ≠ .ref a) : VR K F (S.set i (some v)) (σ.set i (some x)) H y w := by
  cases w with
  | d d => exact hy
  | pin ob => exact hy
  | x e => exact hy
  | own ob =>
    obtain ⟨b, e, q, n0, nu, nh⟩ := hy
    refine ⟨b, e, q, n0, fun j hj hs => ?_, nh⟩
    obtain ⟨ob2, hj⟩ := hj
    by_cases hji : j = i
    · subst hji
      by_cases hl : j < S.length
      · rw [List.getElem?_set_self hl] at hj
        have hl2 : j < σ.length := by
          by_cases hl2 : j < σ.length
          · exact hl2
          · rw [List.getElem?_eq_none (by rw [List.length_set]; omega)] at hs; cases hs
        rw [List.getElem?_set_self hl2] at hs
        cases hs
        rcases hj with hj | hj
        · cases hj; exact n ob2 b rfl rfl ob rfl e
        · cases hj; exact hx.elim
      · rw [List.getElem?_eq_none (by rw [List.length_set]; omega)] at hj
        rcases hj with hj | hj <;> cases hj
    · rw [List.getElem?_set_ne (Ne.symm hji)] at hj hs
      exact nu j ⟨ob2, hj⟩ hs
theorem sets_rel {K : Fg} {F : Fx} {H : Hp} : ∀ {is : List Nat} {xs : List V} {svs : List SV} {S S' : FS} {σ : Sl}, Rel K F S σ H → AVR K F S σ H xs svs → setsV is svs S = some S' → xs.length = is.length ∧ Rel K F S' (setsX is xs σ) H
  | [], [], [], S, S', σ, r, v, e => by simp [setsV] at e; subst e; exact ⟨rfl, r⟩
  | [], _, _ :: _, S, S', σ, r, v, e => by simp [setsV] at e
  | i :: is, _, [], S, S', σ, r, v, e => by simp [setsV] at e
  | i :: is, x :: xs, sv :: svs, S, S', σ, r, v, e => by
    cases v with
    | cons h n rr =>
      have key : ∀ {ys : List V} {ws : List SV}, AVR K F S σ H ys ws → (∀ (ob : Ob) (a : Addr), sv = .own ob → x = .ref a → ∀ (i : Nat) (ob' : Ob), ws[i]? = some (.own ob') → ys[i]? ≠ some (.ref a)) → AVR K F (S.set i (some sv)) (σ.set i (some x)) H ys ws := by
        intro ys ws hv
        induction hv with
        | nil => exact fun _ => .nil
        | cons h2 n2 r2 ih =>
          intro hn
          exact .cons (vr_set h2 h fun ob a e1 e2 ob' e3 e4 => hn ob a e1 e2 0 ob' (by simp [e3]) (by simp [e4])) n2 (ih fun ob a e1 e2 j ob' h1 => by
            have := hn ob a e1 e2 (j + 1) ob' (by simpa using h1)
            simpa using this)
      obtain ⟨l, q⟩ := sets_rel (is := is) (xs := xs) (svs := svs) (r.setV h) (key rr n) (by simpa [setsV] using e)
      exact ⟨by simp [l], q⟩
theorem s_par2 {i j : Nat} {x y : Str} {a b : Expr} {f : FS → Res (List SV)} {px py pt : Pos} {kt k2 : Nat} {pt2 : Pos} (hc : X.calm = true) (hN : X.N.Nodup) (hi : X.N[i]? = some x) (hj : X.N[j]? = some y) (hij : i ≠ j)
    (hx : X.env.scope.names.lookup x = some .local) (hy : X.env.scope.names.lookup y = some .local) (ha : EAV X F [a, b] f)
    (hw : swappedStores [.Tuple [.Name x px, .Name y py] kt pt] (.Tuple [a, b] k2 pt2) X.env = pure (some [x, y]))
    (hs : swapsWithSole [.Tuple [.Name x px, .Name y py] kt pt] (.Tuple [a, b] k2 pt2) pos.line X.env = pure false := by rfl) :
    ES X F (.Assign [.Tuple [.Name x px, .Name y py] kt pt] (.Tuple [a, b] k2 pt2) pos) (fPars [i, j] f) :=
  (ps_par hc hN hi hj hij hx hy ha hw hs).via fun D σ H h => (rdG.bindS h).imp fun xs H1 ⟨ds, S1, r, v, p, q⟩ => by
    cases e : setsV [i, j] ds S1 with
    | none => rw [e] at q; exact q.elim
    | some S2 =>
      rw [e] at q
      obtain ⟨l, r2⟩ := sets_rel r v e
      match xs, l with
      | [u, w], _ => exact ⟨u, w, rfl, q _ _ (.refl H1) r2⟩
theorem s_par3 {i j l : Nat} {x y z : Str} {a b c : Expr} {f : FS → Res (List SV)} {px py pz pt : Pos} {kt k2 : Nat} {pt2 : Pos} (hc : X.calm = true) (hN : X.N.Nodup) (hi : X.N[i]? = some x) (hj : X.N[j]? = some y) (hl : X.N[l]? = some z) (hij : i ≠ j) (hil : i ≠ l) (hjl : j ≠ l)
    (hx : X.env.scope.names.lookup x = some .local) (hy : X.env.scope.names.lookup y = some .local) (hz : X.env.scope.names.lookup z = some .local) (ha : EAV X F [a, b, c] f)
    (hw : swappedStores [.Tuple [.Name x px, .Name y py, .Name z pz] kt pt] (.Tuple [a, b, c] k2 pt2) X.env = pure (some [x, y, z]))
    (hs : swapsWithSole [.Tuple [.Name x px, .Name y py, .Name z pz] kt pt] (.Tuple [a, b, c] k2 pt2) pos.line X.env = pure false := by rfl) :
    ES X F (.Assign [.Tuple [.Name x px, .Name y py, .Name z pz] kt pt] (.Tuple [a, b, c] k2 pt2) pos) (fPars [i, j, l] f) :=
  (ps_par3 hc hN hi hj hl hij hil hjl hx hy hz ha hw hs).via fun D σ H h => (rdG.bindS h).imp fun xs H1 ⟨ds, S1, r, v, p, q⟩ => by
    cases e : setsV [i, j, l] ds S1 with
    | none => rw [e] at q; exact q.elim
    | some S2 =>
      rw [e] at q
      obtain ⟨l, r2⟩ := sets_rel r v e
      match xs, l with
      | [u, w, t], _ => exact ⟨u, w, t, rfl, q _ _ (.refl H1) r2⟩
end
end Fz
end

section
set_option Elab.async false
set_option linter.all false
set_option maxRecDepth 100000
set_option maxHeartbeats 4000000
/-! F9: keywords, chains. -/
namespace Fz
open PySem PySem.Spec PyProof.Rows L2
/-- the places of the parameters among the positional arguments and the keywords' values, as written -/
def permL {α : Type} (p : List Nat) (l : List α) : List α := p.filterMap fun i => l[i]?
theorem vals_perm {vs : List V} {us : List Value} (r : Vals vs us) : ∀ p : List Nat, Vals (permL p vs) (permL p us)
  | [] => .nil
  | i :: p => by
    have ih := vals_perm r p
    unfold permL
    cases e : vs[i]? with
    | none =>
      have e2 : us[i]? = none := r.none_of e
      rw [List.filterMap_cons_none e, List.filterMap_cons_none e2]
      exact ih
    | some x =>
      obtain ⟨u, e2, h⟩ := r.get e
      rw [List.filterMap_cons_some e, List.filterMap_cons_some e2]
      exact .cons h ih
theorem paired_perm {α β : Type} {R : α → β → Prop} {xs : List α} {ys : List β} (r : Paired R xs ys) : ∀ p : List Nat, Paired R (permL p xs) (permL p ys)
  | [] => .nil
  | i :: p => by
    have ih := paired_perm r p
    unfold permL
    have hl := paired_len r
    cases e : ys[i]? with
    | none =>
      have e2 : xs[i]? = none := List.getElem?_eq_none (by rw [hl]; exact List.getElem?_eq_none_iff.mp e)
      rw [List.filterMap_cons_none e, List.filterMap_cons_none e2]
      exact ih
    | some y =>
      obtain ⟨x, e2, h⟩ := paired_get r e
      rw [List.filterMap_cons_some e, List.filterMap_cons_some e2]
      exact .cons h ih
structure KwF (K : Fg) (fd : FuncData) (ps : List Str) (n : Nat) (ks : List Str) (perm : List Nat) : Prop where
  to : ∀ (s : Shared) (us ws : List Value), K.In s.heap → us.length = n → ws.length = ks.length → BindsTo s fd ⟨us, ks.zip ws⟩ (ps.zip (permL perm (us ++ ws)))
theorem kwF_of {K : Fg} {x qual : Str} {params : Arguments} {body : List Stmt} {scope : Scope} {kws : List (Str × V)} {f : Addr} {fd : FuncData} {ps : List Str} {n : Nat} {ks : List Str} {perm : List Nat} (F : FunD K x qual params body scope [] kws f fd)
    (h : ∀ (kV doc pm : Value) (an : Option Addr) (cdv ct : Value) (us ws : List Value), us.length = n → ws.length = ks.length → bindArgs (PySem.W.fnOf x qual params body scope .none kV doc pm an cdv ct) ⟨us, ks.zip ws⟩ = pure (ps.zip (permL perm (us ++ ws)))) : KwF K fd ps n ks perm := by
  obtain ⟨oc, od, dV, kV, doc, pm, an, cdv, ct, osl, rfl, lk, hcd, hD, hK⟩ := F.ex
  rcases hD with ⟨_, rfl⟩ | ⟨e, _⟩
  · exact ⟨fun s us ws _ l1 l2 => .of_eq (h kV doc pm an cdv ct us ws l1 l2)⟩
  · exact absurd rfl e
/-- a def of the text, called with keywords -/
structure FnK (P : Program) (w : World) (K : Fg) (mg : Str → Option Value) (base : Heap) (T : List Addr) (k : Nat) (x : Str) (ps : List Str) (n : Nat) (den : Den) (m : Nat) (ks : List Str) (perm : List Nat) : Prop where
  ex : ∃ f fd, GOk P w K mg base k f fd ps (spG P w K mg base T n den) ∧ mg x = some (.ref f) ∧ PySem.W.keepIn K (.ref f) = true ∧ KwF K fd ps m ks perm
def fCallK (den : Den) (n m : Nat) (nk : Nat) (perm : List Nat) (f g : FS → Res (List AD)) : FS → Res SV := bnd f fun as => bnd g fun bs => if as.length = m ∧ bs.length = nk ∧ (permL perm (as ++ bs)).length = n then callD den (permL perm (as ++ bs)) else fun _ => .bad
theorem paired_append {α β : Type} {R : α → β → Prop} : ∀ {xs xs' : List α} {ys ys' : List β}, Paired R xs ys → Paired R xs' ys' → Paired R (xs ++ xs') (ys ++ ys')
  | _, _, _, _, .nil, h => h
  | _, _, _, _, .cons r t, h => .cons r (paired_append t h)
section
variable {X : Cx} {F : Fx} {e : Expr} {es : List Expr} {kws : List Keyword} {x : Str} {p pos : Pos} {den : Den} {k j n m : Nat} {ps ks : List Str} {perm : List Nat} {f g : FS → Res (List AD)}
theorem run_kw {pins : List (Addr × Obj)} {σ : L2.St} {H : Hp} {s : Shared} {Q : VK} {us ws : List Value} {vs zs : List V} {fa : Addr} {fd : FuncData} (F1 : GOk X.prog X.w X.K X.mg X.base k fa fd ps (spG X.prog X.w X.K X.mg X.base F.tabs n den)) (hr : RoomG k X.A) (hb : KwF X.K fd ps m ks perm)
    (I : Inv X pins σ H s) (r : Vals vs us) (rz : Vals zs ws) (l1 : vs.length = m) (l2 : zs.length = ks.length) (h : spG X.prog X.w X.K X.mg X.base F.tabs n den (permL perm (vs ++ zs)) H Q F.E) : wpAny (model X.prog X.w) X.A (call (.ref fa) us (ks.zip ws)) (EP X pins σ Q) X.xe s :=
  wpAny_call (run_g F1 hr I (hb.to s us ws I.kIn (r.length.symm.trans l1) (rz.length.symm.trans l2)) (vals_perm (r.append rz) perm) h)
theorem e_callK0 (G : FnK X.prog X.w X.K X.mg X.base F.tabs k x ps n den 0 ks perm) (hr : RoomG j X.A) (hk : k ≤ j) (hg : Gl X x) (hkw : EKS X F kws g) (hW : F.w = X.w := by rfl) (hcl : F.cl.clo = CloOk X.prog X.w X.K X.mg X.base F.tabs := by rfl)
    (hall : (backToKw pos (keywordEach kws X.env)).all (·.1.isSome) = true := by rfl) (hks : (backToKw pos (keywordEach kws X.env)).filterMap (·.1) = ks := by rfl)
    (hdb : (x == ("__debug__" : Str)) = false := by decide) (hpl : ((backTo pos (starEach [] X.env)).any (·.1) || (backToKw pos (keywordEach kws X.env)).any (·.1.isNone)) = false := by rfl) :
    EV X F (.Call (.Name x p) [] kws pos) (fCallK den n 0 ks.length perm (fC []) g) := by
  obtain ⟨fa, fd, F1, hm, kp, b⟩ := G.ex
  refine ⟨fun pins s σ H Q I ⟨S, r, hw⟩ => ?_⟩
  refine wpAny_Call_Name_kw (ld_glob I hg hm ?_ hdb)
  have hw2 : postG X.K F VR (bnd g (fun bs => if ([] : List AD).length = 0 ∧ bs.length = ks.length ∧ (permL perm ([] ++ bs)).length = n then callD den (permL perm ([] ++ bs)) else fun _ => .bad) S) σ H Q := hw
  refine PySem.W.callWith_KW0 (h₀ := X.base) I.ok.mod.kin kp hall (thn (hkw.run pos pins s σ H _ I (rdG.bind (R' := VR) ⟨S, r, hw2⟩)) fun ws s2 ⟨zs, H2, I2, rz, bs, S2, r2, v2, p2, q2⟩ => ⟨I2.kIn, ?_⟩) hpl
  rw [hks]
  split at q2
  · rename_i hl
    exact run_kw (vs := []) F1 (hr.mono hk) b I2 .nil rz rfl ((paired_len v2).trans hl.2.1) (by have z := call_in r2 (paired_perm (paired_append (.nil (F := ADR X.K H2 σ)) v2) perm) hl.2.2 q2; rw [hW, hcl] at z; exact z)
  · exact q2.elim
end
/-! ### chains a < b < c -/
section
variable {X : Cx} {F : Fx} {a b c : Expr} {pos : Pos} {fa fb fc : FS → Res D} {g g' : D → D → FS → Res D}
def fChain (g g' : D → D → FS → Res D) (fa fb fc : FS → Res D) : FS → Res D := bnd fa fun d => bnd fb fun e => bnd (g d e) fun z => match z with
  | .bool true => bnd fc fun h => g' e h
  | .bool false => fC (.bool false)
  | _ => fun _ => .bad
theorem chain_of {op op' : CmpOp} {σ : Sl} {H : Hp} {Q : VK} (h : rdG X.K F PR (fChain g g' fa fb fc) σ H Q) :
    tChain (rOp X.K F PR g) (rOp X.K F PR g') (rdG X.K F PR fa) (rdG X.K F PR fb) (rdG X.K F QR fc) σ H Q := by
  refine (rdG.bind h).imp fun x H1 ⟨d, S1, r1, v1, p1, q1⟩ => ?_
  refine (rdG.bind (k := fun e => bnd (g d e) fun z => match z with | .bool true => bnd fc fun h => g' e h | .bool false => fC (.bool false) | _ => fun _ => .bad) (R' := PR) ⟨S1, r1, q1⟩).imp fun y H2 ⟨e, S2, r2, v2, p2, q2⟩ => ?_
  have q3 : rdG X.K F PR (bnd (g d e) fun z => match z with | .bool true => bnd fc fun h => g' e h | .bool false => fC (.bool false) | _ => fun _ => .bad) σ H2 Q := ⟨S2, r2, q2⟩
  refine ⟨S2, σ, d, e, r2, .inl (Pd.mono p2 v1), .inl v2, ?_⟩
  unfold bnd at q2
  cases eg : g d e S2 with
  | bad => rw [eg] at q2; exact q2
  | exn e3 S3 => rw [eg] at q2; exact q2
  | ok z S3 =>
    rw [eg] at q2
    intro z' H3 p3 r3 v3
    cases z with
    | bool k =>
      cases v3
      refine ⟨k, rfl, ?_⟩
      cases k with
      | true =>
        refine (rdG.bind (k := fun h => g' e h) (R' := PR) ⟨S3, r3, postG.later p3 q2⟩).imp fun w H4 ⟨h, S4, r4, v4, p4, q4⟩ => ?_
        exact ⟨S4, σ, e, h, r4, .inl (Pd.mono (p3.trans p4) v2), v4, q4⟩
      | false => exact q2 _ _ p3 r3 (Pd.bl _)
    | _ => exact q2.elim
theorem e_chain {op op' : CmpOp} (ho : OpF X F PR (compareOp op) g) (ho' : OpF X F PR (compareOp op') g') (ha : ED X F a fa) (hb : ED X F b fb) (hc : EQ X F c fc) (hm : lastMarks [op, op'] [b, c] = false := by with_unfolding_all rfl) : ED X F (.Compare a [op, op'] [b, c] pos) (fChain g g' fa fb fc) :=
  (pe_chain ho ho' ha hb hc (hm := hm)).via fun σ H Q h => chain_of (op := op) (op' := op') h
end
end Fz
end

section
set_option Elab.async false
set_option linter.all false
set_option maxRecDepth 100000
set_option maxHeartbeats 4000000
/-! F10: any, all of a generator expression. -/
namespace Fz
open PySem PySem.Spec PyProof.Rows L2 GenW
abbrev gbX (X : Cx) (A' : Around) (s : Shared) (H : Hp) (env' : Env) (fp : List Addr) (pn : List (Addr × Obj)) : Cx :=
  { X with A := A', s_0 := s, H_0 := H, env := env', outer := X.stack, stack := env' :: X.stack, ex := fp, fn := fun _ => false, pn := pn, xe := fun _ _ => False }
theorem inv_same {Y : Cx} {pins : List (Addr × Obj)} {σ : Sl} {H : Hp} {s s' : Shared} (I : Inv Y pins σ H s) (h : s'.heap = s.heap) (o : s'.os = s.os) (b : AllBare s'.gens) : Inv Y pins σ H s' :=
  ⟨I.ok, o.trans I.os, b, by rw [h]; exact I.base, by rw [h]; exact I.loc, by rw [h]; exact I.cell, I.free, I.freeC, by rw [h]; exact I.pin, by rw [h]; exact I.hok, I.len⟩
section
variable {X : Cx} {pins : List (Addr × Obj)} {σ : Sl} {H : Hp} {s : Shared}
theorem gen_start {scope : Scope} {own : List (Str × Nat)} {fp : List Addr} {A' : Around} {code : Value} {go : Obj} {gs : GenState} {h' : Heap} {tk : Nat} {m0 : Str → Option Value} (I : Inv X pins σ H s) (ok : BlkOk X.N X.env.scope scope own) (nc : ∀ y ∈ scope.names, y.2 ≠ .cell) (hN : X.N.Nodup)
    (hfp : ∀ b ∈ fp, FpOk X pins H b ∧ b < s.heap.objs.size) (hA : X.calm = true → A'.handled = none) (hfr : A'.frames = some (genEnv scope (cloFrom X.env.cells scope.names []) s.heap.objs.size code builtinsNs X.env :: X.stack))
    (hn : h'.Ns s.heap.objs.size m0) (kp : ∀ b o, s.heap.get? b = some o → h'.get? b = some o) (hg : ∀ v, go.data ≠ .cell v) (hp : (h'.push go).get? h'.objs.size = some go) (hgs : gs.bare = true) :
    Inv (gbX X A' s H (genEnv scope (cloFrom X.env.cells scope.names []) s.heap.objs.size code builtinsNs X.env) fp [(h'.objs.size, go)]) [] (wipe σ (own.map (·.2))) H { s with gens := s.gens.push gs, toks := tk, heap := h'.push go } := by
  have hfree : ∀ y ∈ scope.names, y.2 = .free → ∃ c, X.env.cells.lookup y.1 = some c := fun y hy e => by
    rcases ok.free y hy e with k | k
    · exact I.ok.has _ (.inl k)
    · exact I.ok.has _ (.inr k)
  generalize hcenv : genEnv scope (cloFrom X.env.cells scope.names []) s.heap.objs.size code builtinsNs X.env = cenv at hfr
  have kp2 : ∀ b o, s.heap.get? b = some o → (h'.push go).get? b = some o := fun b o e => Heap.get?_push_of_some _ (kp b o e)
  have hL : cenv.locals = s.heap.objs.size := by rw [← hcenv]; rfl
  have hcl : cenv.cells = cloFrom X.env.cells scope.names [] := by rw [← hcenv]; rfl
  have hsc : cenv.scope = scope := by rw [← hcenv]; rfl
  have hltC : s.heap.objs.size < h'.objs.size := hn.lt
  have cm : ∀ {y c}, (y, c) ∈ cloFrom X.env.cells scope.names [] → X.env.cells.lookup y = some c ∧ c < s.heap.objs.size := fun {y c} hm => by
    rcases cloFrom_mem hm with hm | ⟨h1, rfl⟩
    · cases hm
    · obtain ⟨c, hc⟩ := hfree _ h1 rfl
      rw [hc]
      obtain ⟨w, z⟩ := I.cell _ _ hc
      exact ⟨rfl, z.lt⟩
  have mem : ∀ {y c}, cenv.cells.lookup y = some c → X.env.cells.lookup y = some c ∧ c < s.heap.objs.size := fun {y c} e => by
    rw [hcl] at e
    exact cm (PySem.mem_of_lookup e)
  have look : ∀ {y}, scope.names.lookup y = some .free → ∃ c, cenv.cells.lookup y = some c ∧ X.env.cells.lookup y = some c := fun {y} hl => by
    have hy : (y, NameKind.free) ∈ scope.names := PySem.mem_of_lookup hl
    obtain ⟨c', e'⟩ := mem_lookup (cloFrom_has (cells := X.env.cells) (acc := []) hy)
    rw [← hcl] at e'
    exact ⟨c', e', (mem e').1⟩
  have okB : (gbX X A' s H cenv fp [(h'.objs.size, go)]).Ok := by
    refine ⟨I.ok.mod, by show cenv.scope.kind = _; rw [hsc]; exact ok.kind, by show cenv.globals = _; rw [← hcenv]; exact I.ok.glob, by show cenv.builtins = _; rw [← hcenv]; rfl, by show s.heap.objs.size ≤ cenv.locals; rw [hL]; exact Nat.le_refl _,
      fun y z c e1 e2 => I.ok.inj y z c (mem e1).1 (mem e2).1, fun y hy => ?_, fun y c z e => (Bool.false_ne_true z).elim, hA, hfr, .inr ⟨rfl, by show cenv.frame = some cenv.locals; rw [← hcenv]; rfl⟩, fun b hb => ⟨?_, fun y c e z => ?_⟩, I.bs, Nat.le_trans I.ok.bsz I.sz, fun b o e hb => ?_, fun b hb z => ?_, I.stack, I.stkFree⟩
    · show ∃ c, cenv.cells.lookup y = some c
      have hy : cenv.scope.names.lookup y = some .cell ∨ cenv.scope.names.lookup y = some .free := hy
      rw [hsc] at hy
      rcases hy with hy | hy
      · exact absurd rfl (nc _ (PySem.mem_of_lookup hy))
      · obtain ⟨c, h1, _⟩ := look hy
        exact ⟨c, h1⟩
    · show b ≠ cenv.locals
      rw [hL]; exact Nat.ne_of_lt (hfp b hb).2
    · exact (hfp b hb).1.2.2.2.2.1 y c (mem e).1 z
    · rcases (hfp b hb).1.2.2.2.1 with z | z
      · exact I.ok.noex b o e z
      · exact absurd (Nat.lt_of_lt_of_le (Heap.lt_size e) (Nat.le_trans I.ok.bsz z)) (Nat.lt_irrefl _)
    · rcases List.mem_cons.mp (I.stkSub b z) with z | z
      · exact (hfp b hb).1.2.1 z
      · exact (hfp b hb).1.2.2.1 z
  refine ⟨okB, rfl, AllBare.push I.bare hgs, Un.kept kp2, ⟨m0, ?_, fun i y av e1 e2 e3 => ?_⟩, fun y c e => ?_, ?_, fun y c e => ?_, fun p hp2 => ?_, I.hok.kept kp2, by rw [wipe_length]; exact I.len⟩
  · show Heap.Ns _ cenv.locals _
    rw [hL]
    exact hn.push _
  · obtain ⟨e2, hne⟩ := wipe_some e2
    have e3 : Vis cenv.scope y := e3
    rw [hsc] at e3
    have no : ∀ k, scope.names.lookup y = some k → ¬ (k = .local ∨ k = .cell) := fun k e hh => by
      rcases ok.own _ (PySem.mem_of_lookup e) hh with e' | e'
      · obtain ⟨p, hp, hpy⟩ := List.mem_map.mp e'
        have e3 := ok.ix p hp
        have : p.1 = y := hpy
        rw [this] at e3
        exact hne (List.mem_map.mpr ⟨p, hp, nodup_ix hN e3 e1⟩)
      · exact e' (List.mem_of_getElem? e1)
    have hfr2 : scope.names.lookup y = some .free := by
      rcases e3 with e3 | e3 | e3
      · exact absurd (.inl rfl) (no _ e3)
      · exact absurd (.inr rfl) (no _ e3)
      · exact e3
    obtain ⟨m, hn2, hl⟩ := I.loc
    have hvis : Vis X.env.scope y := (ok.free _ (PySem.mem_of_lookup hfr2) rfl).elim (fun k => .inr (.inl k)) (fun k => .inr (.inr k))
    obtain ⟨w, r, q⟩ := hl i y av e1 e2 hvis
    refine ⟨w, r, .inr ⟨.inr (by show cenv.scope.names.lookup y = _; rw [hsc]; exact hfr2), ?_⟩⟩
    obtain ⟨c, h1, h2⟩ := look hfr2
    rcases q with ⟨k, _⟩ | ⟨_, c', e', z⟩
    · have k : X.env.scope.names.lookup y = some .local := k
      rcases ok.free _ (PySem.mem_of_lookup hfr2) rfl with k' | k' <;> rw [show X.env.scope.names.lookup y = _ from k'] at k <;> cases k
    · rw [h2] at e'; cases e'
      exact ⟨c, h1, z.keeps kp2⟩
  · obtain ⟨w, z⟩ := I.cell y c (mem (show cenv.cells.lookup y = some c from e)).1
    exact ⟨w, z.keeps kp2⟩
  · show H cenv.locals = none
    rw [hL]; exact I.hok.fresh (Nat.le_refl _)
  · exact I.freeC y c (mem (show cenv.cells.lookup y = some c from e)).1
  · have hp2 : p ∈ [(h'.objs.size, go)] := by simpa using hp2
    rw [List.mem_singleton.mp hp2]
    refine ⟨hp, I.hok.fresh (Nat.le_of_lt hltC), ?_, fun z => ?_, hg⟩
    · show h'.objs.size ≠ cenv.locals
      rw [hL]; exact Nat.ne_of_gt hltC
    · rcases List.mem_cons.mp (I.stkSub _ z) with z | z
      · have q : h'.objs.size < s.heap.objs.size := by
          have e : h'.objs.size = X.env.locals := z
          rw [e]; exact I.lt
        exact absurd (Nat.lt_trans hltC q) (Nat.lt_irrefl _)
      · exact I.nofs (Nat.le_of_lt hltC) z
end
/-! ### the generator's turns -/
def anyF (stop : Bool) (g : D → FS → Option FS) (t : FS → Res Bool) (fe : FS → Res D) (vs : List Nat) : List D → FS → Res Bool
  | [], S => .ok (!stop) S
  | d :: ds, S => match g d (wipeS S vs) with
    | none => .bad
    | some S1 => match t S1 with
      | .ok false S2 => anyF stop g t fe vs ds (restS S S2 vs)
      | .ok true S2 => (match fe S2 with
        | .ok (.bool b) S3 => if b = stop then .ok stop (restS S S3 vs) else anyF stop g t fe vs ds (restS S S3 vs)
        | _ => .bad)
      | _ => .bad
structure Woken (s s' : Shared) : Prop where
  heap : s'.heap = s.heap
  os : s'.os = s.os
  bare : AllBare s'.gens
def GYp (Y : Cx) (stop : Bool) (Q : Bool → Hp → Prop) : Protocol := fun n s₀ v s kap => ∃ b H' σ pins, v = .bool b ∧ Inv Y pins σ H' s ∧ (b = stop → Q stop H') ∧ (b ≠ stop → ∀ s', Woken s s' → kap (.send .none) s')
def GRp (Y : Cx) (stop : Bool) (Q : Bool → Hp → Prop) : Nat → Shared → Shared → Prop := fun n s₀ s => ∃ H' σ pins, Inv Y pins σ H' s ∧ Q (!stop) H'
abbrev GRr (Y : Cx) (stop : Bool) (Q : Bool → Hp → Prop) : GenEnd := fun n s₀ r s₁ => r = .ok .next ∧ GRp Y stop Q n s₀ s₁
section
variable {Y : Cx} {F : Fx} {elt tg iter : Expr} {ifs : List Expr} {scope : Scope} {pos : Pos} {g : D → FS → Option FS} {t : FS → Res Bool} {fe : FS → Res D} {ts vs : List Nat} {stop : Bool} {Q : Bool → Hp → Prop}
  {A : Around} {it : Addr} {fp : List Addr} {tn : Nat → Heap → Prop} {J : It} {H1 : Hp} {ds : List D} {σ : Sl}
theorem thnY {α : Type} {m : Sem α} {P P' : α → Shared → Prop} {M : Model} {E : Value → Shared → Prop} {s : Shared} (hx : ∀ e s, Y.xe e s → False) (h : wpAny M A m P Y.xe s) (hQ : ∀ a s, P a s → P' a s) : wpAny M A m P' E s := wpAny_mono h hQ fun _ _ z => (hx _ _ z).elim
theorem gen_loop (hc : Y.calm = true) (hx : ∀ e s, Y.xe e s → False) (hA : A.over (.compLoop (.GeneratorExp elt [⟨tg, iter, ifs, 0⟩] scope pos) 0 (.ref it) .none Y.env) [] = Y.A) (hco : Y.env.scope.isCoroutine = false)
    (T : Turn Y.prog Y.w Y.K tg J fp it tn) (stat : ∀ (σ' : Sl) (H' : Hp) (s' : Shared), Inv Y [] σ' H' s' → (∀ b ∈ fp, H' b = none) → ∀ b ∈ fp, FpOk Y [] H' b) (y : Yields Y.K J H1 ds)
    (pg : EG Y F tg ts g) (pt : ETs Y F ifs t) (pe : ED Y F elt fe) (hts : ∀ j, j ∈ ts → j ∈ vs) :
    ∀ (k i n : Nat) (s₀ s : Shared) (S : FS) (H : Hp), ds.length - i = k → i ≤ ds.length → k ≤ n → Inv Y [] (wipe σ vs) H s → tn i s.heap → (∀ b ∈ fp, H b = none) → Pers H1 H → Rel Y.K F S σ H → postT Y.K F (anyF stop g t fe vs (ds.drop i) S) σ H Q →
      Seg (model Y.prog Y.w) A (GRr Y stop Q) (GYp Y stop Q) n s₀ (.compLoop (.GeneratorExp elt [⟨tg, iter, ifs, 0⟩] scope pos) 0 (.ref it) .none Y.env)
        ((model Y.prog Y.w).den (.compLoop (.GeneratorExp elt [⟨tg, iter, ifs, 0⟩] scope pos) 0 (.ref it) .none Y.env)) [] s := by
  intro k
  induction k with
  | zero =>
    intro i n s₀ s S H hk hi hkn I st nf pH r p
    have e : i = ds.length := by omega
    subst e
    rw [List.drop_length] at p
    show Seg _ A _ _ n s₀ _ ((compTurn (.GeneratorExp elt [⟨tg, iter, ifs, 0⟩] scope pos) 0 (.ref it) .none Y.env).onRaise (leaving Y.env)) [] s
    rw [compTurn_gen, Sem.onRaise_eq_wrap]
    refine seg_bind_wrap (wpAny_standAt ?_)
    refine seg_bind_wrap ?_
    rw [hA]
    have td := T.done Y rfl rfl rfl hc ds.length [] s _ H (fun _ _ => False) I (stat _ _ _ I nf) st (y.stop H pH)
    refine thnF td fun rr s6 ⟨hr, I6⟩ => ?_
    subst hr
    exact seg_end (.ok .next) ⟨rfl, H, _, _, I6, p.ok r⟩
  | succ k ih =>
    intro i n s₀ s S H hk hi hkn I st nf pH r p
    have hl : i < ds.length := by omega
    show Seg _ A _ _ n s₀ _ ((compTurn (.GeneratorExp elt [⟨tg, iter, ifs, 0⟩] scope pos) 0 (.ref it) .none Y.env).onRaise (leaving Y.env)) [] s
    rw [compTurn_gen, Sem.onRaise_eq_wrap]
    refine seg_bind_wrap (wpAny_standAt ?_)
    refine seg_bind_wrap ?_
    rw [hA]
    have ti := T.item Y rfl rfl rfl hc i [] s _ H (fun _ _ => False) I (stat _ _ _ I nf) st (y.go i H pH hl)
    refine thnF ti fun rr s6 ⟨u, hr, h6⟩ => ?_
    subst hr
    refine seg_bind_wrap ?_
    rw [hA]
    refine thnF h6 fun _ s7 ⟨x, H7, I7, r7, y7, st7, n7⟩ => ?_
    obtain ⟨p2, k2, v2⟩ := y.yld i H x H7 ds[i] pH (List.getElem?_eq_getElem hl) y7
    rw [List.drop_eq_getElem_cons hl] at p
    simp only [anyF] at p
    have rb2 : Rel Y.K F S σ H7 := k2 _ _ _ r
    have rw2 := rb2.wiped (vs := vs)
    have I7' := I7.pinned (stat _ _ _ I7 n7) (T.obj _ _ st7)
    refine seg_bind_wrap ?_
    rw [hA]
    cases e2 : g ds[i] (wipeS S vs) with
    | none => rw [e2] at p; exact p.elim
    | some S1 =>
      rw [e2] at p
      simp only at p
      refine thnY hx (pg.run _ s7 _ H7 x u (fun σ8 H8 => wipe σ8 vs = wipe σ vs ∧ Pers H7 H8 ∧ Rel Y.K F S1 σ8 H8) I7' r7 ⟨wipeS S vs, ds[i], rw2, v2, ?_⟩) fun _ s8 ⟨σ8, H8, I8, hw8, p8, r8⟩ => ?_
      · rw [e2]
        intro σ3 H3 p3 r3 b3
        refine ⟨?_, p3, r3⟩
        apply List.ext_getElem?
        intro j
        by_cases hj : j ∈ vs
        · have l1 : (wipe σ3 vs).length = (wipe σ vs).length := by rw [wipe_length, b3.1]
          by_cases hl2 : j < σ.length
          · rw [wipe_eq, wipe_eq, setAll_in hj (by rw [b3.1, wipe_length]; exact hl2), setAll_in hj hl2]
          · rw [List.getElem?_eq_none (by rw [l1, wipe_length]; omega), List.getElem?_eq_none (by rw [wipe_length]; omega)]
        · rw [wipe_eq, setAll_out hj, b3.2 j (fun z => hj (hts j z)), wipe_eq]
      refine seg_bind_wrap ?_
      rw [hA]
      have pH8 : Pers H1 H8 := (pH.trans p2).trans p8
      -- the turn's end
      have fin : ∀ {n' : Nat} {s0' s' : Shared} {H' : Hp} {S' : FS}, k ≤ n' → Inv Y ([] ++ L2.pinsAt fp s7.heap) σ8 H' s' → Pers H8 H' → Rel Y.K F (restS S S' vs) σ H' → postT Y.K F (anyF stop g t fe vs (ds.drop (i + 1)) (restS S S' vs)) σ H' Q →
          Seg (model Y.prog Y.w) A (GRr Y stop Q) (GYp Y stop Q) n' s0' (.compLoop (.GeneratorExp elt [⟨tg, iter, ifs, 0⟩] scope pos) 0 (.ref it) .none Y.env)
            ((model Y.prog Y.w).den (.compLoop (.GeneratorExp elt [⟨tg, iter, ifs, 0⟩] scope pos) 0 (.ref it) .none Y.env)) [] s' := fun {n' s0' s' H' S'} hn' I' pp rr qq => by
        have pin' : ∀ b ∈ fp, ∀ o, s7.heap.get? b = some o → s'.heap.get? b = some o ∧ H' b = none := fun b hb o e =>
          let z := I'.pin (b, o) (List.mem_append_right _ (List.mem_append_right _ (mem_pinsAt hb e)))
          ⟨z.1, z.2.1⟩
        have hl3 : (wipe σ vs).length = σ8.length := by rw [← hw8, wipe_length]
        refine ih (i + 1) n' s0' s' _ H' (by omega) hl hn' ((I'.unpinned (pins := [])).weak hl3 (fun j v e => ?_)) (T.keep _ _ _ st7 fun b hb o e => (pin' b hb o e).1) (fun b hb => ?_) (pH8.trans pp) rr qq
        · rw [← hw8] at e
          exact (wipe_some e).1
        · obtain ⟨o, e, _⟩ := T.obj _ _ st7 b hb
          exact (pin' b hb o e).2
      cases e3 : t S1 with
      | exn e4 S2 => rw [e3] at p; exact p.elim
      | bad => rw [e3] at p; exact p.elim
      | ok kk S2 =>
        rw [e3] at p
        refine thnY hx (pt.run _ s8 σ8 H8 (fun b H9 => b = kk ∧ Pers H8 H9 ∧ Rel Y.K F S2 σ8 H9) I8 ⟨S1, r8, ?_⟩) fun b s9 ⟨H9, I9, eb, p9, r9⟩ => ?_
        · rw [e3]
          exact fun H4 p4 r4 => ⟨rfl, p4, r4⟩
        subst eb
        have pp9 : Pers H H9 := (p2.trans p8).trans p9
        cases b with
        | false =>
          simp only [Bool.false_eq_true, if_false]
          refine seg_again rfl ?_
          exact fin (n' := n) (by omega) I9 p9 (r.rest r9 pp9 hw8) (p.later pp9)
        | true =>
          simp only at p
          simp only [if_true]
          cases e5 : fe S2 with
          | exn e6 S3 => rw [e5] at p; exact p.elim
          | bad => rw [e5] at p; exact p.elim
          | ok yd S3 =>
            rw [e5] at p
            cases yd with
            | bool b =>
              simp only at p
              have hy : ∀ v, yieldOut Y.env v = yieldValue v := fun v => by simp only [yieldOut, hco, Bool.false_eq_true, if_false]
              simp only [hy]
              obtain ⟨n, rfl⟩ : ∃ m, n = m + 1 := ⟨n - 1, by omega⟩
              rw [Sem.bind_eq_wrap', Sem.bind_eq_wrap', Sem.wrap_wrap, Sem.wrap_wrap]
              refine seg_wrap ?_
              rw [hA]
              refine thnY hx (pe.run _ s9 σ8 H9 (fun z H10 => z = .bl b ∧ Pers H9 H10 ∧ Rel Y.K F S3 σ8 H10) I9 ⟨S2, r9, ?_⟩) fun z s10 ⟨yv, H10, I10, r10, ev, p10, q10⟩ => ?_
              · rw [e5]
                intro z H5 p5 r5 v5
                cases v5
                exact ⟨rfl, p5, r5⟩
              subst ev
              obtain rfl : z = Value.bool b := r10
              have pp10 : Pers H H10 := pp9.trans p10
              have rr := r.rest q10 pp10 hw8
              refine seg_at (seg_yield rfl rfl rfl ⟨b, H10, σ8, _, rfl, I10, fun hb => ?_, fun hb s'' wk => ?_⟩)
              · rw [if_pos hb] at p
                exact p H10 pp10 rr
              · rw [if_neg hb] at p
                refine seg_again rfl ?_
                exact fin (n' := n) (by omega) (inv_same I10 wk.heap wk.os wk.bare) (p9.trans p10) rr (p.later pp10)
            | _ => exact p.elim
end
end Fz
end

section
set_option Elab.async false
set_option linter.all false
set_option maxRecDepth 100000
set_option maxHeartbeats 4000000
/-! F11: any, all of a generator expression: the consumer, the rule. -/
namespace Fz
open PySem PySem.Spec PyProof.Rows L2 GenW
section
variable {Y : Cx} {F : Fx} {elt tg iter : Expr} {ifs : List Expr} {scope : Scope} {pos : Pos} {stop : Bool} {Q : Bool → Hp → Prop}
  {A : Around} {it : Addr} {σ : Sl}
theorem gen_begin {n : Nat} {s₀ s : Shared} {fp : List Addr} {tn : Nat → Heap → Prop} {J : It} {R : GenEnd} {Yp : Protocol} (T : Turn Y.prog Y.w Y.K tg J fp it tn) (st : tn 0 s.heap)
    (loop : Seg (model Y.prog Y.w) A R Yp n s₀ (.compLoop (.GeneratorExp elt [⟨tg, iter, ifs, 0⟩] scope pos) 0 (.ref it) .none Y.env)
        ((model Y.prog Y.w).den (.compLoop (.GeneratorExp elt [⟨tg, iter, ifs, 0⟩] scope pos) 0 (.ref it) .none Y.env)) [] s) :
    Seg (model Y.prog Y.w) A R Yp n s₀ (.compStart (.GeneratorExp elt [⟨tg, iter, ifs, 0⟩] scope pos) 0 (.ref it) .none Y.env)
        ((model Y.prog Y.w).den (.compStart (.GeneratorExp elt [⟨tg, iter, ifs, 0⟩] scope pos) 0 (.ref it) .none Y.env)) [] s := by
  show Seg _ A _ _ _ s₀ _ ((compStart (.GeneratorExp elt [⟨tg, iter, ifs, 0⟩] scope pos) 0 (.ref it) .none Y.env).onRaise (leaving Y.env)) [] s
  unfold compStart
  rw [Sem.onRaise_eq_wrap]
  show Seg _ A _ _ _ s₀ _ ((ask >>= _).wrap _ _ _ _) [] s
  refine seg_bind_wrap (wpAny_askSetting ?_)
  split
  · exact seg_again rfl loop
  · first
      | exact seg_bind_wrap (wpAny_rule (seg_bind_wrap (wpAny_standAt (seg_bind_wrap (T.self _ 0 s _ _ st (seg_again rfl loop))))))
      | (refine seg_bind_wrap (wpAny_rule ?_); show Seg _ A _ _ _ s₀ _ ((standAt iter.pos >>= _).wrap _ _ _ _) [] s; exact seg_bind_wrap (wpAny_standAt (seg_bind_wrap (T.self _ 0 s _ _ st (seg_again rfl loop)))))
/-- the builtin's loop -/
def loopId (stop : Bool) : String := if stop then "any.loop" else "all.loop"
theorem use_gen {a : Addr} {gi : Nat} {go : Obj} {RR : Result → Shared → Prop} (hh : A.handled = none) (hd : A.depth < recursionLimit) (hpn : Y.pn = [(a, go)]) (hgo : ∀ h : Heap, h.get? a = some go → h.IsGen a gi)
    (hlim : ∀ σ pins H s, Inv Y pins σ H s → s.heap.NoLimit)
    (fin : ∀ b H' σ pins s', Inv Y pins σ H' s' → Q b H' → RR (.ok (.ret (.bool b))) s') :
    ∀ (n : Nat) (gs : GenState) (s : Shared), s.heap.IsGen a gi → s.heap.NoLimit → s.gens[gi]? = some gs → gs.Goes (model Y.prog Y.w) A.in1.in1 (GRr Y stop Q) (GYp Y stop Q) n (.send .none) (s.setGen gi .running) →
      codeAny (model Y.prog Y.w) A (.builtin (loopId stop) ⟨[.ref a], []⟩) RR s := by
  intro n
  induction n with
  | zero =>
    intro gs s hg hl hgs hgoes
    have key : wpAny (model Y.prog Y.w) A.in1 (pyNext (.ref a)) (fun o s1 => match o with
        | none => RR (.ok (.ret (.bool (!stop)))) s1
        | some v => v = .bool stop ∧ RR (.ok (.ret (.bool stop))) s1) (fun e s' => RR (.error e) s') s := by
      refine wpAny_pyNext_genexpQ (P := GRp Y stop Q) hh hl hd hg hgs hgoes (fun v s₁ gs' hb hv => ?_) (fun s₁ hp h' hk => ?_)
      · obtain ⟨b, H', σ, pins, rfl, I, h1, h2⟩ := hv
        by_cases e : b = stop
        · subst e
          exact ⟨rfl, fin _ H' σ pins _ (inv_same I rfl rfl (allBare_setGen I.bare hb)) (h1 rfl)⟩
        · exact (h2 e s₁ ⟨rfl, rfl, I.bare⟩).elim
      · obtain ⟨H', σ, pins, I, q⟩ := hp
        have I2 : Inv Y pins σ H' (s₁.setGen gi .finished) := inv_same I rfl rfl (allBare_setGen I.bare rfl)
        exact fin _ H' σ pins _ (I2.kept (t' := _) hk) q
    cases stop with
    | true =>
      show codeAny _ A (.builtin "any.loop" ⟨[.ref a], []⟩) RR s
      refine codeAny_builtin F.entry_any_loop ?_
      rw [Around.under_plainId F.plain_any_loop _]
      show wpAny _ A.in1 (pyNext (.ref a) >>= _) _ _ s
      refine wpAny_bind (wpAny_mono key (fun o s1 h1 => ?_) fun _ _ e => e)
      cases o with
      | none => exact wpAny_bind (wpAny_rule (wpAny_pure h1))
      | some v =>
        obtain ⟨rfl, h1⟩ := h1
        refine wpAny_bind (wpAny_holding (wpAny_truthy_bool ?_))
        refine wpAny_bind (wpAny_letGo ?_)
        simp only [if_true]
        exact wpAny_bind (wpAny_rule (wpAny_pure h1))
    | false =>
      show codeAny _ A (.builtin "all.loop" ⟨[.ref a], []⟩) RR s
      refine codeAny_builtin F.entry_all_loop ?_
      rw [Around.under_plainId F.plain_all_loop _]
      show wpAny _ A.in1 (pyNext (.ref a) >>= _) _ _ s
      refine wpAny_bind (wpAny_mono key (fun o s1 h1 => ?_) fun _ _ e => e)
      cases o with
      | none => exact wpAny_bind (wpAny_rule (wpAny_pure h1))
      | some v =>
        obtain ⟨rfl, h1⟩ := h1
        refine wpAny_bind (wpAny_holding (wpAny_truthy_bool ?_))
        refine wpAny_bind (wpAny_letGo ?_)
        simp only [Bool.false_eq_true, if_false]
        exact wpAny_bind (wpAny_rule (wpAny_pure h1))
  | succ n ih =>
    intro gs s hg hl hgs hgoes
    have hlt : gi < s.gens.size := by
      rcases Nat.lt_or_ge gi s.gens.size with h | h
      · exact h
      · rw [Array.getElem?_eq_none h] at hgs; cases hgs
    have key : wpAny (model Y.prog Y.w) A.in1 (pyNext (.ref a)) (fun o s1 => match o with
        | none => RR (.ok (.ret (.bool (!stop)))) s1
        | some v => (v = .bool stop ∧ RR (.ok (.ret (.bool stop))) s1) ∨ (v = .bool (!stop) ∧ codeAny (model Y.prog Y.w) A (.builtin (loopId stop) ⟨[.ref a], []⟩) RR s1)) (fun e s' => RR (.error e) s') s := by
      refine wpAny_gsz (n := gi + 1) hlt ?_
      refine wpAny_mono (E := fun e s' => gi + 1 ≤ s'.gens.size → RR (.error e) s') ?_ (fun a s h => h) (fun _ _ h => h)
      refine wpAny_pyNext_genexpQ (P := GRp Y stop Q) hh hl hd hg hgs hgoes (fun v s₁ gs' hb hv => ?_) (fun s₁ hp h' hk => ?_)
      · intro hsz
        obtain ⟨b, H', σ, pins, rfl, I, h1, h2⟩ := hv
        have I2 : Inv Y pins σ H' (s₁.setGen gi gs') := inv_same I rfl rfl (allBare_setGen I.bare hb)
        by_cases e : b = stop
        · subst e
          exact .inl ⟨rfl, fin _ H' σ pins _ I2 (h1 rfl)⟩
        · refine .inr ⟨by cases b <;> cases stop <;> simp_all, ?_⟩
          have hsz' : gi < s₁.gens.size := by rw [← setGen_size s₁ gi gs']; exact hsz
          have hat : (s₁.setGen gi gs').gens[gi]? = some gs' := setGen_at hsz'
          have pin := (I2.pin (a, go) (List.mem_append_left _ (by rw [hpn]; exact List.mem_singleton.mpr rfl))).1
          exact ih gs' _ (hgo _ pin) (hlim _ _ _ _ I2) hat (h2 e _ ⟨rfl, rfl, allBare_setGen I2.bare rfl⟩)
      · intro _
        obtain ⟨H', σ, pins, I, q⟩ := hp
        have I2 : Inv Y pins σ H' (s₁.setGen gi .finished) := inv_same I rfl rfl (allBare_setGen I.bare rfl)
        exact fin _ H' σ pins _ (I2.kept (t' := _) hk) q
    cases stop with
    | true =>
      show codeAny _ A (.builtin "any.loop" ⟨[.ref a], []⟩) RR s
      refine codeAny_builtin F.entry_any_loop ?_
      rw [Around.under_plainId F.plain_any_loop _]
      show wpAny _ A.in1 (pyNext (.ref a) >>= _) _ _ s
      refine wpAny_bind (wpAny_mono key (fun o s1 h1 => ?_) fun _ _ e => e)
      cases o with
      | none => exact wpAny_bind (wpAny_rule (wpAny_pure h1))
      | some v =>
        rcases h1 with ⟨rfl, h1⟩ | ⟨rfl, h1⟩
        · refine wpAny_bind (wpAny_holding (wpAny_truthy_bool ?_))
          refine wpAny_bind (wpAny_letGo ?_)
          simp only [if_true]
          exact wpAny_bind (wpAny_rule (wpAny_pure h1))
        · refine wpAny_bind (wpAny_holding (wpAny_truthy_bool ?_))
          refine wpAny_bind (wpAny_letGo ?_)
          simp only [Bool.not_true, Bool.false_eq_true, if_false]
          exact wpAny_pure ⟨plainId_quiet F.plain_any_loop _, h1⟩
    | false =>
      show codeAny _ A (.builtin "all.loop" ⟨[.ref a], []⟩) RR s
      refine codeAny_builtin F.entry_all_loop ?_
      rw [Around.under_plainId F.plain_all_loop _]
      show wpAny _ A.in1 (pyNext (.ref a) >>= _) _ _ s
      refine wpAny_bind (wpAny_mono key (fun o s1 h1 => ?_) fun _ _ e => e)
      cases o with
      | none => exact wpAny_bind (wpAny_rule (wpAny_pure h1))
      | some v =>
        rcases h1 with ⟨rfl, h1⟩ | ⟨rfl, h1⟩
        · refine wpAny_bind (wpAny_holding (wpAny_truthy_bool ?_))
          refine wpAny_bind (wpAny_letGo ?_)
          simp only [Bool.false_eq_true, if_false]
          exact wpAny_bind (wpAny_rule (wpAny_pure h1))
        · refine wpAny_bind (wpAny_holding (wpAny_truthy_bool ?_))
          refine wpAny_bind (wpAny_letGo ?_)
          simp only [Bool.not_false, if_true]
          exact wpAny_pure ⟨plainId_quiet F.plain_all_loop _, h1⟩
end
end Fz
end

section
set_option Elab.async false
set_option linter.all false
set_option maxRecDepth 100000
set_option maxHeartbeats 4000000
/-! F12: any, all of a generator expression: the rule. -/
namespace Fz
open PySem PySem.Spec PyProof.Rows L2 GenW
theorem pers_grow {H : Hp} {P : Addr} {ps ps' : Array Value} (h : H P = some (.tbl ps)) (ht : TriplesOk ps'.toList) : Pers H (upd H P (.tbl ps')) := by
  have k : ∀ a u, H a = some u → (∀ q, u ≠ .tbl q) → upd H P (.tbl ps') a = some u := fun a u e n => by
    rw [upd_ne]
    · exact e
    · intro z
      rw [z, h] at e
      exact n _ (Option.some.inj e).symm
  exact ⟨fun a xs e => k a _ e (fun q z => nomatch z), fun a o u e => k a _ e (fun q z => nomatch z), fun a ⟨q, e, t⟩ => by
    by_cases z : a = P
    · subst z; exact ⟨ps', upd_same, ht⟩
    · exact ⟨q, by rw [upd_ne z]; exact e, t⟩⟩
theorem Rel.grow {K : Fg} {F : Fx} {S : FS} {σ : Sl} {H : Hp} {P : Addr} {ps ps' : Array Value} (r : Rel K F S σ H) (h : H P = some (.tbl ps)) (ht : TriplesOk ps'.toList) (hc : P ∈ F.tabs → ∀ pos cv, codeAmong pos ps'.toList = some cv → CodeG H cv) : Rel K F S σ (upd H P (.tbl ps')) := by
  have p : Pers H (upd H P (.tbl ps')) := pers_grow h ht
  have later : ∀ {a ob}, ObR K F.w H a ob → ObR K F.w (upd H P (.tbl ps')) a ob := fun {a ob} q => by
    refine q.later p (upd_ne fun z => ?_)
    obtain ⟨u, eu, _, nt⟩ := q.there
    rw [z, h] at eu; cases eu; cases nt
  have kp : ∀ a o, F.H0 a = some o → a ∉ F.pins.map (·.2) → isTbl o = false → upd H P (.tbl ps') a = some o := fun a o ho hp ht2 => by
    have e := r.keep a o ho hp ht2
    rw [upd_ne]; exact e
    intro z; rw [z, h] at e; cases e; cases ht2
  refine ⟨r.len, fun i sv e => ?_, r.apart, kp, fun a o ho => ?_, fun P2 hP2 => ?_, F.cl.selfM p r.self, fun q hq => ?_⟩
  · obtain ⟨x, ex, w⟩ := r.slot i sv e
    refine ⟨x, ex, ?_⟩
    cases sv with
    | d d => exact Pd.mono p w
    | own ob => obtain ⟨a, rfl, q, n⟩ := w; exact ⟨a, rfl, later q, n⟩
    | pin ob => obtain ⟨a, rfl, q, n⟩ := w; exact ⟨a, rfl, later q, n⟩
    | x e => exact SxR.later w p r.keep kp
  · by_cases z : a = P
    · subst z; exact ⟨_, upd_same⟩
    · obtain ⟨u, e⟩ := r.there a o ho
      exact ⟨u, by rw [upd_ne z]; exact e⟩
  · by_cases z : P2 = P
    · subst z; exact ⟨_, upd_same, ht, fun pos cv z => (hc hP2 pos cv z).later p⟩
    · obtain ⟨q, e, t, c⟩ := r.tabs P2 hP2
      exact ⟨q, by rw [upd_ne z]; exact e, t, fun pos cv z => (c pos cv z).later p⟩
  · obtain ⟨⟨e, em⟩, h0, hu⟩ := r.held q hq
    refine ⟨⟨?_, em⟩, h0, hu⟩
    rw [upd_ne]; exact e
    intro z; rw [z, h] at e; have e := Option.some.inj e; rw [← e] at em; exact em
/-- an object that no one knew, new since the frame began, is known from now on -/
theorem inv_track {X : Cx} {pins : List (Addr × Obj)} {σ : Sl} {H : Hp} {s : Shared} {a : Addr} {o : HO} (I : Inv X pins σ H s) (hn : H a = none) (h0 : X.s_0.heap.objs.size ≤ a) (hL : a ≠ X.env.locals) (hC : ∀ x c, X.env.cells.lookup x = some c → c ≠ a) (hp : ∀ p ∈ X.pn ++ pins, p.1 ≠ a)
    (new : ObjOk X.prog X.w (upd H a o) s.heap a o) : Inv X pins σ (upd H a o) s := by
  refine ⟨I.ok, I.os, I.bare, ⟨I.base.keep, I.base.slot, fun b u q n hx => ?_, I.base.there, fun b xs q => ?_, fun b ob u q => ?_, fun b ps q => ?_⟩, I.loc, I.cell, ?_, fun x c e => ?_, fun p hp2 => ?_, fun b u e => ?_, I.len⟩
  · rw [upd_ne (Nat.ne_of_lt (Nat.lt_of_lt_of_le (Heap.lt_size q) h0))]
    exact I.base.free b u q n hx
  · have z := I.base.tups b xs q
    rw [upd_ne (ne_of_none z hn)]; exact z
  · have z := I.base.frzs b ob u q
    rw [upd_ne (ne_of_none z hn)]; exact z
  · obtain ⟨m, z⟩ := I.base.tbls b ps q
    exact ⟨m, by rw [upd_ne (ne_of_none z hn)]; exact z⟩
  · rw [upd_ne (Ne.symm hL)]; exact I.free
  · rw [upd_ne (hC x c e)]; exact I.freeC x c e
  · obtain ⟨z1, z2, z3⟩ := I.pin p hp2
    exact ⟨z1, by rw [upd_ne (hp p hp2)]; exact z2, z3⟩
  · by_cases hb : b = a
    · subst hb; rw [upd_same] at e; cases e; exact new
    · rw [upd_ne hb] at e
      exact (I.hok b u e).stay (fun c v _ q => q) (fun c q => by rw [upd_ne (ne_of_none q hn)]; exact q) fun c xs q => by rw [upd_ne (ne_of_none q hn)]; exact q
theorem upd_comm {H : Hp} {a b : Addr} {o u : HO} (h : a ≠ b) : upd (upd H a o) b u = upd (upd H b u) a o := by
  funext c
  unfold upd
  by_cases h1 : c = b
  · subst h1; simp [Ne.symm h]
  · simp [h1]
theorem among_last {pos p' : Pos} {c cv : Value} (l : List Value) (h : TriplesOk l) (hc : codeAmong p' (l ++ [rawInt pos.line, rawInt pos.col, c]) = some cv) : codeAmong p' l = some cv ∨ cv = c := by
  fun_induction TriplesOk l with
  | case1 =>
    simp only [List.nil_append, rawInt, codeAmong] at hc
    split at hc
    · exact .inr (Option.some.inj hc).symm
    · cases hc
  | case2 a t b u x rest ih =>
    simp only [List.cons_append, codeAmong] at hc ⊢
    split at hc
    · rename_i q
      rw [if_pos q]
      exact .inl hc
    · rename_i q
      rw [if_neg q]
      exact ih h hc
  | case3 l h1 h2 => exact h.elim
/-- a code object and its table are new, the maker's table tells it: all known from now on -/
theorem code_new {X : Cx} {F : Fx} {pins : List (Addr × Obj)} {S : FS} {σ : Sl} {H : Hp} {s : Shared} {P c' : Addr} {ps : Array Value} {h3 : Heap} {tk : Nat} {q : Str} {pos : Pos} (I : Inv X pins σ H s) (r : Rel X.K F S σ H) (hPt : H P = some (.tbl ps)) (htr : TriplesOk ps.toList)
    (hx : Heap.ExtBut P s.heap h3) (hge : s.heap.objs.size ≤ c') (rec : h3.CodeRec (.ref c') q) (hP3 : h3.get? P = some { cls := .none, data := .fields (ps ++ #[rawInt pos.line, rawInt pos.col, .ref c']) })
    (hnew : ∃ P', s.heap.objs.size ≤ P' ∧ h3.IsCode c' P' #[] ∧ h3.TableAt c' P' #[]) :
    ∃ H3, Inv X pins σ H3 { s with heap := h3, toks := tk } ∧ Rel X.K F S σ H3 ∧ Pers H H3 ∧ (∀ b, b ≠ P → b < s.heap.objs.size → H3 b = H b) ∧ CodeG H3 (.ref c') ∧ (∀ b u, H b = some u → isTbl u = false → H3 b = some u) := by
  obtain ⟨P', hge2, ic, tb⟩ := hnew
  obtain ⟨⟨oc, vs, e1, e2, e3, e4⟩, tP'⟩ := tb
  obtain ⟨oc2, vs2, file, tf, fl, tg, inF, tx, tt, op, d1, d2, d3, d4, d5, d6, d7, d8, d9, d10, d11⟩ := ic
  rw [e1] at d1; cases d1
  rw [e3] at d2; cases d2
  obtain ⟨c0, oc0, vs0, t0, g1, g2, g3, g4⟩ := rec
  cases g1
  rw [e1] at g2; cases g2
  rw [e3] at g3; cases g3
  have n1 : H c' = none := I.hok.fresh hge
  have n2 : H P' = none := I.hok.fresh hge2
  have sz : X.s_0.heap.objs.size ≤ s.heap.objs.size := I.sz
  have nP1 : P ≠ c' := ne_of_none hPt n1
  have nP2 : P ≠ P' := ne_of_none hPt n2
  have I1 := GxR.inv_tab (more := #[rawInt pos.line, rawInt pos.col, .ref c']) (h' := h3) (g' := s.gens) (d' := s.drawn) (t' := tk) I hPt (fun b o hb e => hx b o hb e) hP3 I.bare
  have lt : ∀ {a}, s.heap.objs.size ≤ a → a ≠ X.env.locals ∧ (∀ x c, X.env.cells.lookup x = some c → c ≠ a) ∧ ∀ p ∈ X.pn ++ pins, p.1 ≠ a := fun {a} ha =>
    ⟨fun z => Nat.lt_irrefl _ (Nat.lt_of_lt_of_le (z ▸ I.lt) ha), fun x c e z => by obtain ⟨w, z2⟩ := I.cell x c e; exact Nat.lt_irrefl _ (Nat.lt_of_lt_of_le (z ▸ z2.lt) ha), fun p hp z => Nat.lt_irrefl _ (Nat.lt_of_lt_of_le (z ▸ Heap.lt_size (I.pin p hp).1) ha)⟩
  have I2 := inv_track (a := c') (o := .frz oc (.own c')) I1 (by rw [upd_ne (Ne.symm nP1)]; exact n1) (Nat.le_trans sz hge) (lt hge).1 (lt hge).2.1 (lt hge).2.2 ⟨e1, _, e1⟩
  have I3 := inv_track (a := P') (o := .tbl #[]) I2 (by rw [upd_ne (Ne.symm d11), upd_ne (Ne.symm nP2)]; exact n2) (Nat.le_trans sz hge2) (lt hge2).1 (lt hge2).2.1 (lt hge2).2.2 (show h3.get? P' = _ from tP')
  have eH : upd (upd (upd H P (.tbl (ps ++ #[rawInt pos.line, rawInt pos.col, .ref c']))) c' (.frz oc (.own c'))) P' (.tbl #[]) = upd (upd (upd H c' (.frz oc (.own c'))) P' (.tbl #[])) P (.tbl (ps ++ #[rawInt pos.line, rawInt pos.col, .ref c'])) := by
    rw [upd_comm nP1, upd_comm nP2]
  rw [eH] at I3
  have r1 : Rel X.K F S σ (upd H c' (.frz oc (.own c'))) := r.new n1
  have n2' : upd H c' (.frz oc (.own c')) P' = none := by rw [upd_ne (Ne.symm d11)]; exact n2
  have r2 : Rel X.K F S σ (upd (upd H c' (.frz oc (.own c'))) P' (.tbl #[])) := r1.new n2'
  have p1 : Pers H (upd H c' (.frz oc (.own c'))) := Pers.new n1
  have p2 := p1.trans (Pers.new (o := .tbl #[]) n2')
  have hP2 : upd (upd H c' (.frz oc (.own c'))) P' (.tbl #[]) P = some (.tbl ps) := by rw [upd_ne nP2, upd_ne nP1]; exact hPt
  have eL : (ps ++ #[rawInt pos.line, rawInt pos.col, .ref c']).toList = ps.toList ++ [rawInt pos.line, rawInt pos.col, .ref c'] := by simp
  have ht3 : TriplesOk (ps ++ #[rawInt pos.line, rawInt pos.col, .ref c']).toList := by rw [eL]; exact PySem.TriplesOk_snoc _ _ _ _ htr
  have cg : CodeG (upd (upd H c' (.frz oc (.own c'))) P' (.tbl #[])) (.ref c') :=
    ⟨c', oc, .own c', vs, q, t0, P', rfl, by rw [upd_ne d11]; exact upd_same, e2, e3, g4, e4, ⟨file, tf, fl, tg, inF, tx, tt, d3, d4, d5, d6, d7⟩, d11, ⟨_, upd_same, trivial⟩, _, rfl⟩
  have hc3 : P ∈ F.tabs → ∀ p cv, codeAmong p (ps ++ #[rawInt pos.line, rawInt pos.col, .ref c']).toList = some cv → CodeG (upd (upd H c' (.frz oc (.own c'))) P' (.tbl #[])) cv := fun hPF p cv hcv => by
    obtain ⟨ps2, e2', _, hold⟩ := r.tabs P hPF
    rw [hPt] at e2'; cases e2'
    rw [eL] at hcv
    rcases among_last _ htr hcv with z | z
    · exact (hold p cv z).later p2
    · subst z; exact cg
  have p3 : Pers _ (upd (upd (upd H c' (.frz oc (.own c'))) P' (.tbl #[])) P (.tbl (ps ++ #[rawInt pos.line, rawInt pos.col, .ref c']))) := pers_grow hP2 ht3
  refine ⟨_, I3, r2.grow hP2 ht3 hc3, p2.trans p3, fun b hb hl => ?_, cg.later p3, fun b u e ht => ?_⟩
  · rw [upd_ne hb, upd_ne (Nat.ne_of_lt (Nat.lt_of_lt_of_le hl hge2)), upd_ne (Nat.ne_of_lt (Nat.lt_of_lt_of_le hl hge))]
  · rw [upd_ne (fun z => by subst z; rw [hPt] at e; cases e; cases ht), upd_ne (ne_of_none e n2), upd_ne (ne_of_none e n1)]; exact e
/-- the running frame's code object and its table -/
def TabH (X : Cx) (F : Fx) : Prop := ∀ {pins : List (Addr × Obj)} {σ : Sl} {H : Hp} {s : Shared} {S : FS}, Inv X pins σ H s → Rel X.K F S σ H → ∃ (c P : Addr) (ps : Array Value), X.env.code = .ref c ∧ H P = some (.tbl ps) ∧ TriplesOk ps.toList ∧ PySem.W.CodeHd s.heap c P ∧ s.heap.BuiltinsAt X.mg P ∧ mainGlobals ≠ P
theorem tabH_of {X : Cx} {F : Fx} {c P : Addr} (TB : GxR.TabB X.base X.mg c P) (hcode : X.env.code = .ref c) (hP : P ∈ F.tabs) : TabH X F := fun I r =>
  let ⟨ps, e, t, _⟩ := r.tabs P hP
  ⟨c, P, ps, hcode, e, t, TB.code.keeps fun b u e => I.bk b u e, TB.bm.keeps I.bk, TB.gP⟩
structure GenSc (scope : Scope) : Prop where
  co : scope.isCoroutine = false
  nc : ∀ y ∈ scope.names, y.2 ≠ .cell
  dot : scope.names.lookup (".0" : Str) = some NameKind.local
def anyNm (stop : Bool) : Str := if stop then "any" else "all"
def fAny (stop : Bool) (it : FS → Res (List D)) (g : D → FS → Option FS) (t : FS → Res Bool) (fe : FS → Res D) (vs : List Nat) : FS → Res D := bnd it fun ds S => match anyF stop g t fe vs ds S with
  | .ok b S => .ok (.bool b) S
  | _ => .bad
theorem boot_anyNm : ∀ stop, bootBuiltins (anyNm stop) = some (.builtin (if stop then "any" else "all"))
  | true => boot_any
  | false => by first | rfl | decide | kernel_rfl
theorem over_gen {A : Around} {elt tg iter : Expr} {ifs : List Expr} {scope : Scope} {pos : Pos} {it acc : Value} {env : Env} : A.over (.compLoop (.GeneratorExp elt [⟨tg, iter, ifs, 0⟩] scope pos) 0 it acc env) [] = A.deeper env := by
  first
    | rfl
    | (obtain ⟨hd, d, fr, gs, u⟩ := A; simp [Around.over, Around.deeper, marksOver, frameCount, unitsOf, envsOf, guardsOf, pushEnvs, pushGuards, Code.envs, Code.env?, Code.isFrame, Code.guards, Code.isGuard, Code.weight, Code.frames, Code.isCreation, Code.isCaller, Code.cUnits])
section
variable {X : Cx} {F : Fx} {elt tg iter : Expr} {ifs : List Expr} {scope : Scope} {own : List (Str × Nat)} {gpos : Pos} {it : FS → Res (List D)} {g : D → FS → Option FS} {t : FS → Res Bool} {fe : FS → Res D} {ts : List Nat}
theorem eval_gen {stop : Bool} {k : Nat} {Q0 : Value → Shared → Prop} {pins : List (Addr × Obj)} {s : Shared} {σ : Sl} {H : Hp} {Q : VK}
    (hr : RoomG (k + 1) X.A) (hc : X.calm = true) (hN : X.N.Nodup) (TH : TabH X F) (hi : EI X F tg iter it) (ok : BlkOk X.N X.env.scope scope own) (G : GenSc scope) (hts : ∀ j, j ∈ ts → j ∈ own.map (·.2))
    (hg : ∀ (A' : Around) (s : Shared) (H : Hp) (C : Addr) (cl : List (Str × Addr)) (code : Value) (fp : List Addr) (pn : List (Addr × Obj)), RoomG k A' → EG (gbX X A' s H (genEnv scope cl C code builtinsNs X.env) fp pn) F tg ts g)
    (ht : ∀ (A' : Around) (s : Shared) (H : Hp) (C : Addr) (cl : List (Str × Addr)) (code : Value) (fp : List Addr) (pn : List (Addr × Obj)), RoomG k A' → ETs (gbX X A' s H (genEnv scope cl C code builtinsNs X.env) fp pn) F ifs t)
    (he : ∀ (A' : Around) (s : Shared) (H : Hp) (C : Addr) (cl : List (Str × Addr)) (code : Value) (fp : List Addr) (pn : List (Addr × Obj)), RoomG k A' → ED (gbX X A' s H (genEnv scope cl C code builtinsNs X.env) fp pn) F elt fe)
    (hs : ∀ x, genFold iter X.env x = pure x) (I : Inv X pins σ H s) (h : rdG X.K F PR (fAny stop it g t fe (own.map (·.2))) σ H Q)
    (hQ : ∀ (a : Addr) (gi : Nat) (go : Obj) (gs : GenState) (s5 : Shared) (Y : Cx) (n : Nat), s5.heap.IsGen a gi → s5.heap.NoLimit → s5.gens[gi]? = some gs → Y.prog = X.prog → Y.w = X.w → Y.pn = [(a, go)] → (∀ h : Heap, h.get? a = some go → h.IsGen a gi) →
      gs.Goes (model X.prog X.w) X.A.in1.in1 (GRr Y stop fun b H' => Q (.bl b) H') (GYp Y stop fun b H' => Q (.bl b) H') n (.send .none) (s5.setGen gi .running) → (∀ H' σ' pins' s', Inv Y pins' σ' H' s' → Inv X pins σ H' s') → Q0 (.ref a) s5) :
    wpAny (model X.prog X.w) X.A (eval (.GeneratorExp elt [⟨tg, iter, ifs, 0⟩] scope gpos) X.env) Q0 X.xe s := by
  obtain ⟨S, r, p⟩ := h
  have hfree : ∀ y ∈ scope.names, y.2 = .free → ∃ c, X.env.cells.lookup y.1 = some c := fun y hy e => by
    rcases ok.free y hy e with k | k
    · exact I.ok.has _ (.inl k)
    · exact I.ok.has _ (.inr k)
  unfold fAny bnd at p
  have hit : rdI X.K F it σ H fun J H1 => ∃ S1 ds, Rel X.K F S1 σ H1 ∧ Pers H H1 ∧ Yields X.K J H1 ds ∧ postT X.K F (anyF stop g t fe (own.map (·.2)) ds S1) σ H1 fun b H' => Q (.bl b) H' := by
    refine ⟨S, r, ?_⟩
    cases e : it S with
    | exn e2 S1 => rw [e] at p; exact p
    | bad => rw [e] at p; exact p
    | ok ds S1 =>
      rw [e] at p
      intro J H1 p1 r1 y
      refine ⟨S1, ds, r1, p1, y, ?_⟩
      simp only [Res.bind_ok] at p
      cases e2 : anyF stop g t fe (own.map (·.2)) ds S1 with
      | ok b S2 => rw [e2] at p; exact fun H' p2 r2 => p (.bl b) H' (p1.trans p2) r2 (.bl b)
      | exn e3 S2 => rw [e2] at p; exact p.elim
      | bad => rw [e2] at p; exact p
  refine wpAny_GeneratorExp_make G.co (closure_ok hfree) G.nc G.dot ok.kind hr.rm.depth ?_ hs
  refine thn (hi.run pins s σ H _ I hit) fun xv s1 hx => thn hx fun itv s2 h2 => ?_
  obtain ⟨it, fp, tn, J, H2, e, I2, T, st2, f2, S1, ds, r2, p2, y2, q⟩ := h2
  subst e
  obtain ⟨c, P, ps, hcode, hPt, htr, cd, tbm, gP⟩ := TH I2 r2
  have hPs : s2.heap.get? P = some { cls := .none, data := .fields ps } := I2.hok P _ hPt
  have nP : ∀ b ∈ fp, b ≠ P := fun b hb z => by
    have := (f2 b hb).1
    rw [z, hPt] at this; cases this
  have szb : ∀ b ∈ fp, ∃ o, s2.heap.get? b = some o := fun b hb => let ⟨o, e, _⟩ := T.obj _ _ st2 b hb; ⟨o, e⟩
  have cont : ∀ (code : Value) (h3 : Heap) (tk : Nat) (H3 : Hp), Heap.ExtBut P s2.heap h3 → Inv X pins σ H3 { s2 with heap := h3, toks := tk } → Rel X.K F S1 σ H3 → Pers H2 H3 → (∀ b ∈ fp, H3 b = none) →
      wpAny (model X.prog X.w) X.A (builtinsFor X.env.globals X.env.builtins) (fun bi s₄ => ∀ h', h'.Ns s₄.heap.objs.size (fun y => if y = ".0" then some (.ref it) else none) → Heap.SameBut s₄.heap.objs.size (s₄.heap.push { cls := .type "frame", data := .dict #[] }) h' →
          Q0 (.ref h'.objs.size) { s₄ with
            gens := s₄.gens.push (.fresh (.compStart (.GeneratorExp elt [⟨tg, iter, ifs, 0⟩] scope gpos) 0 (.ref it) .none (genEnv scope (cloFrom X.env.cells scope.names []) s₄.heap.objs.size code bi X.env))),
            toks := s₄.toks + 1 + 1 + 1,
            heap := h'.push { cls := .type "generator", data := .fields #[.int s₄.gens.size 0, .str "<genexpr>" (s₄.toks + 1), .str (X.env.qual ++ "<genexpr>") (s₄.toks + 1 + 1)] } }) X.xe { s2 with heap := h3, toks := tk } := by
    intro code h3 tk H3 hx I3 r3 pp3 n3
    generalize hs3 : ({ s2 with heap := h3, toks := tk } : Shared) = s3 at *
    have hh3 : s3.heap = h3 := by rw [← hs3]
    have f3 : ∀ b ∈ fp, FpOk X pins H3 b ∧ b < s3.heap.objs.size := fun b hb => by
      obtain ⟨o, e⟩ := szb b hb
      exact ⟨⟨n3 b hb, (f2 b hb).2⟩, by rw [hh3]; exact Heap.lt_size (hx b o (nP b hb) e)⟩
    have st3 : tn 0 s3.heap := T.keep _ _ _ st2 fun b hb o e => by rw [hh3]; exact hx b o (nP b hb) e
    obtain ⟨bm, ob, e1, e2, e3, e4, e5, e6, e7, e8⟩ := tbm
    refine wpAny_builtinsFor (m := X.mg) (by rw [I3.ok.glob]; exact I3.mod.glob.keeps I3.bk) e1 e2 (by rw [hh3]; exact hx bm ob e4 e5) e6 e7 e8 ?_
    intro h' hn' hs'
    have keep' : ∀ b o, s3.heap.get? b = some o → h'.get? b = some o := fun b o e => hs'.extBut b o (Nat.ne_of_lt (Heap.lt_size e)) (Heap.get?_push_of_some _ e)
    generalize hgo : ({ cls := .type "generator", data := .fields #[.int s3.gens.size 0, .str "<genexpr>" (s3.toks + 1), .str (X.env.qual ++ "<genexpr>") (s3.toks + 1 + 1)] } : Obj) = go
    have hpush : (h'.push go).get? h'.objs.size = some go := by rw [← hgo]; exact Heap.get?_push_size _ rfl
    have isG : ∀ h : Heap, h.get? h'.objs.size = some go → h.IsGen h'.objs.size s3.gens.size := fun h e => ⟨go, _, _, e, by rw [← hgo], by rw [← hgo], by rw [← hgo]⟩
    have hgc : ∀ v, go.data ≠ .cell v := fun v z => by rw [← hgo] at z; cases z
    let genv := genEnv scope (cloFrom X.env.cells scope.names []) s3.heap.objs.size code builtinsNs X.env
    let A' := X.A.in1.in1.deeper genv
    have hr' : RoomG k A' := ⟨⟨hr.rm.hd, by have := hr.rm.dp; show X.A.depth + 1 + 3 * k + 5 < _; omega, by have := hr.rm.un; show X.A.units + 1 + 1 + 3 + 16 * k + 200 < _; omega⟩, hr.gd⟩
    have hfr : A'.frames = some (genv :: X.stack) := Around.frames_deeper (show X.A.in1.in1.frames = some X.stack from I3.ok.frames)
    have I4 := gen_start (A' := A') (code := code) (go := go) (gs := .fresh (.compStart (.GeneratorExp elt [⟨tg, iter, ifs, 0⟩] scope gpos) 0 (.ref it) .none genv)) (tk := s3.toks + 1 + 1 + 1) I3 ok G.nc hN f3 (fun _ => hr.rm.hd) hfr hn' keep' hgc hpush rfl
    have stat : ∀ (σ' : Sl) (H' : Hp) (s' : Shared), Inv (gbX X A' s3 H3 genv fp [(h'.objs.size, go)]) [] σ' H' s' → (∀ b ∈ fp, H' b = none) → ∀ b ∈ fp, FpOk (gbX X A' s3 H3 genv fp [(h'.objs.size, go)]) [] H' b := fun σ' H' s' I' hn b hb =>
      ⟨hn b hb, (I'.ok.exf b hb).1, I'.ok.exfs b hb, .inl hb, fun x c e => (I'.ok.exf b hb).2 x c e, fun p hp => by
        have hp2 : p ∈ [(h'.objs.size, go)] := by simpa using hp
        rw [List.mem_singleton.mp hp2]
        exact Nat.ne_of_gt (Nat.lt_trans (f3 b hb).2 hn'.lt)⟩
    have loop := fun (s₀ s' : Shared) (w : Woken { s3 with gens := s3.gens.push (.fresh (.compStart (.GeneratorExp elt [⟨tg, iter, ifs, 0⟩] scope gpos) 0 (.ref it) .none genv)), toks := s3.toks + 1 + 1 + 1, heap := h'.push go } s') =>
      gen_loop (Y := gbX X A' s3 H3 genv fp [(h'.objs.size, go)]) (F := F) (A := X.A.in1.in1) (stop := stop) (Q := fun b H' => Q (.bl b) H') (elt := elt) (iter := iter) (pos := gpos) (scope := scope) (vs := own.map (·.2)) (σ := σ) (H1 := H2) (ds := ds) hc (fun _ _ z => z) over_gen G.co T stat y2
        (hg A' s3 H3 _ _ code fp _ hr') (ht A' s3 H3 _ _ code fp _ hr') (he A' s3 H3 _ _ code fp _ hr') hts ds.length 0 ds.length s₀ s' S1 H3 (Nat.sub_zero _) (Nat.zero_le _) (Nat.le_refl _) (inv_same I4 w.heap w.os w.bare)
        (T.keep _ _ _ st3 fun b _ o e => by rw [w.heap]; exact Heap.get?_push_of_some _ (keep' b o e)) n3 pp3 r3 (by rw [List.drop_zero]; exact postT.later pp3 q)
    refine hQ _ s3.gens.size go _ _ (gbX X A' s3 H3 genv fp [(h'.objs.size, go)]) ds.length (isG _ hpush) I4.nolimit (Array.getElem?_push_size ..) rfl rfl rfl isG ?_ fun H' σ' pins' s' I' => ?_
    · refine ⟨rfl, ?_⟩
      have wk : Woken { s3 with gens := s3.gens.push (.fresh (.compStart (.GeneratorExp elt [⟨tg, iter, ifs, 0⟩] scope gpos) 0 (.ref it) .none genv)), toks := s3.toks + 1 + 1 + 1, heap := h'.push go }
          (({ s3 with gens := s3.gens.push (.fresh (.compStart (.GeneratorExp elt [⟨tg, iter, ifs, 0⟩] scope gpos) 0 (.ref it) .none genv)), toks := s3.toks + 1 + 1 + 1, heap := h'.push go } : Shared).setGen s3.gens.size .running) := ⟨rfl, rfl, allBare_setGen I4.bare rfl⟩
      exact gen_begin (Y := gbX X A' s3 H3 genv fp [(h'.objs.size, go)]) T (T.keep _ _ _ st3 fun b _ o e => Heap.get?_push_of_some _ (keep' b o e)) (loop _ _ wk)
    · exact I3.call' (ch := fp) I'.os I'.base I'.hok I'.bare fun b hb => ⟨(f3 b hb).1.2.2.2.1, (f3 b hb).1.2.1, (f3 b hb).1.2.2.2.2.1, (f3 b hb).1.2.2.2.2.2⟩
  refine ⟨I2.nolimit, ?_⟩
  cases hf : codeAmong gpos ps.toList with
  | none =>
    refine wpAny_genexprCodeX hcode (cd.code hPs htr) (cd.tab hPs) hf fun c' h' tk hx hge hlt hco' hrec htab' hnew => ?_
    obtain ⟨H3, I3, r3, pp3, same, _, _⟩ := code_new (tk := tk) I2 r2 hPt htr hx hge hrec htab'.2 hnew
    exact cont _ h' tk H3 hx I3 r3 pp3 fun b hb => by
      obtain ⟨o, e⟩ := szb b hb
      rw [same b (nP b hb) (Heap.lt_size e)]; exact (f2 b hb).1
  | some cv =>
    refine wpAny_genexprCode_hit hcode (cd.code hPs htr) hf ?_
    exact cont cv s2.heap s2.toks H2 (Heap.ExtBut.refl _ _) I2 r2 (.refl _) fun b hb => (f2 b hb).1
end
end Fz
namespace Fz
open PySem PySem.Spec PyProof.Rows L2 GenW
section
variable {X : Cx} {F : Fx} {elt tg iter : Expr} {ifs : List Expr} {scope : Scope} {own : List (Str × Nat)} {gpos : Pos} {it : FS → Res (List D)} {g : D → FS → Option FS} {t : FS → Res Bool} {fe : FS → Res D} {ts : List Nat}
theorem e_anyH (stop : Bool) {k : Nat} {p pos : Pos}
    (hr : RoomG (k + 1) X.A) (hc : X.calm = true) (hN : X.N.Nodup) (hgl : Gl X (anyNm stop)) (hm : X.mg (anyNm stop) = none) (TH : TabH X F) (hi : EI X F tg iter it) (ok : BlkOk X.N X.env.scope scope own) (G : GenSc scope) (hts : ∀ j, j ∈ ts → j ∈ own.map (·.2))
    (hg : ∀ (A' : Around) (s : Shared) (H : Hp) (C : Addr) (cl : List (Str × Addr)) (code : Value) (fp : List Addr) (pn : List (Addr × Obj)), RoomG k A' → EG (gbX X A' s H (genEnv scope cl C code builtinsNs X.env) fp pn) F tg ts g)
    (ht : ∀ (A' : Around) (s : Shared) (H : Hp) (C : Addr) (cl : List (Str × Addr)) (code : Value) (fp : List Addr) (pn : List (Addr × Obj)), RoomG k A' → ETs (gbX X A' s H (genEnv scope cl C code builtinsNs X.env) fp pn) F ifs t)
    (he : ∀ (A' : Around) (s : Shared) (H : Hp) (C : Addr) (cl : List (Str × Addr)) (code : Value) (fp : List Addr) (pn : List (Addr × Obj)), RoomG k A' → ED (gbX X A' s H (genEnv scope cl C code builtinsNs X.env) fp pn) F elt fe)
    (hs : ∀ x, genFold iter X.env x = pure x := by intro _; rfl)
    (hea : starEach [.GeneratorExp elt [⟨tg, iter, ifs, 0⟩] scope gpos] X.env = (false, eval (.GeneratorExp elt [⟨tg, iter, ifs, 0⟩] scope gpos) X.env) :: starEach [] X.env := by rfl) :
    ED X F (.Call (.Name (anyNm stop) p) [.GeneratorExp elt [⟨tg, iter, ifs, 0⟩] scope gpos] [] pos) (fAny stop it g t fe (own.map (·.2))) := by
  refine ⟨fun pins s σ H Q I h => ?_⟩
  refine wpAny_Call_Name_kw (ld_blt I hgl hm (boot_anyNm stop) ?_ (by cases stop <;> decide) (by cases stop <;> decide))
  refine PyProof.Rows.callWith_builtin1 ?_ hea (by rfl)
  rw [hea]
  show wpAny _ _ (spliced ((false, eval (.GeneratorExp elt [⟨tg, iter, ifs, 0⟩] scope gpos) X.env) :: backTo pos (starEach [] X.env))) _ _ s
  refine Calls.spliced_cons (eval_gen (stop := stop) hr hc hN TH hi ok G hts hg ht he hs I h fun a gi go gs s5 Y n hG hl hgs hp hw hpn hgo hgoes hback => ?_)
  refine Calls.spliced_nil ?_
  have fin : ∀ (b : Bool) (H' : Hp) (σ' : List (Option V)) (pins' : List (Addr × Obj)) (s' : Shared), Inv Y pins' σ' H' s' → Q (.bl b) H' → EP X pins σ Q (.bool b) s' := fun b H' σ' pins' s' I' q => ⟨.bl b, H', hback _ _ _ _ I', rfl, q⟩
  have U := use_gen (Y := Y) (A := X.A) (stop := stop) (Q := fun b H' => Q (.bl b) H') (RR := fun r s' => match r with | .ok (.ret v) => EP X pins σ Q v s' | .ok _ => False | .error e => X.xe e s') hr.rm.hd hr.rm.depth hpn hgo (fun σ pins H s I => I.nolimit) (fun b H' σ' pins' s' I' q => fin b H' σ' pins' s' I' q) n gs s5 hG hl hgs (by rw [hp, hw]; exact hgoes)
  rw [hp, hw] at U
  cases stop with
  | true =>
    refine call_function_tree PySem.F.kind_any PySem.F.plain_any PySem.F.entry_any (PySem.F.args_any1 _) ?_
    unfold Builtin.«any»
    refine wpAny_bind (m := oneArg "any" _) (wpAny_pure ?_)
    refine wpAny_bind (wpAny_pyIter_gen hG ?_)
    exact wpAny_pure ⟨plainId_quiet PySem.F.plain_any_loop _, U⟩
  | false =>
    refine call_function_tree PySem.F.kind_all PySem.F.plain_all PySem.F.entry_all (PySem.F.args_all1 _) ?_
    unfold Builtin.«all»
    refine wpAny_bind (m := oneArg "all" _) (wpAny_pure ?_)
    refine wpAny_bind (wpAny_pyIter_gen hG ?_)
    exact wpAny_pure ⟨plainId_quiet PySem.F.plain_all_loop _, U⟩
theorem e_any (stop : Bool) {k : Nat} {c P : Addr} {p pos : Pos}
    (hr : RoomG (k + 1) X.A) (hc : X.calm = true) (hN : X.N.Nodup) (hgl : Gl X (anyNm stop)) (hm : X.mg (anyNm stop) = none) (TB : GxR.TabB X.base X.mg c P) (hcode : X.env.code = .ref c) (hP : P ∈ F.tabs) (hi : EI X F tg iter it) (ok : BlkOk X.N X.env.scope scope own) (G : GenSc scope) (hts : ∀ j, j ∈ ts → j ∈ own.map (·.2))
    (hg : ∀ (A' : Around) (s : Shared) (H : Hp) (C : Addr) (cl : List (Str × Addr)) (code : Value) (fp : List Addr) (pn : List (Addr × Obj)), RoomG k A' → EG (gbX X A' s H (genEnv scope cl C code builtinsNs X.env) fp pn) F tg ts g)
    (ht : ∀ (A' : Around) (s : Shared) (H : Hp) (C : Addr) (cl : List (Str × Addr)) (code : Value) (fp : List Addr) (pn : List (Addr × Obj)), RoomG k A' → ETs (gbX X A' s H (genEnv scope cl C code builtinsNs X.env) fp pn) F ifs t)
    (he : ∀ (A' : Around) (s : Shared) (H : Hp) (C : Addr) (cl : List (Str × Addr)) (code : Value) (fp : List Addr) (pn : List (Addr × Obj)), RoomG k A' → ED (gbX X A' s H (genEnv scope cl C code builtinsNs X.env) fp pn) F elt fe)
    (hs : ∀ x, genFold iter X.env x = pure x := by intro _; rfl)
    (hea : starEach [.GeneratorExp elt [⟨tg, iter, ifs, 0⟩] scope gpos] X.env = (false, eval (.GeneratorExp elt [⟨tg, iter, ifs, 0⟩] scope gpos) X.env) :: starEach [] X.env := by rfl) :
    ED X F (.Call (.Name (anyNm stop) p) [.GeneratorExp elt [⟨tg, iter, ifs, 0⟩] scope gpos] [] pos) (fAny stop it g t fe (own.map (·.2))) :=  e_anyH stop hr hc hN hgl hm (tabH_of TB hcode hP) hi ok G hts hg ht he hs hea
end
end Fz
end

section
set_option Elab.async false
set_option linter.all false
set_option maxRecDepth 100000
set_option maxHeartbeats 4000000
/-! F13: the head with code objects' tables; a def whose code object is known. -/
namespace Fz
open PySem PySem.Spec PyProof.Rows L2
/-- the def's code object, the code object's table -/
def codeA (K : Fg) (p : Str × Option Str) : Addr := match K.lookup (He.fAd K p) with
  | some ⟨_, _, .func fd, _⟩ => (match fd.code with
    | .ref c => c
    | _ => 0)
  | _ => 0
def tabA (K : Fg) (c : Addr) : Addr := match K.lookup c with
  | some ⟨_, _, .fields vs, _⟩ => (match (vs[11]? : Option Value) with
    | some (.ref P) => P
    | _ => 0)
  | _ => 0
def tabOf (K : Fg) (p : Str × Option Str) : Addr := tabA K (codeA K p)
def isRefC (K : Fg) (p : Str × Option Str) : Bool := match K.lookup (He.fAd K p) with
  | some ⟨_, _, .func fd, _⟩ => (match fd.code with
    | .ref _ => true
    | _ => false)
  | _ => false
def emptyT : Option Obj → Bool
  | some ⟨.none, none, .fields vs, sl⟩ => vs.isEmpty && sl.isEmpty
  | _ => false
theorem emptyT_ok {o : Option Obj} (h : emptyT o = true) : o = some { cls := .none, data := .fields #[] } := by
  unfold emptyT at h
  split at h
  · rename_i vs sl
    obtain ⟨h1, h2⟩ := He.ba h
    have e1 : vs = #[] := Array.isEmpty_iff.mp h1
    have e2 : sl = #[] := Array.isEmpty_iff.mp h2
    subst e1 e2; rfl
  · cases h
abbrev DP := Str × Option Str
/-- the part of the heap that is looked at: without the tables -/
def kOf (n : Nat) (ts : List DP) (g : Addr → Option Obj) : Fg := let as := He.asD g n; let K0 := He.frG g as; let tb := ts.map (tabOf K0); He.frG g (as.filter fun a => !(tb.contains a))
def tabB (g : Addr → Option Obj) (K : Fg) (p : DP) : Bool := isRefC K p && (PySem.W.codeHdIn K (codeA K p) (tabOf K p) && (emptyT (g (tabOf K p)) && (K.lookup (tabOf K p)).isNone))
abbrev AlC : Type := He.AlD × Bool
def obsC (n : Nat) (fa : List He.Fa) (fn : List He.DefD) (ts : List DP) (g : Addr → Option Obj) : AlC := let K := kOf n ts g; (He.obsD fa fn K, ts.all (tabB g K))
structure TabS (K : Fg) (h : Heap) (p : DP) : Prop where
  ref : isRefC K p = true
  hd : PySem.W.codeHdIn K (codeA K p) (tabOf K p) = true
  at_ : h.get? (tabOf K p) = some { cls := .none, data := .fields #[] }
  no : K.lookup (tabOf K p) = none
theorem tabB_ok {h : Heap} {K : Fg} {p : DP} (e : tabB h.get? K p = true) : TabS K h p := by
  obtain ⟨e1, e2⟩ := He.ba e
  obtain ⟨e3, e4⟩ := He.ba e2
  obtain ⟨e5, e6⟩ := He.ba e4
  exact ⟨e1, e3, emptyT_ok e5, by simpa using e6⟩
def hookC (n : Nat) (fa : List He.Fa) (fn : List He.DefD) (ts : List DP) : PySem.W.Hook where
  α := AlC
  obs := fun s => obsC n fa fn ts s.heap.get?
  val := fun _ => (He.valD fn, true)
  says := fun _ h => ∃ K : PySem.W.Frag, K.In h ∧ He.SaysD fa fn K ∧ ∀ p ∈ ts, TabS K h p
  of := fun _ s e => ⟨kOf n ts s.heap.get?, He.frG_in, congrArg (fun z : AlC => z.1) e, fun p hp => tabB_ok (List.all_eq_true.mp (congrArg (fun z : AlC => z.2) e) p hp)⟩
  keeps := fun _ _ _ ⟨K, hK, c, t⟩ k => ⟨K, PySem.W.Frag.In.keeps hK k, c, fun p hp => let ⟨a, b, d, e⟩ := t p hp; ⟨a, b, k _ _ d, e⟩⟩
theorem obsC_eq {n : Nat} {fa : List He.Fa} {fn : List He.DefD} {ts : List DP} {g : Addr → Option Obj} {s : Shared} (h : ∀ a, g a = s.heap.get? a) : obsC n fa fn ts g = (hookC n fa fn ts).obs s := by
  have e : g = s.heap.get? := funext h
  rw [e] <;> rfl
theorem code_of {K : Fg} {p : DP} {x qual : Str} {params : Arguments} {body : List Stmt} {scope : Scope} {dvs : List V} {kws : List (Str × V)} {fd : FuncData} (F : FunD K x qual params body scope dvs kws (He.fAd K p) fd) (h : isRefC K p = true) : fd.code = .ref (codeA K p) := by
  obtain ⟨oc, od, dV, kV, doc, pm, an, cdv, ct, osl, e, lk, _⟩ := F.ex
  unfold isRefC at h
  unfold codeA
  rw [lk] at h ⊢
  simp only at h ⊢
  split at h
  · rename_i c hc
    rw [hc]
  · cases h
end Fz
end

section
set_option Elab.async false
set_option linter.all false
set_option maxRecDepth 100000
set_option maxHeartbeats 4000000
/-! F14: the law's def at the head's end: the script as data, the tables. -/
namespace Fz
open PySem PySem.Spec PyProof.Rows L2
def scriptD (ns : List Int) : D := .list (ns.map .int)
theorem pdInts {K : Fg} {H : Hp} : ∀ ns : List Int, PdAll K H (ns.map V.int) (ns.map .int)
  | [] => .nil
  | i :: r => .cons (.int i) (pdInts r)
theorem spF_script {K : Fg} {w : World} {c : CloR} {T : List Addr} {den : Den} {a : Addr} {ns : List Int} {l : List SV} {H : Hp} {Q : VK} {E : XK} (h : FrzL K H a (ns.map V.int)) (hT : ∀ P ∈ T, TabOk H P) (hd : den [.d (scriptD ns)] = .ok (.d (.bool true)) l) (q : ∀ H', Q (.bl true) H') : spF K w c T 1 den [.ref a] H Q E := by
  refine ⟨[.d (scriptD ns)], rfl, ⟨rfl, fun i sv e => ?_, fun i j b ne ⟨ob, hi⟩ => ?_⟩, hT, ?_⟩
  · cases i with
    | zero => simp at e; subst e; exact ⟨_, rfl, .lst h (pdInts ns)⟩
    | succ i => simp at e
  · cases i with
    | zero => simp at hi
    | succ i => simp at hi
  · rw [hd]
    intro x H' _ r
    cases r
    exact q H'
/-- what is tracked when the law is called: its code's tables, the script -/
def lawH (ex : Bool) (a : Addr) (o : Obj) (xs : List V) (tb : List Addr) : Hp := fun b => if b ∈ tb then some (.tbl #[]) else if ex = true ∧ b = a then some (.frz o (.lst xs)) else none
section
variable {ex : Bool} {a : Addr} {o : Obj} {xs : List V} {tb : List Addr} {b : Addr}
theorem lawH_tab (h : b ∈ tb) : lawH ex a o xs tb b = some (.tbl #[]) := if_pos h
theorem lawH_script (h : a ∉ tb) : lawH true a o xs tb a = some (.frz o (.lst xs)) := by unfold lawH; rw [if_neg h, if_pos ⟨rfl, rfl⟩]
theorem lawH_off (h : b ∉ tb) (n : ¬ (ex = true ∧ b = a)) : lawH ex a o xs tb b = none := by unfold lawH; rw [if_neg h, if_neg n]
theorem lawH_cases {u : HO} (e : lawH ex a o xs tb b = some u) : (b ∈ tb ∧ u = .tbl #[]) ∨ (ex = true ∧ b = a ∧ u = .frz o (.lst xs)) := by
  by_cases h : b ∈ tb
  · rw [lawH_tab h] at e; cases e; exact .inl ⟨h, rfl⟩
  · by_cases n : ex = true ∧ b = a
    · unfold lawH at e
      rw [if_neg h, if_pos n] at e
      cases e
      exact .inr ⟨n.1, n.2, rfl⟩
    · rw [lawH_off h n] at e; cases e
end
theorem law_end {P : Program} {w : World} {K : Fg} {mg mb : Str → Option Value} {k : Nat} {fa a : Addr} {cs : List (Addr × Addr)} {fd : FuncData} {x : Str} {s : Shared} {vs : List Value} {ns : List Int} {den : Den} {l : List SV}
    (kin : K.In s.heap) (gns : s.heap.Ns mainGlobals mg) (bns : s.heap.Ns builtinsNs mb) (bbt : ∀ x : Str, x ≠ "__name__" → mb x = bootBuiltins x) (nlim : s.heap.NoLimit) (ng : s.gens = #[])
    (tabs : ∀ p ∈ cs, s.heap.get? p.2 = some { cls := .none, data := .fields #[] }) (tK : ∀ p ∈ cs, K.lookup p.2 = none) (cds : ∀ p ∈ cs, PySem.W.CodeHd s.heap p.1 p.2)
    (bmod : ∃ (bm : Addr) (ob : Obj), mg "__builtins__" = some (.ref bm) ∧ bm ≠ builtinsNs ∧ s.heap.get? bm = some ob ∧ ob.cls = .type "module" ∧ ob.dict = some builtinsNs ∧ ob.data = .plain)
    (hobj : s.heap.get? a = some { cls := .type "list", data := .seq vs.toArray }) (hints : IntsAre vs ns) (hlen : ns.length ≤ sizeLine) (room : RoomG k callerA)
    (hF : ∀ base : Heap, K.In base → base.Ns mainGlobals mg → (∀ p ∈ cs, GxR.TabB base mg p.1 p.2) → GOk P w K mg base k fa fd [x] (spG P w K mg base (cs.map (·.2)) 1 den)) (bd : ∀ (s : Shared) (u : Value), BindsTo s fd ⟨[u], []⟩ [(x, u)])
    (hd : den [.d (scriptD ns)] = .ok (.d (.bool true)) l) :
    codeAny (model P w) callerA (.call (.ref fa) ⟨[.ref a], []⟩) (fun r s' => r = .ok (.ret (.bool true)) ∧ OldK s.heap s'.heap ∧ s'.os = s.os ∧ AllBare s'.gens) s := by
  have rv := vals_ints hints
  let tb := cs.map (·.2)
  let o : Obj := { cls := .type "list", data := .seq vs.toArray }
  have tabAt : ∀ b ∈ tb, s.heap.get? b = some { cls := .none, data := .fields #[] } := fun b hb => by
    obtain ⟨p, hp, rfl⟩ := List.mem_map.mp hb
    exact tabs p hp
  have aOff : a ∉ tb := fun z => by
    have q := (tabAt a z).symm.trans hobj
    cases q
  let ex := (K.lookup a).isNone
  let H : Hp := lawH ex a o (ns.map V.int) tb
  have hok : HOk P w H s.heap := fun b u e => by
    rcases lawH_cases e with ⟨hb, rfl⟩ | ⟨_, rfl, rfl⟩
    · exact tabAt b hb
    · exact ⟨hobj, by rw [List.length_map]; exact hlen, vs, _, rv, hobj⟩
  -- what is neither a list like the script's nor a table is not tracked
  have off : ∀ {b : Addr} {ob : Obj}, s.heap.get? b = some ob → ob.data ≠ .fields #[] → (∀ its n, ob.data ≠ .seq its n) → H b = none := fun {b ob} e n1 n2 => by
    cases q : H b with
    | none => rfl
    | some u =>
      rcases lawH_cases q with ⟨hb, _⟩ | ⟨_, hb, _⟩
      · have := e.symm.trans (tabAt b hb)
        cases this
        exact (n1 rfl).elim
      · rw [hb] at e
        have := e.symm.trans hobj
        cases this
        exact (n2 _ _ rfl).elim
  have seen : ∀ {b : Addr} {ob : Obj}, s.heap.get? b = some ob → ob.data ≠ .fields #[] → (∀ its n, ob.data ≠ .seq its n) → (hidT s.heap H).get? b = some ob := fun e n1 n2 => hidT_get e (off e n1 n2)
  have nsH : ∀ {b : Addr} {m : Str → Option Value}, s.heap.Ns b m → (hidT s.heap H).Ns b m := fun ⟨ob, es, ep, e, d, r⟩ => ⟨ob, es, ep, seen e (fun z => by rw [d] at z; cases z) (fun its n z => by rw [d] at z; cases z), d, r⟩
  have kinH : K.In (hidT s.heap H) := fun b ob e => hidT_get (kin b ob e) (by
    cases q : H b with
    | none => rfl
    | some u =>
      rcases lawH_cases q with ⟨hb, _⟩ | ⟨hx, hb, _⟩
      · obtain ⟨p, hp, rfl⟩ := List.mem_map.mp hb
        rw [tK p hp] at e; cases e
      · have hx' : (K.lookup a).isNone = true := hx
        rw [hb] at e
        rw [e] at hx'; cases hx')
  have nGT : ∀ p ∈ cs, mainGlobals ≠ p.2 := fun p hp z => by
    obtain ⟨ob, es, ep, e, d, _⟩ := gns
    rw [z, tabs p hp] at e
    cases e; cases d
  have tbB : ∀ p ∈ cs, GxR.TabB (hidT s.heap H) mg p.1 p.2 := fun p hp => by
    refine ⟨?_, ?_, nGT p hp⟩
    · obtain ⟨ob, us, file, tf, flags, tg, inF, text, tt, e1, r1, r2, r3, rest⟩ := cds p hp
      refine ⟨ob, us, file, tf, flags, tg, inF, text, tt, seen e1 (fun z => ?_) (fun its n z => ?_), r1, r2, r3, rest⟩
      · rw [r2] at z; cases z; simp at r3
      · rw [r2] at z; cases z
    · obtain ⟨bm, ob, b1, b2, b3, b4, b5, b6⟩ := bmod
      refine ⟨bm, ob, b1, b2, fun z => ?_, fun z => ?_, seen b3 (fun y => by rw [b6] at y; cases y) (fun its n y => by rw [b6] at y; cases y), b4, b5, b6⟩
      · obtain ⟨o2, es, ep, e, d, _⟩ := gns
        rw [← z, b3] at e
        cases e
        rw [b6] at d; cases d
      · rw [z, tabs p hp] at b3
        cases b3; cases b6
  have e0 : Env0 P w K mg (hidT s.heap H) callerA [] s H := ⟨rfl, ⟨kinH, nsH gns, ⟨mb, nsH bns, bbt⟩, let ⟨mc, h1, h2⟩ := nlim; ⟨mc, nsH h1, h2⟩⟩, fun b ob e => of_hidT e, Nat.le_of_eq (hidT_size _ _), trivial, fun b hb => (List.not_mem_nil hb).elim, hok, .of_eq ng⟩
  have fz : FrzL K H a (ns.map V.int) := by
    cases q : K.lookup a with
    | none =>
      have hx : ex = true := by show (K.lookup a).isNone = true; rw [q]; rfl
      refine .inl ⟨o, ?_⟩
      show lawH ex a o (ns.map V.int) tb a = _
      rw [hx]; exact lawH_script aOff
    | some ob =>
      have e := (kin a ob q).symm.trans hobj
      cases e
      exact .inr (.inr ⟨_, vs.toArray, _, q, rfl, rfl, rfl, by rw [List.size_toArray, ← rv.length, List.length_map]; exact hlen, by simpa using rv⟩)
  refine codeAny_mono ((hF _ kinH (nsH gns) tbB).go callerA [] s H ⟨[.ref a], []⟩ [.ref a] [.ref a] (fun v _ => v = .bl true) (fun _ _ _ => False) room e0 (bd s (.ref a)) (.cons rfl .nil) (spF_script fz (fun Pt hP => ⟨#[], lawH_tab hP, trivial, fun pos cv z => by simp [codeAmong] at z⟩) hd fun _ => rfl)) fun r s' h => ?_
  match r, h with
  | .ok (.ret u), ⟨v, H', os, bare, un, hok', rr, ev⟩ =>
    have ev : v = .bl true := ev
    subst ev
    obtain rfl : u = Value.bool true := rr
    have grown : ∀ p ∈ cs, ∃ more : Array Value, s'.heap.get? p.2 = some { cls := .none, data := .fields more } := fun p hp => by
      obtain ⟨more, z⟩ := un.tbls p.2 #[] (lawH_tab (List.mem_map_of_mem hp))
      exact ⟨_, hok' p.2 _ z⟩
    have same : ∀ b ob, b ∉ tb → s.heap.get? b = some ob → s'.heap.get? b = some ob := fun b ob nb e => by
      cases q : H b with
      | none => exact un.keep b ob e q (List.not_mem_nil) (List.not_mem_nil)
      | some u =>
        rcases lawH_cases q with ⟨hb, _⟩ | ⟨_, hb, eu⟩
        · exact (nb hb).elim
        · subst eu
          have z := hok' b _ (un.frzs b o _ q)
          rw [hb] at e
          have := e.symm.trans hobj
          cases this
          exact z.1
    refine ⟨rfl, ⟨fun b ob e => ?_, fun b ob e => ?_⟩, os, bare⟩
    · by_cases hb : b ∈ tb
      · obtain ⟨p, hp, rfl⟩ := List.mem_map.mp hb
        obtain ⟨more, hm⟩ := grown p hp
        have := e.symm.trans (tabs p hp)
        cases this
        exact .inr (.inl ⟨((cds p hp).tab (tabs p hp)).isCodeTable, rfl, #[], more, rfl, by rw [Array.empty_append]; exact hm⟩)
      · exact .inl (same b ob hb e)
    · by_cases hb : b ∈ tb
      · obtain ⟨p, hp, rfl⟩ := List.mem_map.mp hb
        obtain ⟨more, hm⟩ := grown p hp
        exact ⟨_, hm⟩
      · exact ⟨ob, same b ob hb e⟩
/-- the walk: what the head says of the law's def -/
theorem walk_F {lw : PySem.W.OpenLaw} {n k : Nat} {q : Program} {loose : List Str} {XP : (Str → Option Value) → Heap → Prop} {YP : World → Heap → Prop} {d : DefRec} {x : Str} (hn : lw.most = some n) (hn2 : n ≤ sizeLine) (hdf : d.params.defaults = []) (room : RoomG k callerA)
    (hF : ∀ (w : World) (mg : Str → Option Value) (fa : Addr) (h : Heap), YP w h → h.Ns mainGlobals mg → mg d.name = some (.ref fa) → ∃ (K : PySem.W.Frag) (cs : List (Addr × Addr)) (fd : FuncData) (den : Den), K.In h ∧
      (∀ p ∈ cs, h.get? p.2 = some { cls := .none, data := .fields #[] }) ∧ (∀ p ∈ cs, K.lookup p.2 = none) ∧ (∀ p ∈ cs, PySem.W.CodeHd h p.1 p.2) ∧ (∀ (s : Shared) (u : Value), BindsTo s fd ⟨[u], []⟩ [(x, u)]) ∧
      (∀ ns : List Int, ns.length ≤ n → (∀ z ∈ ns, Builtin.Int.intBits z ≤ 1048576) → ∃ l, den [.d (scriptD ns)] = .ok (.d (.bool true)) l) ∧
      ∀ base : Heap, K.In base → base.Ns mainGlobals mg → (∀ p ∈ cs, GxR.TabB base mg p.1 p.2) → GOk lw.prog w K mg base k fa fd [x] (spG lw.prog w K mg base (cs.map (·.2)) 1 den)) :
    PySem.W.WalkO q loose XP YP lw.row.toRowW d [] (fun f vs => PySem.call f vs) := by
  refine Att.attach_callB hn hdf fun w s₀ s mg mb fa o pm cd doc a vs ns G Y ho hd hcd hmg hobj hints hl hbits hg => ?_
  obtain ⟨K, cs, fd, den, kin, t1, t2, t3, bd, hlaw, hG⟩ := hF w mg fa _ Y G.T.g hmg
  obtain ⟨l, hden⟩ := hlaw ns hl hbits
  exact law_end kin G.T.g G.T.b G.T.builtins G.T.nolimit hg t1 t2 t3 G.T.bmain hobj hints (Nat.le_trans hl hn2) room hG bd hden
end Fz
end

section
set_option Elab.async false
set_option linter.all false
set_option maxRecDepth 100000
set_option maxHeartbeats 4000000
/-! F15: what the head tells, packed; defs by it. -/
namespace Fz
open PySem PySem.Spec PyProof.Rows L2
/-- all that the head tells -/
structure HeadC (fa : List He.Fa) (fn : List He.DefD) (ts : List DP) (K : Fg) (mg : Str → Option Value) (base : Heap) (T : List Addr) : Prop where
  says : He.SaysD fa fn K
  kin : K.In base
  gl : base.Ns mainGlobals mg
  rc : ∀ p ∈ ts, isRefC K p = true
  tb : ∀ p ∈ ts, GxR.TabB base mg (codeA K p) (tabOf K p)
  tT : T = ts.map (tabOf K)
section
variable {fa : List He.Fa} {fn : List He.DefD} {ts : List DP} {K : Fg} {mg : Str → Option Value} {base : Heap} {T : List Addr} {P : Program} {w : World}
theorem HeadC.free (C : HeadC fa fn ts K mg base T) (i : Nat) {x : Str} (h : fa[i]? = some (.free x) := by rfl) : mg x = none := He.free_ok C.kin C.gl (C.says.fact i h)
theorem HeadC.glo (C : HeadC fa fn ts K mg base T) (i : Nat) {x : Str} (h : fa[i]? = some (.glo x) := by rfl) : mg x = some (.ref (He.ga K x)) := He.glo_ok C.kin C.gl (C.says.fact i h)
theorem HeadC.int (C : HeadC fa fn ts K mg base T) (i : Nat) {x : Str} {z : Int} (h : fa[i]? = some (.int x z) := by rfl) : ∃ t, mg x = some (.int z t) := He.int_ok C.kin C.gl (C.says.fact i h)
theorem HeadC.tab (C : HeadC fa fn ts K mg base T) (i : Nat) {p : DP} (h : ts[i]? = some p := by rfl) : GxR.TabB base mg (codeA K p) (tabOf K p) ∧ tabOf K p ∈ T := by
  have hm := List.mem_of_getElem? h
  refine ⟨C.tb p hm, ?_⟩
  rw [C.tT]; exact List.mem_map_of_mem hm
theorem e_gint {X : Cx} {F : Fx} {x : Str} {z : Int} {pos : Pos} (hg : Gl X x) (hm : ∃ t, X.mg x = some (.int z t)) (hd : (x == ("__debug__" : Str)) = false := by decide) : ED X F (.Name x pos) (fC (.int z)) := by
  obtain ⟨t, hm⟩ := hm
  exact (pe_glob (v := .int z) hg hm ⟨t, rfl⟩ hd).via fun σ H Q ⟨S, r, p⟩ => p.ok r (.int z)
/-- the context of a def's body -/
abbrev bX (P : Program) (w : World) (K : Fg) (mg : Str → Option Value) (base : Heap) (N : List Str) (qual : Str) (scope : Scope) (f : Addr) (cdv : Value) (A : Around) (outer : List Env) (s : Shared) (H : Hp) (E1 : XK) : Cx := (cxOf CX0 P w K mg base N qual scope f cdv A outer s H E1).nox
/-- a def of the text keeps its promise -/
structure FnF (P : Program) (w : World) (K : Fg) (mg : Str → Option Value) (base : Heap) (T : List Addr) (k : Nat) (d : He.DefD) (x : Str) (ps : List Str) (n : Nat) (den : Den) : Prop where
  ex : ∃ fd, FunD K d.name d.qual d.params d.body d.scope [] (d.kws K) (He.fAd K d.at_) fd ∧ GOk P w K mg base k (He.fAd K d.at_) fd ps (spG P w K mg base T n den) ∧ mg x = some (.ref (He.fAd K d.at_))
theorem FnF.toFn {k n : Nat} {d : He.DefD} {x : Str} {ps : List Str} {den : Den} (G : FnF P w K mg base T k d x ps n den)
    (ha : ∀ (kV doc pm : Value) (an : Option Addr) (cdv ct : Value) (us : List Value), us.length = ps.length → bindArgs (PySem.W.fnOf d.name d.qual d.params d.body d.scope .none kV doc pm an cdv ct) ⟨us, []⟩ = pure (ps.zip us)) : Fn P w K mg base T k x ps n den := by
  obtain ⟨fd, FD, F1, hg⟩ := G.ex
  exact ⟨_, fd, F1, hg, FD.kp, FD.bindsN ha⟩
theorem FnF.toFnK {k n m : Nat} {d : He.DefD} {x : Str} {ps ks : List Str} {perm : List Nat} {den : Den} (G : FnF P w K mg base T k d x ps n den)
    (h : ∀ (kV doc pm : Value) (an : Option Addr) (cdv ct : Value) (us ws : List Value), us.length = m → ws.length = ks.length → bindArgs (PySem.W.fnOf d.name d.qual d.params d.body d.scope .none kV doc pm an cdv ct) ⟨us, ks.zip ws⟩ = pure (ps.zip (permL perm (us ++ ws)))) : FnK P w K mg base T k x ps n den m ks perm := by
  obtain ⟨fd, FD, F1, hg⟩ := G.ex
  exact ⟨_, fd, F1, hg, FD.kp, kwF_of FD h⟩
/-- a def by its body -/
theorem fn_mk {k n : Nat} {d : He.DefD} {x : Str} {N ps : List Str} {fb : FS → SRes} (C : HeadC fa fn ts K mg base T) (i j : Nat) (S : FnScope N ps d.scope)
    (hb : ∀ (cdv : Value) (A : Around) (outer : List Env) (s : Shared) (H : Hp) (E1 : XK) (H0 : Hp) (pins : List (Nat × Addr)) (E : XK), RoomG k (A.deeper (envOfC d.qual d.scope s.heap.objs.size (He.fAd K d.at_) cdv)) → EB (bX P w K mg base N d.qual d.scope (He.fAd K d.at_) cdv A outer s H E1) ⟨H0, pins, T, [], E, w, cloX P w K mg base T (bX P w K mg base N d.qual d.scope (He.fAd K d.at_) cdv A outer s H E1).env.cells []⟩ d.body fb)
    (hn : N.length = n := by rfl) (hl : ps.length ≤ N.length := by decide) (hi : fn[i]? = some d := by rfl) (hj : fa[j]? = some (.glo x) := by rfl) (hat : d.at_ = (x, none) := by rfl) (hd : d.dfl = [] := by rfl) : FnF P w K mg base T (k + 1) d x ps ps.length (denOf n fb) := by
  obtain ⟨fd, FD⟩ := C.says.def_ i hi
  have FD' : FunD K d.name d.qual d.params d.body d.scope [] (d.kws K) (He.fAd K d.at_) fd := by
    have e : d.dvs K = [] := by unfold He.DefD.dvs; rw [hd]; rfl
    rw [← e]; exact FD
  have hg : mg x = some (.ref (He.fAd K d.at_)) := by
    rw [hat]; exact C.glo j hj
  subst hn
  exact ⟨fd, FD', def_ok FD' S hl (hb fd.code), hg⟩
/-- a def with generator expressions -/
theorem fn_mkC {k n : Nat} {d : He.DefD} {x : Str} {N ps : List Str} {fb : FS → SRes} (C : HeadC fa fn ts K mg base T) (i j l : Nat) (S : FnScope N ps d.scope)
    (hb : ∀ (A : Around) (outer : List Env) (s : Shared) (H : Hp) (E1 : XK) (H0 : Hp) (pins : List (Nat × Addr)) (E : XK), RoomG k (A.deeper (envOfC d.qual d.scope s.heap.objs.size (He.fAd K d.at_) (.ref (codeA K d.at_)))) → EB (bX P w K mg base N d.qual d.scope (He.fAd K d.at_) (.ref (codeA K d.at_)) A outer s H E1) ⟨H0, pins, T, [], E, w, cloX P w K mg base T (bX P w K mg base N d.qual d.scope (He.fAd K d.at_) (.ref (codeA K d.at_)) A outer s H E1).env.cells []⟩ d.body fb)
    (hn : N.length = n := by rfl) (hl : ps.length ≤ N.length := by decide) (hi : fn[i]? = some d := by rfl) (hj : fa[j]? = some (.glo x) := by rfl) (ht : ts[l]? = some d.at_ := by rfl) (hat : d.at_ = (x, none) := by rfl) (hd : d.dfl = [] := by rfl) : FnF P w K mg base T (k + 1) d x ps ps.length (denOf n fb) := by
  obtain ⟨fd, FD⟩ := C.says.def_ i hi
  have FD' : FunD K d.name d.qual d.params d.body d.scope [] (d.kws K) (He.fAd K d.at_) fd := by
    have e : d.dvs K = [] := by unfold He.DefD.dvs; rw [hd]; rfl
    rw [← e]; exact FD
  have hg : mg x = some (.ref (He.fAd K d.at_)) := by
    rw [hat]; exact C.glo j hj
  subst hn
  have ec := code_of FD' (C.rc _ (List.mem_of_getElem? ht))
  exact ⟨fd, FD', def_ok FD' S hl (by rw [ec]; exact hb), hg⟩
/-- of a den that never answers nothing is asked -/
theorem fn_bad {k : Nat} {d : He.DefD} {x : Str} {ps : List Str} (C : HeadC fa fn ts K mg base T) (i j : Nat) (hi : fn[i]? = some d := by rfl) (hj : fa[j]? = some (.glo x) := by rfl) (hat : d.at_ = (x, none) := by rfl) (hd : d.dfl = [] := by rfl) : FnF P w K mg base T k d x ps ps.length (fun _ => .bad) := by
  obtain ⟨fd, FD⟩ := C.says.def_ i hi
  have FD' : FunD K d.name d.qual d.params d.body d.scope [] (d.kws K) (He.fAd K d.at_) fd := by
    have e : d.dvs K = [] := by unfold He.DefD.dvs; rw [hd]; rfl
    rw [← e]; exact FD
  have hg : mg x = some (.ref (He.fAd K d.at_)) := by
    rw [hat]; exact C.glo j hj
  exact ⟨fd, FD', ⟨fun vs H Q E ⟨svs, _, _, _, z⟩ => z.elim, fun A outer s H args us vs Q E _ _ _ _ ⟨svs, _, _, _, z⟩ => z.elim⟩, hg⟩
end
section
variable {X : Cx} {F : Fx} {i : Nat} {o e : Expr} {apos cpos pos : Pos}
end
theorem t_bool {X : Cx} {F : Fx} {e : Expr} {f : FS → Res Bool} (h : EW X F e f) : ET X F e f := h.pt
/-- built-ins by name -/
theorem bt_bool : bootBuiltins "bool" = some (.type "bool") := by decide +kernel
theorem bt_str : bootBuiltins "str" = some (.type "str") := by decide +kernel
theorem bt_len : bootBuiltins "len" = some (.builtin "len") := by decide +kernel
theorem bt_abs : bootBuiltins "abs" = some (.builtin "abs") := by decide +kernel
theorem bt_max : bootBuiltins "max" = some (.builtin "max") := by decide +kernel
theorem bt_min : bootBuiltins "min" = some (.builtin "min") := by decide +kernel
theorem bt_all : bootBuiltins "all" = some (.builtin "all") := by decide +kernel
theorem bt_repr : bootBuiltins "repr" = some (.builtin "repr") := by decide +kernel
theorem bt_isinstance : bootBuiltins "isinstance" = some (.builtin "isinstance") := by decide +kernel
theorem bt_int : bootBuiltins "int" = some (.type "int") := by decide +kernel
theorem bt_tuple : bootBuiltins "tuple" = some (.type "tuple") := by decide +kernel
theorem bt_list : bootBuiltins "list" = some (.type "list") := by decide +kernel
end Fz
end

section
set_option Elab.async false
set_option linter.all false
set_option maxRecDepth 100000
set_option maxHeartbeats 4000000
/-! F16: repr of data; min of tuples of ints. -/
namespace Fz
open PySem PySem.Spec PyProof.Rows L2
/-! ### repr -/
def showOk (d : D) : Prop := d.showable = true ∧ d.hasDict = false ∧ d.shown.length ≤ sizeLine ∧ d.depth ≤ 60
noncomputable instance (d : D) : Decidable (showOk d) := Classical.propDecidable _
def rReprD (K : Fg) : List V → Hp → VK → Prop := fun xs H Q => ∃ a d, xs = [.ref a] ∧ Dp K H (.ref a) d ∧ showOk d ∧ Q (.str d.shown) H
section
variable {X : Cx} {F : Fx}
theorem cr_reprD {k : Nat} (hr : RoomG k X.A) : CallR X (.builtin "repr") (rReprD X.K) := by
  intro pins s σ H xs us Q I rx ⟨a, d, ex, hd, ⟨h1, h2, h3, h4⟩, q⟩
  subst ex
  rw [Vals.ref1 rx]
  obtain ⟨as, r⟩ := Dp.reads I d (.ref a) (.ref a) hd rfl
  exact repr_of_reads' r h1 (PyData.noDict_hsm h2) hr.gd (by have := hr.rm.units; omega) (fun _ _ e => e) (fun h' u tk hk => ⟨.str d.shown, H, I.kept hk, ⟨u, rfl⟩, q⟩) h3
end
/-! ### min of a list of tuples of ints -/
section
variable {P : Program} {w : World} {A : Around} {R : Result → Shared → Prop} {I S l : Addr} {items : Array Value} {nss : List (List Int)} {h₀ : Heap}
end
end Fz
namespace Fz
open PySem PySem.Spec PyProof.Rows L2
section
variable {X : Cx} {F : Fx}
end
end Fz
end

section
set_option Elab.async false
set_option linter.all false
set_option maxRecDepth 100000
set_option maxHeartbeats 4000000
/-! F17: the head's end, closed. -/
namespace Fz
open PySem PySem.Spec PyProof.Rows L2
theorem funD_eq {K : Fg} {x qual : Str} {params : Arguments} {body : List Stmt} {scope : Scope} {dvs dvs2 : List V} {kws kws2 : List (Str × V)} {f : Addr} {fd fd2 : FuncData} (a : FunD K x qual params body scope dvs kws f fd) (b : FunD K x qual params body scope dvs2 kws2 f fd2) : fd = fd2 := by
  obtain ⟨_, _, _, _, _, _, _, _, _, _, _, h1, _⟩ := a.ex
  obtain ⟨_, _, _, _, _, _, _, _, _, _, _, h2, _⟩ := b.ex
  rw [h1] at h2
  injection h2 with h2
  injection h2 with _ _ h2 _
  injection h2
theorem head_close {P : Program} {w : World} {fa : List He.Fa} {fn : List He.DefD} {ts : List DP} {K : Fg} {h : Heap} {mg : Str → Option Value} {k n i j : Nat} {d : He.DefD} {x y : Str} {den : Den} (KX : K.In h) (G : h.Ns mainGlobals mg) (c : He.SaysD fa fn K) (tb : ∀ p ∈ ts, TabS K h p)
    (hF : ∀ base : Heap, HeadC fa fn ts K mg base (ts.map (tabOf K)) → FnF P w K mg base (ts.map (tabOf K)) k d y [x] 1 den)
    (hspec : ∀ ns : List Int, ns.length ≤ n → (∀ z ∈ ns, Builtin.Int.intBits z ≤ 1048576) → ∃ l, den [.d (scriptD ns)] = .ok (.d (.bool true)) l)
    (ha : ∀ (kV doc pm : Value) (an : Option Addr) (cdv ct : Value) (us : List Value), us.length = [x].length → bindArgs (PySem.W.fnOf d.name d.qual d.params d.body d.scope .none kV doc pm an cdv ct) ⟨us, []⟩ = pure ([x].zip us))
    {f : Addr} (hf : mg y = some (.ref f)) (hi : fn[i]? = some d := by rfl) (hj : fa[j]? = some (.glo y) := by rfl) (hat : d.at_ = (y, none) := by rfl) (hd : d.dfl = [] := by rfl) :
    ∃ (K : PySem.W.Frag) (cs : List (Addr × Addr)) (fd : FuncData) (den : Den), K.In h ∧
      (∀ p ∈ cs, h.get? p.2 = some { cls := .none, data := .fields #[] }) ∧ (∀ p ∈ cs, K.lookup p.2 = none) ∧ (∀ p ∈ cs, PySem.W.CodeHd h p.1 p.2) ∧ (∀ (s : Shared) (u : Value), BindsTo s fd ⟨[u], []⟩ [(x, u)]) ∧
      (∀ ns : List Int, ns.length ≤ n → (∀ z ∈ ns, Builtin.Int.intBits z ≤ 1048576) → ∃ l, den [.d (scriptD ns)] = .ok (.d (.bool true)) l) ∧
      ∀ base : Heap, K.In base → base.Ns mainGlobals mg → (∀ p ∈ cs, GxR.TabB base mg p.1 p.2) → GOk P w K mg base k f fd [x] (spG P w K mg base (cs.map (·.2)) 1 den) := by
  obtain ⟨fd, FD⟩ := c.def_ i hi
  have e0 : d.dvs K = [] := by unfold He.DefD.dvs; rw [hd]; rfl
  rw [e0] at FD
  have hg := He.glo_ok KX G (c.fact j hj)
  have ef : f = He.fAd K d.at_ := by
    rw [hf] at hg
    cases hg
    rw [hat]; rfl
  have back : ∀ {p : Addr × Addr}, p ∈ ts.map (fun p => (codeA K p, tabOf K p)) → ∃ q ∈ ts, p = (codeA K q, tabOf K q) := fun hp => by
    obtain ⟨q, hq, e⟩ := List.mem_map.mp hp
    exact ⟨q, hq, e.symm⟩
  refine ⟨K, ts.map (fun p => (codeA K p, tabOf K p)), fd, den, KX, fun p hp => ?_, fun p hp => ?_, fun p hp => ?_, fun s u => FunD.bindsA (ps := [x]) FD ha s [u] rfl, hspec, fun base kb gb tbb => ?_⟩
  · obtain ⟨q, hq, rfl⟩ := back hp; exact (tb q hq).at_
  · obtain ⟨q, hq, rfl⟩ := back hp; exact (tb q hq).no
  · obtain ⟨q, hq, rfl⟩ := back hp; exact PySem.W.codeHd_of_K KX (tb q hq).hd
  · have eT : (ts.map (fun p => (codeA K p, tabOf K p))).map (·.2) = ts.map (tabOf K) := by rw [List.map_map]; rfl
    rw [eT, ef]
    obtain ⟨fd2, FD2, go, _⟩ := (hF base ⟨c, kb, gb, fun p hp => (tb p hp).ref, fun p hp => tbb (codeA K p, tabOf K p) (List.mem_map_of_mem hp), rfl⟩).ex
    rw [funD_eq FD FD2]
    exact go
end Fz
end

section
set_option Elab.async false
set_option linter.all false
set_option maxRecDepth 100000
set_option maxHeartbeats 4000000
/-! F18: what dens promise: weakest preconditions of dens, by simp. No program in sight. -/
namespace Fz
open PySem L2
def wE {α : Type} (r : Res α) (Q : α → FS → Prop) : Prop := match r with
  | .ok a S => Q a S
  | _ => False
def wS (r : SRes) (N : FS → Prop) (R : SV → FS → Prop) (B C : FS → Prop) : Prop := match r with
  | .nx S => N S
  | .rt v S => R v S
  | .bk S => B S
  | .ct S => C S
  | _ => False
def wC (r : CRes) (Q : SV → List SV → Prop) : Prop := match r with
  | .ok v svs => Q v svs
  | _ => False
def wO {α : Type} (o : Option α) (k : α → Prop) : Prop := match o with
  | some a => k a
  | none => False
def wFrz : SV → (D → Prop) → Prop
  | .d d, k => k d
  | .own (.lst ds), k => k (.list ds)
  | _, _ => False
def wInt : D → (Int → Prop) → Prop
  | .int i, k => k i
  | _, _ => False
def wBool : D → (Bool → Prop) → Prop
  | .bool i, k => k i
  | _, _ => False
def wItems : D → (List D → Prop) → Prop
  | .list ds, k => k ds
  | .tuple ds, k => k ds
  | _, _ => False
section
variable {α β : Type} {Q : α → FS → Prop} {S : FS} {N : FS → Prop} {R : SV → FS → Prop} {B C : FS → Prop}
@[simp] theorem wE_ok {a : α} : wE (.ok a S) Q = Q a S := rfl
@[simp] theorem wE_bad : wE (.bad : Res α) Q = False := rfl
@[simp] theorem wE_exn {e : Exn} : wE (.exn e S : Res α) Q = False := rfl
@[simp] theorem wS_nx : wS (.nx S) N R B C = N S := rfl
@[simp] theorem wS_rt {v : SV} : wS (.rt v S) N R B C = R v S := rfl
@[simp] theorem wS_bk : wS (.bk S) N R B C = B S := rfl
@[simp] theorem wS_ct : wS (.ct S) N R B C = C S := rfl
@[simp] theorem wS_bad : wS .bad N R B C = False := rfl
@[simp] theorem wO_some {a : α} {k : α → Prop} : wO (some a) k = k a := rfl
@[simp] theorem wO_none {k : α → Prop} : wO none k = False := rfl
@[simp] theorem wFrz_d {d : D} {k : D → Prop} : wFrz (.d d) k = k d := rfl
@[simp] theorem wFrz_own {ds : List D} {k : D → Prop} : wFrz (.own (.lst ds)) k = k (.list ds) := rfl
@[simp] theorem wInt_int {i : Int} {k : Int → Prop} : wInt (.int i) k = k i := rfl
@[simp] theorem wBool_bool {i : Bool} {k : Bool → Prop} : wBool (.bool i) k = k i := rfl
@[simp] theorem wItems_list {ds : List D} {k : List D → Prop} : wItems (.list ds) k = k ds := rfl
@[simp] theorem wItems_tuple {ds : List D} {k : List D → Prop} : wItems (.tuple ds) k = k ds := rfl
theorem wE_bnd {f : FS → Res β} {k : β → FS → Res α} : wE (bnd f k S) Q = wE (f S) fun a S1 => wE (k a S1) Q := by
  unfold bnd; cases f S <;> rfl
@[simp] theorem wE_fC {a : α} : wE (fC a S) Q = Q a S := rfl
end
section
variable {Q : D → FS → Prop} {QV : SV → FS → Prop} {QB : Bool → FS → Prop} {QL : List D → FS → Prop} {QO : Option Int → FS → Prop} {S : FS} {f g fa fb : FS → Res D} {fv : FS → Res SV} {t u : FS → Res Bool} {gl : FS → Res (List D)} {d e : D}
def wVar (i : Nat) (o : Option (Option SV)) (S : FS) (Q : D → FS → Prop) : Prop := match o with
  | some (some (.d d)) => Q d S
  | some (some (.own (.lst ds))) => Q (.list ds) (S.set i (some (.d (.list ds))))
  | _ => False
def wPeek (o : Option (Option SV)) (Q : D → Prop) : Prop := match o with
  | some (some (.d d)) => Q d
  | some (some (.own (.lst ds))) => Q (.list ds)
  | some (some (.pin (.lst ds))) => Q (.list ds)
  | some (some (.x (.ro (.lst ds)))) => Q (.list ds)
  | _ => False
@[simp] theorem wPeek_ro {Q : D → Prop} {ds : List D} : wPeek (some (some (.x (.ro (.lst ds))))) Q = Q (.list ds) := rfl
@[simp] theorem wVar_d {i : Nat} : wVar i (some (some (.d d))) S Q = Q d S := rfl
@[simp] theorem wVar_own {i : Nat} {ds : List D} : wVar i (some (some (.own (.lst ds)))) S Q = Q (.list ds) (S.set i (some (.d (.list ds)))) := rfl
@[simp] theorem wPeek_d {Q : D → Prop} : wPeek (some (some (.d d))) Q = Q d := rfl
@[simp] theorem wPeek_own {Q : D → Prop} {ds : List D} : wPeek (some (some (.own (.lst ds)))) Q = Q (.list ds) := rfl
@[simp] theorem wPeek_pin {Q : D → Prop} {ds : List D} : wPeek (some (some (.pin (.lst ds)))) Q = Q (.list ds) := rfl
@[simp] theorem wE_fVar {i : Nat} : wE (fVar i S) Q = wVar i S[i]? S Q := by
  unfold fVar wVar
  split <;> simp_all
@[simp] theorem wE_fPeek {i : Nat} : wE (fPeek i S) Q = wPeek S[i]? fun d => Q d S := by
  unfold fPeek wPeek
  split <;> simp_all
@[simp] theorem wE_fV : wE (fV f S) QV = wE (f S) fun d S1 => QV (.d d) S1 := wE_bnd
@[simp] theorem wE_fFrz : wE (fFrz fv S) Q = wE (fv S) fun v S1 => wFrz v fun d => Q d S1 := by
  unfold fFrz; rw [wE_bnd]; congr; funext v S1
  cases v with
  | own o => cases o <;> rfl
  | _ => rfl
@[simp] theorem wE_fOp {α : Type} {Q : α → FS → Prop} {p : D → D → FS → Res α} : wE (fOp p fa fb S) Q = wE (fa S) fun d S1 => wE (fb S1) fun e S2 => wE (p d e S2) Q := by
  unfold fOp; rw [wE_bnd]; congr; funext d S1; rw [wE_bnd]
@[simp] theorem wE_fOpN {α : Type} {Q : α → FS → Prop} {p : D → D → FS → Res α} {i : Nat} : wE (fOpN p i fb S) Q = wPeek S[i]? fun _ => wE (fb S) fun e S2 => wPeek S2[i]? fun d => wE (p d e S2) Q := by
  unfold fOpN; rw [wE_bnd, wE_fPeek]; congr; funext d; rw [wE_bnd]; congr; funext e S2; rw [wE_bnd, wE_fPeek]
@[simp] theorem wE_fT : wE (fT f S) QB = wE (f S) fun d S1 => wBool d fun b => QB b S1 := by
  unfold fT; rw [wE_bnd]; congr; funext d S1; cases d <;> rfl
@[simp] theorem wE_fTru : wE (fTru f S) QB = wE (f S) fun d S1 => wO (dTru d) fun b => QB b S1 := by
  unfold fTru; rw [wE_bnd]; congr; funext d S1; cases h : dTru d <;> simp [h]
@[simp] theorem wE_fOrT : wE (fOrT t u S) QB = wE (t S) fun b S1 => (b = true → QB true S1) ∧ (b = false → wE (u S1) QB) := by
  unfold fOrT; rw [wE_bnd]; congr; funext b S1; cases b <;> simp
@[simp] theorem wE_fNotT : wE (fNotT t S) QB = wE (t S) fun b S1 => QB (!b) S1 := wE_bnd
@[simp] theorem wE_fIte {α : Type} {Q : α → FS → Prop} {x y : FS → Res α} : wE (fIte t x y S) Q = wE (t S) fun b S1 => (b = true → wE (x S1) Q) ∧ (b = false → wE (y S1) Q) := by
  unfold fIte; rw [wE_bnd]; congr; funext b S1; cases b <;> simp
@[simp] theorem wE_fAndV : wE (fAndV f g S) Q = wE (f S) fun d S1 => wBool d fun b => (b = true → wE (g S1) Q) ∧ (b = false → Q (.bool false) S1) := by
  unfold fAndV; rw [wE_bnd]; congr; funext d S1
  cases d with
  | bool b => cases b <;> simp
  | _ => rfl
@[simp] theorem wE_fNotV : wE (fNotV f S) Q = wE (f S) fun d S1 => wO (dTru d) fun b => Q (.bool (!b)) S1 := by
  unfold fNotV; rw [wE_bnd, wE_fTru]; rfl
@[simp] theorem wE_neg : wE (bnd f pNeg S) Q = wE (f S) fun d S1 => wInt d fun i => Q (.int (-i)) S1 := by
  rw [wE_bnd]; congr; funext d S1; cases d <;> rfl
@[simp] theorem wE_fCons : wE (fCons f gl S) QL = wE (f S) fun d S1 => wE (gl S1) fun ds S2 => QL (d :: ds) S2 := by
  unfold fCons; rw [wE_bnd]; congr; funext d S1; rw [wE_bnd]; rfl
@[simp] theorem wE_fTup : wE (fTup gl S) Q = wE (gl S) fun ds S1 => ds.length ≤ sizeLine ∧ Q (.tuple ds) S1 := by
  unfold fTup; rw [wE_bnd]; congr; funext d S1; split <;> simp [*]
@[simp] theorem wE_fLst : wE (fLst gl S) QV = wE (gl S) fun ds S1 => ds.length ≤ sizeLine ∧ QV (.own (.lst ds)) S1 := by
  unfold fLst; rw [wE_bnd]; congr; funext d S1; split <;> simp [*]
@[simp] theorem wE_fPart : wE (fPart f S) QO = wE (f S) fun d S1 => wInt d fun i => QO (some i) S1 := by
  unfold fPart; rw [wE_bnd]; congr; funext d S1; cases d <;> rfl
@[simp] theorem wE_fSlN {lo hi : FS → Res (Option Int)} {i : Nat} : wE (fSlN i lo hi S) QV = wPeek S[i]? fun _ => wE (lo S) fun a S2 => wE (hi S2) fun b S3 => wPeek S3[i]? fun d => wE (pSl d a b S3) QV := by
  unfold fSlN; rw [wE_bnd, wE_fPeek]; congr; funext d; rw [wE_bnd]; congr; funext a S2; rw [wE_bnd]; congr; funext b S3; rw [wE_bnd, wE_fPeek]
@[simp] theorem wE_pSl_t {ds : List D} {a b : Option Int} : wE (pSl (.tuple ds) a b S) QV = QV (.d (.tuple (cutL ds a b))) S := rfl
@[simp] theorem wE_pSl_l {ds : List D} {a b : Option Int} : wE (pSl (.list ds) a b S) QV = QV (.own (.lst (cutL ds a b))) S := rfl
@[simp] theorem wE_fCall {α : Type} {Q : α → FS → Prop} {p : List D → FS → Res α} : wE (fCall p gl S) Q = wE (gl S) fun ds S1 => wE (p ds S1) Q := wE_bnd
@[simp] theorem wE_one {α : Type} {Q : α → FS → Prop} {p : D → FS → Res α} : wE (one p [d] S) Q = wE (p d S) Q := rfl
@[simp] theorem wE_two {α : Type} {Q : α → FS → Prop} {p : D → D → FS → Res α} : wE (two p [d, e] S) Q = wE (p d e S) Q := rfl
@[simp] theorem wE_pLen_t {ds : List D} : wE (pLen (.tuple ds) S) Q = Q (.int ds.length) S := rfl
@[simp] theorem wE_pLen_l {ds : List D} : wE (pLen (.list ds) S) Q = Q (.int ds.length) S := rfl
@[simp] theorem wE_pToInt {i : Int} : wE (pToInt (.int i) S) Q = Q (.int i) S := rfl
@[simp] theorem wE_pAbs {i : Int} : wE (pAbs (.int i) S) Q = Q (.int (if i < 0 then -i else i)) S := rfl
@[simp] theorem wE_pMax2 {i j : Int} : wE (pMax2 (.int i) (.int j) S) Q = Q (.int (if j > i then j else i)) S := rfl
@[simp] theorem wE_pMin2 {i j : Int} : wE (pMin2 (.int i) (.int j) S) Q = Q (.int (if j < i then j else i)) S := rfl
@[simp] theorem wE_pTuple_t {ds : List D} : wE (pTuple (.tuple ds) S) Q = Q (.tuple ds) S := rfl
@[simp] theorem wE_pTuple_l {ds : List D} : wE (pTuple (.list ds) S) Q = Q (.tuple ds) S := rfl
@[simp] theorem wE_pList_t {ds : List D} : wE (pList (.tuple ds) S) QV = QV (.own (.lst ds)) S := rfl
@[simp] theorem wE_pList_l {ds : List D} : wE (pList (.list ds) S) QV = QV (.own (.lst ds)) S := rfl
@[simp] theorem wE_pAll {ds : List D} : wE (pAll (.list ds) S) Q = wO (bls ds) fun bs => Q (.bool (bs.all id)) S := by
  unfold pAll; cases h : bls ds <;> simp [h]
@[simp] theorem wE_fIsi {T : String} : wE (fIsi T f S) Q = wE (f S) fun d S1 => Q (.bool (isT (dTyp d) T)) S1 := wE_bnd
-- operators
@[simp] theorem wE_pSub : wE (pSub d e S) Q = wInt d fun i => wInt e fun j => Q (.int (i - j)) S := by cases d <;> cases e <;> rfl
@[simp] theorem wE_pDiv : wE (pDiv d e S) Q = wInt d fun i => wInt e fun j => CDivW i j ∧ Q (.int (i / j)) S := by
  cases d <;> cases e <;> simp [pDiv, pInt, wInt]
  split <;> simp_all
@[simp] theorem wE_pMod : wE (pMod d e S) Q = wInt d fun i => wInt e fun j => 0 < j ∧ Q (.int (i % j)) S := by
  cases d <;> cases e <;> simp only [pMod, pInt, wInt, wE_bad]
  rename_i i j
  by_cases h : 0 < j
  · simp [h]
  · simp [h]
@[simp] theorem wE_pPow : wE (pPow d e S) Q = wInt d fun i => wInt e fun j => CPow i j ∧ Q (.int (i ^ j.toNat)) S := by
  cases d <;> cases e <;> simp [pPow, pInt, wInt]
  split <;> simp_all
@[simp] theorem wE_pCmp {g : Int → Int → Bool} : wE (pCmp g d e S) Q = wInt d fun i => wInt e fun j => Q (.bool (g i j)) S := by cases d <;> cases e <;> rfl
@[simp] theorem wE_pEq : wE (pEq d e S) Q = (eqOk d e = true ∧ Q (.bool (PyData.eqv d e)) S) := by
  unfold pEq; split <;> simp [*]
@[simp] theorem wE_pNe : wE (pNe d e S) Q = (eqOk d e = true ∧ Q (.bool (!PyData.eqv d e)) S) := by
  unfold pNe; split <;> simp [*]
@[simp] theorem wE_pIsB_b {b : Bool} : wE (pIsB d (.bool b) S) Q = Q (.bool (dIsB b d)) S := rfl
@[simp] theorem wE_pIsB_n : wE (pIsB d .none S) Q = Q (.bool (dNone d)) S := rfl
@[simp] theorem wE_pAdd_i {i j : Int} : wE (pAdd (.int i) (.int j) S) QV = QV (.d (.int (i + j))) S := rfl
@[simp] theorem wE_pAdd_t {xs ys : List D} : wE (pAdd (.tuple xs) (.tuple ys) S) QV = (xs.length + ys.length ≤ sizeLine ∧ QV (.d (.tuple (xs ++ ys))) S) := by
  unfold pAdd; simp only; split <;> simp [*]
@[simp] theorem wE_pAdd_l {xs ys : List D} : wE (pAdd (.list xs) (.list ys) S) QV = (xs.length + ys.length ≤ sizeLine ∧ QV (.own (.lst (xs ++ ys))) S) := by
  unfold pAdd; simp only; split <;> simp [*]
@[simp] theorem wE_pIx_t {xs : List D} {i : Int} : wE (pIx (.tuple xs) (.int i) S) Q = wO (atI xs i) fun d => Q d S := by
  unfold pIx; simp only; cases h : atI xs i <;> simp [h]
@[simp] theorem wE_pIx_l {xs : List D} {i : Int} : wE (pIx (.list xs) (.int i) S) Q = wO (atI xs i) fun d => Q d S := by
  unfold pIx; simp only; cases h : atI xs i <;> simp [h]
-- iterables
@[simp] theorem wE_fItems : wE (fItems f S) QL = wE (f S) fun d S1 => wItems d fun ds => QL ds S1 := by
  unfold fItems; rw [wE_bnd]; congr; funext d S1; cases d <;> rfl
@[simp] theorem wE_fRange1 : wE (fRange1 f S) QL = wE (f S) fun d S1 => wInt d fun j => inR j ∧ QL (rngD 0 j.toNat) S1 := by
  unfold fRange1; rw [wE_bnd]; congr; funext d S1
  cases d <;> simp [wInt]
  split <;> simp [*]
-- chains
@[simp] theorem wE_fChain {p p' : D → D → FS → Res D} : wE (fChain p p' f fa fb S) Q = wE (f S) fun d S1 => wE (fa S1) fun e S2 => wE (p d e S2) fun z S3 => wBool z fun b => (b = true → wE (fb S3) fun h S4 => wE (p' e h S4) Q) ∧ (b = false → Q (.bool false) S3) := by
  unfold fChain; rw [wE_bnd]; congr; funext d S1; rw [wE_bnd]; congr; funext e S2; rw [wE_bnd]; congr; funext z S3
  cases z with
  | bool b => cases b <;> simp [wE_bnd]
  | _ => rfl
end

/-! statements, calls -/
section
variable {Q : D → FS → Prop} {QV : SV → FS → Prop} {QA : List AD → FS → Prop} {QS : List SV → FS → Prop} {S : FS} {f fk : FS → Res D} {fv : FS → Res SV} {t : FS → Res Bool} {N : FS → Prop} {R : SV → FS → Prop} {B C : FS → Prop} {x y : FS → SRes}
theorem wS_bndS {α : Type} {f : FS → Res α} {k : α → FS → SRes} : wS (bndS f k S) N R B C = wE (f S) fun a S1 => wS (k a S1) N R B C := by
  unfold bndS; cases f S <;> rfl
@[simp] theorem wS_fSeq : wS (fSeq x y S) N R B C = wS (x S) (fun S1 => wS (y S1) N R B C) R B C := by
  unfold fSeq; cases x S <;> rfl
@[simp] theorem wS_fRet : wS (fRet fv S) N R B C = wE (fv S) fun v S1 => R v S1 := wS_bndS
@[simp] theorem wS_fRetD : wS (fRetD f S) N R B C = wE (f S) fun v S1 => R (.d v) S1 := wS_bndS
@[simp] theorem wS_fDrop {α : Type} {f : FS → Res α} : wS (fDrop f S) N R B C = wE (f S) fun _ S1 => N S1 := wS_bndS
@[simp] theorem wS_fIf : wS (fIf t x y S) N R B C = wE (t S) fun b S1 => (b = true → wS (x S1) N R B C) ∧ (b = false → wS (y S1) N R B C) := by
  unfold fIf; rw [wS_bndS]; congr; funext b S1; cases b <;> simp
@[simp] theorem wS_fSet {i : Nat} : wS (fSet i fv S) N R B C = wE (fv S) fun v S1 => N (S1.set i (some v)) := wS_bndS
@[simp] theorem wS_fSetD {i : Nat} : wS (fSetD i f S) N R B C = wE (f S) fun v S1 => N (S1.set i (some (.d v))) := wS_bndS
@[simp] theorem wS_fAsg {g : D → FS → Option FS} : wS (fAsg g f S) N R B C = wE (f S) fun d S1 => wO (g d S1) N := by
  unfold fAsg; rw [wS_bndS]; congr; funext d S1; cases h : g d S1 <;> simp [h]
@[simp] theorem wS_fPars {is : List Nat} {fs : FS → Res (List SV)} : wS (fPars is fs S) N R B C = wE (fs S) fun vs S1 => wO (setsV is vs S1) N := by
  unfold fPars; rw [wS_bndS]; congr; funext d S1; cases h : setsV is d S1 <;> simp [h]
def wCons : SV → (SV → Prop) → Prop
  | .d d, k => k (.d d)
  | .own o, k => k (.own o)
  | _, _ => False
@[simp] theorem wCons_d {d : D} {k : SV → Prop} : wCons (.d d) k = k (.d d) := rfl
@[simp] theorem wCons_own {o : Ob} {k : SV → Prop} : wCons (.own o) k = k (.own o) := rfl
@[simp] theorem wE_fConsV {g : FS → Res (List SV)} : wE (fConsV fv g S) QS = wE (fv S) fun v S1 => wCons v fun v => wE (g S1) fun vs S2 => QS (v :: vs) S2 := by
  unfold fConsV; rw [wE_bnd]; congr; funext v S1
  cases v with
  | d d => simp [wE_bnd]
  | own o => simp [wE_bnd, wCons]
  | pin o => rfl
  | x e => rfl
theorem wLst_w {i : Nat} {k : List D → FS → SRes} : wS (wLst i k S) N R B C = wO (lstAt S i) fun ds => wS (k ds S) N R B C := by
  unfold wLst; cases h : lstAt S i <;> simp [h]
@[simp] theorem wS_fSetIx {i : Nat} : wS (fSetIx i f fk S) N R B C = wE (f S) fun d S1 => wPeek S1[i]? fun _ => wE (fk S1) fun k S2 => wO (lstAt S2 i) fun ds => wInt k fun j => wO (ixN ds.length j) fun m => N (putLst S2 i (ds.set m d)) := by
  unfold fSetIx; rw [wS_bndS]; congr; funext d S1; rw [wS_bndS, wE_fPeek]; congr; funext e; rw [wS_bndS]; congr; funext k S2; rw [wLst_w]; congr; funext ds
  cases k with
  | int j => cases h : ixN ds.length j <;> simp [h]
  | _ => rfl
@[simp] theorem wS_fFor {it : FS → Res (List D)} {g : D → FS → Option FS} {b : FS → SRes} : wS (fFor it g b S) N R B C = wE (it S) fun ds S1 => wS (forF g b ds S1) N R B C := wS_bndS
-- calls
@[simp] theorem wE_fAD {g : FS → Res (List AD)} : wE (fAD f g S) QA = wE (f S) fun d S1 => wE (g S1) fun as S2 => QA (.d d :: as) S2 := by
  unfold fAD; rw [wE_bnd]; congr; funext d S1; rw [wE_bnd]; rfl
def isSome2 : Option (Option SV) → Prop
  | some (some _) => True
  | _ => False
@[simp] theorem isSome2_some {v : SV} : isSome2 (some (some v)) = True := rfl
@[simp] theorem wE_fAS {i : Nat} {g : FS → Res (List AD)} : wE (fAS i g S) QA = (isSome2 S[i]? ∧ wE (g S) fun as S2 => QA (.s i :: as) S2) := by
  unfold fAS
  split
  · rename_i h; rw [h, wE_bnd]; simp
  · rename_i h
    cases e : S[i]? with
    | none => simp [isSome2]
    | some o =>
      cases o with
      | none => simp [isSome2]
      | some v => exact (h v e).elim
theorem wE_callD {den : Den} {as : List AD} : wE (callD den as S) QV = ((slotsOf as).Nodup ∧ wO (resolve S as) fun svs => wC (den svs) fun ret svs' => wO (back as svs' S) fun S' => QV ret S') := by
  unfold callD
  by_cases hn : (slotsOf as).Nodup
  · rw [if_pos hn]
    cases h : resolve S as with
    | none => simp [hn]
    | some svs =>
      cases h2 : den svs with
      | ok ret svs' =>
        cases h3 : back as svs' S with
        | none => simp [hn, h2, wC, h3]
        | some S' => simp [hn, h2, wC, h3]
      | exn e svs' =>
        cases h3 : back as svs' S <;> simp [hn, h2, wC, h3]
      | bad => simp [hn, h2, wC]
  · rw [if_neg hn]; simp [hn]
@[simp] theorem wE_fCallP {den : Den} {n : Nat} {f : FS → Res (List AD)} : wE (fCallP den n f S) QV = wE (f S) fun as S1 => as.length = n ∧ wE (callD den as S1) QV := by
  unfold fCallP; rw [wE_bnd]; congr; funext as S1; split <;> simp [*]
@[simp] theorem wE_fCallK {den : Den} {n m nk : Nat} {perm : List Nat} {f g : FS → Res (List AD)} : wE (fCallK den n m nk perm f g S) QV = wE (f S) fun as S1 => wE (g S1) fun bs S2 => (as.length = m ∧ bs.length = nk ∧ (permL perm (as ++ bs)).length = n) ∧ wE (callD den (permL perm (as ++ bs)) S2) QV := by
  unfold fCallK; rw [wE_bnd]; congr; funext as S1; rw [wE_bnd]; congr; funext bs S2; split <;> simp [*]
theorem wC_denOf {n : Nat} {b : FS → SRes} {svs : List SV} {Q : SV → List SV → Prop} : wC (denOf n b svs) Q = wS (b (startS n svs)) (fun S => wO (pinsAt svs S) fun l => Q (.d .none) l) (fun v S => wO (pinsAt svs S) fun l => Q v l) (fun _ => False) (fun _ => False) := by
  unfold denOf
  cases h : b (startS n svs) with
  | nx S1 => cases h2 : pinsAt svs S1 <;> simp [h2, wC]
  | rt v S1 => cases h2 : pinsAt svs S1 <;> simp [h2, wC]
  | exn e S1 => cases h2 : pinsAt svs S1 <;> simp [h2, wC, wS]
  | bk S1 => rfl
  | ct S1 => rfl
  | bad => rfl
theorem wC.ok {r : CRes} {Q : SV → List SV → Prop} (h : wC r Q) : ∃ v l, r = .ok v l ∧ Q v l := by
  cases r with
  | ok v l => exact ⟨v, l, rfl, h⟩
  | _ => exact h.elim
theorem wC.mono {r : CRes} {Q Q' : SV → List SV → Prop} (h : wC r Q) (k : ∀ v l, Q v l → Q' v l) : wC r Q' := by
  cases r with
  | ok v l => exact k v l h
  | _ => exact h.elim
theorem wE.mono {α : Type} {r : Res α} {Q Q' : α → FS → Prop} (h : wE r Q) (k : ∀ v l, Q v l → Q' v l) : wE r Q' := by
  cases r with
  | ok v l => exact k v l h
  | _ => exact h.elim
theorem wS.imp {r : SRes} {N' : FS → Prop} {R' : SV → FS → Prop} {B' C' : FS → Prop} (h : wS r N R B C) (k : ∀ S, N S → N' S) (k2 : ∀ v S, R v S → R' v S) (k3 : ∀ S, B S → B' S) (k4 : ∀ S, C S → C' S) : wS r N' R' B' C' := by
  cases r with
  | nx S => exact k S h
  | rt v S => exact k2 v S h
  | bk S => exact k3 S h
  | ct S => exact k4 S h
  | _ => exact h.elim
end
/-! loops -/
section
variable {S : FS} {N : FS → Prop} {R : SV → FS → Prop} {B C : FS → Prop}
theorem wS_forF {g : D → FS → Option FS} {b : FS → SRes} {ds : List D} (I : Nat → FS → Prop) (h0 : I 0 S) (step : ∀ i d S, ds[i]? = some d → I i S → wO (g d S) fun S1 => wS (b S1) (I (i + 1)) R N (I (i + 1))) (hN : ∀ S, I ds.length S → N S) : wS (forF g b ds S) N R B C := by
  have key : ∀ (es : List D) (i : Nat) (S : FS), ds.drop i = es → i ≤ ds.length → I i S → wS (forF g b es S) N R B C := by
    intro es
    induction es with
    | nil =>
      intro i S hd hi h
      have : i = ds.length := by
        have := congrArg List.length hd
        simp at this; omega
      subst this
      exact hN S h
    | cons d es ih =>
      intro i S hd hi h
      have hl : i < ds.length := by
        have := congrArg List.length hd
        simp at this; omega
      have hg : ds[i]? = some d := by
        have := congrArg (fun l => l[0]?) hd
        simpa using this
      have hd2 : ds.drop (i + 1) = es := by
        have := congrArg List.tail hd
        simpa using this
      have st := step i d S hg h
      cases e : g d S with
      | none => rw [e] at st; exact st.elim
      | some S1 =>
        rw [e] at st
        have st : wS (b S1) (I (i + 1)) R N (I (i + 1)) := st
        simp only [forF, e]
        cases e2 : b S1 with
        | nx S2 => rw [e2] at st; exact ih (i + 1) S2 hd2 hl st
        | ct S2 => rw [e2] at st; exact ih (i + 1) S2 hd2 hl st
        | bk S2 => rw [e2] at st; exact st
        | rt v S2 => rw [e2] at st; exact st
        | exn v S2 => rw [e2] at st; exact st.elim
        | bad => rw [e2] at st; exact st.elim
  exact key ds 0 S rfl (Nat.zero_le _) h0
@[simp] theorem wE_fLc {it : FS → Res (List D)} {g : D → FS → Option FS} {t : FS → Res Bool} {fe : FS → Res D} {vs : List Nat} {Q : SV → FS → Prop} : wE (fLc it g t fe vs S) Q = wE (it S) fun ds S1 => wE (lcF g t fe vs ds S1 []) Q := wE_bnd
theorem wE_lcF {g : D → FS → Option FS} {t : FS → Res Bool} {fe : FS → Res D} {vs : List Nat} {ds : List D} {Q : SV → FS → Prop} (I : Nat → List D → FS → Prop) (h0 : I 0 [] S)
    (step : ∀ i d acc S, ds[i]? = some d → I i acc S → wO (g d (wipeS S vs)) fun S1 => wE (t S1) fun k S2 => (k = false → I (i + 1) acc (restS S S2 vs)) ∧ (k = true → wE (fe S2) fun y S3 => acc.length < sizeLine ∧ I (i + 1) (acc ++ [y]) (restS S S3 vs)))
    (hQ : ∀ acc S, I ds.length acc S → Q (.own (.lst acc)) S) : wE (lcF g t fe vs ds S []) Q := by
  have key : ∀ (es : List D) (i : Nat) (acc : List D) (S : FS), ds.drop i = es → i ≤ ds.length → I i acc S → wE (lcF g t fe vs es S acc) Q := by
    intro es
    induction es with
    | nil =>
      intro i acc S hd hi h
      have : i = ds.length := by
        have := congrArg List.length hd
        simp at this; omega
      subst this
      exact hQ acc S h
    | cons d es ih =>
      intro i acc S hd hi h
      have hl : i < ds.length := by
        have := congrArg List.length hd
        simp at this; omega
      have hg : ds[i]? = some d := by
        have := congrArg (fun l => l[0]?) hd
        simpa using this
      have hd2 : ds.drop (i + 1) = es := by
        have := congrArg List.tail hd
        simpa using this
      have st := step i d acc S hg h
      cases e : g d (wipeS S vs) with
      | none => rw [e] at st; exact st.elim
      | some S1 =>
        rw [e] at st
        have st : wE (t S1) _ := st
        simp only [lcF, e]
        cases e2 : t S1 with
        | exn v S2 => rw [e2] at st; exact st.elim
        | bad => rw [e2] at st; exact st.elim
        | ok k S2 =>
          rw [e2] at st
          cases k with
          | false => exact ih (i + 1) acc _ hd2 hl (st.1 rfl)
          | true =>
            have st := st.2 rfl
            simp only
            cases e3 : fe S2 with
            | exn v S3 => rw [e3] at st; exact st.elim
            | bad => rw [e3] at st; exact st.elim
            | ok y S3 =>
              rw [e3] at st
              obtain ⟨s1, s2⟩ := st
              simp only
              rw [if_pos s1]
              exact ih (i + 1) _ _ hd2 hl s2
  exact key ds 0 [] S rfl (Nat.zero_le _) h0
@[simp] theorem wE_fAny {stop : Bool} {it : FS → Res (List D)} {g : D → FS → Option FS} {t : FS → Res Bool} {fe : FS → Res D} {vs : List Nat} {Q : D → FS → Prop} : wE (fAny stop it g t fe vs S) Q = wE (it S) fun ds S1 => wE (anyF stop g t fe vs ds S1) fun b S2 => Q (.bool b) S2 := by
  unfold fAny; rw [wE_bnd]; congr; funext ds S1; cases h : anyF stop g t fe vs ds S1 <;> simp [h]
theorem wE_anyF {stop : Bool} {g : D → FS → Option FS} {t : FS → Res Bool} {fe : FS → Res D} {vs : List Nat} {ds : List D} {Q : Bool → FS → Prop} (I : Nat → FS → Prop) (h0 : I 0 S)
    (step : ∀ i d S, ds[i]? = some d → I i S → wO (g d (wipeS S vs)) fun S1 => wE (t S1) fun k S2 => (k = false → I (i + 1) (restS S S2 vs)) ∧ (k = true → wE (fe S2) fun y S3 => wBool y fun b => (b = stop → Q stop (restS S S3 vs)) ∧ (b ≠ stop → I (i + 1) (restS S S3 vs))))
    (hQ : ∀ S, I ds.length S → Q (!stop) S) : wE (anyF stop g t fe vs ds S) Q := by
  have key : ∀ (es : List D) (i : Nat) (S : FS), ds.drop i = es → i ≤ ds.length → I i S → wE (anyF stop g t fe vs es S) Q := by
    intro es
    induction es with
    | nil =>
      intro i S hd hi h
      have : i = ds.length := by
        have := congrArg List.length hd
        simp at this; omega
      subst this
      exact hQ S h
    | cons d es ih =>
      intro i S hd hi h
      have hl : i < ds.length := by
        have := congrArg List.length hd
        simp at this; omega
      have hg : ds[i]? = some d := by
        have := congrArg (fun l => l[0]?) hd
        simpa using this
      have hd2 : ds.drop (i + 1) = es := by
        have := congrArg List.tail hd
        simpa using this
      have st := step i d S hg h
      cases e : g d (wipeS S vs) with
      | none => rw [e] at st; exact st.elim
      | some S1 =>
        rw [e] at st
        have st : wE (t S1) _ := st
        simp only [anyF, e]
        cases e2 : t S1 with
        | exn v S2 => rw [e2] at st; exact st.elim
        | bad => rw [e2] at st; exact st.elim
        | ok k S2 =>
          rw [e2] at st
          cases k with
          | false => exact ih (i + 1) _ hd2 hl (st.1 rfl)
          | true =>
            have st := st.2 rfl
            simp only
            cases e3 : fe S2 with
            | exn v S3 => rw [e3] at st; exact st.elim
            | bad => rw [e3] at st; exact st.elim
            | ok y S3 =>
              rw [e3] at st
              cases y with
              | bool k =>
                obtain ⟨s1, s2⟩ := st
                simp only
                by_cases hk : k = stop
                · rw [if_pos hk]; exact s1 hk
                · rw [if_neg hk]; exact ih (i + 1) _ hd2 hl (s2 hk)
              | _ => exact st.elim
  exact key ds 0 S rfl (Nat.zero_le _) h0
end

def lsO : Option (Option SV) → Option (List D)
  | some (some (.own (.lst ds))) => some ds
  | some (some (.pin (.lst ds))) => some ds
  | _ => none
@[simp] theorem lsO_own {ds : List D} : lsO (some (some (.own (.lst ds)))) = some ds := rfl
@[simp] theorem lsO_pin {ds : List D} : lsO (some (some (.pin (.lst ds)))) = some ds := rfl
@[simp] theorem lstAt_eq {S : FS} {i : Nat} : lstAt S i = lsO S[i]? := by
  unfold lstAt lsO; split <;> simp_all
def mkO : Option (Option SV) → Ob → SV
  | some (some (.pin _)), o => .pin o
  | _, o => .own o
@[simp] theorem mkO_own {o o' : Ob} : mkO (some (some (.own o))) o' = .own o' := rfl
@[simp] theorem mkO_pin {o o' : Ob} : mkO (some (some (.pin o))) o' = .pin o' := rfl
@[simp] theorem putLst_eq {S : FS} {i : Nat} {ds : List D} : putLst S i ds = S.set i (some (mkO S[i]? (.lst ds))) := by
  unfold putLst mkO; split <;> simp_all
@[simp] theorem setOb_eq {S : FS} {i : Nat} {o : Ob} : setOb S i o = S.set i (some (mkO S[i]? o)) := by
  unfold setOb mkO; split <;> simp_all
@[simp] theorem isT_e {a T : String} : isT a T = (a == T || (a == "bool" && T == "int")) := rfl
@[simp] theorem bls_e1 : bls [] = some [] := rfl
@[simp] theorem bls_e2 {b : Bool} {r : List D} : bls (.bool b :: r) = (bls r).map (b :: ·) := rfl
@[simp] theorem gN_e {i : Nat} {d : D} {S : FS} : gN i d S = some (S.set i (some (.d d))) := rfl
@[simp] theorem gNl_e {S : FS} : gNl [] S = some S := rfl
@[simp] theorem gCs_e1 {g : D → FS → Option FS} {h : List D → FS → Option FS} {d : D} {ds : List D} {S : FS} : gCs g h (d :: ds) S = (g d S).bind (h ds) := rfl
@[simp] theorem gCs_e2 {g : D → FS → Option FS} {h : List D → FS → Option FS} {S : FS} : gCs g h [] S = none := rfl
@[simp] theorem gTp_e {n : Nat} {g : List D → FS → Option FS} {ds : List D} {S : FS} : gTp n g (.tuple ds) S = if ds.length = n then g ds S else none := rfl
@[simp] theorem inR_e {j : Int} : inR j = (-4611686018427387904 ≤ j ∧ j < 4611686018427387904) := by
  unfold inR
  rw [show (2 : Int) ^ 62 = 4611686018427387904 from by decide]
@[simp] theorem keepD_e1 {d : D} : keepD (some (.d d)) = some (.d d) := rfl
@[simp] theorem keepD_e2 : keepD none = none := rfl
@[simp] theorem keepD_e3 {o : Ob} : keepD (some (.own o)) = none := rfl
@[simp] theorem keepD_e4 {o : Ob} : keepD (some (.pin o)) = none := rfl
@[simp] theorem wipeS_e {S : FS} {vs : List Nat} : wipeS S vs = setAll S vs fun _ => none := rfl
@[simp] theorem restS_e {S S2 : FS} {vs : List Nat} : restS S S2 vs = setAll S2 vs fun v => keepD (S.getD v none) := rfl
@[simp] theorem setAll_e1 {β : Type} {S : List β} {f : Nat → β} : setAll S [] f = S := rfl
@[simp] theorem setAll_e2 {β : Type} {S : List β} {f : Nat → β} {v : Nat} {vs : List Nat} : setAll S (v :: vs) f = (setAll S vs f).set v (f v) := rfl
@[simp] theorem resolve_e1 {S : FS} : resolve S [] = some [] := rfl
@[simp] theorem resolve_e2 {S : FS} {d : D} {r : List AD} : resolve S (.d d :: r) = (resolve S r).map (.d d :: ·) := rfl
@[simp] theorem resolve_e3 {S : FS} {i : Nat} {r : List AD} : resolve S (.s i :: r) = match S[i]? with
    | some (some (.own ob)) => (resolve S r).map (.pin ob :: ·)
    | some (some (.pin ob)) => (resolve S r).map (.pin ob :: ·)
    | _ => none := rfl
@[simp] theorem back_e1 {S : FS} {l : List SV} : back [] l S = some S := rfl
@[simp] theorem back_e2 {S : FS} {l : List SV} {d : D} {v : SV} {r : List AD} : back (.d d :: r) (v :: l) S = back r l S := rfl
@[simp] theorem back_e3 {S : FS} {l : List SV} {i : Nat} {ob : Ob} {r : List AD} : back (.s i :: r) (.pin ob :: l) S = back r l (setOb S i ob) := rfl
@[simp] theorem slotsOf_e1 : slotsOf [] = [] := rfl
@[simp] theorem slotsOf_e2 {d : D} {r : List AD} : slotsOf (.d d :: r) = slotsOf r := rfl
@[simp] theorem slotsOf_e3 {i : Nat} {r : List AD} : slotsOf (.s i :: r) = i :: slotsOf r := rfl
@[simp] theorem pinsAt_e1 {S : FS} : Fz.pinsAt [] S = some [] := rfl
@[simp] theorem pinsAt_e2 {S : FS} {ob ob' : Ob} {r : List SV} : Fz.pinsAt (.pin ob :: r) (some (.pin ob') :: S) = (Fz.pinsAt r S).map (.pin ob' :: ·) := rfl
@[simp] theorem pinsAt_e3 {S : FS} {d : D} {c : Option SV} {r : List SV} : Fz.pinsAt (.d d :: r) (c :: S) = (Fz.pinsAt r S).map (.d d :: ·) := rfl
@[simp] theorem pinsAt_e4 {S : FS} {o : Ob} {c : Option SV} {r : List SV} : Fz.pinsAt (.own o :: r) (c :: S) = (Fz.pinsAt r S).map (.own o :: ·) := rfl
@[simp] theorem startS_e {n : Nat} {svs : List SV} : startS n svs = svs.map some ++ List.replicate (n - svs.length) none := rfl
@[simp] theorem setsV_e1 {S : FS} : setsV [] [] S = some S := rfl
@[simp] theorem setsV_e2 {S : FS} {i : Nat} {is : List Nat} {v : SV} {vs : List SV} : setsV (i :: is) (v :: vs) S = setsV is vs (S.set i (some v)) := rfl
@[simp] theorem permL_e {α : Type} {p : List Nat} {l : List α} : permL p l = p.filterMap fun i => l[i]? := rfl
@[simp] theorem dTyp_none : dTyp .none = "NoneType" := rfl
@[simp] theorem dTyp_bool {b : Bool} : dTyp (.bool b) = "bool" := rfl
@[simp] theorem dTyp_int {i : Int} : dTyp (.int i) = "int" := rfl
@[simp] theorem dTyp_str {x : Str} : dTyp (.str x) = "str" := rfl
@[simp] theorem dTyp_tuple {ds : List D} : dTyp (.tuple ds) = "tuple" := rfl
@[simp] theorem dTyp_list {ds : List D} : dTyp (.list ds) = "list" := rfl
@[simp] theorem dIsB_bool {b c : Bool} : dIsB b (.bool c) = (c == b) := rfl
@[simp] theorem dIsB_none {b : Bool} : dIsB b .none = false := rfl
@[simp] theorem dIsB_int {b : Bool} {i : Int} : dIsB b (.int i) = false := rfl
@[simp] theorem dNone_none : dNone .none = true := rfl
@[simp] theorem dNone_bool {b : Bool} : dNone (.bool b) = false := rfl
@[simp] theorem dNone_int {i : Int} : dNone (.int i) = false := rfl
@[simp] theorem dNone_str {x : Str} : dNone (.str x) = false := rfl
@[simp] theorem dNone_tuple {ds : List D} : dNone (.tuple ds) = false := rfl
@[simp] theorem dNone_list {ds : List D} : dNone (.list ds) = false := rfl
@[simp] theorem dTru_none : dTru .none = some false := rfl
@[simp] theorem dTru_bool {b : Bool} : dTru (.bool b) = some b := rfl
@[simp] theorem dTru_int {i : Int} : dTru (.int i) = some (i != 0) := rfl
@[simp] theorem dTru_tuple {ds : List D} : dTru (.tuple ds) = some (!ds.isEmpty) := rfl
@[simp] theorem dTru_list {ds : List D} : dTru (.list ds) = some (!ds.isEmpty) := rfl
section
variable {α : Type} {xs : List α}
theorem atI_nat (xs : List α) (k : Nat) : atI xs (k : Int) = xs[k]? := by
  unfold atI ixN
  by_cases h : k < xs.length
  · simp [h]
  · simp [h]
@[simp] theorem atI_cast {k : Nat} : atI xs (k : Int) = xs[k]? := atI_nat xs k
@[simp] theorem atI_0 : atI xs 0 = xs[0]? := atI_nat xs 0
@[simp] theorem atI_1 : atI xs 1 = xs[1]? := atI_nat xs 1
@[simp] theorem atI_2 : atI xs 2 = xs[2]? := atI_nat xs 2
@[simp] theorem atI_3 : atI xs 3 = xs[3]? := atI_nat xs 3
@[simp] theorem atI_4 : atI xs 4 = xs[4]? := atI_nat xs 4
@[simp] theorem atI_5 : atI xs 5 = xs[5]? := atI_nat xs 5
@[simp] theorem atI_6 : atI xs 6 = xs[6]? := atI_nat xs 6
@[simp] theorem atI_7 : atI xs 7 = xs[7]? := atI_nat xs 7
@[simp] theorem atI_8 : atI xs 8 = xs[8]? := atI_nat xs 8
@[simp] theorem atI_9 : atI xs 9 = xs[9]? := atI_nat xs 9
theorem atI_int {i : Int} (h : 0 ≤ i) : atI xs i = xs[i.toNat]? := by
  have e := atI_nat xs i.toNat
  rw [Int.toNat_of_nonneg h] at e
  exact e
theorem atI_last (h : xs ≠ []) : atI xs (-1) = some (xs.getLast h) := by
  unfold atI ixN
  have hl : 0 < xs.length := List.length_pos_iff.mpr h
  have e1 : (-(xs.length : Int) ≤ -1) := by omega
  have e2 : ((-1 : Int) + (xs.length : Int)).toNat = xs.length - 1 := by omega
  simp [e1, e2, List.getLast_eq_getElem]
theorem ixN_nat {n k : Nat} (h : k < n) : ixN n (k : Int) = some k := by unfold ixN; simp [h]
@[simp] theorem ixN_0 {n : Nat} : ixN (n + 1) 0 = some 0 := ixN_nat (k := 0) (Nat.succ_pos n)
@[simp] theorem ixN_1 {n : Nat} : ixN (n + 2) 1 = some 1 := ixN_nat (k := 1) (Nat.lt_add_left n (by decide))
end
theorem szL {n : Nat} (h : n ≤ 16000000) : n ≤ sizeLine := Nat.le_trans h (by decide)
theorem szS {n : Nat} (h : n ≤ 16000000) : n < sizeLine := Nat.lt_of_le_of_lt h (by decide)
end Fz
end

section
set_option Elab.async false
set_option linter.all false
set_option maxRecDepth 100000
set_option maxHeartbeats 4000000
/-! F19: small data; words; arithmetic of the laws' wells. -/
namespace Fz
open PySem L2
theorem log2_small {n k : Nat} (h : n < 2 ^ k) (hk : 0 < k) : n.log2 < k := by
  by_cases h0 : n = 0
  · subst h0; simpa using hk
  · exact (Nat.log2_lt h0).mpr h
theorem divW {i j : Int} (h0 : 0 < j) (hj : j < 2 ^ 200) : CDivW i j := by
  have b := log2_small (n := j.natAbs) (k := 200) (by omega) (by decide)
  exact ⟨h0, by omega⟩
theorem powW {i : Int} {k : Int} (h : 0 ≤ k := by decide) (h2 : k ≤ 1000000 := by decide) (h3 : i.natAbs < 2 ^ 64 := by decide) : CPow i k := ⟨h, h2, h3⟩
theorem emodW {x m : Int} (h : 0 < m) : 0 ≤ x % m ∧ x % m < m := ⟨Int.emod_nonneg _ (by omega), Int.emod_lt_of_pos _ h⟩
theorem cutL_take {α : Type} (xs : List α) (k : Nat) : cutL xs none (some (k : Int)) = xs.take k := by
  unfold cutL
  rw [HT.sIx_none, HT.sIx_nat, List.drop_zero, Nat.sub_zero]
  by_cases h : k ≤ xs.length
  · rw [Nat.min_eq_left h]
  · rw [Nat.min_eq_right (by omega), List.take_of_length_le (Nat.le_refl _), List.take_of_length_le (by omega)]
theorem cutL_drop {α : Type} (xs : List α) (k : Nat) : cutL xs (some (k : Int)) none = xs.drop k := by
  unfold cutL
  rw [HT.sIx_none, HT.sIx_nat]
  by_cases h : k ≤ xs.length
  · rw [Nat.min_eq_left h, List.take_of_length_le (by simp)]
  · rw [Nat.min_eq_right (by omega), List.drop_of_length_le (Nat.le_refl _), List.drop_of_length_le (by omega)]; simp
mutual
/-- small data without dicts, nested at most k deep -/
inductive Smal : Nat → D → Prop
  | non {k : Nat} : Smal k .none
  | bl {k : Nat} {b : Bool} : Smal k (.bool b)
  | int {k : Nat} {i : Int} : Smal k (.int i)
  | str {k : Nat} {x : Str} (h : PyData.strOk x = true) : Smal k (.str x)
  | tup {k : Nat} {ds : List D} (l : ds.length ≤ 10000000) (h : SmalL k ds) : Smal (k + 1) (.tuple ds)
  | lst {k : Nat} {ds : List D} (l : ds.length ≤ 10000000) (h : SmalL k ds) : Smal (k + 1) (.list ds)
inductive SmalL : Nat → List D → Prop
  | nil {k : Nat} : SmalL k []
  | cons {k : Nat} {d : D} {ds : List D} (h : Smal k d) (r : SmalL k ds) : SmalL k (d :: ds)
end
theorem SmalL.mem {k : Nat} : ∀ {ds : List D}, SmalL k ds → ∀ d ∈ ds, Smal k d
  | _, .cons h r, d, hm => by
    rcases List.mem_cons.mp hm with e | hm
    · rw [e]; exact h
    · exact SmalL.mem r d hm
theorem SmalL.of {k : Nat} : ∀ {ds : List D}, (∀ d ∈ ds, Smal k d) → SmalL k ds
  | [], _ => .nil
  | d :: ds, h => .cons (h d (List.mem_cons_self ..)) (SmalL.of fun e he => h e (List.mem_cons_of_mem _ he))
mutual
theorem Smal.up {k j : Nat} (hj : k ≤ j) : ∀ {d : D}, Smal k d → Smal j d
  | _, .non => .non
  | _, .bl => .bl
  | _, .int => .int
  | _, .str h => .str h
  | _, .tup l h => by
    obtain ⟨j, rfl⟩ : ∃ i, j = i + 1 := ⟨j - 1, by omega⟩
    exact .tup l (SmalL.up (by omega) h)
  | _, .lst l h => by
    obtain ⟨j, rfl⟩ : ∃ i, j = i + 1 := ⟨j - 1, by omega⟩
    exact .lst l (SmalL.up (by omega) h)
theorem SmalL.up {k j : Nat} (hj : k ≤ j) : ∀ {ds : List D}, SmalL k ds → SmalL j ds
  | _, .nil => .nil
  | _, .cons h r => .cons (Smal.up hj h) (SmalL.up hj r)
end
mutual
theorem Smal.lay {k : Nat} : ∀ {d : D}, Smal k d → d.canLay0 = true ∧ d.depth ≤ k
  | _, .non => ⟨rfl, by simp [PyData.depth]⟩
  | _, .bl => ⟨rfl, by simp [PyData.depth]⟩
  | _, .int => ⟨rfl, by simp [PyData.depth]⟩
  | _, .str h => ⟨by simpa [PyData.canLay0] using h, by simp [PyData.depth]⟩
  | _, .tup _ h => by
    obtain ⟨a, b⟩ := SmalL.lay h
    exact ⟨by simpa [PyData.canLay0] using a, by simp only [PyData.depth]; omega⟩
  | _, .lst _ h => by
    obtain ⟨a, b⟩ := SmalL.lay h
    exact ⟨by simpa [PyData.canLay0] using a, by simp only [PyData.depth]; omega⟩
theorem SmalL.lay {k : Nat} : ∀ {ds : List D}, SmalL k ds → PyData.canLayAll0 ds = true ∧ PyData.depthAll ds ≤ k
  | _, .nil => ⟨by simp [PyData.canLayAll0], by simp [PyData.depthAll]⟩
  | _, .cons h r => by
    obtain ⟨a, b⟩ := Smal.lay h
    obtain ⟨a2, b2⟩ := SmalL.lay r
    exact ⟨by simp [PyData.canLayAll0, a, a2], by simp only [PyData.depthAll]; omega⟩
end
theorem Smal.shaped {k : Nat} {d : D} (h : Smal k d) (hk : k ≤ 60) : SeqAt.shaped d = true := by
  obtain ⟨a, b⟩ := h.lay
  unfold SeqAt.shaped
  rw [a, Bool.true_and]
  exact decide_eq_true (by omega)
@[simp] theorem shaped_none : SeqAt.shaped .none = true := Smal.shaped (k := 0) .non (by decide)
@[simp] theorem shaped_bool {b : Bool} : SeqAt.shaped (.bool b) = true := Smal.shaped (k := 0) .bl (by decide)
@[simp] theorem shaped_int {b : Int} : SeqAt.shaped (.int b) = true := Smal.shaped (k := 0) .int (by decide)
@[simp] theorem eqv_none : PyData.eqv .none .none = true := rfl
@[simp] theorem eqv_int {i j : Int} : PyData.eqv (.int i) (.int j) = decide (i = j) := by
  simp only [PyData.eqv]; by_cases h : i = j <;> simp [h]
@[simp] theorem eqv_bool {i j : Bool} : PyData.eqv (.bool i) (.bool j) = (i == j) := by simp only [PyData.eqv]
@[simp] theorem eqv_str {i j : Str} : PyData.eqv (.str i) (.str j) = (i == j) := by simp only [PyData.eqv]
@[simp] theorem eqOk_str {a b : Str} : eqOk (.str a) (.str b) = true := rfl
theorem eqOk_of {d e : D} (h : SeqAt.shaped d = true) (g : SeqAt.shaped e = true) : eqOk d e = true := by unfold eqOk; rw [h, g]; simp
@[simp] theorem eqOk_int {i j : Int} : eqOk (.int i) (.int j) = true := eqOk_of shaped_int shaped_int
@[simp] theorem eqOk_bool {i j : Bool} : eqOk (.bool i) (.bool j) = true := eqOk_of shaped_bool shaped_bool
/-- a word -/
def W (xs : List Int) : D := .tuple (xs.map .int)
/-- a list of ints -/
def LI (xs : List Int) : D := .list (xs.map .int)
theorem eqvAll_ints : ∀ {xs ys : List Int}, PyData.eqvAll (xs.map .int) (ys.map .int) = decide (xs = ys)
  | [], [] => by simp [PyData.eqvAll]
  | [], _ :: _ => by simp [PyData.eqvAll]
  | _ :: _, [] => by simp [PyData.eqvAll]
  | x :: xs, y :: ys => by
    simp only [List.map_cons, PyData.eqvAll, eqv_int, eqvAll_ints (xs := xs) (ys := ys), List.cons.injEq]
    by_cases h : x = y <;> by_cases g : xs = ys <;> simp [h, g]
@[simp] theorem eqv_W {xs ys : List Int} : PyData.eqv (W xs) (W ys) = decide (xs = ys) := by
  unfold W; simp only [PyData.eqv]; exact eqvAll_ints
@[simp] theorem eqv_LI {xs ys : List Int} : PyData.eqv (LI xs) (LI ys) = decide (xs = ys) := by
  unfold LI; simp only [PyData.eqv]; exact eqvAll_ints
theorem smalInts {k : Nat} {xs : List Int} : SmalL k (xs.map .int) := SmalL.of fun d hd => by
  obtain ⟨i, _, rfl⟩ := List.mem_map.mp hd
  exact .int
theorem smalW {k : Nat} {xs : List Int} (h : xs.length ≤ 10000000) : Smal (k + 1) (W xs) := .tup (by simpa using h) smalInts
theorem shaped_of_tup {k : Nat} {ds : List D} (h : SmalL k ds) (hk : k ≤ 59) : SeqAt.shaped (.tuple ds) = true := by
  obtain ⟨a, b⟩ := h.lay
  unfold SeqAt.shaped
  have : (PyData.tuple ds).canLay0 = true := by simpa [PyData.canLay0] using a
  rw [this, Bool.true_and]
  exact decide_eq_true (by simp only [PyData.depth]; omega)
theorem shaped_of_lst {k : Nat} {ds : List D} (h : SmalL k ds) (hk : k ≤ 59) : SeqAt.shaped (.list ds) = true := by
  obtain ⟨a, b⟩ := h.lay
  unfold SeqAt.shaped
  have : (PyData.list ds).canLay0 = true := by simpa [PyData.canLay0] using a
  rw [this, Bool.true_and]
  exact decide_eq_true (by simp only [PyData.depth]; omega)
@[simp] theorem shapedW {xs : List Int} : SeqAt.shaped (W xs) = true := shaped_of_tup (smalInts (k := 0)) (by decide)
@[simp] theorem shapedLI {xs : List Int} : SeqAt.shaped (LI xs) = true := shaped_of_lst (smalInts (k := 0)) (by decide)
@[simp] theorem shapedL {xs : List Int} : SeqAt.shaped (.list (xs.map .int)) = true := shapedLI
@[simp] theorem shapedL0 : SeqAt.shaped (.list []) = true := shapedLI (xs := [])
@[simp] theorem shapedW0 : SeqAt.shaped (.tuple []) = true := shapedW (xs := [])
@[simp] theorem eqOk_WW {xs ys : List Int} : eqOk (W xs) (W ys) = true := eqOk_of shapedW shapedW
@[simp] theorem eqOk_W0 {xs : List Int} : eqOk (W xs) (.tuple []) = true := eqOk_of shapedW shapedW0
@[simp] theorem eqOk_LL {xs ys : List Int} : eqOk (.list (xs.map .int)) (.list (ys.map .int)) = true := eqOk_of shapedL shapedL
@[simp] theorem eqOk_L0 {xs : List Int} : eqOk (.list (xs.map .int)) (.list []) = true := eqOk_of shapedL shapedL0
@[simp] theorem eqv_list0 {ds : List D} : PyData.eqv (.list ds) (.list []) = ds.isEmpty := by
  simp only [PyData.eqv]; cases ds <;> simp [PyData.eqvAll]
@[simp] theorem eqv_W0 {xs : List Int} : PyData.eqv (W xs) (.tuple []) = xs.isEmpty := by
  unfold W; simp only [PyData.eqv]; cases xs <;> simp [PyData.eqvAll]
theorem rngD_get {lo : Int} {n i : Nat} {d : D} (h : (rngD lo n)[i]? = some d) : i < n ∧ d = .int (lo + (i : Nat)) := by
  unfold rngD at h
  rw [List.getElem?_map, Option.map_eq_some_iff] at h
  obtain ⟨j, h1, rfl⟩ := h
  obtain ⟨h2, h3⟩ := List.getElem?_eq_some_iff.mp h1
  simp at h2 h3
  subst h3
  exact ⟨h2, rfl⟩
@[simp] theorem rngD_len {lo : Int} {n : Nat} : (rngD lo n).length = n := by simp [rngD]
theorem bls_rep {n : Nat} : Fz.bls (List.replicate n (.bool true)) = some (List.replicate n true) := by
  induction n with
  | zero => rfl
  | succ n ih => simp [List.replicate_succ, Fz.bls, ih]

section
variable {Q : D → FS → Prop} {QV : SV → FS → Prop} {S : FS} {xs ys : List Int} {i : Int}
@[simp] theorem tuple_W : PyData.tuple (List.map PyData.int xs) = W xs := rfl
@[simp] theorem wItems_W {k : List D → Prop} : wItems (W xs) k = k (xs.map .int) := rfl
@[simp] theorem dTyp_W : dTyp (W xs) = "tuple" := rfl
@[simp] theorem dTru_W : dTru (W xs) = some (!xs.isEmpty) := by unfold W; cases xs <;> rfl
@[simp] theorem dNone_W : dNone (W xs) = false := rfl
@[simp] theorem wE_pLen_W : wE (pLen (W xs) S) Q = Q (.int xs.length) S := by unfold W; rw [wE_pLen_t, List.length_map]
@[simp] theorem wE_pTuple_W : wE (pTuple (W xs) S) Q = Q (W xs) S := rfl
@[simp] theorem wE_pList_W : wE (pList (W xs) S) QV = QV (.own (.lst (xs.map .int))) S := rfl
theorem atI_map : atI (xs.map PyData.int) i = (atI xs i).map .int := by
  unfold atI
  rw [List.length_map]
  cases ixN xs.length i <;> simp
@[simp] theorem wE_pIx_W : wE (pIx (W xs) (.int i) S) Q = wO (atI xs i) fun d => Q (.int d) S := by
  unfold W
  rw [wE_pIx_t, atI_map]
  cases atI xs i <;> rfl
theorem cutL_map {α β : Type} (f : α → β) (xs : List α) (a b : Option Int) : cutL (xs.map f) a b = (cutL xs a b).map f := by
  unfold cutL; simp
@[simp] theorem wE_pSl_W {a b : Option Int} : wE (pSl (W xs) a b S) QV = QV (.d (W (cutL xs a b))) S := by
  unfold W; rw [wE_pSl_t, cutL_map]
@[simp] theorem wE_pAdd_W : wE (pAdd (W xs) (W ys) S) QV = (xs.length + ys.length ≤ sizeLine ∧ QV (.d (W (xs ++ ys))) S) := by
  unfold W; rw [wE_pAdd_t]; simp only [List.length_map, List.length_cons, List.length_nil, W, List.map_append, List.map_cons, List.map_nil]
@[simp] theorem wE_pAdd_W1 : wE (pAdd (W xs) (.tuple [.int i]) S) QV = (xs.length + 1 ≤ sizeLine ∧ QV (.d (W (xs ++ [i]))) S) := by
  unfold W; rw [wE_pAdd_t]; simp only [List.length_map, List.length_cons, List.length_nil, W, List.map_append, List.map_cons, List.map_nil]
end
end Fz
end

section
set_option Elab.async false
set_option linter.all false
set_option maxRecDepth 100000
set_option maxHeartbeats 4000000
/-! F20: in, not in; zip. -/
namespace Fz
open PySem PySem.Spec PyProof.Rows L2 RZ
section
variable {X : Cx} {F : Fx} {pos : Pos}
theorem room65 {k : Nat} {A : Around} (r : Room k A) : A.units + 65 < cLine := by have := r.un; omega
def rNotInT (K : Fg) : R2 := fun x y H Q => ∃ d ds, Dp K H x d ∧ Dp K H y (.tuple ds) ∧ SeqAt.shaped d = true ∧ SeqAt.shaped (.tuple ds) = true ∧ Q (.bl (!ds.any fun z => PyData.eqv z d)) H
theorem op_notInT (hu : X.A.units + 65 < cLine) : OpR X (compareOp .NotIn) (rNotInT X.K) := by
  intro pins s σ H x y v u Q I rx ry h
  obtain ⟨d, ds, hd, he, sd, se, q⟩ := h
  obtain ⟨as, r1⟩ := Dp.reads I d x v hd rx
  obtain ⟨bs, r2⟩ := Dp.reads I (.tuple ds) y u he ry
  exact SeqAt.notIn_tuple_reads r2 r1 (SeqAt.canLay_of_shaped se) (SeqAt.canLay_of_shaped sd) (room_in_shaped sd hu) ⟨.bl _, H, I, rfl, q⟩
def inOk (d : D) : D → Option (List D)
  | .list ds => if SeqAt.shaped d && SeqAt.shaped (.list ds) then some ds else none
  | .tuple ds => if SeqAt.shaped d && SeqAt.shaped (.tuple ds) then some ds else none
  | _ => none
def hasD (d : D) (ds : List D) : Bool := ds.any fun z => PyData.eqv z d
def pNotIn (d e : D) : FS → Res D := fun S => match inOk d e with
  | some ds => .ok (.bool (!hasD d ds)) S
  | none => .bad
theorem inOk_some {d e : D} {ds : List D} (h : inOk d e = some ds) : (e = .list ds ∨ e = .tuple ds) ∧ SeqAt.shaped d = true ∧ SeqAt.shaped e = true := by
  cases e with
  | list es =>
    simp only [inOk] at h
    split at h
    · rename_i hc
      cases h
      have h2 := Bool.and_eq_true_iff.mp hc
      exact ⟨.inl rfl, h2.1, h2.2⟩
    · cases h
  | tuple es =>
    simp only [inOk] at h
    split at h
    · rename_i hc
      cases h
      have h2 := Bool.and_eq_true_iff.mp hc
      exact ⟨.inr rfl, h2.1, h2.2⟩
    · cases h
  | _ => cases h
theorem op_notInF (hu : X.A.units + 65 < cLine) : OpF X F PR (compareOp .NotIn) pNotIn := opF_by fun S σ d e H => by
  cases hc : inOk d e with
  | none => exact .inr (by unfold pNotIn; rw [hc])
  | some ds =>
    obtain ⟨h1, h2, h3⟩ := inOk_some hc
    rcases h1 with rfl | rfl
    · refine .inl ⟨_, op_notInD hu, fun x y Q r hx hy p => ⟨d, ds, hx.dp, hy.dp, h2, h3, ?_⟩⟩
      unfold pNotIn at p; rw [hc] at p
      exact p.ok r (Pd.bl _)
    · refine .inl ⟨_, op_notInT hu, fun x y Q r hx hy p => ⟨d, ds, hx.dp, hy.dp, h2, h3, ?_⟩⟩
      unfold pNotIn at p; rw [hc] at p
      exact p.ok r (Pd.bl _)
/-! ### zip -/
def zipD (ds es : List D) : List D := (ds.zip es).map fun p => .tuple [p.1, p.2]
theorem zipD_get {ds es : List D} {i : Nat} {d : D} (h : (zipD ds es)[i]? = some d) : ∃ x y, d = .tuple [x, y] ∧ ds[i]? = some x ∧ es[i]? = some y := by
  unfold zipD at h
  rw [List.getElem?_map] at h
  obtain ⟨p, h1, rfl⟩ := Option.map_eq_some_iff.mp h
  have h2 := List.getElem?_zip_eq_some.mp h1
  exact ⟨_, _, rfl, h2.1, h2.2⟩
theorem yields_zip {K : Fg} {H1 : Hp} {a b : Addr} {vs us : List V} {ds es : List D} (h : FrzL K H1 a vs) (r : PdAll K H1 vs ds) (h' : FrzL K H1 b us) (r' : PdAll K H1 us es) : Yields K (Itz K a b) H1 (zipD ds es) where
  go := fun i H p hi => by
    simp [zipD] at hi
    obtain ⟨x, h1, _⟩ := r.get (List.getElem?_eq_getElem (show i < ds.length by omega))
    obtain ⟨y, h2, _⟩ := r'.get (List.getElem?_eq_getElem (show i < es.length by omega))
    exact ⟨vs, us, x, y, (h.mono p).sq, (h'.mono p).sq, h1, h2⟩
  stop := fun H p => ⟨vs, us, (h.mono p).sq, (h'.mono p).sq, by rw [r.length, r'.length]; simp [zipD]; omega⟩
  yld := fun i H x H' d p hd ⟨T, u, v, e1, e2, e3, q1, q2⟩ => by
    subst e1 e3
    obtain ⟨dx, dy, rfl, g1, g2⟩ := zipD_get hd
    have k1 := q1 vs (h.mono p).sq
    have k2 := q2 us (h'.mono p).sq
    obtain ⟨x', m1, n1⟩ := r.get g1
    obtain ⟨y', m2, n2⟩ := r'.get g2
    rw [k1] at m1; cases m1
    rw [k2] at m2; cases m2
    have p1 : Pers H (upd H T (.tup [u, v])) := Pers.new e2
    exact ⟨p1, fun F S σ r => r.new e2, .tup (.inl (.inl upd_same)) (.cons (n1.mono (p.trans p1)) (.cons (n2.mono (p.trans p1)) .nil))⟩
theorem yields_zipT {K : Fg} {H1 : Hp} {a b : Addr} {vs us : List V} {ds es : List D} (h : SqT K H1 a vs) (r : PdAll K H1 vs ds) (h' : SqT K H1 b us) (r' : PdAll K H1 us es) : Yields K (ItzT K a b) H1 (zipD ds es) where
  go := fun i H p hi => by
    simp [zipD] at hi
    obtain ⟨x, h1, _⟩ := r.get (List.getElem?_eq_getElem (show i < ds.length by omega))
    obtain ⟨y, h2, _⟩ := r'.get (List.getElem?_eq_getElem (show i < es.length by omega))
    exact ⟨vs, us, x, y, sqT_mono p h, sqT_mono p h', h1, h2⟩
  stop := fun H p => ⟨vs, us, sqT_mono p h, sqT_mono p h', by rw [r.length, r'.length]; simp [zipD]; omega⟩
  yld := fun i H x H' d p hd ⟨T, u, v, e1, e2, e3, q1, q2⟩ => by
    subst e1 e3
    obtain ⟨dx, dy, rfl, g1, g2⟩ := zipD_get hd
    have k1 := q1 vs (sqT_mono p h)
    have k2 := q2 us (sqT_mono p h')
    obtain ⟨x', m1, n1⟩ := r.get g1
    obtain ⟨y', m2, n2⟩ := r'.get g2
    rw [k1] at m1; cases m1
    rw [k2] at m2; cases m2
    have p1 : Pers H (upd H T (.tup [u, v])) := Pers.new e2
    exact ⟨p1, fun F S σ r => r.new e2, .tup (.inl (.inl upd_same)) (.cons (n1.mono (p.trans p1)) (.cons (n2.mono (p.trans p1)) .nil))⟩
def fZip (f g : FS → Res D) : FS → Res (List D) := bnd f fun d => bnd g fun e S => match d, e with
  | .list ds, .list es => .ok (zipD ds es) S
  | .tuple ds, .tuple es => .ok (zipD ds es) S
  | _, _ => .bad
theorem i_zip {elts : List Expr} {kk : Nat} {tpos p : Pos} {a b : Expr} {f g : FS → Res D} (hg : Gl X "zip") (hm : X.mg "zip" = none) (ha : ED X F a f) (hb : ED X F b g) (hsa : starEach [a, b] X.env = (false, eval a X.env) :: starEach [b] X.env := by rfl) (hsb : starEach [b] X.env = (false, eval b X.env) :: starEach [] X.env := by rfl)
    (hpl : (backTo pos (starEach [b] X.env)).any (·.1) = false := by rfl) : EI X F (.Tuple elts kk tpos) (.Call (.Name "zip" p) [a, b] [] pos) (fZip f g) := by
  refine ⟨fun pins s σ H R I ⟨S, r, q⟩ => ?_⟩
  refine (pi_zipA hg hm (pa_cons ha (pa_cons hb pa_nil hsb) hsa) hsa hpl).run pins s σ H R I ⟨S, r, ?_⟩
  unfold fZip bnd at q
  cases e : f S with
  | exn e2 S1 => rw [e] at q; exact q
  | bad => rw [e] at q; exact q
  | ok d S1 =>
    rw [e] at q
    intro x H1 p1 r1 v
    refine ⟨S1, r1, ?_⟩
    simp only [Res.bind_ok] at q
    cases e2 : g S1 with
    | exn e3 S2 => rw [e2] at q; exact fun c dx H2 p2 r2 w => q c dx H2 (p1.trans p2) r2 w
    | bad => rw [e2] at q; exact q
    | ok d2 S2 =>
      rw [e2] at q
      intro y H2 p2 r2 v2
      have v := v.mono p2
      simp only [Res.bind_ok] at q
      cases d with
      | list ds =>
        cases d2 with
        | list es =>
          cases v with
          | lst h1 q1 =>
            cases v2 with
            | lst h2 q2 => exact ⟨_, _, _, _, rfl, .inl ⟨h1.sq, h2.sq, q _ H2 (p1.trans p2) r2 (yields_zip h1 q1 h2 q2)⟩⟩
        | _ => exact q.elim
      | tuple ds =>
        cases d2 with
        | tuple es =>
          cases v with
          | tup h1 q1 =>
            cases v2 with
            | tup h2 q2 => exact ⟨_, _, _, _, rfl, .inr ⟨h1, h2, q _ H2 (p1.trans p2) r2 (yields_zipT h1 q1 h2 q2)⟩⟩
        | _ => exact q.elim
      | _ => cases d2 <;> exact q.elim
end
end Fz
end

section
set_option Elab.async false
set_option linter.all false
set_option maxRecDepth 100000
set_option maxHeartbeats 4000000
/-! F21: weakest preconditions of in, zip. -/
namespace Fz
open PySem PySem.Spec PyProof.Rows L2
section
variable {S : FS} {d e : D} {Q : D → FS → Prop} {QL : List D → FS → Prop} {f g : FS → Res D}
@[simp] theorem wE_pNotIn : wE (pNotIn d e S) Q = wO (inOk d e) fun ds => Q (.bool (!hasD d ds)) S := by
  unfold pNotIn; cases inOk d e <;> rfl
def wZip (d e : D) (k : List D → Prop) : Prop := match d, e with
  | .list ds, .list es => k (zipD ds es)
  | .tuple ds, .tuple es => k (zipD ds es)
  | _, _ => False
@[simp] theorem wZip_t {ds es : List D} {k : List D → Prop} : wZip (.tuple ds) (.tuple es) k = k (zipD ds es) := rfl
@[simp] theorem wZip_l {ds es : List D} {k : List D → Prop} : wZip (.list ds) (.list es) k = k (zipD ds es) := rfl
@[simp] theorem wE_fZip : wE (fZip f g S) QL = wE (f S) fun d S1 => wE (g S1) fun e S2 => wZip d e fun ds => QL ds S2 := by
  unfold fZip; rw [wE_bnd]; congr; funext d S1; rw [wE_bnd]; congr; funext e S2
  cases d <;> cases e <;> rfl
theorem inOk_t {d : D} {ds : List D} (h : SeqAt.shaped d = true) (g : SeqAt.shaped (.tuple ds) = true) : inOk d (.tuple ds) = some ds := by
  show (if (SeqAt.shaped d && SeqAt.shaped (.tuple ds)) = true then some ds else none) = some ds
  rw [h, g]; rfl
theorem inOk_l {d : D} {ds : List D} (h : SeqAt.shaped d = true) (g : SeqAt.shaped (.list ds) = true) : inOk d (.list ds) = some ds := by
  show (if (SeqAt.shaped d && SeqAt.shaped (.list ds)) = true then some ds else none) = some ds
  rw [h, g]; rfl
@[simp] theorem inOk_W {i : Int} {xs : List Int} : inOk (.int i) (W xs) = some (xs.map .int) := inOk_t shaped_int shapedW
@[simp] theorem inOk_LI {i : Int} {xs : List Int} : inOk (.int i) (LI xs) = some (xs.map .int) := inOk_l shaped_int shapedLI
@[simp] theorem inOk_LI' {i : Int} {xs : List Int} : inOk (.int i) (.list (xs.map .int)) = some (xs.map .int) := inOk_LI
@[simp] theorem inOk_L1 {i j : Int} : inOk (.int i) (.list [.int j]) = some [.int j] := inOk_LI (xs := [j])
@[simp] theorem hasD_ints {i : Int} : ∀ {xs : List Int}, hasD (.int i) (xs.map .int) = decide (i ∈ xs)
  | [] => rfl
  | x :: xs => by
    have ih := hasD_ints (i := i) (xs := xs)
    unfold hasD at ih ⊢
    rw [List.map_cons, List.any_cons, ih, eqv_int]
    by_cases h : x = i
    · subst h; simp
    · have h2 : ¬ i = x := fun q => h q.symm
      simp [h, h2]
end
end Fz
end

section
set_option Elab.async false
set_option linter.all false
set_option maxRecDepth 100000
set_option maxHeartbeats 4000000
/-! F22: list * int. -/
namespace Fz
open PySem PySem.Spec PyProof.Rows L2
theorem int_rmul_listW (a : Int) (t : Tok) (l : Addr) (items : Array Value) (n : Nat) (dd : Option Addr) (sl : Array (Option Value)) :
    Meets (Builtin.«int.__rmul__» ⟨[.int a t, .ref l], []⟩) (fun _ R s => s.heap.get? l = some { cls := .type "list", dict := dd, data := .seq items n, slots := sl } ∧ R (.ok (.ret Value.notImplemented)) s) :=
  .of_wp fun prog w A R s h => by obtain ⟨hp, g, d, tk, os⟩ := s; obtain ⟨hl, h⟩ := h; wp_walk using wpAny_loadPart' hl; exact ⟨_, rfl, h⟩
theorem list_mulW (l : Addr) (items : Array Value) (n : Nat) (dd : Option Addr) (sl : Array (Option Value)) (x : Int) (u : Tok) (hc0 : ¬(!Builtin.List.listFitsIndex x) = true) (hc1 : ¬items.size * x.toNat > (2 ^ 63 - 1) / 8) (hc2 : ¬Builtin.List.listTooLong (items.size * x.toNat) = true) :
    Meets (Builtin.«list.__mul__» ⟨[.ref l, .int x u], []⟩) (fun _ R s => s.heap.get? l = some { cls := .type "list", dict := dd, data := .seq items n, slots := sl } ∧ R (.ok (.ret (Value.ref s.heap.objs.size))) { s with heap := s.heap.push { cls := Value.type "list", data := Data.seq (List.foldl (fun x1 x2 => x1 ++ x2) #[] (List.replicate (if items.isEmpty = true then 0 else x.toNat) items)) }, toks := s.toks }) :=
  .of_wp fun prog w A R s h => by
    obtain ⟨hp, g, d, tk, os⟩ := s; obtain ⟨hl, h⟩ := h
    have hsz := AutoListH.joined_fits hc2
    wp_walk using wpAny_loadPart' hl; refine wpAny_ite_false (decide_eq_false (Nat.not_lt.mpr hsz)) ?_; wp_walk using wpAny_loadPart' hl; exact ⟨_, rfl, h⟩
section
variable {X : Cx} {F : Fx}
def rRepQ (K : Fg) : R2 := fun x y H Q => ∃ l k xs, x = .ref l ∧ y = .int k ∧ SqL K H l xs ∧ -(2 ^ 63) ≤ k ∧ k < 2 ^ 63 ∧ xs.length * k.toNat ≤ sizeLine ∧
  ∀ p, H p = none → Q (.ref p) (upd H p (.lst (List.replicate k.toNat xs).flatten))
theorem op_repQ : OpR X (binaryOp .Mult) (rRepQ X.K) := by
  intro pins s σ H x y v u Q I rx ry h
  obtain ⟨l, k, xs, rfl, rfl, hH, h1, h2, hz, q⟩ := h
  cases rx
  obtain ⟨t, rfl⟩ := ry
  obtain ⟨its, r, ⟨⟨c1, dd1, dt1, sl1⟩, n, e, k1, k2, k3⟩, _⟩ := I.list hH
  simp only at k1 k2 k3
  subst k1 k2 k3
  have hl := r.length
  have hlen : its.toArray.size * k.toNat ≤ sizeLine := by rw [List.size_toArray, ← hl]; exact hz
  have hcap : ¬ its.toArray.size * k.toNat > (2 ^ 63 - 1) / 8 := by
    have : (sizeLine : Nat) ≤ (2 ^ 63 - 1) / 8 := by decide
    omega
  have hfit : ¬ (!Builtin.List.listFitsIndex k) = true := by
    rw [fitsIndex_both h1 h2]
    exact Bool.false_ne_true
  have hlong : ¬ Builtin.List.listTooLong (its.toArray.size * k.toNat) = true := by
    rw [notLongL hlen]
    exact Bool.false_ne_true
  have hnew : List.foldl (fun x1 x2 => x1 ++ x2) #[] (List.replicate (if its.toArray.isEmpty = true then 0 else k.toNat) its.toArray) = (List.replicate k.toNat its).flatten.toArray := by
    have f0 : ∀ m : Nat, List.foldl (fun x1 x2 => x1 ++ x2) #[] (List.replicate m its.toArray) = (List.replicate m its).flatten.toArray := fun m => by
      have := foldl_rep its m []
      rw [List.nil_append] at this
      exact this
    rw [f0]
    cases its with
    | nil => simp
    | cons a r' => rw [if_neg (by simp)]
  refine wpAny_binaryOp_repeat_ref (T := "list") (U := "int") (by decide) ⟨_, e, rfl⟩ (fun s' => typeIs_int s' k t) noFill_list_mul F.fills_int_mul F.slot_int_rmul repeat_list F.slot_int_index.lookup
    (call_meets F.slot_int_rmul (typeIs_int s k t) F.entry_int_rmul (F.args_int_rmul_2 _ _) (int_rmul_listW k t l its.toArray n _ _)
      ⟨e, rfl, ⟨_, e, rfl⟩, call_meets F.slot_list_mul ⟨_, e, rfl⟩ F.entry_list_mul (F.args_list_mul_2 _ _) (list_mulW l its.toArray n _ _ k t hfit hcap hlong) ⟨e, ?_⟩⟩)
  rw [hnew]
  exact ⟨.ref _, _, I.lnew (t' := s.toks) (r.rep k.toNat) (by rw [PyProof.Rows.lm_len_rep_flat, Nat.mul_comm]; exact hz), rfl, q _ I.fresh⟩
/-- products of a list -/
noncomputable def pMulS (d e : D) : FS → Res SV := fun S => match d, e with
  | .list xs, .int k => @ite _ (inR k ∧ xs.length * k.toNat ≤ sizeLine) (Classical.propDecidable _) (.ok (.own (.lst (List.replicate k.toNat xs).flatten)) S) .bad
  | _, _ => .bad
theorem op_mulS : OpF X F VR (binaryOp .Mult) pMulS := opF_by fun S σ d e H => by
  cases d with
  | list ds =>
    cases e with
    | int k =>
      by_cases hc : inR k ∧ ds.length * k.toNat ≤ sizeLine
      · refine .inl ⟨_, op_repQ, fun x y Q r hx hy p => ?_⟩
        obtain ⟨a, vs, rfl, hl, hv⟩ := hx.list
        have p : postG X.K F VR (@ite _ (inR k ∧ ds.length * k.toNat ≤ sizeLine) (Classical.propDecidable _) (.ok (.own (.lst (List.replicate k.toNat ds).flatten)) S) .bad) σ H Q := p
        rw [if_pos hc] at p
        exact ⟨a, k, vs, rfl, hy.int, hl, by have := hc.1.1; omega, by have := hc.1.2; omega, by rw [hv.length]; exact hc.2, fun q hq => newList r (hv.rep k.toNat) hq p⟩
      · exact .inr (by
          show @ite _ (inR k ∧ ds.length * k.toNat ≤ sizeLine) (Classical.propDecidable _) (Res.ok (SV.own (.lst (List.replicate k.toNat ds).flatten)) S) .bad = .bad
          rw [if_neg hc])
    | _ => exact .inr rfl
  | _ => exact .inr rfl
end
end Fz
end

section
set_option Elab.async false
set_option linter.all false
set_option maxRecDepth 100000
set_option maxHeartbeats 4000000
/-! F24: * of any two of int, list, tuple; += of data. -/
namespace Fz
open PySem PySem.Spec PyProof.Rows L2
section
variable {X : Cx} {F : Fx}
/-! ### tuple * int -/
end
end Fz
end

section
set_option Elab.async false
set_option linter.all false
set_option maxRecDepth 100000
set_option maxHeartbeats 4000000
/-! dens, new with k01 -/
namespace DL
open PySem L2 Fz
/-- slots: 0 told, 1 due, 2 at -/
noncomputable def b__law_same (r : Den) : FS → SRes :=
 fSeq (fIf (fT (fOpN pIsB 1 (fC .none))) (fRetD (fOpN pIsB 0 (fC .none))) (fun S => .nx S))
        (fSeq (fIf (fTru (fIsi "bool" (fPeek 1))) (fRetD (fIte (fTru (fPeek 1)) (fOpN pIsB 0 (fC (.bool true))) (fOpN pIsB 0 (fC (.bool false))))) (fun S => .nx S))
        (fSeq (fIf (fTru (fIsi "int" (fPeek 1))) (fRetD (fAndV (fIsi "int" (fPeek 0)) (fAndV (fNotV (fIsi "bool" (fPeek 0))) (fOpN pEq 0 (fPeek 1))))) (fun S => .nx S))
        (fSeq (fIf (fTru (fIsi "str" (fPeek 1))) (fRetD (fAndV (fIsi "str" (fPeek 0)) (fOpN pEq 0 (fPeek 1)))) (fun S => .nx S))
        (fSeq (fIf (fOrT (fT (fOp pNe (fIsi "tuple" (fPeek 1)) (fIsi "tuple" (fPeek 0)))) (fT (fOp pNe (fIsi "list" (fPeek 1)) (fIsi "list" (fPeek 0))))) (fRetD (fC (.bool false))) (fun S => .nx S))
        (fRetD (fAndV (fOp pEq (fCall (one pLen) (fCons (fPeek 0) (fC []))) (fCall (one pLen) (fCons (fPeek 1) (fC [])))) (fCall (one pAll) (fCons (fFrz (fLc (fRange1 (fCall (one pLen) (fCons (fPeek 1) (fC [])))) (gN 2) (fC true) (fFrz (fCallP (r) 2 (fAD (fOpN pIx 0 (fVar 2)) (fAD (fOpN pIx 1 (fVar 2)) (fC []))))) [2])) (fC [])))))))))
noncomputable def r__law_same : Nat → Den
  | 0 => fun _ => .bad
  | k + 1 => denOf 3 (b__law_same (r__law_same k))
@[irreducible] noncomputable def d__law_same (k : Nat) : Den := r__law_same k
theorem d__law_same_0 : d__law_same 0 = fun _ => .bad := by unfold d__law_same; rfl
theorem d__law_same_s (k : Nat) : d__law_same (k + 1) = denOf 3 (b__law_same (d__law_same k)) := by unfold d__law_same; rfl
/-- slots: 0 value -/
noncomputable def b_is_integer : FS → SRes :=
 fRetD (fAndV (fIsi "int" (fPeek 0)) (fNotV (fIsi "bool" (fPeek 0))))
@[irreducible] noncomputable def d_is_integer : Den := denOf 1 b_is_integer
/-- slots: 0 value -/
noncomputable def b_is_natural : FS → SRes :=
 fRetD (fAndV (fFrz (fCallP d_is_integer 1 (fAD (fVar 0) (fC [])))) (fOpN pGe 0 (fC (.int 0))))
@[irreducible] noncomputable def d_is_natural : Den := denOf 1 b_is_natural
/-- slots: 0 value, 1 many -/
noncomputable def b_is_below : FS → SRes :=
 fRetD (fAndV (fFrz (fCallP d_is_natural 1 (fAD (fVar 0) (fC [])))) (fOpN pLt 0 (fPeek 1)))
@[irreducible] noncomputable def d_is_below : Den := denOf 2 b_is_below
/-- slots: 0 k, 1 value, 2 letter -/
noncomputable def b_is_letters : FS → SRes :=
 fRetD (fAndV (fIsi "tuple" (fPeek 1)) (fAny false (fItems (fVar 1)) (gN 2) (fC true) (fFrz (fCallP d_is_below 2 (fAD (fVar 2) (fAD (fVar 0) (fC []))))) [2]))
@[irreducible] noncomputable def d_is_letters : Den := denOf 3 b_is_letters
end DL
end

section
set_option Elab.async false
set_option linter.all false
set_option maxRecDepth 100000
set_option maxHeartbeats 4000000
/-! S0: wells, same, words, strewn. -/
namespace DL
open PySem L2 Fz
theorem same_seq {k : Nat} {ds : List D} {x : D} {Q : D → FS → Prop} (hx : x = .list ds ∨ x = .tuple ds) (hl : ds.length ≤ 10000000) (hs : SmalL k ds)
    (ih : ∀ (d : D), Smal k d → ∀ {Q : SV → List SV → Prop}, Q (.d (.bool true)) [.d d, .d d] → wC (d__law_same (k + 1) [.d d, .d d]) Q)
    (h : Q (.list (List.replicate ds.length (.bool true))) [some (.d x), some (.d x), none]) :
    Fz.wE (lcF (gN 2) (fC true) (fFrz (fCallP (d__law_same (k + 1)) 2 (fAD (fOpN pIx 0 (fVar 2)) (fAD (fOpN pIx 1 (fVar 2)) (fC []))))) [2] (rngD 0 ds.length) [some (.d x), some (.d x), none] []) (fun v S1 => wFrz v fun d => Q d S1) := by
  refine wE_lcF (fun i acc S => acc = List.replicate i (.bool true) ∧ i ≤ ds.length ∧ S = [some (.d x), some (.d x), none]) ⟨rfl, Nat.zero_le _, rfl⟩ ?_ ?_
  · rintro i d acc S hd ⟨rfl, hi, rfl⟩
    obtain ⟨h1, rfl⟩ := rngD_get hd
    have e : ds[i]? = some ds[i] := List.getElem?_eq_getElem h1
    have go : wC (d__law_same (k + 1) [.d ds[i], .d ds[i]]) fun v l => v = .d (.bool true) ∧ l = [.d ds[i], .d ds[i]] := ih _ (hs.mem _ (List.getElem_mem h1)) ⟨rfl, rfl⟩
    rcases hx with rfl | rfl
    · simp [e, wE_callD]
      refine go.mono ?_
      rintro v l ⟨rfl, rfl⟩
      simp
      exact ⟨szS (by omega), by rw [List.replicate_succ'], by omega⟩
    · simp [e, wE_callD]
      refine go.mono ?_
      rintro v l ⟨rfl, rfl⟩
      simp
      exact ⟨szS (by omega), by rw [List.replicate_succ'], by omega⟩
  · rintro acc S ⟨rfl, hi, rfl⟩
    simpa using h
theorem same_refl : ∀ (k : Nat) (d : D), Smal k d → ∀ {Q : SV → List SV → Prop}, Q (.d (.bool true)) [.d d, .d d] → wC (d__law_same (k + 1) [.d d, .d d]) Q := by
  intro k
  induction k with
  | zero =>
    intro d hd Q h
    rw [d__law_same_s, wC_denOf]
    cases hd <;> simp [b__law_same]
    all_goals first | simpa using h | (rename_i b; cases b <;> simpa using h)
  | succ k ih =>
    intro d hd Q h
    rw [d__law_same_s, wC_denOf]
    cases hd
    case tup ds hl hs =>
      simp [b__law_same]
      refine ⟨by omega, same_seq (.inr rfl) hl hs ih ?_⟩
      simpa [bls_rep] using h
    case lst ds hl hs =>
      simp [b__law_same]
      refine ⟨by omega, same_seq (.inl rfl) hl hs ih ?_⟩
      simpa [bls_rep] using h
    all_goals (simp [b__law_same]; first | simpa using h | (rename_i b; cases b <;> simpa using h))
theorem same_w {k : Nat} {d : D} (hd : Smal k d) (hk : k ≤ 23) {Q : SV → List SV → Prop} (h : Q (.d (.bool true)) [.d d, .d d]) : wC (d__law_same 24 [.d d, .d d]) Q := same_refl 23 d (hd.up hk) h
def IsW (k : Int) (xs : List Int) : Prop := ∀ x ∈ xs, 0 ≤ x ∧ x < k
theorem is_integer_w {x : Int} {Q : SV → List SV → Prop} (h : Q (.d (.bool true)) [.d (.int x)]) : wC (d_is_integer [.d (.int x)]) Q := by
  unfold d_is_integer
  rw [wC_denOf]
  simp [b_is_integer]
  simpa using h
theorem is_natural_w {x : Int} (h0 : 0 ≤ x) {Q : SV → List SV → Prop} (h : Q (.d (.bool true)) [.d (.int x)]) : wC (d_is_natural [.d (.int x)]) Q := by
  unfold d_is_natural
  rw [wC_denOf]
  simp [b_is_natural, wE_callD]
  refine is_integer_w ?_
  simpa [h0] using h
theorem is_below_w {x k : Int} (h0 : 0 ≤ x) (h1 : x < k) {Q : SV → List SV → Prop} (h : Q (.d (.bool true)) [.d (.int x), .d (.int k)]) : wC (d_is_below [.d (.int x), .d (.int k)]) Q := by
  unfold d_is_below
  rw [wC_denOf]
  simp [b_is_below, wE_callD]
  refine is_natural_w h0 ?_
  simpa [h1] using h
theorem is_letters_w {k : Int} {xs : List Int} (hx : IsW k xs) {Q : SV → List SV → Prop} (h : Q (.d (.bool true)) [.d (.int k), .d (W xs)]) : wC (d_is_letters [.d (.int k), .d (W xs)]) Q := by
  unfold d_is_letters
  rw [wC_denOf]
  simp [b_is_letters]
  refine wE_anyF (fun i S => S = [some (.d (.int k)), some (.d (W xs)), none]) rfl ?_ ?_
  · rintro i d S hd rfl
    obtain ⟨z, hz, rfl⟩ := List.mem_map.mp (List.mem_of_getElem? hd)
    obtain ⟨a, b⟩ := hx z hz
    simp [wE_callD]
    refine is_below_w a b ?_
    simp
  · rintro S rfl
    simpa using h

/-! found_in -/
/-! the texts' defs -/

/-! words drawn -/
end DL
end

section
set_option Elab.async false
set_option linter.all false
set_option maxRecDepth 100000
set_option maxHeartbeats 4000000
/-! F25: xs[::-1] of lists and tuples. -/
namespace Fz
open PySem PySem.Spec PyProof.Rows L2 HT
section
variable {prog : Program} {w : World} {A : Around} {E : Value → Shared → Prop} {s : Shared}
theorem pick_rev (xs : List Value) : ((List.range xs.length).filterMap fun (k : Nat) => xs.toArray[(((xs.length : Int) - 1) + (k : Int) * (-1)).toNat]?) = xs.reverse := by
  have e : ∀ n, n ≤ xs.length → ((List.range n).filterMap fun (k : Nat) => xs.toArray[(((xs.length : Int) - 1) + (k : Int) * (-1)).toNat]?) = xs.reverse.take n := by
    intro n
    induction n with
    | zero => intro _; rfl
    | succ n ih =>
      intro h
      rw [List.range_succ, List.filterMap_append, ih (by omega)]
      have e1 : (((xs.length : Int) - 1) + (n : Int) * (-1)).toNat = xs.length - 1 - n := by omega
      have hl : xs.length - 1 - n < xs.length := by omega
      have hr : n < xs.reverse.length := by rw [List.length_reverse]; omega
      simp only [List.filterMap_cons, List.filterMap_nil, e1]
      rw [List.getElem?_toArray, List.getElem?_eq_getElem hl, List.take_add_one, List.getElem?_eq_getElem hr, List.getElem_reverse]
      rfl
  rw [e _ (Nat.le_refl _), ← List.length_reverse, List.take_length]
theorem sliceApplied_rev {sl : Addr} {vs : Value} {n : Nat} {Q : Int × Int × Nat → Shared → Prop} (hs : s.heap.IsSliceOf sl .none .none vs) (ps : IsPart vs (some (-1)))
    (h : Q ((n : Int) - 1, -1, n) s) : wpAny (model prog w) A (Builtin.Slice.sliceApplied (.ref sl) (pure (n : Int))) Q E s := by
  obtain ⟨os, hos, hcs, hds⟩ := id hs
  unfold Builtin.Slice.sliceApplied Builtin.Slice.sliceFields
  refine wpAny_bind (wpAny_bind (wpAny_field hos hds (x := .none) rfl (wpAny_bind (wpAny_field hos hds (x := .none) rfl (wpAny_bind (wpAny_field hos hds (x := vs) rfl (wpAny_pure ?_)))))))
  refine wpAny_bind (slicePart_ ps ?_)
  show wpAny _ _ (if ((-1 : Int) == 0) = true then _ else _) _ _ s
  rw [if_neg (by decide)]
  refine wpAny_bind (slicePart_ .none (wpAny_bind (slicePart_ .none (wpAny_bind (wpAny_pure ?_)))))
  show wpAny _ _ (pure ((n : Int) - 1, (-1 : Int), Builtin.Slice.slicePlaces ((n : Int) - 1) (-1) (-1))) _ _ s
  have : Builtin.Slice.slicePlaces ((n : Int) - 1) (-1) (-1) = n := by
    unfold Builtin.Slice.slicePlaces
    have h1 : ¬ (-1 : Int) > 0 := by omega
    simp only [h1, if_false, Int.neg_neg, Int.ediv_one]
    split <;> omega
  rw [this]
  exact wpAny_pure h
theorem getItem_tuple_rev {t sl : Addr} {its : List Value} {vs : Value} {Q : Value → Shared → Prop} (ht : IsTup s.heap t its.toArray) (hs : s.heap.IsSliceOf sl .none .none vs) (ps : IsPart vs (some (-1)))
    (h : Q (.ref s.heap.objs.size) { s with heap := s.heap.push { cls := .type "tuple", data := .seq its.reverse.toArray } }) (hsz : its.length ≤ sizeLine) : wpAny (model prog w) A (getItem (.ref t) (.ref sl)) Q E s := by
  obtain ⟨os, hos, hcs, hds⟩ := id hs
  have hTs : s.TypeIs (.ref sl) "slice" := ⟨os, hos, hcs⟩
  unfold getItem
  try with_reducible refine wpAny_holding ?_
  first | refine wpAny_bind (wpAny_pure ?_) | skip
  refine wpAny_bind (wpAny_sequenceKey ht.typeIs (by decide) ?_)
  refine wpAny_bind (wpAny_callSpecial?_slot (name := Str.ofString "__getitem__") ht.typeIs PyProof.Rows.slot_tuple_getitem
    (wpAny_call_entry PyProof.Rows.slot_tuple_getitem ht.typeIs entry_tuple_getitem ?_ (args_tuple_getitem _ _)))
  show wpAny _ _ (Builtin.Tuple.tupleItemsOf (.ref t) >>= _) _ _ s
  refine wpAny_bind (tupleItemsOf_ ht ?_)
  refine wpAny_bind (wpAny_typeOf hTs ?_)
  rw [if_pos (by decide)]
  refine wpAny_bind (sliceApplied_rev (n := its.toArray.size) hs ps ?_)
  have hno : ((((its.toArray.size : Nat) : Int) - 1) == 0 && (-1 : Int) == 1 && its.toArray.size == its.toArray.size) = false := by simp
  show wpAny _ _ (if ((((its.toArray.size : Nat) : Int) - 1) == 0 && (-1 : Int) == 1 && its.toArray.size == its.toArray.size) = true then _ else _) _ _ s
  rw [hno, if_neg Bool.false_ne_true]
  have e := pick_rev its
  rw [List.size_toArray, e]
  have htake : sizeOk (.seq its.reverse.toArray) := by
    show its.reverse.toArray.size ≤ sizeLine
    rw [List.size_toArray, List.length_reverse]; exact hsz
  first
    | exact wpAny_bind (m := Builtin.Tuple.tupleExact _) (wpAny_newObj_type (wpAny_pure ⟨_, rfl, wpAny_pure h⟩) htake)
    | exact wpAny_bind (m := Builtin.Tuple.tupleExact _) (wpAny_newObj_type (wpAny_bind (wpAny_pure (wpAny_pure ⟨_, rfl, wpAny_pure h⟩))) htake)
    | exact wpAny_bind (wpAny_bind (m := Builtin.Tuple.tupleExact _) (wpAny_newObj_type (wpAny_pure (wpAny_pure ⟨_, rfl, wpAny_pure h⟩)) htake))
    | exact wpAny_bind (wpAny_bind (m := Builtin.Tuple.tupleExact _) (wpAny_newObj_type (wpAny_pure ⟨_, rfl, wpAny_pure h⟩) htake))
end
def tRevD (K : Fg) (te : TE) : TE := fun σ H Q => te σ H fun x H1 => (∃ a xs, x = .ref a ∧ SqL K H1 a xs ∧ ∀ p, H1 p = none → Q (.ref p) (upd H1 p (.lst xs.reverse))) ∨ (∃ a xs, x = .ref a ∧ SqT K H1 a xs ∧ ∀ p, H1 p = none → Q (.ref p) (upd H1 p (.tup xs.reverse)))
section
variable {X : Cx} {F : Fx} {pos : Pos}
theorem pe_revD {e : Expr} {te : TE} {k : Nat} {p1 p2 p3 pos : Pos} (he : PE X e te) : PE X (.Subscript e (.Slice none none (some (.UnaryOp .USub (.Constant (.int 1) k p1) p2)) p3) pos) (tRevD X.K te) := by
  refine ⟨fun pins s σ H Q I h => ?_⟩
  refine Subscript_ (thn (he.run pins s σ H _ I h) fun v s1 ⟨x, H1, I1, r1, q1⟩ => ?_)
  obtain ⟨a, ex⟩ : ∃ a, x = .ref a := by
    rcases q1 with ⟨a, _, ex, _⟩ | ⟨a, _, ex, _⟩ <;> exact ⟨a, ex⟩
  subst ex
  cases r1
  have hst : PO X (some (.UnaryOp .USub (.Constant (.int 1) k p1) p2)) (tPart (tUn (rU fun i => .int (-i)) (tC (.int 1)))) := po_some (pe_un un_neg pe_int)
  refine wpAny_Slice (thn (po_none.run pins s1 σ H1 (fun o H2 => o = none ∧ H2 = H1) I1 ⟨rfl, rfl⟩) fun vl s2 ⟨l, H2, I2, pl, el, e2⟩ => ?_)
  subst el e2
  refine thn (po_none.run pins s2 σ H2 (fun o H3 => o = none ∧ H3 = H2) I2 ⟨rfl, rfl⟩) fun vu s3 ⟨u, H3, I3, pu, eu, e3⟩ => ?_
  subst eu e3
  refine thn (hst.run pins s3 σ H3 (fun o H4 => o = some (-1) ∧ H4 = H3) I3 ⟨1, rfl, -1, rfl, rfl, rfl⟩) fun vs s4 ⟨o, H4, I4, ps, eo, e4⟩ => ?_
  subst eo e4
  have I5 : Inv X pins σ H4 { s4 with heap := s4.heap.push { cls := .type "slice", data := .fields #[vl, vu, vs] } } := I4.kept (t' := s4.toks) fun b ob q => Heap.get?_push_of_some _ q
  rcases q1 with ⟨a', xs, ea, hx, q⟩ | ⟨a', xs, ea, hx, q⟩ <;> cases ea
  · obtain ⟨its, r, ht, hz⟩ := I5.list hx
    have hlen := r.length
    show wpAny (model X.prog X.w) X.A (subscriptTail e (.Slice none none (some (.UnaryOp .USub (.Constant (.int 1) k p1) p2)) p3) (.ref a) (.ref s4.heap.objs.size)) (EP X pins σ Q) X.xe { s4 with heap := s4.heap.push { cls := .type "slice", data := .fields #[vl, vu, vs] } }
    refine tail_any (ops := [.ref a, .ref s4.heap.objs.size]) ht.isList.typeIs (PySem.slot_list_getitem.lookup) ?_ (by with_unfolding_all rfl)
    refine wpAny_getItem_list_slice ht.isList (Heap.IsSliceOf.new _ vl vu vs) pl pu ps (by decide) ?_ (by rw [List.size_toArray]; omega)
    rw [PySem.W.krv_pick]
    refine ⟨.ref _, _, I5.laid (t' := s4.toks) (o := .lst xs.reverse) (fun b ob q => Heap.get?_push_of_some _ q) (Nat.le_refl _) ?_, rfl, q _ (I5.hok.fresh (Nat.le_refl _))⟩
    exact ⟨by rw [List.length_reverse]; exact hz, _, 0, r.reverse, Heap.get?_push_size _ rfl⟩
  · obtain ⟨its, r, ht, hz⟩ := I5.tuple hx
    have hlen := r.length
    cases pl
    cases pu
    show wpAny (model X.prog X.w) X.A (subscriptTail e (.Slice none none (some (.UnaryOp .USub (.Constant (.int 1) k p1) p2)) p3) (.ref a) (.ref s4.heap.objs.size)) (EP X pins σ Q) X.xe _
    refine tail_any (ops := [.ref a, .ref s4.heap.objs.size]) ht.typeIs (PyProof.Rows.slot_tuple_getitem.lookup) ?_ (by with_unfolding_all rfl)
    refine getItem_tuple_rev ht (Heap.IsSliceOf.new _ .none .none vs) ps ?_ (by omega)
    refine ⟨.ref _, _, I5.laid (t' := s4.toks) (o := .tup xs.reverse) (fun b ob q => Heap.get?_push_of_some _ q) (Nat.le_refl _) ?_, rfl, q _ (I5.hok.fresh (Nat.le_refl _))⟩
    exact ⟨by rw [List.length_reverse]; exact hz, _, r.reverse, IsTup.new _ _⟩
def pRev (d : D) : FS → Res SV := fun S => match d with
  | .list ds => .ok (.own (.lst ds.reverse)) S
  | .tuple ds => .ok (.d (.tuple ds.reverse)) S
  | _ => .bad
def fRev (fa : FS → Res D) : FS → Res SV := bnd fa pRev
theorem e_rev {a : Expr} {fa : FS → Res D} {k : Nat} {p1 p2 p3 : Pos} (ha : EQ X F a fa) : EV X F (.Subscript a (.Slice none none (some (.UnaryOp .USub (.Constant (.int 1) k p1) p2)) p3) pos) (fRev fa) :=
  (pe_revD ha).via fun σ H Q h => (rdG.bind h).imp fun x H1 ⟨d, S1, r1, v1, p1, q1⟩ => by
    cases d with
    | list ds =>
      obtain ⟨a, vs, rfl, hl, hv⟩ := v1.list
      exact .inl ⟨a, vs, rfl, hl, fun p hp => newList r1 hv.reverse hp q1⟩
    | tuple ds =>
      obtain ⟨a, vs, rfl, hl, hv⟩ := v1.tuple
      refine .inr ⟨a, vs, rfl, hl, fun p hp => ?_⟩
      obtain ⟨p1, r3, v⟩ := newTup r1 hv.reverse hp
      exact q1 _ _ p1 r3 v
    | _ => exact q1.elim
end
end Fz
end

section
set_option Elab.async false
set_option linter.all false
set_option maxRecDepth 100000
set_option maxHeartbeats 4000000
/-! F26: the order of data: ints, texts, tuples of such at any depth. -/
namespace Fz
open PySem PySem.Spec PyProof.Rows L2
/-- x < y: told or not -/
def LtAt (A : Around) (s : Shared) (y x : Value) (b : Bool) : Prop :=
  ∀ (prog : Program) (w : World) (E : Value → Shared → Prop) (Q : Value → Shared → Prop), Q (.bool b) s → wpAny (model prog w) A (richCompare .Lt y x) Q E s
mutual
/-- the order of data, where it is told -/
def ltD : PyData → PyData → Option Bool
  | .int a, .int b => some (decide (a < b))
  | .str a, .str b => some (decide (a.cps.toList < b.cps.toList))
  | .tuple xs, .tuple ys => ltL xs ys
  | _, _ => none
def ltL : List PyData → List PyData → Option Bool
  | [], [] => some false
  | [], _ :: _ => some true
  | _ :: _, [] => some false
  | x :: xs, y :: ys => if PyData.eqv x y then ltL xs ys else ltD x y
end
def LexOk (A : Around) (s : Shared) (fin r : Bool) : List (Value × Value) → Prop
  | [] => r = fin
  | (y, x) :: rest => ∃ e, SeqAt.EqAt A s y x e ∧ (e = true → LexOk A s fin r rest) ∧ (e = false → LtAt A s y x r)
section
open PySem.SeqAt
open PySem.AutoSeq1 (wpAny_loadPart')
open PySem.MeetsSeq PySem.MeetsSeq2 PySem.MeetsSeq3
theorem tuple_lt_gen (l b : Addr) (items items2 : Array Value) (n n2 : Nat) (dd dd2 : Option Addr) (sl sl2 : Array (Option Value)) (r : Bool) :
    Meets (Builtin.«tuple.__lt__» ⟨[.ref l, .ref b], []⟩)
      (fun A R s => s.heap.get? l = some { cls := .type "tuple", dict := dd, data := .seq items n, slots := sl } ∧ s.heap.get? b = some { cls := .type "tuple", dict := dd2, data := .seq items2 n2, slots := sl2 } ∧
        LexOk A.in1 s (decide (items.size < items2.size)) r (items.toList.zip items2.toList) ∧ R (.ok (.ret (.bool r))) s) :=
  .of_wp fun prog w A R s h => by
    obtain ⟨hp, g, d, tk, os⟩ := s; obtain ⟨hl, hb, hx, h⟩ := h
    have f2 := AutoSeq1.sub_tuple_tuple
    wp_walk using wpAny_loadPart' hl, wpAny_loadPart' hb, wpAny_forIn_list _ (fun rest b s' => b.1 = none ∧ s' = ⟨hp, g, d, tk, os⟩ ∧ LexOk A.in1 ⟨hp, g, d, tk, os⟩ (decide (items.size < items2.size)) r rest) _
    case turn =>
      rintro ⟨y, x⟩ rest b s' ⟨hb', rfl, e, he, h1, h2⟩
      refine wpAny_bind (he prog w _ _ ?_)
      cases e with
      | true =>
        wp_walk
        exact ⟨rfl, rfl, h1 rfl⟩
      | false =>
        have hri := h2 rfl prog w
        wp_walk using hri
        exact ⟨_, rfl, by simpa using h⟩
    case fin =>
      rintro ⟨b1, b2⟩ s' ⟨hb', rfl, hz⟩
      simp only at hb'
      subst hb'
      have hz : r = decide (items.size < items2.size) := hz
      wp_walk
      subst hz
      exact ⟨_, rfl, by simpa [Builtin.Tuple.tupleCompareSizes] using h⟩
    case h =>
      exact ⟨rfl, rfl, hx⟩
end
section
open PySem.SeqAt
theorem room_here {A : Around} {n m : Nat} (h : A.units + min (n + 1) (m + 1) < cLine) : A.units < cLine := by omega
theorem room_in1 {A : Around} {n m : Nat} (h : A.units + min (n + 1) (m + 1) < cLine) : A.in1.units + min n m < cLine := by
  have : A.in1.units = A.units + 1 := rfl
  omega
theorem lt_tuple {A : Around} {s : Shared} {l b : Addr} {items items2 : Array Value} {r : Bool} (hl : IsTup s.heap l items) (hb : IsTup s.heap b items2) (hu : A.units < cLine)
    (hx : LexOk A.in1 s (decide (items.size < items2.size)) r (items.toList.zip items2.toList)) : LtAt A s (.ref l) (.ref b) r := fun prog w E Q h => by
  obtain ⟨⟨cls, dd, data, sl⟩, ho, hc, n, hd⟩ := id hl
  obtain ⟨⟨cls2, dd2, data2, sl2⟩, ho2, hc2, n2, hd2⟩ := id hb
  simp only at hc hd hc2 hd2
  subst hc hd hc2 hd2
  exact richCompare_meets_room (op := .Lt) ⟨_, ho, rfl⟩ ⟨_, ho2, rfl⟩ PySem.F.slot_tuple_lt PySem.F.entry_tuple_lt (PySem.F.args_tuple_lt_2 _ _) (tuple_lt_gen l b items items2 n n2 dd dd2 sl sl2 r)
    ⟨ho, ho2, hx, show Value.bool r ≠ Value.notImplemented ∧ Q (.bool r) s from ⟨(fun x => nomatch x), h⟩⟩ hu
theorem reads_len {h : Heap} : ∀ {vs : List Value} {ds : List PyData} {as : List Addr}, ReadsAll h vs ds as → vs.length = ds.length
  | _, _, _, .nil => rfl
  | _, _, _, .cons _ r => by rw [List.length_cons, List.length_cons, reads_len r]
mutual
theorem ltAt_reads : ∀ (da db : PyData) (A : Around) (s : Shared) (a b : Value) (as bs : List Addr) (r : Bool), Reads s.heap a da as → Reads s.heap b db bs → da.canLay0 = true → db.canLay0 = true →
    A.units + min da.depth db.depth < cLine → ltD da db = some r → LtAt A s a b r
  | .int x, .int y, A, s, _, _, _, _, r, ra, rb, _, _, _, h => by
    cases ra
    cases rb
    simp only [ltD, Option.some.injEq] at h
    subst h
    exact fun prog w E Q q => HT.rcLt_int A s _ _ _ _ prog w E Q q
  | .str x, .str y, A, s, _, _, _, _, r, ra, rb, _, _, _, h => by
    cases ra
    cases rb
    simp only [ltD, Option.some.injEq] at h
    subst h
    exact fun prog w E Q q => DT.rcLt_str A s _ _ _ _ prog w E Q q
  | .tuple xs, .tuple ys, A, s, _, _, _, _, r, ra, rb, ha, hb, hu, h => by
    simp only [PyData.canLay0] at ha hb
    simp only [PyData.depth] at hu
    cases ra with
    | tuple h1 h2 h3 h4 =>
      cases rb with
      | tuple k1 k2 k3 k4 =>
        refine lt_tuple ⟨_, h1, h2, _, h3⟩ ⟨_, k1, k2, _, k3⟩ (room_here hu) ?_
        simp only [ltD] at h
        exact lexOk_reads xs ys A.in1 s _ _ _ _ _ _ r h4 k4 ha hb (room_in1 hu) (by have a1 := reads_len h4; have a2 := reads_len k4; simp at a1 a2; omega) h
  | .none, _, _, _, _, _, _, _, _, _, _, _, _, _, h => by simp [ltD] at h
  | .bool _, _, _, _, _, _, _, _, _, _, _, _, _, _, h => by simp [ltD] at h
  | .list _, _, _, _, _, _, _, _, _, _, _, _, _, _, h => by simp [ltD] at h
  | .dict _, _, _, _, _, _, _, _, _, _, _, _, _, _, h => by simp [ltD] at h
  | .int _, .none, _, _, _, _, _, _, _, _, _, _, _, _, h => by simp [ltD] at h
  | .int _, .bool _, _, _, _, _, _, _, _, _, _, _, _, _, h => by simp [ltD] at h
  | .int _, .str _, _, _, _, _, _, _, _, _, _, _, _, _, h => by simp [ltD] at h
  | .int _, .list _, _, _, _, _, _, _, _, _, _, _, _, _, h => by simp [ltD] at h
  | .int _, .tuple _, _, _, _, _, _, _, _, _, _, _, _, _, h => by simp [ltD] at h
  | .int _, .dict _, _, _, _, _, _, _, _, _, _, _, _, _, h => by simp [ltD] at h
  | .str _, .none, _, _, _, _, _, _, _, _, _, _, _, _, h => by simp [ltD] at h
  | .str _, .bool _, _, _, _, _, _, _, _, _, _, _, _, _, h => by simp [ltD] at h
  | .str _, .int _, _, _, _, _, _, _, _, _, _, _, _, _, h => by simp [ltD] at h
  | .str _, .list _, _, _, _, _, _, _, _, _, _, _, _, _, h => by simp [ltD] at h
  | .str _, .tuple _, _, _, _, _, _, _, _, _, _, _, _, _, h => by simp [ltD] at h
  | .str _, .dict _, _, _, _, _, _, _, _, _, _, _, _, _, h => by simp [ltD] at h
  | .tuple _, .none, _, _, _, _, _, _, _, _, _, _, _, _, h => by simp [ltD] at h
  | .tuple _, .bool _, _, _, _, _, _, _, _, _, _, _, _, _, h => by simp [ltD] at h
  | .tuple _, .int _, _, _, _, _, _, _, _, _, _, _, _, _, h => by simp [ltD] at h
  | .tuple _, .str _, _, _, _, _, _, _, _, _, _, _, _, _, h => by simp [ltD] at h
  | .tuple _, .list _, _, _, _, _, _, _, _, _, _, _, _, _, h => by simp [ltD] at h
  | .tuple _, .dict _, _, _, _, _, _, _, _, _, _, _, _, _, h => by simp [ltD] at h
theorem lexOk_reads : ∀ (xs ys : List PyData) (A : Around) (s : Shared) (vs ws : List Value) (n m : Nat) (as bs : List Addr) (r : Bool), ReadsAll s.heap vs xs as → ReadsAll s.heap ws ys bs → PyData.canLayAll0 xs = true → PyData.canLayAll0 ys = true →
    A.units + min (PyData.depthAll xs) (PyData.depthAll ys) < cLine → n + ys.length = m + xs.length → ltL xs ys = some r → LexOk A s (decide (n < m)) r (vs.zip ws)
  | [], [], A, s, _, _, n, m, _, _, r, ra, rb, _, _, _, hn, h => by
    cases ra; cases rb
    simp only [ltL, Option.some.injEq] at h
    simp only [List.length_nil] at hn
    show r = decide (n < m)
    rw [← h]
    exact (decide_eq_false (by omega)).symm
  | [], y :: ys, A, s, _, _, n, m, _, _, r, ra, rb, _, _, _, hn, h => by
    cases ra; cases rb
    simp only [ltL, Option.some.injEq] at h
    simp only [List.length_nil, List.length_cons] at hn
    show r = decide (n < m)
    rw [← h]
    exact (decide_eq_true (by omega)).symm
  | x :: xs, [], A, s, _, _, n, m, _, _, r, ra, rb, _, _, _, hn, h => by
    cases ra; cases rb
    simp only [ltL, Option.some.injEq] at h
    simp only [List.length_nil, List.length_cons] at hn
    show r = decide (n < m)
    rw [← h]
    exact (decide_eq_false (by omega)).symm
  | x :: xs, y :: ys, A, s, _, _, n, m, _, _, r, ra, rb, ha, hb, hu, hn, h => by
    have ha' : x.canLay0 = true ∧ PyData.canLayAll0 xs = true := by simpa [PyData.canLayAll0] using ha
    have hb' : y.canLay0 = true ∧ PyData.canLayAll0 ys = true := by simpa [PyData.canLayAll0] using hb
    simp only [PyData.depthAll] at hu
    cases ra with
    | cons r1 rs1 =>
      cases rb with
      | cons r2 rs2 =>
        refine ⟨PyData.eqv x y, eqAt_reads x y A s _ _ _ _ r1 r2 ha'.1 hb'.1 (by omega), fun e => ?_, fun e => ?_⟩
        · simp only [ltL, e, if_true] at h
          exact lexOk_reads xs ys A s _ _ n m _ _ r rs1 rs2 ha'.2 hb'.2 (by omega) (by simp only [List.length_cons] at hn; omega) h
        · simp only [ltL, e, Bool.false_eq_true, if_false] at h
          exact ltAt_reads x y A s _ _ _ _ r r1 r2 ha'.1 hb'.1 (by omega) h
end
end
end Fz
end

section
set_option Elab.async false
set_option linter.all false
set_option maxRecDepth 100000
set_option maxHeartbeats 4000000
/-! F27: the order of plain data as an order of codes; sorting as a function. -/
namespace Fz
open PySem L2
mutual
/-- a code of data: the order of codes is the order of data -/
def enc : PyData → List Int
  | .int i => [1, i]
  | .str x => 2 :: ((x.cps.toList.map fun c => ((c : Nat) : Int) + 1) ++ [0])
  | .tuple ds => 3 :: encL ds
  | .none => [0]
  | .bool _ => [4]
  | .list _ => [5]
  | .dict _ => [6]
def encL : List PyData → List Int
  | [] => [0]
  | d :: ds => 1 :: (enc d ++ encL ds)
end
mutual
/-- ints, texts, tuples of such -/
def plainD : PyData → Bool
  | .int _ => true
  | .str _ => true
  | .tuple ds => plainL ds
  | _ => false
def plainL : List PyData → Bool
  | [] => true
  | d :: ds => plainD d && plainL ds
end
abbrev lx := HT.lexLt
theorem lx_pre {u v : List Int} : ∀ l : List Int, lx (l ++ u) (l ++ v) = lx u v
  | [] => rfl
  | x :: l => by rw [List.cons_append, List.cons_append, lx, HT.lexLt_cons, if_pos rfl]; exact lx_pre l
theorem lx_asym : ∀ {l m : List Int}, lx l m = true → lx m l = false
  | [], [], h => by cases h
  | [], y :: m, _ => rfl
  | x :: l, [], h => by cases h
  | x :: l, y :: m, h => by
    rw [lx, HT.lexLt_cons] at h ⊢
    by_cases e : x = y
    · subst e; rw [if_pos rfl] at h ⊢; exact lx_asym h
    · rw [if_neg e] at h
      rw [if_neg (fun z => e z.symm)]
      simp at h ⊢; omega
theorem lx_tr : ∀ {l m n : List Int}, lx m l = false → lx n m = false → lx n l = false
  | [], m, [], _, _ => rfl
  | [], [], z :: n, _, h => h
  | [], y :: m, z :: n, _, _ => rfl
  | x :: l, [], n, h, _ => by cases h
  | x :: l, y :: m, [], _, h => by cases h
  | x :: l, y :: m, z :: n, h, g => by
    rw [lx, HT.lexLt_cons] at h g ⊢
    by_cases e : y = x
    · subst e
      rw [if_pos rfl] at h
      by_cases e2 : z = y
      · subst e2
        rw [if_pos rfl] at g ⊢
        exact lx_tr h g
      · rw [if_neg e2] at g ⊢; exact g
    · rw [if_neg e] at h
      by_cases e2 : z = y
      · subst e2
        rw [if_neg e]; exact h
      · rw [if_neg e2] at g
        have : ¬ z = x := fun w => by subst w; simp at h g; omega
        rw [if_neg this]
        simp at h g ⊢; omega
theorem lx_tri : ∀ {l m : List Int}, lx l m = false → lx m l = false → l = m
  | [], [], _, _ => rfl
  | [], y :: m, h, _ => by cases h
  | x :: l, [], _, h => by cases h
  | x :: l, y :: m, h, g => by
    rw [lx, HT.lexLt_cons] at h g
    by_cases e : x = y
    · subst e
      rw [if_pos rfl] at h g
      rw [lx_tri h g]
    · rw [if_neg e] at h
      rw [if_neg (fun z => e z.symm)] at g
      simp at h g; omega
theorem lx_swo {α : Type} (f : α → List Int) : SrtO.Swo fun x y => lx (f x) (f y) := ⟨fun _ _ h => lx_asym h, fun _ _ _ h g => lx_tr h g⟩
/-! codes and equality -/
mutual
theorem enc_eqv : ∀ {d e : PyData}, plainD d = true → plainD e = true → PyData.eqv d e = true → d = e
  | .int a, .int b, _, _, h => by simp only [PyData.eqv] at h; rw [eq_of_beq h]
  | .str a, .str b, _, _, h => by simp only [PyData.eqv] at h; rw [eq_of_beq h]
  | .tuple xs, .tuple ys, h1, h2, h => by
    simp only [plainD] at h1 h2
    simp only [PyData.eqv] at h
    rw [encL_eqv h1 h2 h]
  | .int _, .str _, _, _, h => by simp [PyData.eqv] at h
  | .int _, .tuple _, _, _, h => by simp [PyData.eqv] at h
  | .str _, .int _, _, _, h => by simp [PyData.eqv] at h
  | .str _, .tuple _, _, _, h => by simp [PyData.eqv] at h
  | .tuple _, .int _, _, _, h => by simp [PyData.eqv] at h
  | .tuple _, .str _, _, _, h => by simp [PyData.eqv] at h
  | .none, _, h, _, _ => by cases h
  | .bool _, _, h, _, _ => by cases h
  | .list _, _, h, _, _ => by cases h
  | .dict _, _, h, _, _ => by cases h
  | .int _, .none, _, h, _ => by cases h
  | .int _, .bool _, _, h, _ => by cases h
  | .int _, .list _, _, h, _ => by cases h
  | .int _, .dict _, _, h, _ => by cases h
  | .str _, .none, _, h, _ => by cases h
  | .str _, .bool _, _, h, _ => by cases h
  | .str _, .list _, _, h, _ => by cases h
  | .str _, .dict _, _, h, _ => by cases h
  | .tuple _, .none, _, h, _ => by cases h
  | .tuple _, .bool _, _, h, _ => by cases h
  | .tuple _, .list _, _, h, _ => by cases h
  | .tuple _, .dict _, _, h, _ => by cases h
theorem encL_eqv : ∀ {ds es : List PyData}, plainL ds = true → plainL es = true → PyData.eqvAll ds es = true → ds = es
  | [], [], _, _, _ => rfl
  | [], _ :: _, _, _, h => by simp [PyData.eqvAll] at h
  | _ :: _, [], _, _, h => by simp [PyData.eqvAll] at h
  | x :: xs, y :: ys, h1, h2, h => by
    simp only [plainL, Bool.and_eq_true] at h1 h2
    simp only [PyData.eqvAll, Bool.and_eq_true] at h
    rw [enc_eqv h1.1 h2.1 h.1, encL_eqv h1.2 h2.2 h.2]
end
theorem lx_cps : ∀ (xs ys : List Nat) (u v : List Int), lx (((xs.map fun c => ((c : Nat) : Int) + 1) ++ [0]) ++ u) (((ys.map fun c => ((c : Nat) : Int) + 1) ++ [0]) ++ v) = if xs = ys then lx u v else decide (xs < ys)
  | [], [], u, v => by simp [HT.lexLt_cons]
  | [], y :: ys, u, v => by
    have : ¬ (0 : Int) = (y : Int) + 1 := by omega
    have h2 : (0 : Int) < (y : Int) + 1 := by omega
    simp [HT.lexLt_cons, this, h2]
  | x :: xs, [], u, v => by
    have : ¬ (x : Int) + 1 = 0 := by omega
    have h2 : ¬ (x : Int) + 1 < 0 := by omega
    simp [HT.lexLt_cons, this, h2]
  | x :: xs, y :: ys, u, v => by
    have ih := lx_cps xs ys u v
    simp only [List.map_cons, List.cons_append, HT.lexLt_cons]
    by_cases e : x = y
    · subst e
      rw [if_pos rfl]
      refine Eq.trans ih ?_
      simp [List.cons_lt_cons_iff]
    · rw [if_neg (by omega)]
      have : ¬ x :: xs = y :: ys := fun z => e (List.cons.inj z).1
      rw [if_neg this]
      rw [Bool.eq_iff_iff, decide_eq_true_eq, decide_eq_true_eq, List.cons_lt_cons_iff]
      constructor
      · intro h; exact .inl (by omega)
      · rintro (h | ⟨h, _⟩)
        · omega
        · exact absurd h e
mutual
theorem lt_enc : ∀ {d e : PyData} {r : Bool}, plainD d = true → plainD e = true → ltD d e = some r → ∀ u v, lx (enc d ++ u) (enc e ++ v) = if PyData.eqv d e = true then lx u v else r
  | .int a, .int b, r, _, _, h, u, v => by
    simp only [ltD, Option.some.injEq] at h
    subst h
    have e : PyData.eqv (.int a) (.int b) = decide (a = b) := by simp only [PyData.eqv]; by_cases h : a = b <;> simp [h]
    simp only [enc, List.cons_append, List.nil_append, lx, HT.lexLt_cons, e, decide_eq_true_eq, if_true]
  | .str a, .str b, r, _, _, h, u, v => by
    simp only [ltD, Option.some.injEq] at h
    subst h
    have e : PyData.eqv (.str a) (.str b) = decide (a.cps.toList = b.cps.toList) := by
      simp only [PyData.eqv]
      rw [Bool.eq_iff_iff, decide_eq_true_eq, beq_iff_eq]
      constructor
      · intro h; rw [h]
      · intro h
        cases a; cases b
        simp only at h
        rw [Array.toList_inj.mp h]
    have := lx_cps a.cps.toList b.cps.toList u v
    simp only [enc, List.cons_append, HT.lexLt_cons, lx, if_true, e, decide_eq_true_eq] at this ⊢
    exact this
  | .tuple xs, .tuple ys, r, h1, h2, h, u, v => by
    simp only [plainD] at h1 h2
    simp only [ltD] at h
    have := lt_encL h1 h2 h u v
    simp only [enc, List.cons_append, HT.lexLt_cons, lx, if_true, PyData.eqv] at this ⊢
    exact this
  | .none, _, _, h, _, _, _, _ => by cases h
  | .bool _, _, _, h, _, _, _, _ => by cases h
  | .list _, _, _, h, _, _, _, _ => by cases h
  | .dict _, _, _, h, _, _, _, _ => by cases h
  | .int _, .none, _, _, h, _, _, _ => by cases h
  | .int _, .bool _, _, _, h, _, _, _ => by cases h
  | .int _, .list _, _, _, h, _, _, _ => by cases h
  | .int _, .dict _, _, _, h, _, _, _ => by cases h
  | .int _, .str _, _, _, _, h, _, _ => by simp [ltD] at h
  | .int _, .tuple _, _, _, _, h, _, _ => by simp [ltD] at h
  | .str _, .none, _, _, h, _, _, _ => by cases h
  | .str _, .bool _, _, _, h, _, _, _ => by cases h
  | .str _, .list _, _, _, h, _, _, _ => by cases h
  | .str _, .dict _, _, _, h, _, _, _ => by cases h
  | .str _, .int _, _, _, _, h, _, _ => by simp [ltD] at h
  | .str _, .tuple _, _, _, _, h, _, _ => by simp [ltD] at h
  | .tuple _, .none, _, _, h, _, _, _ => by cases h
  | .tuple _, .bool _, _, _, h, _, _, _ => by cases h
  | .tuple _, .list _, _, _, h, _, _, _ => by cases h
  | .tuple _, .dict _, _, _, h, _, _, _ => by cases h
  | .tuple _, .int _, _, _, _, h, _, _ => by simp [ltD] at h
  | .tuple _, .str _, _, _, _, h, _, _ => by simp [ltD] at h
theorem lt_encL : ∀ {ds es : List PyData} {r : Bool}, plainL ds = true → plainL es = true → ltL ds es = some r → ∀ u v, lx (encL ds ++ u) (encL es ++ v) = if PyData.eqvAll ds es = true then lx u v else r
  | [], [], r, _, _, h, u, v => by
    simp only [encL, List.cons_append, List.nil_append, lx, HT.lexLt_cons, PyData.eqvAll, if_true]
  | [], y :: ys, r, _, _, h, u, v => by
    simp only [ltL, Option.some.injEq] at h
    subst h
    simp only [encL, List.cons_append, List.nil_append, lx, HT.lexLt_cons, PyData.eqvAll]
    rfl
  | x :: xs, [], r, _, _, h, u, v => by
    simp only [ltL, Option.some.injEq] at h
    subst h
    simp only [encL, List.cons_append, List.nil_append, lx, HT.lexLt_cons, PyData.eqvAll]
    rfl
  | x :: xs, y :: ys, r, h1, h2, h, u, v => by
    simp only [plainL, Bool.and_eq_true] at h1 h2
    simp only [encL, List.cons_append, List.append_assoc, lx, HT.lexLt_cons, if_true]
    by_cases e : PyData.eqv x y = true
    · simp only [ltL, e, if_true] at h
      have ex := enc_eqv h1.1 h2.1 e
      subst ex
      have ea : PyData.eqvAll (x :: xs) (x :: ys) = PyData.eqvAll xs ys := by rw [PyData.eqvAll, e, Bool.true_and]
      simp only [ea]
      exact (lx_pre _).trans (lt_encL h1.2 h2.2 h u v)
    · have e := Bool.eq_false_iff.mpr e
      simp only [ltL, e, Bool.false_eq_true, if_false] at h
      have := lt_enc h1.1 h2.1 h (encL xs ++ u) (encL ys ++ v)
      have ea : PyData.eqvAll (x :: xs) (y :: ys) = false := by rw [PyData.eqvAll, e, Bool.false_and]
      simp only [ea, e, Bool.false_eq_true, if_false] at this ⊢
      exact this
end
mutual
theorem ltD_self : ∀ {d : PyData} {r : Bool}, ltD d d = some r → r = false
  | .int a, r, h => by simp only [ltD, Option.some.injEq] at h; subst h; simp
  | .str a, r, h => by simp only [ltD, Option.some.injEq] at h; subst h; simp
  | .tuple xs, r, h => by simp only [ltD] at h; exact ltL_self h
  | .none, _, h => by simp [ltD] at h
  | .bool _, _, h => by simp [ltD] at h
  | .list _, _, h => by simp [ltD] at h
  | .dict _, _, h => by simp [ltD] at h
theorem ltL_self : ∀ {ds : List PyData} {r : Bool}, ltL ds ds = some r → r = false
  | [], r, h => by simp only [ltL, Option.some.injEq] at h; exact h.symm
  | x :: xs, r, h => by
    simp only [ltL] at h
    split at h
    · exact ltL_self h
    · exact ltD_self h
end
/-- the order of plain data by codes -/
theorem ltD_lx {d e : PyData} {r : Bool} (h1 : plainD d = true) (h2 : plainD e = true) (h : ltD d e = some r) : r = lx (enc d) (enc e) := by
  have := lt_enc h1 h2 h [] []
  rw [List.append_nil, List.append_nil] at this
  rw [this]
  split
  · rename_i e
    have ex := enc_eqv h1 h2 e
    subst ex
    exact ltD_self h
  · rfl
/-! ### sorting as a function -/
def insD (x : PyData) : List PyData → List PyData
  | [] => [x]
  | y :: l => if lx (enc y) (enc x) = true then y :: insD x l else x :: y :: l
def sortD : List PyData → List PyData
  | [] => []
  | x :: l => insD x (sortD l)
abbrev ltE (x y : PyData) : Bool := lx (enc x) (enc y)
theorem ltE_swo : SrtO.Swo ltE := lx_swo enc
theorem insD_split (x : PyData) : ∀ l : List PyData, ∃ M N, l = M ++ N ∧ insD x l = M ++ x :: N ∧ (∀ y ∈ M, ltE y x = true) ∧ (∀ y, N.head? = some y → ltE y x = false)
  | [] => ⟨[], [], rfl, rfl, fun _ h => absurd h (by simp), fun _ h => by simp at h⟩
  | y :: l => by
    unfold insD
    by_cases e : lx (enc y) (enc x) = true
    · rw [if_pos e]
      obtain ⟨M, N, rfl, e2, h1, h2⟩ := insD_split x l
      refine ⟨y :: M, N, rfl, by rw [e2]; rfl, fun z hz => ?_, h2⟩
      rcases List.mem_cons.mp hz with rfl | hz
      · exact e
      · exact h1 z hz
    · rw [if_neg e]
      refine ⟨[], y :: l, rfl, rfl, fun _ h => absurd h (by simp), fun z hz => ?_⟩
      simp at hz
      subst hz
      exact Bool.eq_false_iff.mpr e
theorem sortD_ok : ∀ l : List PyData, SrtO.Srtd ltE (sortD l) ∧ SrtO.Stb ltE (sortD l) l
  | [] => ⟨List.Pairwise.nil, SrtO.Stb.refl _⟩
  | x :: l => by
    obtain ⟨s1, s2⟩ := sortD_ok l
    obtain ⟨M, N, e1, e2, h1, h2⟩ := insD_split x (sortD l)
    have O := ltE_swo
    rw [e1] at s1
    obtain ⟨m, n, c⟩ := SrtO.srtd_app.mp s1
    have hN : ∀ y ∈ N, ltE y x = false := fun y hy => by
      cases N with
      | nil => cases hy
      | cons z N =>
        have hz := h2 z rfl
        rcases List.mem_cons.mp hy with rfl | hy
        · exact hz
        · exact O.tr x z y hz (SrtO.srtd_head n y hy)
    show SrtO.Srtd ltE (insD x (sortD l)) ∧ SrtO.Stb ltE (insD x (sortD l)) (x :: l)
    rw [e2]
    refine ⟨SrtO.srtd_app.mpr ⟨m, List.pairwise_cons.mpr ⟨hN, n⟩, fun a ha b hb => ?_⟩, ?_⟩
    · rcases List.mem_cons.mp hb with rfl | hb
      · exact O.asym a b (h1 a ha)
      · exact c a ha b hb
    · have q : SrtO.Stb ltE (M ++ ([x] ++ N)) ([x] ++ (M ++ N)) := by
        have := (SrtO.Stb.swap O (A := M) (B := [x]) fun a ha b hb => by rw [List.mem_singleton.mp hb]; exact h1 a ha).app (SrtO.Stb.refl N)
        simpa using this
      have q2 : SrtO.Stb ltE ([x] ++ (M ++ N)) ([x] ++ l) := by
        rw [← e1]
        exact (SrtO.Stb.refl [x]).app s2
      exact q.trans q2
theorem sortD_uniq {l m : List PyData} (h : SrtO.Srtd ltE l) (s : SrtO.Stb ltE l m) : l = sortD m := by
  obtain ⟨a, b⟩ := sortD_ok m
  refine SrtO.stb_uniq ltE_swo h a ?_
  exact ⟨s.perm.trans b.perm.symm, fun x => (s.cls x).trans (b.cls x).symm⟩
end Fz
end

section
set_option Elab.async false
set_option linter.all false
set_option maxRecDepth 100000
set_option maxHeartbeats 4000000
/-! F28: sorted(list of plain data). -/
namespace Fz
open PySem PySem.Spec PyProof.Rows L2 SrtO Srt
section
variable {prog : Program} {w : World} {A : Around} {E : Value → Shared → Prop} {s : Shared}
theorem mapM_wp {α : Type} {m : Value → Sem α} {f : Value → α} : ∀ {vs : List Value} {Q : List α → Shared → Prop}, (∀ v ∈ vs, ∀ Q : α → Shared → Prop, Q (f v) s → wpAny (model prog w) A (m v) Q E s) → Q (vs.map f) s → wpAny (model prog w) A (vs.mapM m) Q E s
  | [], Q, _, h => by rw [List.mapM_nil]; exact wpAny_pure h
  | v :: vs, Q, hm, h => by
    rw [List.mapM_cons]
    refine wpAny_bind (hm v (by simp) _ ?_)
    exact wpAny_bind (mapM_wp (Q := fun bs s' => wpAny (model prog w) A (pure (f v :: bs)) Q E s') (fun u hu => hm u (List.mem_cons_of_mem _ hu)) (wpAny_pure h))
/-- v reads as plain data -/
def RdP (h : Heap) (v : Value) (d : PyData) : Prop := plainD d = true ∧ ∃ as, Reads h v d as
def tyV : PyData → Value
  | .int _ => .type "int"
  | .str _ => .type "str"
  | _ => .type "tuple"
theorem RdP.typeIs {v : Value} {d : PyData} (r : RdP s.heap v d) : ∃ T : String, s.TypeIs v T ∧ tyV d = .type T := by
  obtain ⟨hp, as, r⟩ := r
  cases r with
  | int i t => exact ⟨_, typeIs_int s i t, rfl⟩
  | str x t => exact ⟨_, typeIs_str s x t, rfl⟩
  | tuple h1 h2 h3 h4 => exact ⟨_, ⟨_, h1, h2⟩, rfl⟩
  | none => cases hp
  | bool b => cases hp
  | list _ _ _ _ => cases hp
  | dict _ _ _ _ _ => cases hp
theorem typeOf_wp {v : Value} {d : PyData} (r : RdP s.heap v d) {Q : Value → Shared → Prop} (h : Q (tyV d) s) : wpAny (model prog w) A (typeOf v) Q E s := by
  obtain ⟨T, hT, e⟩ := r.typeIs
  rw [e] at h
  exact wpAny_typeOf hT h
theorem first_wp {v : Value} {d : PyData} (r : RdP s.heap v d) : ∃ f : Option Value, (∀ (E : Value → Shared → Prop) (Q : Option Value → Shared → Prop), Q f s → wpAny (model prog w) A (firstOfTuple' v) Q E s) ∧ (∀ u, f = some u → (∃ xs, d = .tuple xs) ∧ ∃ e, RdP s.heap u e) := by
  obtain ⟨hp, as, r⟩ := r
  cases r with
  | int i t => exact ⟨none, fun E Q h => by rw [firstOfTuple'_int]; exact wpAny_pure h, fun u e => by cases e⟩
  | str x t => exact ⟨none, fun E Q h => by rw [PyProof.Rows.firstOfTuple'_str]; exact wpAny_pure h, fun u e => by cases e⟩
  | @tuple a o vs n xs as h1 h2 h3 h4 =>
    refine ⟨vs[0]?, fun E Q h => ?_, fun u e => ⟨⟨_, rfl⟩, ?_⟩⟩
    · rw [PySem.W.kas_first_eq]
      refine wpAny_bind (wpAny_typeOf ⟨_, h1, h2⟩ ?_)
      rw [if_neg (by first | decide | simp)]
      exact wpAny_bind (listItems_at h1 h3 (wpAny_pure h))
    · simp only [plainD] at hp
      cases xs with
      | nil => 
        have := reads_len h4
        simp at this
        rw [this] at e
        simp at e
      | cons x xs =>
        simp only [plainL, Bool.and_eq_true] at hp
        generalize hl : vs.toList = l at h4
        cases h4 with
        | cons r rs =>
          rw [← Array.getElem?_toList, hl] at e
          simp at e
          subst e
          exact ⟨x, hp.1, _, r⟩
  | none => cases hp
  | bool b => cases hp
  | list _ _ _ _ => cases hp
  | dict _ _ _ _ _ => cases hp
theorem oneType_wp {us : List Value} (h : ∀ u ∈ us, ∃ e, RdP s.heap u e) : ∃ o : Option Value, ∀ (E : Value → Shared → Prop) (Q : Option Value → Shared → Prop), Q o s → wpAny (model prog w) A (oneTypeOnly' us.toArray) Q E s := by
  let f : Value → Value := fun u => open Classical in if h : ∃ e, RdP s.heap u e then tyV h.choose else .none
  refine ⟨match (us.map f).toArray[0]? with
    | some t => if (us.map f).toArray.all (· == t) then some t else none
    | none => none, fun E Q hq => ?_⟩
  rw [oneTypeOnly'_eq, List.mapM_toArray, map_eq_pure_bind]
  refine wpAny_bind (wpAny_bind (mapM_wp (f := f) (fun v hv Q' hq' => ?_) (wpAny_pure ?_)))
  · have hv := h v hv
    refine typeOf_wp hv.choose_spec ?_
    have : f v = tyV hv.choose := dif_pos hv
    rw [← this]; exact hq'
  · cases e : (us.map f).toArray[0]? with
    | none => rw [e] at hq; exact wpAny_pure hq
    | some t =>
      rw [e] at hq
      exact wpAny_pure hq
/-- which kind of keys: one of the three, .tuples for tuples alone -/
theorem kind_wp {vs : List Value} {ds : List PyData} (h : ∀ v ∈ vs, ∃ d ∈ ds, RdP s.heap v d) : ∃ κ : SortKind, (∀ (E : Value → Shared → Prop) (Q : SortKind → Shared → Prop), Q κ s → wpAny (model prog w) A (keyKind' vs.toArray) Q E s) ∧ (κ = general' ∨ κ = oneType' ∨ (∃ b, κ = tuples' b) ∧ ∀ v ∈ vs, ∃ d ∈ ds, RdP s.heap v d ∧ ∃ xs, d = .tuple xs) := by
  have hf : ∀ v ∈ vs, ∃ f : Option Value, (∀ (E : Value → Shared → Prop) (Q : Option Value → Shared → Prop), Q f s → wpAny (model prog w) A (firstOfTuple' v) Q E s) ∧ (∀ u, f = some u → (∃ d ∈ ds, RdP s.heap v d ∧ ∃ xs, d = .tuple xs) ∧ ∃ e, RdP s.heap u e) := fun v hv => by
    obtain ⟨d, hd, r⟩ := h v hv
    obtain ⟨f, h1, h2⟩ := first_wp (prog := prog) (w := w) (A := A) r
    exact ⟨f, h1, fun u e => ⟨⟨d, hd, r, (h2 u e).1⟩, (h2 u e).2⟩⟩
  let F : Value → Option Value := fun u => open Classical in if h : u ∈ vs then (hf u h).choose else none
  have hF : ∀ v ∈ vs, (∀ (E : Value → Shared → Prop) (Q : Option Value → Shared → Prop), Q (F v) s → wpAny (model prog w) A (firstOfTuple' v) Q E s) ∧ (∀ u, F v = some u → (∃ d ∈ ds, RdP s.heap v d ∧ ∃ xs, d = .tuple xs) ∧ ∃ e, RdP s.heap u e) := fun v hv => by
    have : F v = (hf v hv).choose := dif_pos hv
    rw [this]; exact (hf v hv).choose_spec
  have start : ∀ (E : Value → Shared → Prop) (Q : SortKind → Shared → Prop), wpAny (model prog w) A (do
      if (vs.map F).toArray.all (·.isSome) then
        rule "list.sort.keys-are-tuples"
        return tuples' ((← oneTypeOnly' ((vs.map F).toArray.filterMap id)).any (· != .type "tuple"))
      if ((vs.map F).toArray[0]?.bind id).isSome then return general'
      return if (← oneTypeOnly' vs.toArray).isSome then oneType' else general') Q E s → wpAny (model prog w) A (keyKind' vs.toArray) Q E s := fun E Q hq => by
    rw [PyProof.Rows.kat_kind_eq, List.mapM_toArray, map_eq_pure_bind]
    exact wpAny_bind (wpAny_bind (mapM_wp (f := F) (fun v hv Q' hq' => (hF v hv).1 _ Q' hq') (wpAny_pure hq)))
  by_cases hall : (vs.map F).toArray.all (·.isSome) = true
  · have hall2 : ∀ v ∈ vs, (F v).isSome = true := by simpa using hall
    have hfm : ((vs.map F).toArray.filterMap id) = (vs.filterMap F).toArray := by simp [List.filterMap_map]
    obtain ⟨o, ho⟩ := oneType_wp (prog := prog) (w := w) (A := A) (s := s) (us := vs.filterMap F) fun u hu => by
      obtain ⟨v, hv, e⟩ := List.mem_filterMap.mp hu
      exact ((hF v hv).2 u e).2
    refine ⟨tuples' (o.any (· != .type "tuple")), fun E Q hq => start E Q ?_, .inr (.inr ⟨⟨_, rfl⟩, fun v hv => ?_⟩)⟩
    · rw [if_pos hall]
      refine wpAny_bind (wpAny_rule ?_)
      rw [hfm]
      exact wpAny_bind (ho _ _ (wpAny_pure hq))
    · obtain ⟨u, e⟩ := Option.isSome_iff_exists.mp (hall2 v hv)
      exact ((hF v hv).2 u e).1
  · by_cases h0 : ((vs.map F).toArray[0]?.bind id).isSome = true
    · refine ⟨general', fun E Q hq => start E Q ?_, .inl rfl⟩
      rw [if_neg hall, if_pos h0]
      exact wpAny_pure hq
    · obtain ⟨o, ho⟩ := oneType_wp (prog := prog) (w := w) (A := A) (s := s) (us := vs) fun u hu => by
        obtain ⟨d, _, r⟩ := h u hu
        exact ⟨d, r⟩
      refine ⟨if o.isSome then oneType' else general', fun E Q hq => start E Q ?_, ?_⟩
      · rw [if_neg hall, if_neg h0]
        exact wpAny_bind (ho _ _ (wpAny_pure hq))
      · cases o.isSome with
        | true => exact .inr (.inl rfl)
        | false => exact .inl rfl
end
section
variable {prog : Program} {w : World} {A : Around} {E : Value → Shared → Prop} {s : Shared}
/-- what is asked of two data that are compared in a sort -/
def CmpD (A : Around) (d e : PyData) : Prop := (ltD d e).isSome = true ∧ plainD d = true ∧ plainD e = true ∧ d.canLay0 = true ∧ e.canLay0 = true ∧ A.units + 1 + min d.depth e.depth < cLine
theorem lt_cmp {v u : Value} {d e : PyData} (c : CmpD A d e) (r : RdP s.heap v d) (r' : RdP s.heap u e) : LtAt A s v u (lx (enc d) (enc e)) := by
  obtain ⟨c1, c2, c3, c4, c5, c6⟩ := c
  obtain ⟨b, hb⟩ := Option.isSome_iff_exists.mp c1
  obtain ⟨_, as, r⟩ := r
  obtain ⟨_, bs, r'⟩ := r'
  rw [← ltD_lx c2 c3 hb]
  exact ltAt_reads d e A s v u as bs b r r' c4 c5 (by omega) hb
theorem oneLt_false {v u : Value} {b : Bool} (h : LtAt A s v u b) {Q : Bool → Shared → Prop} (q : Q b s) : wpAny (model prog w) A (oneLt' false v u) Q E s := by
  rw [oneLt'_eq]
  simp only [Bool.false_eq_true, if_false]
  exact wpAny_bind (h prog w E _ (wpAny_truthy_bool q))
theorem oneLt_true {v u : Value} {d e : PyData} (c : CmpD A d e) (r : RdP s.heap v d) (r' : RdP s.heap u e) {Q : Bool → Shared → Prop} (q : Q (lx (enc d) (enc e)) s) : wpAny (model prog w) A (oneLt' true v u) Q E s := by
  obtain ⟨c1, c2, c3, c4, c5, c6⟩ := c
  obtain ⟨b, hb⟩ := Option.isSome_iff_exists.mp c1
  rw [← ltD_lx c2 c3 hb] at q
  obtain ⟨_, as, r⟩ := r
  obtain ⟨_, bs, r'⟩ := r'
  cases r with
  | int i t =>
    cases r' with
    | int j t' =>
      simp only [ltD, Option.some.injEq] at hb
      subst hb
      exact oneLt_int q
    | _ => simp [ltD] at hb
  | str i t =>
    cases r' with
    | str j t' =>
      simp only [ltD, Option.some.injEq] at hb
      subst hb
      exact PyProof.Rows.oneLt_str q
    | _ => simp [ltD] at hb
  | @tuple a o vs n xs as h1 h2 h3 h4 =>
    cases r' with
    | @tuple a' o' vs' n' ys as' k1 k2 k3 k4 =>
      simp only [ltD] at hb
      simp only [PyData.canLay0] at c4 c5
      simp only [PyData.depth] at c6
      rw [oneLt'_eq]
      simp only [if_true]
      refine wpAny_bind (wpAny_cRoomFor (by omega) ?_)
      refine wpAny_bind (wpAny_callSpecialIfBound?_slot ⟨_, h1, h2⟩ PySem.F.slot_tuple_lt ?_)
      obtain ⟨cls, dd, data, sl⟩ := o
      obtain ⟨cls', dd', data', sl'⟩ := o'
      simp only at h2 h3 k2 k3
      subst h2 h3 k2 k3
      have hx : LexOk A.in1 s (decide (vs.size < vs'.size)) b (vs.toList.zip vs'.toList) := lexOk_reads xs ys A.in1 s _ _ _ _ _ _ b h4 k4 c4 c5 (by have : A.in1.units = A.units + 1 := rfl; omega) (by have a1 := reads_len h4; have a2 := reads_len k4; simp at a1 a2; omega) hb
      refine call_meets PySem.F.slot_tuple_lt ⟨_, h1, rfl⟩ PySem.F.entry_tuple_lt (PySem.F.args_tuple_lt_2 _ _) (tuple_lt_gen a a' vs vs' n n' dd dd' sl sl' b) ⟨h1, k1, hx, ?_⟩
      exact wpAny_truthy_bool q
    | _ => simp [ltD] at hb
  | _ => simp [ltD] at hb
theorem cmp_data {κ : SortKind} {vs : List Value} (k : Value → PyData) (hk : ∀ v ∈ vs, RdP s.heap v (k v)) (hc : ∀ v ∈ vs, ∀ u ∈ vs, CmpD A (k v) (k u))
    (hκ : κ = general' ∨ κ = oneType' ∨ (∃ b, κ = tuples' b) ∧ ∀ v ∈ vs, ∃ xs, k v = .tuple xs) : Cmp prog w A s κ (fun p => p.1 ∈ vs) (lt2 fun v u => lx (enc (k v)) (enc (k u))) := by
  intro p q hp hq
  have r1 := hk _ hp
  have r2 := hk _ hq
  have c := hc _ hp _ hq
  show wpAny (model prog w) A (keyLt' κ p.1 q.1) (fun r s' => s' = s ∧ r = lx (enc (k p.1)) (enc (k q.1))) (fun _ _ => False) s
  rcases hκ with rfl | rfl | ⟨⟨b, rfl⟩, ht⟩
  · exact oneLt_false (lt_cmp c r1 r2) ⟨rfl, rfl⟩
  · rw [keyLt'_oneType]
    exact oneLt_true c r1 r2 ⟨rfl, rfl⟩
  · obtain ⟨xs, ex⟩ := ht _ hp
    obtain ⟨ys, ey⟩ := ht _ hq
    rw [ex] at r1 c ⊢
    rw [ey] at r2 c ⊢
    obtain ⟨c1, c2, c3, c4, c5, c6⟩ := c
    obtain ⟨rb, hb⟩ := Option.isSome_iff_exists.mp c1
    rw [← ltD_lx c2 c3 hb]
    obtain ⟨_, as, r1⟩ := r1
    obtain ⟨_, bs, r2⟩ := r2
    simp only [ltD] at hb
    simp only [PyData.canLay0] at c4 c5
    simp only [PyData.depth] at c6
    simp only [plainD] at c2 c3
    generalize p.1 = v at r1 ⊢
    generalize q.1 = u at r2 ⊢
    cases r1 with
    | @tuple a o vs n _ as h1 h2 h3 h4 =>
      cases r2 with
      | @tuple a' o' vs' n' _ as' k1 k2 k3 k4 =>
        refine PySem.W.kat_lt h1 h3 k1 k3 ?_
        have go : ∀ (xs ys : List PyData) (l l' : List Value) (i n m : Nat) (as bs : List Addr), ReadsAll s.heap l xs as → ReadsAll s.heap l' ys bs → plainL xs = true → plainL ys = true → PyData.canLayAll0 xs = true → PyData.canLayAll0 ys = true →
            A.units + 1 + min (PyData.depthAll xs) (PyData.depthAll ys) < cLine → n + ys.length = m + xs.length → ltL xs ys = some rb →
            PySem.W.KatLex prog w A b (decide (n < m)) (fun r s' => s' = s ∧ r = rb) (l.zip l') i s := by
          intro xs
          induction xs with
          | nil =>
            intro ys l l' i n m as bs r1 r2 _ _ _ _ _ hn hl
            cases r1
            cases ys with
            | nil =>
              simp only [ltL, Option.some.injEq] at hl
              refine PySem.W.kat_nil ⟨rfl, ?_⟩
              simp only [List.length_nil] at hn
              rw [← hl]; exact decide_eq_false (by omega)
            | cons y ys =>
              simp only [ltL, Option.some.injEq] at hl
              refine PySem.W.kat_nil ⟨rfl, ?_⟩
              simp only [List.length_nil, List.length_cons] at hn
              rw [← hl]; exact decide_eq_true (by omega)
          | cons x xs ih =>
            intro ys l l' i n m as bs r1 r2 p1 p2 l1 l2 hu hn hl
            cases r1 with
            | cons q1 q2 =>
              cases ys with
              | nil =>
                cases r2
                simp only [ltL, Option.some.injEq] at hl
                refine PySem.W.kat_nil ⟨rfl, ?_⟩
                simp only [List.length_nil, List.length_cons] at hn
                rw [← hl]; exact decide_eq_false (by omega)
              | cons y ys =>
                cases r2 with
                | cons t1 t2 =>
                  simp only [plainL, Bool.and_eq_true] at p1 p2
                  have l1' : x.canLay0 = true ∧ PyData.canLayAll0 xs = true := by simpa [PyData.canLayAll0] using l1
                  have l2' : y.canLay0 = true ∧ PyData.canLayAll0 ys = true := by simpa [PyData.canLayAll0] using l2
                  simp only [PyData.depthAll] at hu
                  refine PySem.W.kat_cons (SeqAt.eqAt_reads x y A s _ _ _ _ q1 t1 l1'.1 l2'.1 (by omega) prog w _ _ ?_)
                  refine PySem.W.kat_go (fun e => ?_) (fun e => ?_)
                  · simp only [ltL, e, if_true] at hl
                    exact PySem.W.kat_yes (ih ys _ _ _ n m _ _ q2 t2 p1.2 p2.2 l1'.2 l2'.2 (by omega) (by simp only [List.length_cons] at hn; omega) hl)
                  · simp only [ltL, e, Bool.false_eq_true, if_false] at hl
                    refine PySem.W.kat_no ?_
                    have cc : CmpD A x y := ⟨by rw [hl]; rfl, p1.1, p2.1, l1'.1, l2'.1, by omega⟩
                    have er := ltD_lx p1.1 p2.1 hl
                    cases (b && i == 0) with
                    | true => exact oneLt_true cc ⟨p1.1, _, q1⟩ ⟨p2.1, _, t1⟩ ⟨rfl, er.symm⟩
                    | false => exact oneLt_false (lt_cmp cc ⟨p1.1, _, q1⟩ ⟨p2.1, _, t1⟩) ⟨rfl, er.symm⟩
        exact go xs ys _ _ 0 vs.size vs'.size _ _ h4 k4 c2 c3 c4 c5 (by omega) (by have a1 := reads_len h4; have a2 := reads_len k4; simp at a1 a2; omega) hb
end
end Fz
end

section
set_option Elab.async false
set_option linter.all false
set_option maxRecDepth 100000
set_option maxHeartbeats 4000000
/-! F29: sorted(list): the rule. -/
namespace Fz
open PySem PySem.Spec PyProof.Rows L2 SrtO Srt
mutual
theorem reads_keep {h h' : Heap} (k : ∀ b o, h.get? b = some o → h'.get? b = some o) : ∀ {v : Value} {d : PyData} {as : List Addr}, plainD d = true → Reads h v d as → Reads h' v d as
  | _, _, _, _, .int i t => .int i t
  | _, _, _, _, .str i t => .str i t
  | _, _, _, hp, .tuple h1 h2 h3 h4 => .tuple (k _ _ h1) h2 h3 (readsAll_keep k (by simpa only [plainD] using hp) h4)
  | _, .none, _, hp, _ => nomatch hp
  | _, .bool _, _, hp, _ => nomatch hp
  | _, .list _, _, hp, _ => nomatch hp
  | _, .dict _, _, hp, _ => nomatch hp
theorem readsAll_keep {h h' : Heap} (k : ∀ b o, h.get? b = some o → h'.get? b = some o) : ∀ {vs : List Value} {ds : List PyData} {as : List Addr}, plainL ds = true → ReadsAll h vs ds as → ReadsAll h' vs ds as
  | _, _, _, _, .nil => .nil
  | _, _, _, hp, .cons r rs => by
    simp only [plainL, Bool.and_eq_true] at hp
    exact .cons (reads_keep k hp.1 r) (readsAll_keep k hp.2 rs)
end
/-- what sorted asks of its items -/
def SortOk (ds : List PyData) : Prop := (∀ d ∈ ds, plainD d = true ∧ SeqAt.shaped d = true) ∧ ∀ d ∈ ds, ∀ e ∈ ds, (ltD d e).isSome = true
theorem shaped_depth {d : PyData} (h : SeqAt.shaped d = true) : d.canLay0 = true ∧ d.depth ≤ 64 := by
  unfold SeqAt.shaped at h
  obtain ⟨a, b⟩ := Bool.and_eq_true_iff.mp h
  exact ⟨a, of_decide_eq_true b⟩
theorem readsAll_mem {h : Heap} : ∀ {vs : List Value} {ds : List PyData} {as : List Addr}, ReadsAll h vs ds as → ∀ v ∈ vs, ∃ d ∈ ds, ∃ as, Reads h v d as
  | _, _, _, .cons r rs, v, hv => by
    rcases List.mem_cons.mp hv with rfl | hv
    · exact ⟨_, List.mem_cons_self .., _, r⟩
    · obtain ⟨d, hd, q⟩ := readsAll_mem rs v hv
      exact ⟨d, List.mem_cons_of_mem _ hd, q⟩
theorem readsAll_map {h : Heap} {k : Value → PyData} (hk : ∀ v d as, Reads h v d as → plainD d = true → d.canLay0 = true → k v = d) : ∀ {vs : List Value} {ds : List PyData} {as : List Addr}, ReadsAll h vs ds as → (∀ d ∈ ds, plainD d = true ∧ d.canLay0 = true) → vs.map k = ds
  | _, _, _, .nil, _ => rfl
  | _, _, _, .cons r rs, hp => by
    rw [List.map_cons, hk _ _ _ r (hp _ (List.mem_cons_self ..)).1 (hp _ (List.mem_cons_self ..)).2, readsAll_map hk rs fun d hd => hp d (List.mem_cons_of_mem _ hd)]
section
variable {prog : Program} {w : World} {A : Around} {E : Value → Shared → Prop} {s : Shared}
end
/-! as a rule of the layer -/
theorem vals_mem {xs : List V} {us : List Value} (r : Vals xs us) : ∀ u ∈ us, ∃ x ∈ xs, RelV x u := by
  induction r with
  | nil => intro u h; cases h
  | cons h r ih =>
    intro u hu
    rcases List.mem_cons.mp hu with rfl | hu
    · exact ⟨_, List.mem_cons_self .., h⟩
    · obtain ⟨x, hx, q⟩ := ih u hu
      exact ⟨x, List.mem_cons_of_mem _ hx, q⟩
theorem pdAll_mem {K : Fg} {H : Hp} {xs : List V} {ds : List D} (h : PdAll K H xs ds) : ∀ x ∈ xs, ∃ d ∈ ds, Pd K H x d := by
  induction xs generalizing ds with
  | nil => intro x hx; cases hx
  | cons y xs ih =>
    cases h with
    | cons h r =>
      intro x hx
      rcases List.mem_cons.mp hx with rfl | hx
      · exact ⟨_, List.mem_cons_self .., h⟩
      · obtain ⟨d, hd, q⟩ := ih r x hx
        exact ⟨d, List.mem_cons_of_mem _ hd, q⟩
section
variable {X : Cx} {F : Fx}
end
theorem room70 {k : Nat} {A : Around} (r : Room k A) : A.units + 70 < cLine := by have := r.un; omega
theorem bt_sorted : bootBuiltins "sorted" = some (.builtin "sorted") := by decide +kernel
end Fz
end

section
set_option Elab.async false
set_option linter.all false
set_option maxRecDepth 100000
set_option maxHeartbeats 4000000
/-! F30: dicts: their reading, their writing, at the machine. -/
namespace Fz
open PySem PySem.Spec PyProof.Rows L2
/-! ### plain -/
def dAt (kvs : List (D × D)) (k : D) : Option D := (kvs.find? fun p => decide (nk p.1 = nk k)).map (·.2)
def dHas (kvs : List (D × D)) (k : D) : Bool := (dAt kvs k).isSome
def dPutF (k v : D) (p : D × D) : D × D := if nk p.1 = nk k then (p.1, v) else p
def dPut (kvs : List (D × D)) (k v : D) : List (D × D) := if dHas kvs k then kvs.map (dPutF k v) else kvs ++ [(k, v)]
/-- k may be asked for in kvs: all keys flat, or all tuples -/
def kOk (kvs : List (D × D)) (k : D) : Bool := ((fk k).isSome && kvs.all fun p => (fk p.1).isSome) || ((tk k).isSome && kvs.all fun p => (tk p.1).isSome)
theorem fk_nk {d : D} {k : Key} (h : fk d = some k) : (∃ i, d = .int i ∧ k = .inl i) ∨ ∃ x, d = .str x ∧ k = .inr x := by
  cases d with
  | int i => cases h; exact .inl ⟨i, rfl, rfl⟩
  | str x => cases h; exact .inr ⟨x, rfl, rfl⟩
  | _ => cases h
theorem fk_eq {d e : D} {k j : Key} (h : fk d = some k) (g : fk e = some j) : nk d = nk e ↔ k = j := by
  rcases fk_nk h with ⟨i, rfl, rfl⟩ | ⟨x, rfl, rfl⟩ <;> rcases fk_nk g with ⟨l, rfl, rfl⟩ | ⟨y, rfl, rfl⟩ <;> simp [nk]
theorem tk_eq {d e : D} {k j : NestedKey} (h : tk d = some k) (g : tk e = some j) : nk d = nk e ↔ k = j := by
  rw [(tk_nk h).1, (tk_nk g).1, Option.some.injEq]
theorem fk_tk {d : D} {k : Key} {j : NestedKey} (h : fk d = some k) (g : tk d = some j) : False := by
  rcases fk_nk h with ⟨i, rfl, rfl⟩ | ⟨x, rfl, rfl⟩ <;> cases g
theorem fk_pd {K : Fg} {H : Hp} {y : V} {d : D} {k : Key} (p : Pd K H y d) (h : fk d = some k) : y = kV k := by
  rcases fk_nk h with ⟨i, rfl, rfl⟩ | ⟨x, rfl, rfl⟩ <;> cases p <;> rfl
section
variable {X : Cx} {pins : List (Addr × Obj)} {σ : L2.St} {H : Hp} {s : Shared}
mutual
theorem nested_is (I : Inv X pins σ H s) : ∀ {y : V} {d : D} {k : NestedKey} {u : Value}, Pd X.K H y d → nk d = some k → RelV y u → NestedIs s.heap k u
  | _, _, _, _, .non, h, r => by cases h; cases r; exact .none
  | _, _, _, _, .int i, h, r => by cases h; obtain ⟨t, rfl⟩ := r; exact .int _ _
  | _, _, _, _, .str x, h, r => by cases h; obtain ⟨t, rfl⟩ := r; exact .text _ _
  | _, _, _, _, .bl b, h, _ => by simp [nk] at h
  | _, _, _, _, .lst _ _, h, _ => by simp [nk] at h
  | _, _, _, u, .tup (a := a) h2 r, h, ru => by
    simp only [nk, Option.map_eq_some_iff] at h
    obtain ⟨ks, h1, rfl⟩ := h
    obtain rfl : u = Value.ref a := ru
    obtain ⟨its, rv, ⟨o, e, hc, n, hd⟩, _⟩ := I.tuple h2
    exact .tup e hc hd (by simpa using nested_all I r h1 rv)
theorem nested_all (I : Inv X pins σ H s) : ∀ {ys : List V} {ds : List D} {ks : List NestedKey} {us : List Value}, PdAll X.K H ys ds → nks ds = some ks → Vals ys us → NestedAll s.heap ks us
  | _, _, _, _, .nil, h, r => by cases h; cases r; exact .nil
  | _, d :: ds, ks, _, .cons p q, h, r => by
    cases r with
    | cons r1 r2 =>
      simp only [nks] at h
      cases e1 : nk d with
      | none => simp [e1] at h
      | some k1 =>
        cases e2 : nks ds with
        | none => simp [e1, e2] at h
        | some k2 =>
          simp only [e1, e2, Option.some.injEq] at h
          subst h
          exact .cons (nested_is I p e1 r1) (nested_all I q e2 r2)
end
theorem nested_key (I : Inv X pins σ H s) {b : Addr} {d : D} {k : NestedKey} (p : Pd X.K H (.ref b) d) (h : tk d = some k) : (nestedKind X.prog X.w).is s.heap k b :=
  ⟨nested_is I p (tk_nk h).1 rfl, (tk_nk h).2.1⟩
theorem tk_ref {y : V} {d : D} {k : NestedKey} (p : Pd X.K H y d) (h : tk d = some k) : ∃ b, y = .ref b := by
  obtain ⟨_, _, ds, rfl⟩ := tk_nk h
  cases p with
  | tup _ _ => exact ⟨_, rfl⟩
end
/-- the entries of a dict with tuples as keys: the data, what stands in the heap -/
def E3 (K : Fg) (H : Hp) (q : D × D) (x : NestedKey × Addr × Value) : Prop := tk q.1 = some x.1 ∧ Pd K H (.ref x.2.1) q.1 ∧ ∃ v, Pd K H v q.2 ∧ RelV v x.2.2
theorem e3_split {K : Fg} {H : Hp} : ∀ {kvs : List (D × D)} {xs : List (NestedKey × Addr × Value)}, Paired (E3 K H) kvs xs → ∃ raw : List (NestedKey × Addr × V),
    Paired (fun (p : NestedKey × Addr × V) (q : D × D) => tk q.1 = some p.1 ∧ Pd K H (.ref p.2.1) q.1 ∧ Pd K H p.2.2 q.2) raw kvs ∧ Paired (fun (p : NestedKey × Addr × V) (q : NestedKey × Addr × Value) => p.1 = q.1 ∧ p.2.1 = q.2.1 ∧ RelV p.2.2 q.2.2) raw xs
  | _, _, .nil => ⟨[], .nil, .nil⟩
  | _, _, .cons (b := x) ⟨h1, h2, v, h3, h4⟩ r =>
    let ⟨raw, a, b⟩ := e3_split r
    ⟨(x.1, x.2.1, v) :: raw, .cons ⟨h1, h2, h3⟩ a, .cons ⟨rfl, rfl, h4⟩ b⟩
theorem e3_join {K : Fg} {H : Hp} : ∀ {raw : List (NestedKey × Addr × V)} {kvs : List (D × D)} {xs : List (NestedKey × Addr × Value)},
    Paired (fun (p : NestedKey × Addr × V) (q : D × D) => tk q.1 = some p.1 ∧ Pd K H (.ref p.2.1) q.1 ∧ Pd K H p.2.2 q.2) raw kvs → Paired (fun (p : NestedKey × Addr × V) (q : NestedKey × Addr × Value) => p.1 = q.1 ∧ p.2.1 = q.2.1 ∧ RelV p.2.2 q.2.2) raw xs → Paired (E3 K H) kvs xs
  | _, _, _, .nil, .nil => .nil
  | _, _, _, .cons h r, .cons g t => .cons ⟨h.1.trans (congrArg some g.1), g.2.1 ▸ h.2.1, _, h.2.2, g.2.2⟩ (e3_join r t)
/-- a value looked up -/
theorem e3_at {K : Fg} {H : Hp} {k : D} {j : NestedKey} (hk : tk k = some j) : ∀ {kvs : List (D × D)} {xs : List (NestedKey × Addr × Value)}, Paired (E3 K H) kvs xs →
    (dAt kvs k = none ∧ atKey xs j = none) ∨ ∃ d p v, dAt kvs k = some d ∧ atKey xs j = some p ∧ Pd K H v d ∧ RelV v p.2
  | _, _, .nil => .inl ⟨rfl, rfl⟩
  | q :: kvs, x :: xs, .cons ⟨h1, h2, v, h3, h4⟩ r => by
    by_cases e : x.1 = j
    · refine .inr ⟨q.2, x.2, v, ?_, ?_, h3, h4⟩
      · simp [dAt, List.find?_cons, (tk_eq h1 hk).mpr e]
      · simp [atKey, List.find?_cons, e]
    · have e2 : ¬ nk q.1 = nk k := fun z => e ((tk_eq h1 hk).mp z)
      have a1 : dAt (q :: kvs) k = dAt kvs k := by simp [dAt, List.find?_cons, e2]
      have a2 : atKey (x :: xs) j = atKey xs j := by simp [atKey, List.find?_cons, e]
      rw [a1, a2]
      exact e3_at hk r
theorem e3_put {K : Fg} {H : Hp} {k v : D} {j : NestedKey} {b : Addr} {y : V} {u : Value} (hk : tk k = some j) (hb : Pd K H (.ref b) k) (hv : Pd K H y v) (hu : RelV y u) {kvs : List (D × D)} {xs : List (NestedKey × Addr × Value)} (h : Paired (E3 K H) kvs xs) :
    Paired (E3 K H) (dPut kvs k v) (storedH xs j b u) := by
  have mp : ∀ {kvs : List (D × D)} {xs : List (NestedKey × Addr × Value)}, Paired (E3 K H) kvs xs → Paired (E3 K H) (kvs.map (dPutF k v)) (xs.map (putAt j u)) := by
    intro kvs xs h
    induction h with
    | nil => exact .nil
    | @cons q x _ _ h1 _ ih =>
      refine .cons ?_ ih
      obtain ⟨h1, h2, v2, h3, h4⟩ := h1
      unfold dPutF putAt
      by_cases e : x.1 = j
      · rw [if_pos e, if_pos ((tk_eq h1 hk).mpr e)]; exact ⟨h1, h2, y, hv, hu⟩
      · rw [if_neg e, if_neg fun z => e ((tk_eq h1 hk).mp z)]; exact ⟨h1, h2, v2, h3, h4⟩
  unfold dPut storedH dHas
  rcases e3_at hk h with ⟨e1, e2⟩ | ⟨d, p, v2, e1, e2, _⟩
  · rw [e1, e2]
    simp only [Option.isSome_none, Bool.false_eq_true, if_false]
    have app : ∀ {kvs : List (D × D)} {xs : List (NestedKey × Addr × Value)}, Paired (E3 K H) kvs xs → Paired (E3 K H) (kvs ++ [(k, v)]) (xs ++ [(j, b, u)]) := by
      intro kvs xs h
      induction h with
      | nil => exact .cons ⟨hk, hb, y, hv, hu⟩ .nil
      | cons h _ ih => exact .cons h ih
    exact app h
  · rw [e1, e2]
    simp only [Option.isSome_some, if_true]
    exact mp h
theorem dPut_length (kvs : List (D × D)) (k v : D) : (dPut kvs k v).length ≤ kvs.length + 1 := by
  unfold dPut; split <;> simp
theorem dPut_ne (kvs : List (D × D)) (k v : D) : dPut kvs k v ≠ [] := by
  unfold dPut
  split
  · rename_i h
    intro z
    rw [List.map_eq_nil_iff] at z
    rw [z] at h
    cases h
  · simp
/-! ### the flat ones -/
abbrev F2 (K : Fg) (H : Hp) : List (Key × V) → List (D × D) → Prop := Paired fun (p : Key × V) (q : D × D) => fk q.1 = some p.1 ∧ Pd K H p.2 q.2
theorem f2_at {K : Fg} {H : Hp} {k : D} {j : Key} (hk : fk k = some j) : ∀ {raw : List (Key × V)} {kvs : List (D × D)}, F2 K H raw kvs →
    (dAt kvs k = none ∧ valV raw j = none) ∨ ∃ d v, dAt kvs k = some d ∧ valV raw j = some v ∧ Pd K H v d
  | _, _, .nil => .inl ⟨rfl, rfl⟩
  | p :: raw, q :: kvs, .cons ⟨h1, h2⟩ r => by
    by_cases e : p.1 = j
    · refine .inr ⟨q.2, p.2, ?_, valV_pos e, h2⟩
      simp [dAt, List.find?_cons, (fk_eq h1 hk).mpr e]
    · have e2 : ¬ nk q.1 = nk k := fun z => e ((fk_eq h1 hk).mp z)
      have a1 : dAt (q :: kvs) k = dAt kvs k := by simp [dAt, List.find?_cons, e2]
      rw [a1, valV_neg e]
      exact f2_at hk r
theorem f2_put {K : Fg} {H : Hp} {k v : D} {j : Key} {y : V} (hk : fk k = some j) (hv : Pd K H y v) {raw : List (Key × V)} {kvs : List (D × D)} (h : F2 K H raw kvs) : F2 K H (putK raw j y) (dPut kvs k v) := by
  have mp : ∀ {raw : List (Key × V)} {kvs : List (D × D)}, F2 K H raw kvs → F2 K H (raw.map fun kv => if kv.1 = j then (kv.1, y) else kv) (kvs.map (dPutF k v)) := by
    intro raw kvs h
    induction h with
    | nil => exact .nil
    | @cons p q _ _ h1 _ ih =>
      refine .cons ?_ ih
      unfold dPutF
      dsimp only
      by_cases e : p.1 = j
      · rw [if_pos e, if_pos ((fk_eq h1.1 hk).mpr e)]; exact ⟨h1.1, hv⟩
      · rw [if_neg e, if_neg fun z => e ((fk_eq h1.1 hk).mp z)]; exact h1
  unfold dPut dHas
  rcases f2_at hk h with ⟨e1, e2⟩ | ⟨d, v2, e1, e2, _⟩
  · rw [e1, putK_new y e2]
    simp only [Option.isSome_none, Bool.false_eq_true, if_false]
    have app : ∀ {raw : List (Key × V)} {kvs : List (D × D)}, F2 K H raw kvs → F2 K H (raw ++ [(j, y)]) (kvs ++ [(k, v)]) := by
      intro raw kvs h
      induction h with
      | nil => exact .cons ⟨hk, hv⟩ .nil
      | cons h _ ih => exact .cons h ih
    exact app h
  · rw [e1]
    simp only [Option.isSome_some, if_true]
    have q : putK raw j y = raw.map fun kv => if kv.1 = j then (kv.1, y) else kv := by
      unfold putK
      rw [valV_any, e2]
      rfl
    rw [q]
    exact mp h
end Fz
end

section
set_option Elab.async false
set_option linter.all false
set_option maxRecDepth 100000
set_option maxHeartbeats 4000000
/-! F31: dicts at the machine: d[k], in, d[k] = v, get, len, setdefault. -/
namespace Fz
open PySem PySem.Spec PyProof.Rows L2
section
variable {X : Cx} {pins : List (Addr × Obj)} {σ : L2.St} {H : Hp} {s : Shared} {a : Addr} {kvs : List (D × D)} {k v : D} {y z : V} {u r : Value} {A : Around} {E : Value → Shared → Prop}
theorem ext_rd {raw : List (NestedKey × Addr × V)} (I : Inv X pins σ H s) (e : Rd H a (DicT X.w a raw)) : DicP X.w a raw s.heap := (show ObjOk X.prog X.w H s.heap a (DicT X.w a raw) from e.ok I.hok).1
variable {T : HO → Prop}
/-- the two sorts of dicts at a look with a key -/
theorem dic_cases (hT : ∀ u, T u → Rd H a u) (I : Inv X pins σ H s) (g : DicG X.K X.w H a T kvs) (ok : kOk kvs k = true) (pk : Pd X.K H y k) (ry : RelV y u) :
    (∃ raw j, T (.dK raw) ∧ F2 X.K H raw kvs ∧ fk k = some j ∧ y = kV j) ∨
    (∃ xs j b, s.heap.DictOfH (nestedKind X.prog X.w) a xs ∧ Paired (E3 X.K H) kvs xs ∧ xs.length ≤ sizeLine ∧ (a == sysModules) = false ∧ (∃ u, T u ∧ Mut (some u)) ∧ tk k = some j ∧ y = .ref b ∧ u = .ref b ∧ (nestedKind X.prog X.w).is s.heap j b) := by
  unfold kOk at ok
  rw [Bool.or_eq_true, Bool.and_eq_true, Bool.and_eq_true] at ok
  rcases ok with ⟨h1, h2⟩ | ⟨h1, h2⟩
  · obtain ⟨j, hj⟩ := Option.isSome_iff_exists.mp h1
    rcases g with ⟨raw, e, f⟩ | ⟨raw, n, e, f⟩
    · exact .inl ⟨raw, j, e, f, hj, fk_pd pk hj⟩
    · exfalso
      cases f with
      | nil => exact n rfl
      | cons h _ =>
        rw [List.all_cons, Bool.and_eq_true] at h2
        obtain ⟨j2, hj2⟩ := Option.isSome_iff_exists.mp h2.1
        exact fk_tk hj2 h.1
  · obtain ⟨j, hj⟩ := Option.isSome_iff_exists.mp h1
    obtain ⟨b, rfl⟩ := tk_ref pk hj
    have hu : u = Value.ref b := ry
    have hkey := nested_key I pk hj
    rcases g with ⟨raw, e, f⟩ | ⟨raw, n, e, f⟩
    · cases f with
      | cons h _ =>
        exfalso
        rw [List.all_cons, Bool.and_eq_true] at h2
        obtain ⟨j2, hj2⟩ := Option.isSome_iff_exists.mp h2.1
        exact fk_tk h.1 hj2
      | nil =>
        obtain ⟨z, hd, vs, rel, o, es, ep, h1, h2, h3, h4, h5, h6⟩ := dk_rd I.hok (hT _ e)
        cases rel
        have l1 : es.toList = [] := by
          generalize es.toList = l at h5
          cases h5
          rfl
        refine .inr ⟨[], j, b, ⟨o, es, ep, h1, h2, h3, by rw [l1]; rfl, fun _ hx => (nomatch hx), List.nodup_nil⟩, .nil, Nat.zero_le _, hd, ⟨_, e, trivial⟩, hj, rfl, hu, hkey⟩
    · obtain ⟨z, hd, xs, f2, o, es, ep, h1, h2, h3, h4, h5⟩ := ext_rd I (hT _ e)
      have e3 := e3_join f f2
      refine .inr ⟨xs, j, b, ⟨o, es, ep, h1, h2, h3, h4, fun x hx => ?_, h5⟩, e3, by rw [← paired_len f2]; exact z, hd, ⟨_, e, trivial⟩, hj, rfl, hu, hkey⟩
      obtain ⟨i, hi⟩ := List.getElem?_of_mem hx
      obtain ⟨q, _, q1, q2, _⟩ := paired_get e3 hi
      exact nested_key I q2 q1
/-- d[k] = v -/
theorem dr_setItem {Q : Unit → Shared → Prop} (hu : A.units + 70 < cLine) (I : Inv X pins σ H s) (g : DicR X.K X.w H a kvs) (ok : kOk kvs k = true) (hl : kvs.length < sizeLine) (pk : Pd X.K H y k) (ry : RelV y u) (pv : Pd X.K H z v) (rz : RelV z r)
    (h : ∀ ob s', Mut (H a) → Inv X pins σ (upd H a ob) s' → DicR X.K X.w (upd H a ob) a (dPut kvs k v) → Q () s') : wpAny (model X.prog X.w) A (setItem (.ref a) u r) Q E s := by
  rcases dic_cases (fun u h => Rd.of h) I g ok pk ry with ⟨raw, j, e, f, hj, rfl⟩ | ⟨xs, j, b, dd, f, zl, hd, ⟨u0, eu, mu0⟩, hj, rfl, rfl, hkey⟩
  · have mu : Mut (H a) := by rw [e]; trivial
    refine d_setItem (by omega) I (DPut.k e (by rw [paired_len f]; exact hl)) ry rz fun s' I' => h _ s' mu I' (.inl ⟨_, upd_same, ?_⟩)
    exact Paired.mapP (f2_put hj pv f) fun _ _ z => ⟨z.1, z.2.mono (Pers.put (.inl mu))⟩
  · have mu : Mut (H a) := by rw [show H a = some u0 from eu]; exact mu0
    refine wpAny_setItem_heap (hsz := zl) (by show _ + 8 < _; simp only [Around.in1]; omega) hkey dd fun h' dd' hs => ?_
    have f' : Paired (E3 X.K H) (dPut kvs k v) (storedH xs j b r) := e3_put hj pk pv rz f
    obtain ⟨raw, r1, r2⟩ := e3_split f'
    obtain ⟨o, es, ep, q1, q2, q3, q4, _, q5⟩ := dd'
    have hz : raw.length ≤ sizeLine := by
      have := dPut_length kvs k v
      rw [paired_len r1]; omega
    have new : DicP X.w a raw h' := ⟨hz, hd, storedH xs j b r, r2, o, es, ep, q1, q2, q3, q4, q5⟩
    refine h (DicT X.w a raw) _ mu (d_write I mu hs ⟨o, q1⟩ (DicT.ok new)) (.inr ⟨raw, dPut_ne kvs k v, upd_same, ?_⟩)
    exact Paired.mapP r1 fun _ _ z => ⟨z.1, z.2.1.mono (Pers.put (.inl mu)), z.2.2.mono (Pers.put (.inl mu))⟩
end
end Fz
end

section
set_option Elab.async false
set_option linter.all false
set_option maxRecDepth 100000
set_option maxHeartbeats 4000000
/-! F32: dicts of slots: d[k], in, d[k] = v, {}, moved out. -/
namespace Fz
open PySem PySem.Spec PyProof.Rows L2
def dicAt (S : FS) (i : Nat) : Option (List (D × D)) := match S[i]? with
  | some (some (.own (.dic kvs))) => some kvs
  | some (some (.pin (.dic kvs))) => some kvs
  | _ => none
theorem Rel.dic {K : Fg} {F : Fx} {S : FS} {σ : Sl} {H : Hp} {i : Nat} {kvs : List (D × D)} (r : Rel K F S σ H) (h : dicAt S i = some kvs) : ∃ a, σ[i]? = some (some (.ref a)) ∧ DicR K F.w H a kvs ∧
    ∀ ob kvs', Mut (H a) → DicR K F.w (upd H a ob) a kvs' → Rel K F (setOb S i (.dic kvs')) σ (upd H a ob) ∧ Pers H (upd H a ob) := by
  have main : ∀ (mk : Ob → SV), (∀ z, setOb S i z = S.set i (some (mk z))) → S[i]? = some (some (mk (.dic kvs))) → (∀ z, mk z = .own z) ∨ (∀ z, mk z = .pin z) → ∃ a, σ[i]? = some (some (.ref a)) ∧ DicR K F.w H a kvs ∧
      ∀ ob kvs', Mut (H a) → DicR K F.w (upd H a ob) a kvs' → Rel K F (setOb S i (.dic kvs')) σ (upd H a ob) ∧ Pers H (upd H a ob) := by
    intro mk ep hs hm
    have ow : S[i]? = some (some (.own (.dic kvs))) ∨ S[i]? = some (some (.pin (.dic kvs))) := by
      rcases hm with hm | hm
      · exact .inl (by rw [hs, hm])
      · exact .inr (by rw [hs, hm])
    obtain ⟨a, ea, hv, h0⟩ := r.obj ow
    refine ⟨a, ea, hv, fun ob kvs' hmu hv' => ?_⟩
    have pp : Pers H (upd H a ob) := Pers.put (.inl hmu)
    have hl : i < S.length := (List.getElem?_eq_some_iff.mp hs).1
    have oi : Owned S i := ⟨_, ow⟩
    refine ⟨?_, pp⟩
    rw [ep (.dic kvs')]
    refine r.put (.inl hmu) h0 (fun p hp e' => (r.held p hp).2.2 i oi (e' ▸ ea)) (List.length_set ..) (fun j sv2 ej => ?_) fun j ⟨ob, hj⟩ => ?_
    · by_cases hj : j = i
      · subst hj
        rw [List.getElem?_set_self hl] at ej
        cases ej
        refine .inr ⟨_, ea, ?_⟩
        obtain ⟨x, ex, sr⟩ := r.slot j _ hs
        rw [ea] at ex; cases ex
        rcases hm with hm | hm
        · rw [hm] at sr
          rw [hm]
          obtain ⟨b, eb, _, n⟩ := sr
          cases eb
          exact ⟨a, rfl, hv', n⟩
        · rw [hm] at sr
          rw [hm]
          obtain ⟨b, eb, _, n⟩ := sr
          cases eb
          exact ⟨a, rfl, hv', n⟩
      · rw [List.getElem?_set_ne (Ne.symm hj)] at ej
        exact .inl ⟨ej, fun oj => r.apart i j a (Ne.symm hj) oi oj ea⟩
    · by_cases hj2 : j = i
      · subst hj2; exact oi
      · rw [List.getElem?_set_ne (Ne.symm hj2)] at hj; exact ⟨ob, hj⟩
  unfold dicAt at h
  split at h
  · rename_i d hd
    cases h
    exact main (fun z => .own z) (fun z => by unfold setOb; rw [hd]) hd (.inl fun _ => rfl)
  · rename_i d hd
    cases h
    exact main (fun z => .pin z) (fun z => by unfold setOb; rw [hd]) hd (.inr fun _ => rfl)
  · cases h
/-- a dict that may be read -/
def dicRd (S : FS) (i : Nat) : Option (List (D × D)) := match S[i]? with
  | some (some (.own (.dic kvs))) => some kvs
  | some (some (.pin (.dic kvs))) => some kvs
  | some (some (.x (.ro (.dic kvs)))) => some kvs
  | _ => none
theorem Rel.dicV {K : Fg} {F : Fx} {S : FS} {σ : Sl} {H : Hp} {i : Nat} {kvs : List (D × D)} (r : Rel K F S σ H) (h : dicRd S i = some kvs) : ∃ a, σ[i]? = some (some (.ref a)) ∧ DicV K F.w H a kvs := by
  unfold dicRd at h
  split at h
  · rename_i d hd
    cases h
    obtain ⟨x, ex, a, rfl, q, _⟩ := r.slot i _ hd
    exact ⟨a, ex, DicR.v q⟩
  · rename_i d hd
    cases h
    obtain ⟨x, ex, a, rfl, q, _⟩ := r.slot i _ hd
    exact ⟨a, ex, DicR.v q⟩
  · rename_i d hd
    cases h
    obtain ⟨x, ex, a, rfl, o, q⟩ := r.slot i _ hd
    exact ⟨a, ex, DicG.mono q (.refl H) fun _ e => .inr ⟨o, e⟩⟩
  · cases h
def wDic {α : Type} (i : Nat) (k : List (D × D) → FS → Res α) : FS → Res α := fun S => match dicRd S i with
  | some kvs => k kvs S
  | none => .bad
def wDicS (i : Nat) (k : List (D × D) → FS → SRes) : FS → SRes := fun S => match dicAt S i with
  | some kvs => k kvs S
  | none => .bad
section
variable {K : Fg} {F : Fx} {S : FS} {σ : Sl} {H : Hp} {i : Nat}
theorem wDic_in {α β : Type} {R : GRel β α} {k : List (D × D) → FS → Res α} {Q : β → Hp → Prop} (p : postG K F R (wDic i k S) σ H Q) : ∃ kvs, dicRd S i = some kvs ∧ postG K F R (k kvs S) σ H Q := by
  unfold wDic at p
  cases e : dicRd S i with
  | none => rw [e] at p; exact p.elim
  | some ds => rw [e] at p; exact ⟨ds, rfl, p⟩
theorem wDicS_in {k : List (D × D) → FS → SRes} {D' : Ends} (p : postS K F (wDicS i k S) D' H) : ∃ kvs, dicAt S i = some kvs ∧ postS K F (k kvs S) D' H := by
  unfold wDicS at p
  cases e : dicAt S i with
  | none => rw [e] at p; exact p.elim
  | some ds => rw [e] at p; exact ⟨ds, rfl, p⟩
end
/-- d[k] = v -/
def fDPut (i : Nat) (fe fk : FS → Res D) : FS → SRes := bndS fe fun v => wDicS i fun _ => bndS fk fun k => wDicS i fun kvs S => match kOk kvs k, decide (kvs.length < sizeLine) with
  | true, true => .nx (setOb S i (.dic (dPut kvs k v)))
  | _, _ => .bad
/-- {} -/
def fDNew : FS → Res SV := fun S => .ok (.own (.dic [])) S
section
variable {X : Cx} {F : Fx} {o e ke : Expr} {i : Nat} {pos apos cpos p1 : Pos} {f fe fk fx : FS → Res D}
theorem s_dput (hu : X.A.units + 70 < cLine) (ho : PE X o (tVar i)) (he : ED X F e fe) (hk : ED X F ke fk) (hw : F.w = X.w := by rfl) (hs : swapsWith e (some (.Subscript o ke p1)) pos.line X.env = pure false := by rfl) :
    ES X F (.Assign [.Subscript o ke p1] e pos) (fDPut i fe fk) := by
  refine ⟨fun pins s σ H D I ⟨S, r, p⟩ => ?_⟩
  refine wpAny_Assign_Subscript (thn (he.run pins s σ H _ I (rdG.bindS (R := PR) ⟨S, r, p⟩)) fun rv s1 ⟨z, H1, I1, rz, v, S1, r1, v1, p1, q1⟩ => ?_) hs
  obtain ⟨kvs0, e1, q1⟩ := wDicS_in q1
  obtain ⟨a, ea, _, _⟩ := r1.dic e1
  refine thn (ho.run pins s1 σ H1 (fun x H' => x = .ref a ∧ H' = H1) I1 ⟨_, ea, rfl, rfl⟩) fun u s2 ⟨x, H2, I2, rx, ex, eH⟩ => ?_
  subst ex eH
  obtain rfl : u = Value.ref a := rx
  refine thn (hk.run pins s2 σ H2 _ I2 (rdG.bindS (R := PR) ⟨S1, r1, q1⟩)) fun iv s3 ⟨y, H3, I3, ry, k, S3, r3, v3, p3, q3⟩ => ?_
  obtain ⟨kvs, e3, q3⟩ := wDicS_in q3
  obtain ⟨a2, ea2, g, put⟩ := r3.dic e3
  rw [ea] at ea2; cases ea2
  rw [hw] at g put
  cases ok : kOk kvs k with
  | false => rw [ok] at q3; exact q3.elim
  | true =>
    cases hl : decide (kvs.length < sizeLine) with
    | false => rw [ok, hl] at q3; exact q3.elim
    | true =>
      rw [ok, hl] at q3
      refine dr_setItem hu I3 g ok (of_decide_eq_true hl) v3 ry (Pd.mono p3 v1) rz fun ob s4 mu I4 g4 => ?_
      obtain ⟨r4, p4⟩ := put ob _ mu g4
      exact ⟨σ, _, I4, q3 σ _ p4 r4⟩
theorem e_dnew : EV X F (.Dict [] [] pos) fDNew := pe_dnewK.via fun σ H Q ⟨S, r, p⟩ q hq =>
  p _ _ (Pers.new hq) (r.new hq) ⟨q, rfl, .inl ⟨[], upd_same, .nil⟩, r.none0 hq, fun j hj => r.unslot hq hj, fun z hz e => by obtain ⟨⟨h1, _⟩, _⟩ := r.held z hz; rw [e, hq] at h1; cases h1⟩
end
end Fz
end

section
set_option Elab.async false
set_option linter.all false
set_option maxRecDepth 100000
set_option maxHeartbeats 4000000
/-! F33: a dict's keys: list(d), sorted(d). -/
namespace Fz
open PySem PySem.Spec PyProof.Rows L2
section
theorem keys_flat {K : Fg} {H : Hp} {P : Program} {w : World} {es : List DictEntry} {vs : List (Key × Value)} (hp : Pairs (mixKind P w) es vs) : ∀ {raw : List (Key × V)} {kvs : List (D × D)}, KV raw vs → F2 K H raw kvs →
    PdAll K H (raw.map fun p => kV p.1) (kvs.map (·.1)) ∧ Vals (raw.map fun p => kV p.1) (es.map (·.key)) := by
  induction hp with
  | nil => intro raw kvs kv f; cases kv; cases f; exact ⟨.nil, .nil⟩
  | @cons e kv0 es vs h1 h2 _ ih =>
    intro raw kvs kv f
    cases kv with
    | cons g1 g2 =>
      cases f with
      | cons f1 f2 =>
        obtain ⟨i1, i2⟩ := ih g2 f2
        have e1 := g1.1
        refine ⟨.cons ?_ i1, .cons ?_ i2⟩
        · dsimp only
          rcases fk_nk f1.1 with ⟨i, e1, e2⟩ | ⟨x, e1, e2⟩
          · rw [e1, e2]; exact .int i
          · rw [e1, e2]; exact .str x
        · have h3 : keyIs kv0.1 e.key = true := h1
          dsimp only
          rw [e1]
          rcases keyIs_shape h3 with ⟨i, t, q1, q2⟩ | ⟨x, t, q1, q2⟩
          · rw [q1, q2]; exact ⟨t, rfl⟩
          · rw [q1, q2]; exact ⟨t, rfl⟩
theorem keys_tup {K : Fg} {H : Hp} {w : World} : ∀ {raw : List (NestedKey × Addr × V)} {kvs : List (D × D)} {xs : List (NestedKey × Addr × Value)},
    Paired (fun (p : NestedKey × Addr × V) (q : D × D) => tk q.1 = some p.1 ∧ Pd K H (.ref p.2.1) q.1 ∧ Pd K H p.2.2 q.2) raw kvs → Paired (fun (p : NestedKey × Addr × V) (q : NestedKey × Addr × Value) => p.1 = q.1 ∧ p.2.1 = q.2.1 ∧ RelV p.2.2 q.2.2) raw xs →
    PdAll K H (raw.map fun p => .ref p.2.1) (kvs.map (·.1)) ∧ Vals (raw.map fun p => .ref p.2.1) ((xs.map (fun x => (⟨x.1.hash w, .ref x.2.1, x.2.2⟩ : DictEntry))).map (·.key))
  | _, _, _, .nil, .nil => ⟨.nil, .nil⟩
  | _, _, _, .cons h r, .cons g t => by
    obtain ⟨i1, i2⟩ := keys_tup (w := w) r t
    exact ⟨.cons h.2.1 i1, .cons (by dsimp only; rw [g.2.1]; rfl) i2⟩
variable {X : Cx} {pins : List (Addr × Obj)} {σ : L2.St} {H : Hp} {s : Shared} {a : Addr} {kvs : List (D × D)} {A : Around} {E : Value → Shared → Prop}
/-- the keys, as they stand -/
theorem dic_keys {T : HO → Prop} (hT : ∀ u, T u → Rd H a u) (I : Inv X pins σ H s) (g : DicG X.K X.w H a T kvs) : kvs.length ≤ sizeLine ∧ (a == sysModules) = false ∧ ∃ es ep ks, s.heap.DictRaw a es ep ∧ es.size = kvs.length ∧ PdAll X.K H ks (kvs.map (·.1)) ∧ Vals ks (es.toList.map (·.key)) := by
  rcases g with ⟨raw, e, f⟩ | ⟨raw, n, e, f⟩
  · obtain ⟨z, hd, vs, rel, o, es, ep, h1, h2, h3, h4, h5, h6⟩ := dk_rd I.hok (hT _ e)
    obtain ⟨k1, k2⟩ := keys_flat h5 rel f
    refine ⟨by rw [← paired_len f]; exact z, hd, es, ep, _, ⟨o, h1, h2, h3⟩, ?_, k1, k2⟩
    have l1 : (es.toList.map (·.key)).length = kvs.length := by rw [← k2.length, List.length_map, paired_len f]
    rwa [List.length_map, Array.length_toList] at l1
  · obtain ⟨z, hd, xs, f2, o, es, ep, h1, h2, h3, h4, _⟩ := ext_rd I (hT _ e)
    obtain ⟨k1, k2⟩ := keys_tup (w := X.w) f f2
    rw [← h4] at k2
    refine ⟨by rw [← paired_len f]; exact z, hd, es, ep, _, ⟨o, h1, h2, h3⟩, ?_, k1, k2⟩
    have l1 : (es.toList.map (·.key)).length = kvs.length := by rw [← k2.length, List.length_map, paired_len f]
    rwa [List.length_map, Array.length_toList] at l1
theorem src_raw {prog : Program} {w : World} {d : Addr} {es : Array DictEntry} {ep : Nat} (lo : (d == sysModules) = false) : PySem.W.KdlSrc prog w "dict" d d es.size (fun i v => ∃ hi : i < es.size, v = es[i].key) (fun h => h.DictRaw d es ep) where
  type := fun _ hm => hm.typeIs
  there := fun h hm => ⟨let ⟨_, ho, _⟩ := hm; Heap.lt_size ho, let ⟨_, ho, _⟩ := hm; Heap.lt_size ho⟩
  keep := fun _ _ hm hk => hm.at fun o e => hk d (.inl rfl) o e
  notList := by decide
  notTuple := by decide
  hint := fun _ _ _ _ hm hq => PySem.W.kdl_hint_dict hm.typeIs hq
  iter := fun _ s hh hm => by
    have hlt : d < s.heap.objs.size := by obtain ⟨_, ho, _⟩ := hm; exact Heap.lt_size ho
    exact ⟨_, _, (fun _ _ hq => wpAny_pyIter_dict_raw lo hm hq), Walks.rawKeys hh _ d (Nat.ne_of_lt hlt) es ep, ⟨⟨_, Heap.get?_push_size _ rfl, rfl, rfl⟩, hm.at fun o e => Heap.get?_push_of_some _ e⟩⟩
theorem items_keys {es : Array DictEntry} {acc : Array Value} (h : ItemsOf (fun i v => ∃ hi : i < es.size, v = es[i].key) acc es.size) : acc.toList = es.toList.map (·.key) := by
  apply List.ext_getElem?
  intro j
  rw [List.getElem?_map, Array.getElem?_toList, Array.getElem?_toList]
  by_cases hj : j < es.size
  · have h1 : j < acc.size := by rw [h.1]; exact hj
    obtain ⟨_, e⟩ := h.2 j acc[j] (Array.getElem?_eq_getElem h1)
    rw [Array.getElem?_eq_getElem h1, Array.getElem?_eq_getElem hj, e]
    rfl
  · rw [Array.getElem?_eq_none (by rw [h.1]; omega), Array.getElem?_eq_none (by omega)]
    rfl
end
section
variable {X : Cx} {F : Fx} {o : Expr} {i : Nat} {pos p : Pos} {x : Str}
end
end Fz
end

section
set_option Elab.async false
set_option linter.all false
set_option maxRecDepth 100000
set_option maxHeartbeats 4000000
/-! F34: sorted(d), d a dict: the sorted list of its keys. -/
namespace Fz
open PySem PySem.Spec PyProof.Rows L2 SrtO Srt
section
variable {prog : Program} {w : World} {A : Around} {E : Value → Shared → Prop} {s : Shared}
/-- a dict's keys collected, with what is new above -/
theorem collect_src {T : String} {r d : Addr} {n : Nat} {P : Nat → Value → Prop} {OK : Heap → Prop} {R : List Value → Shared → Prop} (K : PySem.W.KdlSrc prog w T r d n P OK) (hh : A.handled = none) (hok : OK s.heap) (hn : n ≤ sizeLine)
    (h : ∀ (h' : Heap) (tk : Nat) (acc : Array Value), (∀ b o, s.heap.get? b = some o → h'.get? b = some o) → s.heap.objs.size ≤ h'.objs.size → ItemsOf P acc n → R acc.toList { s with heap := h', toks := tk }) :
    wpAny (model prog w) A (collect (.ref r)) R E s := by
  have hlt := K.there _ hok
  unfold collect
  refine wpAny_bind (wpAny_runValue (codeAny_builtin entry_proto_collect' ?_))
  rw [Around.under_plainId PySem.F.plain_proto_collect _]
  show wpAny _ A.in1 (PySem.newList [] >>= fun l => again (.builtin "list.__iadd__" ⟨[l, .ref r], []⟩)) _ _ s
  refine wpAny_bind (wpAny_newObj_type ?_)
  refine wpAny_pure ⟨plainId_quiet PySem.F.plain_list_iadd _, codeAny_builtin entry_list_iadd' ?_⟩
  rw [Around.under_plainId PySem.F.plain_list_iadd _]
  have hS₁ : (s.heap.push { cls := .type "list", data := .seq ([] : List Value).toArray }).get? s.heap.objs.size = some { cls := .type "list", data := .seq #[] } := Heap.get?_push_size _ rfl
  show wpAny _ A.in1 (Builtin.List.listExtendWith (.ref s.heap.objs.size) (.ref r) (.ref s.heap.objs.size)) _ _ _
  have key := PySem.W.kdl_extend (A := A) (s := { s with heap := s.heap.push { cls := .type "list", data := .seq ([] : List Value).toArray } })
    (R := fun (q : Result) (s' : Shared) => ∃ (h' : Heap) (tk : Nat) (acc' : Array Value) (c' : Nat), q = .ok (.ret (.ref s.heap.objs.size)) ∧ s' = { s with heap := h', toks := tk } ∧
      (∀ b o, s.heap.get? b = some o → h'.get? b = some o) ∧ h'.get? s.heap.objs.size = some { cls := .type "list", dict := none, data := .seq acc' c', slots := #[] } ∧ ItemsOf P acc' n)
    K hh (K.keep _ _ hok fun b _ o e => Heap.get?_push_of_some _ e) s.heap.objs.size (Nat.ne_of_gt hlt.1) (Nat.ne_of_gt hlt.2) (.ref s.heap.objs.size) 0 hS₁
    (fun h' tk acc' c' hk hS' hacc => ⟨h', tk, acc', c', rfl, rfl, fun b o e => hk b o (Nat.ne_of_lt (Heap.lt_size e)) (Heap.get?_push_of_some _ e), hS', hacc⟩) hn
  refine wpAny_mono key (fun fin s' x => ?_) fun e s' x => ?_
  · cases fin with
    | done f =>
      obtain ⟨h', tk, acc', c', e, rfl, hk, hS', hacc⟩ := x
      cases e
      show wpAny _ A (load s.heap.objs.size >>= _) _ _ _
      refine wpAny_bind (wpAny_load hS' ?_)
      exact wpAny_pure (h h' tk acc' hk (Nat.le_of_lt (Heap.lt_size hS')) hacc)
    | again c₁ =>
      refine ⟨x.1, codeAny_mono x.2 fun q s₂ y => ?_⟩
      obtain ⟨h', tk, acc', c', rfl, rfl, hk, hS', hacc⟩ := y
      show wpAny _ A (load s.heap.objs.size >>= _) _ _ _
      refine wpAny_bind (wpAny_load hS' ?_)
      exact wpAny_pure (h h' tk acc' hk (Nat.le_of_lt (Heap.lt_size hS')) hacc)
  · obtain ⟨_, _, _, _, e', _⟩ := x
    cases e'
/-- sorted of anything that is collected -/
theorem sorted_ordC {r : Value} {vs : List Value} {ltv : Value → Value → Bool} {Q : Value → Shared → Prop} (O : Swo ltv) (hz : vs.length ≤ sizeLine)
    (hcol : ∀ R : List Value → Shared → Prop, (∀ (h' : Heap) (tk : Nat), (∀ b o, s.heap.get? b = some o → h'.get? b = some o) → s.heap.objs.size ≤ h'.objs.size → R vs { s with heap := h', toks := tk }) → wpAny (model prog w) A.in1 (collect r) R E s)
    (hS : 2 ≤ vs.length → ∀ (h₁ : Heap) (tk : Nat) (a : Addr), (∀ b o, s.heap.get? b = some o → b ≠ a ∧ h₁.get? b = some o) → SortableO prog w A.in1.in1 { s with heap := h₁, toks := tk } a vs ltv)
    (h : ∀ (h' : Heap) (tk : Nat) (d : Addr) (out : List Value), Srtd ltv out → Stb ltv out vs → (∀ b o, s.heap.get? b = some o → h'.get? b = some o) → s.heap.objs.size ≤ d → (∃ n, h'.get? d = some (seqObj "list" out.toArray n)) → Q (.ref d) { s with heap := h', toks := tk }) :
    wpAny (model prog w) A (call (.builtin "sorted") [r]) Q E s := by
  refine Calls.call_function_entry kind_sorted plain_sorted entry_sorted (args_sorted1 _) ?_
  unfold Builtin.«sorted»
  refine wpAny_bind (m := checkCount "sorted" 1 1 _) (wpAny_pure ?_)
  refine wpAny_bind (hcol _ fun h' tk kp hle => ?_)
  refine wpAny_bind (wpAny_newList ?_ hz)
  have hoL : (h'.push (seqObj "list" vs.toArray 0)).get? h'.objs.size = some (seqObj "list" vs.toArray 0) := Heap.get?_push_size _ rfl
  have keep : ∀ b o, s.heap.get? b = some o → b ≠ h'.objs.size ∧ (h'.push (seqObj "list" vs.toArray 0)).get? b = some o := fun b o q =>
    ⟨Nat.ne_of_lt (Heap.lt_size (kp b o q)), Heap.get?_push_of_some _ (kp b o q)⟩
  refine wpAny_bind (wpAny_holding (wpAny_call_entry (s := { s with heap := h'.push (seqObj "list" vs.toArray 0), toks := tk }) slot_list_sort ⟨_, hoL, rfl⟩ entry_list_sort (list_sort_ord O hoL hz (fun h2 => hS h2 _ _ _ keep) fun out hs hb => ⟨_, rfl, ?_⟩) (args_list_sort _)))
  refine wpAny_pure ⟨_, rfl, h _ tk _ out hs hb (fun b o e => ?_) hle (sortedHeap_at hoL)⟩
  obtain ⟨k1, k2⟩ := keep b o e
  exact (sortedHeap_old k1 (Heap.lt_size k2)).trans k2
theorem sorted_dataC {r : Value} {vs : List Value} {ds : List PyData} {as : List Addr} {Q : Value → Shared → Prop} (hz : vs.length ≤ sizeLine) (hr : ReadsAll s.heap vs ds as) (ok : SortOk ds) (hu : A.units + 70 < cLine)
    (hcol : ∀ R : List Value → Shared → Prop, (∀ (h' : Heap) (tk : Nat), (∀ b o, s.heap.get? b = some o → h'.get? b = some o) → s.heap.objs.size ≤ h'.objs.size → R vs { s with heap := h', toks := tk }) → wpAny (model prog w) A.in1 (collect r) R E s)
    (h : ∀ (k : Value → PyData), (∀ v d as, Reads s.heap v d as → plainD d = true → d.canLay0 = true → k v = d) → ∀ (h' : Heap) (tk : Nat) (d : Addr) (out : List Value), out.Perm vs → out.map k = sortD ds → (∀ b o, s.heap.get? b = some o → h'.get? b = some o) → s.heap.objs.size ≤ d → (∃ n, h'.get? d = some (seqObj "list" out.toArray n)) → Q (.ref d) { s with heap := h', toks := tk }) :
    wpAny (model prog w) A (call (.builtin "sorted") [r]) Q E s := by
  let k : Value → PyData := fun v => open Classical in if h : ∃ d as, Reads s.heap v d as ∧ plainD d = true ∧ d.canLay0 = true then h.choose else .none
  have hk : ∀ v d as, Reads s.heap v d as → plainD d = true → d.canLay0 = true → k v = d := fun v d as r hp hc => by
    have hx : ∃ d as, Reads s.heap v d as ∧ plainD d = true ∧ d.canLay0 = true := ⟨d, as, r, hp, hc⟩
    have e : k v = hx.choose := dif_pos hx
    rw [e]
    obtain ⟨as', r', _, hc'⟩ := hx.choose_spec
    exact SeqAt.Reads.unique _ _ v as' as hc' r' r
  have hds : ∀ d ∈ ds, plainD d = true ∧ d.canLay0 = true := fun d hd => ⟨(ok.1 d hd).1, (shaped_depth (ok.1 d hd).2).1⟩
  have hm : ∀ v ∈ vs, k v ∈ ds ∧ ∃ as, Reads s.heap v (k v) as := fun v hv => by
    obtain ⟨d, hd, as, r⟩ := readsAll_mem hr v hv
    have e := hk v d as r (hds d hd).1 (hds d hd).2
    rw [e]
    exact ⟨hd, as, r⟩
  have O : Swo (fun v u => lx (enc (k v)) (enc (k u))) := lx_swo fun v => enc (k v)
  refine sorted_ordC O hz hcol (fun h2 h₁ tk a kk => ?_) fun h' tk d out hs hb kp hd hn => ?_
  · intro h' keep
    have kp : ∀ b o, s.heap.get? b = some o → h'.get? b = some o := fun b o e => keep b o (kk b o e).1 (kk b o e).2
    have hR : ∀ v ∈ vs, RdP h' v (k v) := fun v hv => by
      obtain ⟨hd, as, r⟩ := hm v hv
      exact ⟨(hds _ hd).1, as, reads_keep kp (hds _ hd).1 r⟩
    obtain ⟨κ, h1, h2⟩ := kind_wp (prog := prog) (w := w) (A := A.in1.in1) (s := { s with heap := h', toks := tk }) (vs := vs) (ds := ds) fun v hv => ⟨k v, (hm v hv).1, hR v hv⟩
    refine ⟨κ, fun Q' E' q => h1 E' Q' q, cmp_data k hR (fun v hv u hu' => ?_) ?_⟩
    · have hv' := (hm v hv).1
      have hu'' := (hm u hu').1
      have dv := shaped_depth (ok.1 _ hv').2
      have du := shaped_depth (ok.1 _ hu'').2
      have un : A.in1.in1.units = A.units + 2 := rfl
      exact ⟨ok.2 _ hv' _ hu'', (ok.1 _ hv').1, (ok.1 _ hu'').1, dv.1, du.1, by omega⟩
    · rcases h2 with h2 | h2 | ⟨h2, h3⟩
      · exact .inl h2
      · exact .inr (.inl h2)
      · refine .inr (.inr ⟨h2, fun v hv => ?_⟩)
        obtain ⟨d, hd, ⟨hp, as, r⟩, xs, rfl⟩ := h3 v hv
        obtain ⟨hp', as', r'⟩ := hR v hv
        exact ⟨xs, SeqAt.Reads.unique _ _ v as' as (hds _ (hm v hv).1).2 r' r⟩
  · refine h k hk _ tk _ out hb.perm ?_ kp hd hn
    have e1 := readsAll_map hk hr hds
    rw [← e1]
    exact sortD_uniq (srtd_map hs) (Stb.map ltE_swo k hb)
end
section
variable {X : Cx} {F : Fx}
def rSortDic (X : Cx) : List V → Hp → VK → Prop := fun vs H Q => ∃ (a : Addr) (kvs : List (D × D)), vs = [.ref a] ∧ DicV X.K X.w H a kvs ∧ SortOk (kvs.map (·.1)) ∧ ∀ ys p, PdAll X.K H ys (sortD (kvs.map (·.1))) → H p = none → Q (.ref p) (upd H p (.lst ys))
theorem cr_sortDic (hc : X.calm = true) (hu : X.A.units + 70 < cLine) : CallR X (.builtin "sorted") (rSortDic X) := by
  intro pins s σ H vs us Q I r h
  obtain ⟨a, kvs, rfl, g, ok, q⟩ := h
  obtain ⟨u, rfl, ru⟩ := vals1 r
  obtain rfl : u = Value.ref a := ru
  obtain ⟨hz, hd, es, ep, xs, raw, hsz, hx, rv⟩ := dic_keys (fun _ h => h) I g
  obtain ⟨as, hr⟩ := Dp.readsAll I (kvs.map (·.1)) xs (es.toList.map (·.key)) (PdAll.dp hx) rv
  have hln : (es.toList.map (·.key)).length = kvs.length := by rw [List.length_map, Array.length_toList, hsz]
  refine sorted_dataC (by rw [hln]; exact hz) hr ok hu (fun R hR => ?_) fun k hk h' tk d out hp ho kp hd hn => ?_
  · refine collect_src (A := X.A.in1) (src_raw hd) (I.ok.hd hc) raw (by rw [hsz]; exact hz) fun h' tk acc kp hle it => ?_
    rw [items_keys it]
    exact hR h' tk kp hle
  have hds : ∀ d ∈ kvs.map (·.1), plainD d = true ∧ d.canLay0 = true := fun d hd => ⟨(ok.1 d hd).1, (shaped_depth (ok.1 d hd).2).1⟩
  have ex : ∀ v ∈ es.toList.map (·.key), ∃ x, RelV x v ∧ Pd X.K H x (k v) := fun v hv => by
    obtain ⟨x, hxm, rx⟩ := vals_mem rv v hv
    obtain ⟨d, hdm, pd⟩ := pdAll_mem hx x hxm
    obtain ⟨as', r'⟩ := Dp.reads I d x v pd.dp rx
    rw [hk v d as' r' (hds d hdm).1 (hds d hdm).2]
    exact ⟨x, rx, pd⟩
  let g : Value → V := fun v => open Classical in if h : ∃ x, RelV x v ∧ Pd X.K H x (k v) then h.choose else .non
  have hg : ∀ v ∈ es.toList.map (·.key), RelV (g v) v ∧ Pd X.K H (g v) (k v) := fun v hv => by
    have hx := ex v hv
    have e : g v = hx.choose := dif_pos hx
    rw [e]; exact hx.choose_spec
  have hmem : ∀ v ∈ out, v ∈ es.toList.map (·.key) := fun v hv => hp.mem_iff.mp hv
  have hv : ∀ l : List Value, (∀ v ∈ l, v ∈ es.toList.map (·.key)) → Vals (l.map g) l ∧ PdAll X.K H (l.map g) (l.map k) := fun l => by
    induction l with
    | nil => intro _; exact ⟨.nil, .nil⟩
    | cons v l ih =>
      intro hm
      obtain ⟨a1, a2⟩ := hg v (hm v (by simp))
      obtain ⟨b1, b2⟩ := ih fun u hu => hm u (List.mem_cons_of_mem _ hu)
      exact ⟨.cons a1 b1, .cons a2 b2⟩
  obtain ⟨v1, v2⟩ := hv out hmem
  obtain ⟨n, hn⟩ := hn
  rw [ho] at v2
  refine ⟨.ref d, upd H d (.lst (out.map g)), I.laid (t' := tk) kp hd ⟨?_, out, n, v1, hn⟩, rfl, q _ d v2 (I.hok.fresh hd)⟩
  rw [List.length_map, hp.length_eq, hln]
  exact hz
noncomputable def fSortDic (i : Nat) : FS → Res SV := wDic i fun kvs S => @ite _ (SortOk (kvs.map (·.1))) (Classical.propDecidable _) (.ok (.own (.lst (sortD (kvs.map (·.1))))) S) .bad
theorem e_sortDic {o : Expr} {i : Nat} {pos p : Pos} (hc : X.calm = true) (hu : X.A.units + 70 < cLine) (hg : Gl X "sorted") (hm : X.mg "sorted" = none) (ho : PE X o (tVar i)) (hw : F.w = X.w := by rfl)
    (he : starEach [o] X.env = (false, eval o X.env) :: starEach [] X.env := by rfl) : EV X F (.Call (.Name "sorted" p) [o] [] pos) (fSortDic i) :=
  (pe_callB (cr_sortDic hc hu) hg hm bt_sorted (pa_cons ho pa_nil he) (by decide) (by decide) he rfl).via fun σ H Q ⟨S, r, q⟩ => by
    obtain ⟨kvs, e, q⟩ := wDic_in q
    obtain ⟨a, ea, g⟩ := r.dicV e
    rw [hw] at g
    by_cases ok : SortOk (kvs.map (·.1))
    · rw [if_pos ok] at q
      exact ⟨_, ea, a, kvs, rfl, g, ok, fun ks p h1 h2 => newList r h1 h2 q⟩
    · rw [if_neg ok] at q; exact q.elim
end
end Fz
end

section
set_option Elab.async false
set_option linter.all false
set_option maxRecDepth 100000
set_option maxHeartbeats 4000000
/-! F35: sorted(xs, key=f), f a def of the text. -/
namespace Fz
open PySem PySem.Spec PyProof.Rows L2 SrtO Srt
/-! ### sorting by keys, as a function -/
section
variable {α : Type} (lt : α → α → Bool)
def insG (x : α) : List α → List α
  | [] => [x]
  | y :: l => if lt y x = true then y :: insG x l else x :: y :: l
def sortG : List α → List α
  | [] => []
  | x :: l => insG lt x (sortG l)
variable {lt}
theorem insG_split (x : α) : ∀ l : List α, ∃ M N, l = M ++ N ∧ insG lt x l = M ++ x :: N ∧ (∀ y ∈ M, lt y x = true) ∧ (∀ y, N.head? = some y → lt y x = false)
  | [] => ⟨[], [], rfl, rfl, fun _ h => absurd h (by simp), fun _ h => by simp at h⟩
  | y :: l => by
    unfold insG
    by_cases e : lt y x = true
    · rw [if_pos e]
      obtain ⟨M, N, rfl, e2, h1, h2⟩ := insG_split x l
      refine ⟨y :: M, N, rfl, by rw [e2]; rfl, fun z hz => ?_, h2⟩
      rcases List.mem_cons.mp hz with rfl | hz
      · exact e
      · exact h1 z hz
    · rw [if_neg e]
      refine ⟨[], y :: l, rfl, rfl, fun _ h => absurd h (by simp), fun z hz => ?_⟩
      simp at hz
      subst hz
      exact Bool.eq_false_iff.mpr e
theorem sortG_ok (O : Swo lt) : ∀ l : List α, Srtd lt (sortG lt l) ∧ Stb lt (sortG lt l) l
  | [] => ⟨List.Pairwise.nil, Stb.refl _⟩
  | x :: l => by
    obtain ⟨s1, s2⟩ := sortG_ok O l
    obtain ⟨M, N, e1, e2, h1, h2⟩ := insG_split (lt := lt) x (sortG lt l)
    rw [e1] at s1
    obtain ⟨m, n, c⟩ := srtd_app.mp s1
    have hN : ∀ y ∈ N, lt y x = false := fun y hy => by
      cases N with
      | nil => cases hy
      | cons z N =>
        have hz := h2 z rfl
        rcases List.mem_cons.mp hy with rfl | hy
        · exact hz
        · exact O.tr x z y hz (srtd_head n y hy)
    show Srtd lt (insG lt x (sortG lt l)) ∧ Stb lt (insG lt x (sortG lt l)) (x :: l)
    rw [e2]
    refine ⟨srtd_app.mpr ⟨m, List.pairwise_cons.mpr ⟨hN, n⟩, fun a ha b hb => ?_⟩, ?_⟩
    · rcases List.mem_cons.mp hb with rfl | hb
      · exact O.asym a b (h1 a ha)
      · exact c a ha b hb
    · have q : Stb lt (M ++ ([x] ++ N)) ([x] ++ (M ++ N)) := by
        have := (Stb.swap O (A := M) (B := [x]) fun a ha b hb => by rw [List.mem_singleton.mp hb]; exact h1 a ha).app (Stb.refl N)
        simpa using this
      have q2 : Stb lt ([x] ++ (M ++ N)) ([x] ++ l) := by
        rw [← e1]
        exact (Stb.refl [x]).app s2
      exact q.trans q2
end
/-- the keys that a def tells -/
def keysF (den : Den) : List D → Option (List D)
  | [] => some []
  | d :: r => match den [.d d] with
    | .ok (.d k) _ => (keysF den r).map (k :: ·)
    | _ => none
/-! ### a call of the key def, from within -/
section
variable {X : Cx} {pins : List (Addr × Obj)} {σ : L2.St} {H : Hp} {s : Shared} {T : List Addr} {den : Den} {fa : Addr} {fd : FuncData} {ps : List Str} {k : Nat}
end
/-! ### sorting of pairs, values beside data -/
section
variable {α β : Type} {lt : α → α → Bool} {lt' : β → β → Bool} {R : α → β → Prop}
end
end Fz
end

section
set_option Elab.async false
set_option linter.all false
set_option maxRecDepth 100000
set_option maxHeartbeats 4000000
/-! F36: sorted(xs, key=f): the whole call. -/
namespace Fz
open PySem PySem.Spec PyProof.Rows L2 SrtO Srt
section
variable {X : Cx} {pins : List (Addr × Obj)} {σ : L2.St} {H : Hp} {s : Shared} {T : List Addr} {den : Den} {fa : Addr} {fd : FuncData} {ps : List Str} {k : Nat}
end
end Fz
end

section
set_option Elab.async false
set_option linter.all false
set_option maxRecDepth 100000
set_option maxHeartbeats 4000000
/-! F37: sorted(xs, key=f): the rule of the layer. -/
namespace Fz
open PySem PySem.Spec PyProof.Rows L2 SrtO Srt
section
variable {X : Cx} {pins : List (Addr × Obj)} {σ : L2.St} {H : Hp} {s : Shared} {T : List Addr} {den : Den} {fa : Addr} {fd : FuncData} {ps : List Str} {k : Nat}
end
end Fz
end

section
set_option Elab.async false
set_option linter.all false
set_option maxRecDepth 100000
set_option maxHeartbeats 4000000
/-! F38: sorted(xs, key=f) of lists, tuples, dicts. -/
namespace Fz
open PySem PySem.Spec PyProof.Rows L2 SrtO Srt
section
variable {prog : Program} {w : World} {A : Around} {E : Value → Shared → Prop} {s : Shared}
end
section
variable {X : Cx} {F : Fx} {e o : Expr} {i j k : Nat} {pos p kp np : Pos} {f : FS → Res D} {x : Str} {ps : List Str} {den : Den}
end
end Fz
end

section
set_option Elab.async false
set_option linter.all false
set_option maxRecDepth 100000
set_option maxHeartbeats 4000000
/-! F39: isinstance(x, (A, B)). -/
namespace Fz
open PySem PySem.Spec PyProof.Rows L2
section
variable {X : Cx} {F : Fx} {p pos q q2 tpos : Pos}
end
end Fz
end

section
set_option Elab.async false
set_option linter.all false
set_option maxRecDepth 100000
set_option maxHeartbeats 4000000
/-! F40: a list of a slot is read for a while (frozen), then owned again. -/
namespace Fz
open PySem PySem.Spec PyProof.Rows L2
section
variable {K : Fg} {H H' : Hp}
end
section
variable {X : Cx} {pins : List (Addr × Obj)} {σ : L2.St} {H : Hp} {s : Shared} {a : Addr} {o : Obj} {vs : List V}
end
section
variable {X : Cx} {F : Fx} {e : Expr} {i : Nat}
end
end Fz
end

section
set_option Elab.async false
set_option linter.all false
set_option maxRecDepth 100000
set_option maxHeartbeats 4000000
/-! F23: loops over typed lists; pure comprehensions; more weakest preconditions. -/
namespace Fz
open PySem L2
section
variable {α : Type} {S : FS} {N : FS → Prop} {R : SV → FS → Prop} {B C : FS → Prop} {f : α → D} {xs : List α}
/-- .. with what went before, too -/
theorem wS_forP {g : D → FS → Option FS} {b : FS → SRes} (I : List α → List α → FS → Prop) (h0 : I [] xs S) (step : ∀ p x r S, xs = p ++ x :: r → I p (x :: r) S → wO (g (f x) S) fun S1 => wS (b S1) (I (p ++ [x]) r) R N (I (p ++ [x]) r)) (hN : ∀ S, I xs [] S → N S) : wS (forF g b (xs.map f) S) N R B C := by
  refine wS_forF (fun i S => i ≤ xs.length ∧ I (xs.take i) (xs.drop i) S) ⟨Nat.zero_le _, h0⟩ ?_ ?_
  · intro i d S hd ⟨_, h⟩
    rw [List.getElem?_map] at hd
    obtain ⟨x, hx, rfl⟩ := Option.map_eq_some_iff.mp hd
    obtain ⟨h1, h2⟩ := List.getElem?_eq_some_iff.mp hx
    have e1 : xs.drop i = x :: xs.drop (i + 1) := by rw [List.drop_eq_getElem_cons h1, h2]
    have e2 : xs.take (i + 1) = xs.take i ++ [x] := by rw [List.take_add_one, hx]; rfl
    rw [e1] at h
    have st := step (xs.take i) x _ S (by rw [← e1, List.take_append_drop]) h
    rw [← e2] at st
    cases hg : g (f x) S with
    | none => rw [hg] at st; exact st.elim
    | some S1 =>
      rw [hg] at st
      exact wS.imp (r := b S1) st (fun S z => ⟨h1, z⟩) (fun _ _ z => z) (fun _ z => z) (fun S z => ⟨h1, z⟩)
  · intro S ⟨_, h⟩
    rw [List.length_map, List.drop_length, List.take_length] at h
    exact hN S h
theorem any_w {stop : Bool} {g : D → FS → Option FS} {fe : FS → Res D} {vs : List Nat} {Q : Bool → FS → Prop} (p : α → Bool) (I : FS → Prop) (h0 : I S)
    (step : ∀ x, x ∈ xs → ∀ S, I S → wO (g (f x) (wipeS S vs)) fun S1 => wE (fe S1) fun y S3 => y = .bool (p x) ∧ I (restS S S3 vs))
    (hQ : ∀ S, I S → Q (if stop then xs.any p else xs.all p) S) : wE (anyF stop g (fC true) fe vs (xs.map f) S) Q := by
  refine wE_anyF (fun i S => I S ∧ i ≤ xs.length ∧ ∀ x ∈ xs.take i, p x = !stop) ⟨h0, Nat.zero_le _, by simp⟩ ?_ ?_
  · intro i d S hd ⟨hI, hi, hp⟩
    rw [List.getElem?_map] at hd
    obtain ⟨x, hx, rfl⟩ := Option.map_eq_some_iff.mp hd
    obtain ⟨h1, h2⟩ := List.getElem?_eq_some_iff.mp hx
    have hm : x ∈ xs := List.mem_of_getElem? hx
    have st := step x hm S hI
    cases hg : g (f x) (wipeS S vs) with
    | none => rw [hg] at st; exact st.elim
    | some S1 =>
      rw [hg] at st
      have st : wE (fe S1) _ := st
      rw [wO_some, wE_fC]
      refine ⟨fun z => Bool.noConfusion z, fun _ => ?_⟩
      refine st.mono ?_
      rintro y S3 ⟨rfl, h3⟩
      refine ⟨fun e => ?_, fun e => ⟨h3, h1, ?_⟩⟩
      · have := hQ _ h3
        cases stop with
        | true =>
          have ea : xs.any p = true := List.any_eq_true.mpr ⟨x, hm, e⟩
          rw [if_pos rfl, ea] at this
          exact this
        | false =>
          have ea : xs.all p = false := List.all_eq_false.mpr ⟨x, hm, by rw [e]; simp⟩
          rw [if_neg Bool.false_ne_true, ea] at this
          exact this
      · intro z hz
        rw [List.take_add_one, hx] at hz
        rcases List.mem_append.mp hz with hz | hz
        · exact hp z hz
        · have : z = x := by simpa using hz
          rw [this]
          cases hpx : p x <;> cases stop <;> simp_all
  · intro S ⟨hI, _, hp⟩
    rw [List.length_map, List.take_length] at hp
    have := hQ S hI
    cases stop with
    | true =>
      have ea : xs.any p = false := List.any_eq_false.mpr fun x hx => by rw [hp x hx]; simp
      rw [if_pos rfl, ea] at this
      exact this
    | false =>
      have ea : xs.all p = true := List.all_eq_true.mpr fun x hx => by rw [hp x hx]; simp
      rw [if_neg Bool.false_ne_true, ea] at this
      exact this
theorem lc_w {g : D → FS → Option FS} {t : FS → Res Bool} {fe : FS → Res D} {vs : List Nat} {Q : SV → FS → Prop} (q : α → Bool) (h : α → D) (I : FS → Prop) (h0 : I S) (hl : xs.length ≤ 16000000)
    (step : ∀ x, x ∈ xs → ∀ S, I S → wO (g (f x) (wipeS S vs)) fun S1 => wE (t S1) fun k S2 => k = q x ∧ (k = false → I (restS S S2 vs)) ∧ (k = true → wE (fe S2) fun y S3 => y = h x ∧ I (restS S S3 vs)))
    (hQ : ∀ S, I S → Q (.own (.lst ((xs.filter q).map h))) S) : wE (lcF g t fe vs (xs.map f) S []) Q := by
  refine wE_lcF (fun i acc S => I S ∧ i ≤ xs.length ∧ acc = ((xs.take i).filter q).map h) ⟨h0, Nat.zero_le _, by simp⟩ ?_ ?_
  · rintro i d acc S hd ⟨hI, hi, rfl⟩
    rw [List.getElem?_map] at hd
    obtain ⟨x, hx, rfl⟩ := Option.map_eq_some_iff.mp hd
    obtain ⟨h1, h2⟩ := List.getElem?_eq_some_iff.mp hx
    have hm : x ∈ xs := List.mem_of_getElem? hx
    have st := step x hm S hI
    cases hg : g (f x) (wipeS S vs) with
    | none => rw [hg] at st; exact st.elim
    | some S1 =>
      rw [hg] at st
      have st : wE (t S1) _ := st
      rw [wO_some]
      have e2 : xs.take (i + 1) = xs.take i ++ [x] := by rw [List.take_add_one, hx]; rfl
      refine st.mono ?_
      rintro k S2 ⟨rfl, s1, s2⟩
      refine ⟨fun e => ⟨s1 e, h1, ?_⟩, fun e => ?_⟩
      · rw [e2]; simp [e]
      · refine (s2 e).mono ?_
        rintro y S3 ⟨rfl, s3⟩
        refine ⟨szS ?_, s3, h1, ?_⟩
        · rw [List.length_map]
          have a := List.length_filter_le q (xs.take i)
          rw [List.length_take] at a
          omega
        · rw [e2]; simp [e]
  · rintro acc S ⟨hI, _, rfl⟩
    rw [List.length_map, List.take_length]
    exact hQ S hI
end
section
variable {S : FS} {Q : D → FS → Prop} {QV : SV → FS → Prop} {d e : D}
theorem inR_iff {k : Int} : inR k ↔ (-4611686018427387904 ≤ k ∧ k < 4611686018427387904) := by
  unfold inR
  rw [show (2 : Int) ^ 62 = 4611686018427387904 from by decide]
theorem wE_pMulS' {xs : List D} {k : Int} : wE (pMulS (.list xs) (.int k) S) QV = ((inR k ∧ xs.length * k.toNat ≤ sizeLine) ∧ QV (.own (.lst (List.replicate k.toNat xs).flatten)) S) := by
  unfold pMulS; simp only
  by_cases h : inR k ∧ xs.length * k.toNat ≤ sizeLine
  · rw [if_pos h]; simp only [wE_ok, h, true_and, and_self]
  · rw [if_neg h]; simp only [wE_bad, h, false_and]
@[simp] theorem wE_pMulS {xs : List D} {k : Int} : wE (pMulS (.list xs) (.int k) S) QV = (((-4611686018427387904 ≤ k ∧ k < 4611686018427387904) ∧ xs.length * k.toNat ≤ sizeLine) ∧ QV (.own (.lst (List.replicate k.toNat xs).flatten)) S) := by
  rw [wE_pMulS', inR_iff]
end
@[simp] theorem eqv_tt {a b : D} {as bs : List D} : PyData.eqv (.tuple (a :: as)) (.tuple (b :: bs)) = (PyData.eqv a b && PyData.eqv (.tuple as) (.tuple bs)) := by simp only [PyData.eqv, PyData.eqvAll]
@[simp] theorem eqv_tn {b : D} {bs : List D} : PyData.eqv (.tuple []) (.tuple (b :: bs)) = false := by simp only [PyData.eqv, PyData.eqvAll]
@[simp] theorem eqv_tn2 {b : D} {bs : List D} : PyData.eqv (.tuple (b :: bs)) (.tuple []) = false := by simp only [PyData.eqv, PyData.eqvAll]
@[simp] theorem eqv_tnn : PyData.eqv (.tuple []) (.tuple []) = true := by simp only [PyData.eqv, PyData.eqvAll]
@[simp] theorem eqv_ll {a b : D} {as bs : List D} : PyData.eqv (.list (a :: as)) (.list (b :: bs)) = (PyData.eqv a b && PyData.eqv (.list as) (.list bs)) := by simp only [PyData.eqv, PyData.eqvAll]
@[simp] theorem eqv_ln {b : D} {bs : List D} : PyData.eqv (.list []) (.list (b :: bs)) = false := by simp only [PyData.eqv, PyData.eqvAll]
@[simp] theorem eqv_x_none_bool {b1 : Bool} : PyData.eqv .none (.bool b1) = false := by simp only [PyData.eqv]
@[simp] theorem eqv_x_none_int {i1 : Int} : PyData.eqv .none (.int i1) = false := by simp only [PyData.eqv]
@[simp] theorem eqv_x_none_str {s1 : Str} : PyData.eqv .none (.str s1) = false := by simp only [PyData.eqv]
@[simp] theorem eqv_x_none_tuple {t1 : List D} : PyData.eqv .none (.tuple t1) = false := by simp only [PyData.eqv]
@[simp] theorem eqv_x_none_list {l1 : List D} : PyData.eqv .none (.list l1) = false := by simp only [PyData.eqv]
@[simp] theorem eqv_x_none_W {w1 : List Int} : PyData.eqv .none (W w1) = false := by unfold W; simp only [PyData.eqv]
@[simp] theorem eqv_x_bool_none {b1 : Bool} : PyData.eqv (.bool b1) .none = false := by simp only [PyData.eqv]
@[simp] theorem eqv_x_bool_str {b1 : Bool} {s1 : Str} : PyData.eqv (.bool b1) (.str s1) = false := by simp only [PyData.eqv]
@[simp] theorem eqv_x_bool_tuple {b1 : Bool} {t1 : List D} : PyData.eqv (.bool b1) (.tuple t1) = false := by simp only [PyData.eqv]
@[simp] theorem eqv_x_bool_list {b1 : Bool} {l1 : List D} : PyData.eqv (.bool b1) (.list l1) = false := by simp only [PyData.eqv]
@[simp] theorem eqv_x_bool_W {b1 : Bool} {w1 : List Int} : PyData.eqv (.bool b1) (W w1) = false := by unfold W; simp only [PyData.eqv]
@[simp] theorem eqv_x_int_none {i1 : Int} : PyData.eqv (.int i1) .none = false := by simp only [PyData.eqv]
@[simp] theorem eqv_x_int_str {i1 : Int} {s1 : Str} : PyData.eqv (.int i1) (.str s1) = false := by simp only [PyData.eqv]
@[simp] theorem eqv_x_int_tuple {i1 : Int} {t1 : List D} : PyData.eqv (.int i1) (.tuple t1) = false := by simp only [PyData.eqv]
@[simp] theorem eqv_x_int_list {i1 : Int} {l1 : List D} : PyData.eqv (.int i1) (.list l1) = false := by simp only [PyData.eqv]
@[simp] theorem eqv_x_int_W {i1 : Int} {w1 : List Int} : PyData.eqv (.int i1) (W w1) = false := by unfold W; simp only [PyData.eqv]
@[simp] theorem eqv_x_str_none {s1 : Str} : PyData.eqv (.str s1) .none = false := by simp only [PyData.eqv]
@[simp] theorem eqv_x_str_bool {s1 : Str} {b1 : Bool} : PyData.eqv (.str s1) (.bool b1) = false := by simp only [PyData.eqv]
@[simp] theorem eqv_x_str_int {s1 : Str} {i1 : Int} : PyData.eqv (.str s1) (.int i1) = false := by simp only [PyData.eqv]
@[simp] theorem eqv_x_str_tuple {s1 : Str} {t1 : List D} : PyData.eqv (.str s1) (.tuple t1) = false := by simp only [PyData.eqv]
@[simp] theorem eqv_x_str_list {s1 : Str} {l1 : List D} : PyData.eqv (.str s1) (.list l1) = false := by simp only [PyData.eqv]
@[simp] theorem eqv_x_str_W {s1 : Str} {w1 : List Int} : PyData.eqv (.str s1) (W w1) = false := by unfold W; simp only [PyData.eqv]
@[simp] theorem eqv_x_tuple_none {t1 : List D} : PyData.eqv (.tuple t1) .none = false := by simp only [PyData.eqv]
@[simp] theorem eqv_x_tuple_bool {t1 : List D} {b1 : Bool} : PyData.eqv (.tuple t1) (.bool b1) = false := by simp only [PyData.eqv]
@[simp] theorem eqv_x_tuple_int {t1 : List D} {i1 : Int} : PyData.eqv (.tuple t1) (.int i1) = false := by simp only [PyData.eqv]
@[simp] theorem eqv_x_tuple_str {t1 : List D} {s1 : Str} : PyData.eqv (.tuple t1) (.str s1) = false := by simp only [PyData.eqv]
@[simp] theorem eqv_x_tuple_list {t1 : List D} {l1 : List D} : PyData.eqv (.tuple t1) (.list l1) = false := by simp only [PyData.eqv]
@[simp] theorem eqv_x_list_none {l1 : List D} : PyData.eqv (.list l1) .none = false := by simp only [PyData.eqv]
@[simp] theorem eqv_x_list_bool {l1 : List D} {b1 : Bool} : PyData.eqv (.list l1) (.bool b1) = false := by simp only [PyData.eqv]
@[simp] theorem eqv_x_list_int {l1 : List D} {i1 : Int} : PyData.eqv (.list l1) (.int i1) = false := by simp only [PyData.eqv]
@[simp] theorem eqv_x_list_str {l1 : List D} {s1 : Str} : PyData.eqv (.list l1) (.str s1) = false := by simp only [PyData.eqv]
@[simp] theorem eqv_x_list_tuple {l1 : List D} {t1 : List D} : PyData.eqv (.list l1) (.tuple t1) = false := by simp only [PyData.eqv]
@[simp] theorem eqv_x_list_W {l1 : List D} {w1 : List Int} : PyData.eqv (.list l1) (W w1) = false := by unfold W; simp only [PyData.eqv]
@[simp] theorem eqv_x_W_none {w1 : List Int} : PyData.eqv (W w1) .none = false := by unfold W; simp only [PyData.eqv]
@[simp] theorem eqv_x_W_bool {w1 : List Int} {b1 : Bool} : PyData.eqv (W w1) (.bool b1) = false := by unfold W; simp only [PyData.eqv]
@[simp] theorem eqv_x_W_int {w1 : List Int} {i1 : Int} : PyData.eqv (W w1) (.int i1) = false := by unfold W; simp only [PyData.eqv]
@[simp] theorem eqv_x_W_str {w1 : List Int} {s1 : Str} : PyData.eqv (W w1) (.str s1) = false := by unfold W; simp only [PyData.eqv]
@[simp] theorem eqv_x_W_list {w1 : List Int} {l1 : List D} : PyData.eqv (W w1) (.list l1) = false := by unfold W; simp only [PyData.eqv]
@[simp] theorem all_tt {α : Type} {xs : List α} : (xs.all fun _ => true) = true := by simp
@[simp] theorem any_ff {α : Type} {xs : List α} : (xs.any fun _ => false) = false := by simp
@[simp] theorem cutL_1 {α : Type} {xs : List α} : cutL xs (some 1) none = xs.drop 1 := cutL_drop xs 1
@[simp] theorem cutL_2 {α : Type} {xs : List α} : cutL xs (some 2) none = xs.drop 2 := cutL_drop xs 2
@[simp] theorem cutL_t1 {α : Type} {xs : List α} : cutL xs none (some 1) = xs.take 1 := cutL_take xs 1
@[simp] theorem cutL_t2 {α : Type} {xs : List α} : cutL xs none (some 2) = xs.take 2 := cutL_take xs 2
@[simp] theorem cutL_last {α : Type} {xs : List α} : cutL xs none (some (-1)) = xs.dropLast := by
  unfold cutL
  rw [HT.sIx_none, List.dropLast_eq_take]
  have : HT.sIx xs.length xs.length (some (-1)) = xs.length - 1 := by
    show (if (-1 : Int) < 0 then ((-1 : Int) + (xs.length : Int)).toNat else min (-1 : Int).toNat xs.length) = _
    rw [if_pos (by decide)]; omega
  rw [this, List.drop_zero, Nat.sub_zero]
@[simp] theorem atI_snoc {α : Type} {xs : List α} {x : α} : atI (xs ++ [x]) (-1) = some x := by
  rw [atI_last (by simp)]; simp
@[simp] theorem atI_nil {α : Type} {i : Int} : atI ([] : List α) i = none := by
  unfold atI; cases ixN 0 i <;> simp
@[simp] theorem nle0 {n : Nat} : ((n : Int) + 1 ≤ 0) = False := eq_false (by omega)
@[simp] theorem nlt0 {n : Nat} : (0 < (n : Int) + 1) = True := eq_true (by omega)
@[simp] theorem nne0 {n : Nat} : ((n : Int) + 1 = 0) = False := eq_false (by omega)
@[simp] theorem nnl {n : Nat} : ((n : Int) < 0) = False := eq_false (by omega)
@[simp] theorem szl_1 : (1 ≤ sizeLine) = True := eq_true (szL (by decide))
@[simp] theorem szl_2 : (2 ≤ sizeLine) = True := eq_true (szL (by decide))
@[simp] theorem szl_3 : (3 ≤ sizeLine) = True := eq_true (szL (by decide))
@[simp] theorem szl_4 : (4 ≤ sizeLine) = True := eq_true (szL (by decide))
@[simp] theorem szl_5 : (5 ≤ sizeLine) = True := eq_true (szL (by decide))
@[simp] theorem szl_6 : (6 ≤ sizeLine) = True := eq_true (szL (by decide))
@[simp] theorem szl_7 : (7 ≤ sizeLine) = True := eq_true (szL (by decide))
@[simp] theorem szl_8 : (8 ≤ sizeLine) = True := eq_true (szL (by decide))
@[simp] theorem szl_9 : (9 ≤ sizeLine) = True := eq_true (szL (by decide))
@[simp] theorem szl_10 : (10 ≤ sizeLine) = True := eq_true (szL (by decide))
@[simp] theorem szl_11 : (11 ≤ sizeLine) = True := eq_true (szL (by decide))
@[simp] theorem szl_12 : (12 ≤ sizeLine) = True := eq_true (szL (by decide))
@[simp] theorem szl_13 : (13 ≤ sizeLine) = True := eq_true (szL (by decide))
@[simp] theorem szl_14 : (14 ≤ sizeLine) = True := eq_true (szL (by decide))
@[simp] theorem szl_15 : (15 ≤ sizeLine) = True := eq_true (szL (by decide))
@[simp] theorem szl_16 : (16 ≤ sizeLine) = True := eq_true (szL (by decide))
@[simp] theorem szl_17 : (17 ≤ sizeLine) = True := eq_true (szL (by decide))
@[simp] theorem szl_18 : (18 ≤ sizeLine) = True := eq_true (szL (by decide))
@[simp] theorem szl_19 : (19 ≤ sizeLine) = True := eq_true (szL (by decide))
@[simp] theorem szl_20 : (20 ≤ sizeLine) = True := eq_true (szL (by decide))
@[simp] theorem szl_21 : (21 ≤ sizeLine) = True := eq_true (szL (by decide))
@[simp] theorem szl_22 : (22 ≤ sizeLine) = True := eq_true (szL (by decide))
@[simp] theorem szl_23 : (23 ≤ sizeLine) = True := eq_true (szL (by decide))
@[simp] theorem szl_24 : (24 ≤ sizeLine) = True := eq_true (szL (by decide))
@[simp] theorem szl_25 : (25 ≤ sizeLine) = True := eq_true (szL (by decide))
@[simp] theorem szl_26 : (26 ≤ sizeLine) = True := eq_true (szL (by decide))
@[simp] theorem szl_27 : (27 ≤ sizeLine) = True := eq_true (szL (by decide))
@[simp] theorem szl_28 : (28 ≤ sizeLine) = True := eq_true (szL (by decide))
@[simp] theorem szl_29 : (29 ≤ sizeLine) = True := eq_true (szL (by decide))
@[simp] theorem szl_30 : (30 ≤ sizeLine) = True := eq_true (szL (by decide))
@[simp] theorem filter_tt {α : Type} {xs : List α} : (xs.filter fun _ => true) = xs := by simp
theorem rng0 {n : Nat} : rngD 0 n = (List.range n).map fun i : Nat => PyData.int (i : Int) := by
  unfold rngD
  refine List.map_congr_left fun i _ => ?_
  simp
@[simp] theorem wE_pToInt_b {S : FS} {Q : D → FS → Prop} {b : Bool} : wE (pToInt (.bool b) S) Q = Q (.int (if b = true then 1 else 0)) S := rfl
theorem range_at {n x : Nat} {p r : List Nat} (e : List.range n = p ++ x :: r) : x = p.length ∧ p.length < n := by
  have e1 := congrArg (fun l => l[p.length]?) e
  have e2 := congrArg List.length e
  simp at e1 e2
  have : p.length < n := by omega
  rw [List.getElem?_range this] at e1
  exact ⟨by simpa using e1.symm, this⟩
section
variable {S : FS} {QV : SV → FS → Prop} {N : FS → Prop} {R : SV → FS → Prop} {B C : FS → Prop} {f : FS → Res D} {xs ys : List D} {k : Int} {i j : Int}
end
section
variable {S : FS} {QV : SV → FS → Prop} {fa : FS → Res D} {xs : List D}
@[simp] theorem wE_fRev : wE (fRev fa S) QV = wE (fa S) fun d S1 => wE (pRev d S1) QV := wE_bnd
@[simp] theorem wE_pRev_l : wE (pRev (.list xs) S) QV = QV (.own (.lst xs.reverse)) S := by rfl
@[simp] theorem wE_pRev_t : wE (pRev (.tuple xs) S) QV = QV (.d (.tuple xs.reverse)) S := by rfl
@[simp] theorem wE_pRev_W {w : List Int} : wE (pRev (W w) S) QV = QV (.d (W w.reverse)) S := by unfold W; rw [wE_pRev_t, List.map_reverse]
end
end Fz
end

section
set_option Elab.async false
set_option linter.all false
set_option maxRecDepth 100000
set_option maxHeartbeats 4000000
/-! F41: weakest preconditions of dicts, keyed sorts, thaws. -/
namespace Fz
open PySem L2
def dcO : Option (Option SV) → Option (List (D × D))
  | some (some (.own (.dic kvs))) => some kvs
  | some (some (.pin (.dic kvs))) => some kvs
  | _ => none
@[simp] theorem dcO_own {kvs : List (D × D)} : dcO (some (some (.own (.dic kvs)))) = some kvs := rfl
@[simp] theorem dcO_pin {kvs : List (D × D)} : dcO (some (some (.pin (.dic kvs)))) = some kvs := rfl
def dcR : Option (Option SV) → Option (List (D × D))
  | some (some (.own (.dic kvs))) => some kvs
  | some (some (.pin (.dic kvs))) => some kvs
  | some (some (.x (.ro (.dic kvs)))) => some kvs
  | _ => none
@[simp] theorem dcR_own {kvs : List (D × D)} : dcR (some (some (.own (.dic kvs)))) = some kvs := rfl
@[simp] theorem dcR_pin {kvs : List (D × D)} : dcR (some (some (.pin (.dic kvs)))) = some kvs := rfl
@[simp] theorem dcR_ro {kvs : List (D × D)} : dcR (some (some (.x (.ro (.dic kvs))))) = some kvs := rfl
@[simp] theorem dicRd_eq {S : FS} {i : Nat} : dicRd S i = dcR S[i]? := by
  unfold dicRd dcR
  rfl
@[simp] theorem dicAt_eq {S : FS} {i : Nat} : dicAt S i = dcO S[i]? := by
  unfold dicAt dcO
  rfl
section
variable {S : FS} {Q : D → FS → Prop} {QV : SV → FS → Prop} {N B C : FS → Prop} {R : SV → FS → Prop} {f fe fk fx : FS → Res D} {i : Nat} {den : Den}
@[simp] theorem wE_fDNew : wE (fDNew S) QV = QV (.own (.dic [])) S := rfl
theorem wE_wDic {α : Type} {k : List (D × D) → FS → Res α} {Q : α → FS → Prop} : wE (wDic i k S) Q = wO (dcR S[i]?) fun kvs => wE (k kvs S) Q := by
  unfold wDic
  rw [dicRd_eq]
  cases dcR S[i]? <;> rfl
theorem wS_wDicS {k : List (D × D) → FS → SRes} : wS (wDicS i k S) N R B C = wO (dcO S[i]?) fun kvs => wS (k kvs S) N R B C := by
  unfold wDicS
  rw [dicAt_eq]
  cases dcO S[i]? <;> rfl
@[simp] theorem wS_fDPut : wS (fDPut i fe fk S) N R B C = wE (fe S) fun v S1 => wO (dcO S1[i]?) fun _ => wE (fk S1) fun k S2 => wO (dcO S2[i]?) fun kvs => kOk kvs k = true ∧ kvs.length < sizeLine ∧ N (S2.set i (some (mkO S2[i]? (.dic (dPut kvs k v))))) := by
  unfold fDPut
  rw [wS_bndS]
  congr 1; funext v S1
  rw [wS_wDicS]
  congr 1; funext kvs0
  rw [wS_bndS]
  congr 1; funext k S2
  rw [wS_wDicS]
  congr 1; funext kvs
  rw [← setOb_eq]
  by_cases h : kvs.length < sizeLine
  · cases kOk kvs k <;> simp [h]
  · cases kOk kvs k <;> simp [h]
@[simp] theorem wE_fSortDic : wE (fSortDic i S) QV = wO (dcR S[i]?) fun kvs => SortOk (kvs.map (·.1)) ∧ QV (.own (.lst (sortD (kvs.map (·.1))))) S := by
  unfold fSortDic
  rw [wE_wDic]
  congr 1; funext kvs
  by_cases h : SortOk (kvs.map (·.1))
  · rw [if_pos h]; simp [h]
  · rw [if_neg h]; simp [h]
end
/-! keys that are words -/
theorem nks_ints : ∀ xs : List Int, nks (xs.map .int) = some (xs.map .num)
  | [] => rfl
  | x :: xs => by simp only [List.map_cons, nks, nk, nks_ints xs]
@[simp] theorem nk_W {xs : List Int} : nk (W xs) = some (.tup (xs.map .num)) := by
  unfold W
  simp only [nk, nks_ints, Option.map_some]
theorem depthAll_ints : ∀ xs : List Int, NestedKey.depthAll (xs.map .num) = 0
  | [] => rfl
  | x :: xs => by simp only [List.map_cons, NestedKey.depthAll, NestedKey.depth, depthAll_ints xs]; rfl
@[simp] theorem tk_W {xs : List Int} : tk (W xs) = some (.tup (xs.map .num)) := by
  have := nk_W (xs := xs)
  unfold W at this ⊢
  show (match nk (PyData.tuple (xs.map .int)) with | some k => if k.depth ≤ 8 then some k else none | none => none) = _
  rw [this]
  simp [NestedKey.depth, depthAll_ints]
@[simp] theorem fk_W {xs : List Int} : fk (W xs) = none := rfl
end Fz
end

section
set_option Elab.async false
set_option linter.all false
set_option maxRecDepth 100000
set_option maxHeartbeats 4000000
/-! dens, new with k16 -/
namespace DL
open PySem L2 Fz
/-- slots: 0 value, 1 low, 2 high -/
noncomputable def b_is_between : FS → SRes :=
 fRetD (fAndV (fFrz (fCallP d_is_integer 1 (fAD (fVar 0) (fC [])))) (fChain pLe pLe (fVar 1) (fVar 0) (fPeek 2)))
@[irreducible] noncomputable def d_is_between : Den := denOf 3 b_is_between
/-- slots: 0 value -/
noncomputable def b_is_k : FS → SRes :=
 fRet (fCallP d_is_between 3 (fAD (fVar 0) (fAD (fC (.int 1)) (fAD (fC (.int 3)) (fC [])))))
@[irreducible] noncomputable def d_is_k : Den := denOf 1 b_is_k
end DL
end

section
set_option linter.all false
/-! M1: products of atoms: the words that they have, placings, reducing. No program in sight. -/
namespace DL
/-! reduced products -/
/-! reducing from the left -/
end DL
end

section
set_option Elab.async false
set_option linter.all false
set_option maxRecDepth 100000
set_option maxHeartbeats 4000000
/-! S1: products: what their dens promise. -/
namespace DL
open PySem L2 Fz
@[simp] theorem str_neP : (Str.ofString "any" = Str.ofString "one") = False := eq_false (by decide)
@[simp] theorem str_neP' : (Str.ofString "one" = Str.ofString "any") = False := eq_false (by decide)

section
variable {Q : D → FS → Prop} {QV : SV → FS → Prop} {S : FS} {as bs : List At} {a : At} {i : Int}
end
end DL
end

section
set_option Elab.async false
set_option linter.all false
set_option maxRecDepth 100000
set_option maxHeartbeats 4000000
/-! S2: products: what their dens promise. -/
namespace DL
open PySem L2 Fz
end DL
end

section
set_option Elab.async false
set_option linter.all false
set_option maxRecDepth 100000
set_option maxHeartbeats 4000000
/-! S3: words of products. -/
namespace DL
open PySem L2 Fz
end DL
end

section
set_option Elab.async false
set_option linter.all false
set_option maxRecDepth 100000
set_option maxHeartbeats 4000000
/-! S4: the laws' own helpers about words, products. -/
namespace DL
open PySem L2 Fz
def LW (ws : List (List Int)) : List D := ws.map W
end DL
end

section
set_option Elab.async false
set_option linter.all false
set_option maxRecDepth 100000
set_option maxHeartbeats 4000000
/-! M2: words sorted, least words: the plain theory. -/
namespace DL
open PySem L2 Fz SrtO
/-! ### sorting, generally -/
theorem insG_map {α β : Type} {lt : β → β → Bool} (f : α → β) (x : α) : ∀ l : List α, insG lt (f x) (l.map f) = (insG (fun a b => lt (f a) (f b)) x l).map f
  | [] => rfl
  | y :: l => by
    simp only [List.map_cons, insG]
    split
    · rw [insG_map f x l]; rfl
    · rfl
theorem sortG_map {α β : Type} {lt : β → β → Bool} (f : α → β) : ∀ l : List α, sortG lt (l.map f) = (sortG (fun a b => lt (f a) (f b)) l).map f
  | [] => rfl
  | x :: l => by
    show insG lt (f x) (sortG lt (l.map f)) = _
    rw [sortG_map f l, insG_map]
    rfl
theorem sortD_G : ∀ l : List D, sortD l = sortG ltE l
  | [] => rfl
  | x :: l => by
    show insD x (sortD l) = insG ltE x (sortG ltE l)
    rw [sortD_G l]
    generalize sortG ltE l = m
    induction m with
    | nil => rfl
    | cons y m ih =>
      unfold insD insG
      rw [ih]
theorem sortG_mem {α : Type} {lt : α → α → Bool} (O : Swo lt) {l : List α} {x : α} : x ∈ sortG lt l ↔ x ∈ l := (sortG_ok O l).2.perm.mem_iff
/-! ### the orders of words -/
theorem plain_ints : ∀ xs : List Int, plainL (xs.map .int) = true
  | [] => rfl
  | x :: xs => by simp only [List.map_cons, plainL, plainD, plain_ints xs]; rfl
theorem plain_W {xs : List Int} : plainD (W xs) = true := by unfold W; simp only [plainD]; exact plain_ints xs
theorem ltL_ints : ∀ xs ys : List Int, (ltL (xs.map .int) (ys.map .int)).isSome = true
  | [], [] => rfl
  | [], _ :: _ => rfl
  | _ :: _, [] => rfl
  | x :: xs, y :: ys => by
    simp only [List.map_cons, ltL]
    split
    · exact ltL_ints xs ys
    · rfl
theorem ltD_W {xs ys : List Int} : (ltD (W xs) (W ys)).isSome = true := by unfold W; simp only [ltD]; exact ltL_ints xs ys
/-! ### least words -/
end DL
end

section
set_option Elab.async false
set_option linter.all false
set_option maxRecDepth 100000
set_option maxHeartbeats 4000000
/-! dens, new with k19 -/
namespace DL
open PySem L2 Fz
end DL
end

section
set_option Elab.async false
set_option linter.all false
set_option maxRecDepth 100000
set_option maxHeartbeats 4000000
/-! dens, new with k15 -/
namespace DL
open PySem L2 Fz
end DL
end

section
set_option Elab.async false
set_option linter.all false
set_option maxRecDepth 100000
set_option maxHeartbeats 4000000
/-! dens, new with k03 -/
namespace DL
open PySem L2 Fz
end DL
end

section
set_option Elab.async false
set_option linter.all false
set_option maxRecDepth 100000
set_option maxHeartbeats 4000000
/-! S11: strewn from the behind, the least words. -/
namespace DL
open PySem L2 Fz SrtO
theorem eqW {x y : List Int} : PyData.eqv (W x) (W y) = decide (x = y) := by
  unfold W
  simp only [PyData.eqv]
  exact eqvAll_ints
end DL
end

section
set_option Elab.async false
set_option linter.all false
set_option maxRecDepth 100000
set_option maxHeartbeats 4000000
/-! M7: systems whose roads lose letters: one step with losses (plain theory). -/
namespace DL
open PySem L2 Fz
abbrev Ws := List (List Int)
def DeedOk (k roads : Int) (dl : List Int) : Prop := dl = [0] ∨ ∃ s r l, dl = [s, r, l] ∧ (s = 1 ∨ s = 2) ∧ 0 ≤ r ∧ r < roads ∧ 0 ≤ l ∧ l < k
end DL
end

section
set_option Elab.async false
set_option linter.all false
set_option maxRecDepth 100000
set_option maxHeartbeats 4000000
/-! S7: the shell of a law. -/
namespace DL
open PySem L2 Fz
end DL
end

section
set_option Elab.async false
set_option linter.all false
set_option maxRecDepth 100000
set_option maxHeartbeats 4000000
/-! F42: own objects moved out of their slots. -/
namespace Fz
open PySem PySem.Spec PyProof.Rows L2
section
variable {X : Cx} {F : Fx} {e : Expr} {i : Nat}
end
section
variable {X : Cx} {F : Fx} {e : Expr} {i j k : Nat} {pos p kp np : Pos} {f : FS → Res SV} {x : Str} {ps : List Str} {den : Den}
end
end Fz
end

section
set_option Elab.async false
set_option linter.all false
set_option maxRecDepth 100000
set_option maxHeartbeats 4000000
/-! F43: thaws, where other lists of slots may be frozen for good on the way. -/
namespace Fz
open PySem PySem.Spec PyProof.Rows L2
section
variable {X : Cx} {F : Fx} {e : Expr} {i : Nat}
end
end Fz
end

section
set_option Elab.async false
set_option linter.all false
set_option maxRecDepth 100000
set_option maxHeartbeats 4000000
/-! F44: {k: v}. -/
namespace Fz
open PySem PySem.Spec PyProof.Rows L2
section
variable {X : Cx} {pins : List (Addr × Obj)} {σ : L2.St} {H : Hp} {s : Shared}
end
section
variable {X : Cx} {F : Fx} {ke ve : Expr} {pos : Pos} {gk gv : FS → Res D}
end
end Fz
end

section
set_option Elab.async false
set_option linter.all false
set_option maxRecDepth 100000
set_option maxHeartbeats 4000000
/-! F45: list comprehensions of two clauses. -/
namespace Fz
open PySem PySem.Spec PyProof.Rows L2
section
variable {X : Cx} {F : Fx} {g : D → FS → Option FS} {t : FS → Res Bool} {fe : FS → Res D} {ts vs : List Nat}
end
section
variable {X : Cx} {F : Fx} {it it1 : FS → Res (List D)} {g g1 : D → FS → Option FS} {t t1 : FS → Res Bool} {fe : FS → Res D} {ts ts1 vs vs1 : List Nat}
variable {elt tg iter tg1 iter1 : Expr} {ifs ifs1 : List Expr} {scope : Scope} {own : List (Str × Nat)} {pos : Pos}
end
end Fz
end

section
set_option Elab.async false
set_option linter.all false
set_option maxRecDepth 100000
set_option maxHeartbeats 4000000
/-! F46: sum, max of a list of ints. -/
namespace Fz
open PySem PySem.Spec PyProof.Rows L2
section
variable {X : Cx} {F : Fx}
end
end Fz
end

section
set_option Elab.async false
set_option linter.all false
set_option maxRecDepth 100000
set_option maxHeartbeats 4000000
/-! F47: <, <=, >, >= of ints and of tuples of ints. -/
namespace Fz
open PySem PySem.Spec PyProof.Rows L2
section
variable {X : Cx} {F : Fx}
end
end Fz
end

section
set_option Elab.async false
set_option linter.all false
set_option maxRecDepth 100000
set_option maxHeartbeats 4000000
/-! F48: weakest preconditions for F42-F47. -/
namespace Fz
open PySem L2
section
variable {S : FS} {Q : D → FS → Prop} {QV : SV → FS → Prop} {f fk fv : FS → Res D} {g : FS → Res SV} {i : Nat} {den : Den}
end
end Fz
end

section
set_option Elab.async false
set_option linter.all false
set_option maxRecDepth 100000
set_option maxHeartbeats 4000000
/-! F49: comprehensions of two clauses, pure: what they give. -/
namespace Fz
open PySem L2
section
variable {α β : Type} {f : α → D} {f1 : α → β → D} {vs vs1 : List Nat}
end
end Fz
end

section
set_option Elab.async false
set_option linter.all false
set_option maxRecDepth 100000
set_option maxHeartbeats 4000000
/-! F50: enumerate of a tuple, of a list. -/
namespace Fz
open PySem PySem.Spec PyProof.Rows L2 RZ
section
variable {prog : Program} {w : World} {A : Around} {E : Value → Shared → Prop} {s : Shared}
end
/-! its den -/
section
variable {S : FS} {QL : List D → FS → Prop} {f : FS → Res D}
end
end Fz
end

section
set_option Elab.async false
set_option linter.all false
set_option maxRecDepth 100000
set_option maxHeartbeats 4000000
/-! F51: tuple(range(..)), list(range(..)). -/
namespace Fz
open PySem PySem.Spec PyProof.Rows L2
section
variable {X : Cx} {F : Fx} {a b : Expr} {f g : FS → Res D} {p p2 pos pos2 : Pos}
end
section
variable {S : FS} {Q : D → FS → Prop} {QV : SV → FS → Prop} {f g : FS → Res D}
end
end Fz
end

section
set_option Elab.async false
set_option linter.all false
set_option maxRecDepth 100000
set_option maxHeartbeats 4000000
/-! F52: sets of nested tuples: what is asked of a member; the search. -/
namespace Fz
open PySem PySem.Spec PyProof.Rows L2
section
variable {P : Program} {w : World}
end
/-! ### the set -/
section
variable {P : Program} {w : World} {A : Around} {E : Value → Shared → Prop} {s : Shared} {a : Addr} {L : List Mem} {es : Array (Int × Value)} {ep : Nat} {t : SetTable}
end
end Fz
end

section
set_option Elab.async false
set_option linter.all false
set_option maxRecDepth 100000
set_option maxHeartbeats 4000000
/-! F53: sets of nested tuples: the search, a member put in. -/
namespace Fz
open PySem PySem.Spec PyProof.Rows L2
section
variable {P : Program} {w : World} {A : Around} {E : Value → Shared → Prop} {s : Shared} {a : Addr} {L : List Mem} {es : Array (Int × Value)} {ep : Nat} {t : SetTable}
end
end Fz
end

section
set_option Elab.async false
set_option linter.all false
set_option maxRecDepth 100000
set_option maxHeartbeats 4000000
/-! F54: sets of nested tuples: a member put in; the table laid anew. -/
namespace Fz
open PySem PySem.Spec PyProof.Rows L2
section
variable {P : Program} {w : World} {A : Around} {E : Value → Shared → Prop} {s : Shared} {a : Addr} {L : List Mem} {es : Array (Int × Value)} {ep : Nat} {t : SetTable}
end
end Fz
end

section
set_option Elab.async false
set_option linter.all false
set_option maxRecDepth 100000
set_option maxHeartbeats 4000000
/-! F55: sets of nested tuples: set(xs). -/
namespace Fz
open PySem PySem.Spec PyProof.Rows L2
section
variable {P : Program} {w : World} {A : Around} {E : Value → Shared → Prop} {s : Shared}
end
end Fz
end

section
set_option Elab.async false
set_option linter.all false
set_option maxRecDepth 100000
set_option maxHeartbeats 4000000
/-! F56: set(xs) at the machine. -/
namespace Fz
open PySem PySem.Spec PyProof.Rows L2
section
variable {P : Program} {w : World} {A : Around} {E : Value → Shared → Prop} {s : Shared}
end
end Fz
end

section
set_option Elab.async false
set_option linter.all false
set_option maxRecDepth 100000
set_option maxHeartbeats 4000000
/-! F57: set(xs) over the abstract heap. -/
namespace Fz
open PySem PySem.Spec PyProof.Rows L2
end Fz
end

section
set_option Elab.async false
set_option linter.all false
set_option maxRecDepth 100000
set_option maxHeartbeats 4000000
/-! F58: set(xs): the rule. -/
namespace Fz
open PySem PySem.Spec PyProof.Rows L2
section
variable {X : Cx} {pins : List (Addr × Obj)} {σ : L2.St} {H : Hp} {s : Shared}
end
end Fz
end

section
set_option Elab.async false
set_option linter.all false
set_option maxRecDepth 100000
set_option maxHeartbeats 4000000
/-! F59: sorted(set(xs)), len(set(xs)). -/
namespace Fz
open PySem PySem.Spec PyProof.Rows L2 SrtO Srt
/-! ### codes tell keys -/
theorem cps_inj : ∀ {xs ys : List Nat} {u v : List Int}, (xs.map fun c => ((c : Nat) : Int) + 1) ++ ([0] ++ u) = (ys.map fun c => ((c : Nat) : Int) + 1) ++ ([0] ++ v) → xs = ys ∧ u = v
  | [], [], u, v, h => by simpa using h
  | [], y :: ys, u, v, h => by
    simp at h; omega
  | x :: xs, [], u, v, h => by
    simp at h
  | x :: xs, y :: ys, u, v, h => by
    simp only [List.map_cons, List.cons_append, List.cons.injEq] at h
    obtain ⟨h1, h2⟩ := h
    obtain ⟨e1, e2⟩ := cps_inj h2
    exact ⟨by rw [e1]; congr 1; omega, e2⟩
mutual
theorem enc_inj : ∀ {d e : D} {u v : List Int}, (nk d).isSome = true → (nk e).isSome = true → enc d ++ u = enc e ++ v → d = e ∧ u = v
  | .none, e, u, v, h, g, z => by
    cases e <;> simp [nk] at g <;> simp [enc] at z
    exact ⟨rfl, z⟩
  | .int i, e, u, v, h, g, z => by
    cases e <;> simp [nk] at g <;> simp [enc] at z
    exact ⟨by rw [z.1], z.2⟩
  | .str x, e, u, v, h, g, z => by
    cases e with
    | str y =>
      simp only [enc, List.cons_append, List.cons.injEq, true_and, List.append_assoc] at z
      obtain ⟨e1, e2⟩ := cps_inj z
      refine ⟨?_, e2⟩
      obtain ⟨x⟩ := x
      obtain ⟨y⟩ := y
      have : x = y := Array.toList_inj.mp e1
      rw [this]
    | _ => simp [nk] at g <;> simp [enc] at z
  | .tuple ds, e, u, v, h, g, z => by
    cases e with
    | tuple es =>
      simp only [enc, List.cons_append, List.cons.injEq, true_and] at z
      have h' : (nks ds).isSome = true := by simpa [nk] using h
      have g' : (nks es).isSome = true := by simpa [nk] using g
      obtain ⟨e1, e2⟩ := encL_inj' h' g' z
      exact ⟨by rw [e1], e2⟩
    | _ => simp [nk] at g <;> simp [enc] at z
  | .bool _, _, _, _, h, _, _ => by simp [nk] at h
  | .list _, _, _, _, h, _, _ => by simp [nk] at h
  | .dict _, _, _, _, h, _, _ => by simp [nk] at h
theorem encL_inj' : ∀ {ds es : List D} {u v : List Int}, (nks ds).isSome = true → (nks es).isSome = true → encL ds ++ u = encL es ++ v → ds = es ∧ u = v
  | [], [], u, v, _, _, z => by simpa [encL] using z
  | [], e :: es, u, v, _, _, z => by simp [encL] at z
  | d :: ds, [], u, v, _, _, z => by simp [encL] at z
  | d :: ds, e :: es, u, v, h, g, z => by
    have two : ∀ {d : D} {ds : List D}, (nks (d :: ds)).isSome = true → (nk d).isSome = true ∧ (nks ds).isSome = true := fun {d ds} h => by
      simp only [nks] at h
      cases e1 : nk d <;> cases e2 : nks ds <;> simp [e1, e2] at h ⊢
    obtain ⟨h1, h2⟩ := two h
    obtain ⟨g1, g2⟩ := two g
    simp only [encL, List.cons_append, List.cons.injEq, true_and, List.append_assoc] at z
    obtain ⟨e1, z2⟩ := enc_inj h1 g1 z
    obtain ⟨e2, z3⟩ := encL_inj' h2 g2 z2
    exact ⟨by rw [e1, e2], z3⟩
end
theorem enc_key {d e : D} (h : (nk d).isSome = true) (g : (nk e).isSome = true) (z : enc d = enc e) : d = e := (enc_inj (u := []) (v := []) h g (by rw [z])).1
section
variable {prog : Program} {w : World} {A : Around} {E : Value → Shared → Prop} {s : Shared}
end
end Fz
end

section
set_option Elab.async false
set_option linter.all false
set_option maxRecDepth 100000
set_option maxHeartbeats 4000000
/-! F60: sorted(set(xs)), len(set(xs)): rules, dens, weakest preconditions. -/
namespace Fz
open PySem PySem.Spec PyProof.Rows L2 SrtO Srt
section
variable {X : Cx} {F : Fx}
end
section
variable {X : Cx} {F : Fx} {a : Expr} {f : FS → Res D} {p p2 pos pos2 : Pos}
end
section
variable {S : FS} {Q : D → FS → Prop} {QV : SV → FS → Prop} {f : FS → Res D}
end
end Fz
end

section
set_option Elab.async false
set_option linter.all false
set_option maxRecDepth 100000
set_option maxHeartbeats 4000000
/-! F61: an own value of any kind as the last part of an assignment of several; a new own value handed to a call, dropped behind it. -/
namespace Fz
open PySem PySem.Spec PyProof.Rows L2
def fLastV (f : FS → Res SV) : FS → Res (List SV) := bnd f fun v => fC [v]
section
variable {X : Cx} {F : Fx} {e : Expr} {es : List Expr} {f : FS → Res SV} {pos p : Pos}
theorem av_last (ha : EV X F e f) (hs : starEach [e] X.env = (false, eval e X.env) :: starEach [] X.env := by rfl) : EAV X F [e] (fLastV f) :=
  (pa_cons ha pa_nil hs).via fun σ H Q h => (rdG.bind h).imp fun x H1 ⟨d, S1, r1, v1, p1, q1⟩ => q1.ok r1 (.cons v1 (fun _ _ _ _ i ob' h => by simp at h) .nil)
/-- arguments, the last one a value of its own -/
def TR (K : Fg) (F : Fx) (S : FS) (σ : Sl) (H : Hp) (xs : List V) (p : List AD × SV) : Prop := ∃ vs x, xs = vs ++ [x] ∧ AS K F S σ H vs p.1 ∧ VR K F S σ H x p.2
abbrev ETS (X : Cx) (F : Fx) (es : List Expr) (f : FS → Res (List AD × SV)) : Prop := PA X es (rdG X.K F TR f)
def fTL (f : FS → Res SV) : FS → Res (List AD × SV) := bnd f fun v => fC ([], v)
theorem ts_last (ha : EV X F e f) (hs : starEach [e] X.env = (false, eval e X.env) :: starEach [] X.env := by rfl) : ETS X F [e] (fTL f) :=
  (pa_cons ha pa_nil hs).via fun σ H Q h => (rdG.bind h).imp fun x H1 ⟨d, S1, r1, v1, p1, q1⟩ => q1.ok r1 ⟨[], x, rfl, .nil, v1⟩
end
def callT (den : Den) (as : List AD) (sv : SV) : FS → Res SV := fun S => if (slotsOf as).Nodup then (match sv with
  | .own ob => (match resolve S as with
    | some svs => (match den (svs ++ [.pin ob]) with
      | .ok ret svs' => (match back as svs' S with
        | some S' => .ok ret S'
        | none => .bad)
      | .exn e svs' => (match back as svs' S with
        | some S' => .exn e S'
        | none => .bad)
      | .bad => .bad)
    | none => .bad)
  | _ => .bad) else .bad
def fCallT (den : Den) (n : Nat) (f : FS → Res (List AD × SV)) : FS → Res SV := bnd f fun p => if p.1.length + 1 = n then callT den p.1 p.2 else fun _ => .bad
section
variable {K : Fg} {F : Fx} {S S' : FS} {σ : Sl} {H H' : Hp} {vs : List V} {as : List AD} {svs svs' : List SV} {a : Addr} {ob : Ob}
structure Fresh (F : Fx) (S : FS) (σ : Sl) (a : Addr) : Prop where
  h0 : F.H0 a = none
  sl : ∀ i, Owned S i → σ[i]? ≠ some (some (.ref a))
  hd : ∀ p ∈ F.held, p.1 ≠ a
theorem argsT_of (r : Rel K F S σ H) (v : Paired (ADR K H σ) vs as) (hn : (slotsOf as).Nodup) (e : resolve S as = some svs) (q : ObR K F.w H a ob) (fr : Fresh F S σ a) : ArgsR K F.w F.cl.clo H (vs ++ [.ref a]) (svs ++ [.pin ob]) := by
  obtain ⟨ar, pin⟩ := args_of r v hn e
  have l : vs.length = svs.length := ar.len
  have one : ∀ i, PinIx (svs ++ [.pin ob]) i → (PinIx svs i ∧ i < svs.length) ∨ i = svs.length := fun i ⟨o, h⟩ => by
    by_cases hi : i < svs.length
    · rw [List.getElem?_append_left hi] at h
      exact .inl ⟨⟨o, h⟩, hi⟩
    · have := (List.getElem?_eq_some_iff.mp h).1
      simp at this
      exact .inr (by omega)
  have slot : ∀ i b, PinIx svs i → vs[i]? = some (.ref b) → b ≠ a := fun i b hi hb z => by
    obtain ⟨j, a1, h1, h2, h3, h4⟩ := pin i hi
    rw [hb] at h2; cases h2
    exact fr.sl j h4 (z ▸ h3)
  have left : ∀ i, i < svs.length → (vs ++ [V.ref a])[i]? = vs[i]? := fun i hi => List.getElem?_append_left (by omega)
  have lastv : (vs ++ [V.ref a])[svs.length]? = some (.ref a) := by rw [← l]; simp
  refine ⟨by simp [l], fun i sv h => ?_, fun i j b ne hi hj e1 e2 => ?_⟩
  · by_cases hi : i < svs.length
    · rw [List.getElem?_append_left hi] at h
      rw [left i hi]
      exact ar.get i sv h
    · have hi2 := (List.getElem?_eq_some_iff.mp h).1
      simp at hi2
      have e3 : i = svs.length := by omega
      subst e3
      simp at h
      subst h
      exact ⟨_, lastv, a, rfl, q⟩
  · rcases one i hi with ⟨p1, l1⟩ | rfl
    · rcases one j hj with ⟨p2, l2⟩ | rfl
      · rw [left i l1] at e1
        rw [left j l2] at e2
        exact ar.apart i j b ne p1 p2 e1 e2
      · rw [left i l1] at e1
        rw [lastv] at e2
        cases e2
        exact slot i _ p1 e1 rfl
    · rcases one j hj with ⟨p2, l2⟩ | rfl
      · rw [left j l2] at e2
        rw [lastv] at e1
        cases e1
        exact slot j _ p2 e2 rfl
      · exact ne rfl
theorem rel_backT (r : Rel K F S σ H) (v : Paired (ADR K H σ) vs as) (hn : (slotsOf as).Nodup) (e : resolve S as = some svs) (fr : Fresh F S σ a) (hl : Left K F.w F.tabs (vs ++ [.ref a]) (svs ++ [.pin ob]) svs' H H') (hb : back as svs' S = some S') : Rel K F S' σ H' := by
  obtain ⟨ar, pin⟩ := args_of r v hn e
  obtain ⟨l, g⟩ := res_get e
  have lv : vs.length = svs.length := ar.len
  have pinad : ∀ b, PinAd (vs ++ [.ref a]) (svs ++ [.pin ob]) b → (∃ j, j ∈ slotsOf as ∧ σ[j]? = some (some (.ref b)) ∧ Owned S j) ∨ b = a := fun b ⟨i, ⟨o, hi⟩, h⟩ => by
    by_cases hi2 : i < svs.length
    · rw [List.getElem?_append_left hi2] at hi
      rw [List.getElem?_append_left (by omega)] at h
      obtain ⟨j, a1, h1, h2, h3, h4⟩ := pin i ⟨o, hi⟩
      rw [h] at h2; cases h2
      exact .inl ⟨j, slots_mem.mpr ⟨i, h1⟩, h3, h4⟩
    · have := (List.getElem?_eq_some_iff.mp hi).1
      simp at this
      have e3 : i = vs.length := by omega
      subst e3
      simp at h
      exact .inr h.symm
  have own : ∀ j, Owned S' j → Owned S j := fun j ⟨ob, h⟩ => by
    by_cases hj : j ∈ slotsOf as
    · obtain ⟨i, hi⟩ := slots_mem.mp hj
      obtain ⟨x, ex, hx⟩ := paired_get v hi
      have hi2 : i < svs.length := by rw [l]; exact (List.getElem?_eq_some_iff.mp hi).1
      rcases g i _ (List.getElem?_eq_getElem hi2) with ⟨d, z, _⟩ | ⟨j2, ob2, z, _, h3⟩
      · rw [hi] at z; cases z
      · rw [hi] at z; cases z; exact ⟨ob2, h3⟩
    · rw [back_out hb hj] at h; exact ⟨ob, h⟩
  have kept : ∀ j b, j ∉ slotsOf as → Owned S j → σ[j]? = some (some (.ref b)) → H' b = H b := fun j b hj oj eb => by
    have oj2 := oj
    obtain ⟨ob, h⟩ := oj
    obtain ⟨b2, eb2, q, _⟩ := r.obj h
    rw [eb] at eb2; cases eb2
    obtain ⟨u, eu, _, nt⟩ := q.there
    rw [eu]
    refine hl.keep b u eu (fun hp => ?_) nt
    rcases pinad b hp with ⟨j2, m2, e2, o2⟩ | rfl
    · exact r.apart j j2 b (fun z => hj (z ▸ m2)) ⟨ob, h⟩ o2 eb e2
    · exact fr.sl j oj2 eb
  have kpt : ∀ b o, F.H0 b = some o → b ∉ F.pins.map (·.2) → isTbl o = false → H' b = some o := fun b o ho hp ht => by
    have h1 := r.keep b o ho hp ht
    refine hl.keep b o h1 (fun hpa => ?_) ht
    rcases pinad b hpa with ⟨j, _, e2, ob, h2⟩ | rfl
    · obtain ⟨c, ec, _, q⟩ := r.obj h2
      rw [e2] at ec; cases ec
      rcases q with q | q
      · rw [ho] at q; cases q
      · exact hp q
    · rw [fr.h0] at ho; cases ho
  refine ⟨(back_length hb).trans r.len, fun j sv h => ?_, fun i j a ne hi hj => r.apart i j a ne (own i hi) (own j hj), kpt, fun b o ho => ?_, hl.tabs, F.cl.selfM hl.pers r.self, fun p hp => ?_⟩
  · by_cases hj : j ∈ slotsOf as
    · obtain ⟨i, hi⟩ := slots_mem.mp hj
      have hi2 : i < svs.length := by rw [l]; exact (List.getElem?_eq_some_iff.mp hi).1
      rcases g i _ (List.getElem?_eq_getElem hi2) with ⟨d, z, _⟩ | ⟨j2, ob2, z, ep, h3⟩
      · rw [hi] at z; cases z
      · rw [hi] at z; cases z
        obtain ⟨j3, b, q1, q2, q3, q4⟩ := pin i ⟨ob2, by rw [List.getElem?_eq_getElem hi2, ep]⟩
        rw [hi] at q1; cases q1
        obtain ⟨ob, h4, h5⟩ := back_in hb hn hi
        have ok := hl.args i ob b h4 (by rw [List.getElem?_append_left (by omega)]; exact q2)
        have hjl : j < S.length := by rcases h3 with z | z <;> exact (List.getElem?_eq_some_iff.mp z).1
        rw [h5] at h
        refine ⟨_, q3, ?_⟩
        unfold setOb at h
        rcases h3 with h3 | h3
        · rw [h3] at h
          simp only at h
          rw [List.getElem?_set_self hjl] at h
          cases h
          obtain ⟨x, ex, b, eb, _, n⟩ := r.slot j _ h3
          rw [q3] at ex; cases ex; cases eb
          exact ⟨_, rfl, ok, n⟩
        · rw [h3] at h
          simp only at h
          rw [List.getElem?_set_self hjl] at h
          cases h
          obtain ⟨x, ex, b, eb, _, n⟩ := r.slot j _ h3
          rw [q3] at ex; cases ex; cases eb
          exact ⟨_, rfl, ok, n⟩
    · rw [back_out hb hj] at h
      obtain ⟨x, ex, w⟩ := r.slot j sv h
      refine ⟨x, ex, ?_⟩
      cases sv with
      | d d => exact Pd.mono hl.pers w
      | own ob =>
        obtain ⟨b, rfl, q, n⟩ := w
        exact ⟨b, rfl, q.later hl.pers (kept j b hj ⟨ob, .inl h⟩ ex), n⟩
      | pin ob =>
        obtain ⟨b, rfl, q, n⟩ := w
        exact ⟨b, rfl, q.later hl.pers (kept j b hj ⟨ob, .inr h⟩ ex), n⟩
      | x e => exact SxR.later w hl.pers r.keep kpt
  · obtain ⟨u, hu⟩ := r.there b o ho
    exact hl.there b u hu
  · obtain ⟨⟨h1, em⟩, h2, h3⟩ := r.held p hp
    refine ⟨⟨hl.keep _ _ h1 (fun hpa => ?_) (mut_tbl em), em⟩, h2, fun i hi => h3 i (own i hi)⟩
    rcases pinad _ hpa with ⟨j, _, e2, oj⟩ | z
    · exact h3 j oj e2
    · exact fr.hd p hp z
theorem callT_in {den : Den} {n : Nat} {Q : VK} {x : V} {sv : SV} (r : Rel K F S σ H) (v : Paired (ADR K H σ) vs as) (hv : VR K F S σ H x sv) (hl : as.length + 1 = n) (p : postG K F VR (callT den as sv S) σ H Q) : spF K F.w F.cl.clo F.tabs n den (vs ++ [x]) H Q F.E := by
  unfold callT at p
  by_cases hn : (slotsOf as).Nodup
  · rw [if_pos hn] at p
    cases sv with
    | d d => exact p.elim
    | pin ob => exact p.elim
    | x e => exact p.elim
    | own ob =>
      obtain ⟨a, rfl, qo, f1, f2, f3⟩ := hv
      have fr : Fresh F S σ a := ⟨f1, f2, f3⟩
      simp only at p
      cases e : resolve S as with
      | none => rw [e] at p; exact p.elim
      | some svs =>
        rw [e] at p
        simp only at p
        have ar := argsT_of r v hn e qo fr
        refine ⟨svs ++ [.pin ob], by have := (res_get e).1; simp; omega, ar, r.tabs, ?_⟩
        cases e2 : den (svs ++ [.pin ob]) with
        | bad => rw [e2] at p; exact p
        | ok ret svs' =>
          rw [e2] at p
          simp only at p
          intro x H' lf rr
          cases e3 : back as svs' S with
          | none => rw [e3] at p; exact p.elim
          | some S' =>
            rw [e3] at p
            have r2 := rel_backT r v hn e fr lf e3
            exact p x H' lf.pers r2 (vr_back r r2 (own_back hn e e3) rr)
        | exn ex svs' =>
          rw [e2] at p
          simp only at p
          intro c dx H' lf rr
          cases e3 : back as svs' S with
          | none => rw [e3] at p; exact p.elim
          | some S' =>
            rw [e3] at p
            exact p c dx H' lf.pers (rel_backT r v hn e fr lf e3) rr
  · rw [if_neg hn] at p; exact p.elim
end
section
variable {X : Cx} {F : Fx} {e : Expr} {es : List Expr} {pos p : Pos}
theorem e_callT {den : Den} {k j n : Nat} {x : Str} {ps : List Str} {g : FS → Res (List AD × SV)} (G : Fn X.prog X.w X.K X.mg X.base F.tabs k x ps n den) (hr : RoomG j X.A) (hk : k ≤ j) (hg : Gl X x) (ha : ETS X F (e :: es) g)
    (hw : F.w = X.w := by rfl) (hcl : F.cl.clo = CloOk X.prog X.w X.K X.mg X.base F.tabs := by rfl) (hdb : (x == ("__debug__" : Str)) = false := by decide) (he : starEach (e :: es) X.env = (false, eval e X.env) :: starEach es X.env := by rfl) (hpl : (backTo pos (starEach es X.env)).any (·.1) = false := by rfl) :
    EV X F (.Call (.Name x p) (e :: es) [] pos) (fCallT den n g) := by
  obtain ⟨f, fd, F1, hm, kp, b⟩ := G.ex
  refine ⟨fun pins s σ H Q I h => wpAny_Call_Name_kw (ld_glob I hg hm ?_ hdb)⟩
  refine PySem.W.callWith_K (h₀ := X.base) I.ok.mod.kin kp (thn (ha.run pos pins s σ H _ I (rdG.bind h)) fun us s1 ⟨vs, H1, I1, rv, as, S1, r, ⟨vs1, x1, ev, v, hv⟩, p, q⟩ => ⟨I1.kIn, ?_⟩) he hpl
  subst ev
  split at q
  · rename_i hl
    have sp := callT_in r v hv hl q
    rw [hw, hcl] at sp
    have hn : us.length = ps.length := rv.length.symm.trans (F1.many _ _ _ _ sp)
    have bd := b s1 us I1.kIn (by rw [List.append_nil]; exact hn)
    rw [List.append_nil] at bd
    exact wpAny_call (run_g F1 (hr.mono hk) I1 bd rv sp)
  · exact q.elim
end
/-! ### weakest preconditions -/
def wTR : SV → (Ob → Prop) → Prop
  | .own ob, k => k ob
  | _, _ => False
@[simp] theorem wTR_own {ob : Ob} {k : Ob → Prop} : wTR (.own ob) k = k ob := rfl
section
variable {S : FS} {QV : SV → FS → Prop} {QS : List SV → FS → Prop} {QT : List AD × SV → FS → Prop}
@[simp] theorem wE_fLastV {f : FS → Res SV} : wE (fLastV f S) QS = wE (f S) fun v S1 => QS [v] S1 := wE_bnd
@[simp] theorem wE_fTL {f : FS → Res SV} : wE (fTL f S) QT = wE (f S) fun v S1 => QT ([], v) S1 := wE_bnd
@[simp] theorem wE_fCallT {den : Den} {n : Nat} {g : FS → Res (List AD × SV)} : wE (fCallT den n g S) QV = wE (g S) fun p S1 => p.1.length + 1 = n ∧ wE (callT den p.1 p.2 S1) QV := by
  unfold fCallT; rw [wE_bnd]; congr; funext p S1; split <;> simp [*]
theorem wE_callT {den : Den} {as : List AD} {sv : SV} : wE (callT den as sv S) QV = ((slotsOf as).Nodup ∧ wTR sv fun ob => wO (resolve S as) fun svs => wC (den (svs ++ [.pin ob])) fun ret svs' => wO (back as svs' S) fun S' => QV ret S') := by
  unfold callT
  by_cases h : (slotsOf as).Nodup
  · rw [if_pos h]
    cases sv with
    | d d => simp [wTR]
    | pin ob => simp [wTR]
    | x e => simp [wTR]
    | own ob =>
      simp only [wTR_own, h, true_and]
      cases resolve S as with
      | none => simp
      | some svs =>
        simp only [wO_some]
        cases den (svs ++ [.pin ob]) with
        | bad => simp [wC]
        | ok ret svs' => cases h3 : back as svs' S <;> simp [wC, h3]
        | exn e svs' => cases h3 : back as svs' S <;> simp [wC, h3]
  · rw [if_neg h]
    simp [h]
end
end Fz
end

section
set_option Elab.async false
set_option linter.all false
set_option maxRecDepth 100000
set_option maxHeartbeats 4000000
/-! F62: the order < of plain data (ints, texts, tuples of such, at any depth). -/
namespace Fz
open PySem PySem.Spec PyProof.Rows L2
noncomputable def pLtD (d e : D) : FS → Res D := fun S => match ltD d e with
  | some b => if SeqAt.shaped d = true ∧ SeqAt.shaped e = true then .ok (.bool b) S else .bad
  | none => .bad
section
variable {X : Cx} {F : Fx}
theorem op_ltD (hu : X.A.units + 70 < cLine) : OpF X F PR (compareOp .Lt) pLtD := by
  intro pins s σ0 H x y v u Q I rx ry ⟨S, σ, d, e, r, hx, hy, p⟩
  unfold pLtD at p
  cases h : ltD d e with
  | none => rw [h] at p; exact p.elim
  | some b =>
    rw [h] at p
    simp only at p
    by_cases ok : SeqAt.shaped d = true ∧ SeqAt.shaped e = true
    · rw [if_pos ok] at p
      obtain ⟨c1, d1⟩ := shaped_depth ok.1
      obtain ⟨c2, d2⟩ := shaped_depth ok.2
      obtain ⟨as, r1⟩ := Dp.reads I d x v hx.dp rx
      obtain ⟨bs, r2⟩ := Dp.reads I e y u hy.dp ry
      exact ltAt_reads d e X.A s v u as bs b r1 r2 c1 c2 (by omega) h X.prog X.w X.xe _ ⟨.bl _, H, I, rfl, p.ok r (Pd.bl _)⟩
    · rw [if_neg ok] at p; exact p.elim
end
section
variable {S : FS} {Q : D → FS → Prop}
theorem wE_pLtD {d e : D} : wE (pLtD d e S) Q = wO (ltD d e) fun b => (SeqAt.shaped d = true ∧ SeqAt.shaped e = true) ∧ Q (.bool b) S := by
  unfold pLtD
  cases ltD d e with
  | none => rfl
  | some b =>
    by_cases ok : SeqAt.shaped d = true ∧ SeqAt.shaped e = true
    · simp only [wO_some]; rw [if_pos ok]; simp [ok]
    · simp only [wO_some]; rw [if_neg ok]; simp only [wE_bad, ok, false_and]
@[simp] theorem wE_pLtD_i {i j : Int} : wE (pLtD (.int i) (.int j) S) Q = Q (.bool (decide (i < j))) S := by
  rw [wE_pLtD]
  have e : ∀ n : Int, SeqAt.shaped (PyData.int n) = true := fun n => rfl
  simp only [ltD, wO_some, e, and_self, true_and]
end
end Fz
end

section
set_option Elab.async false
set_option linter.all false
set_option maxRecDepth 100000
set_option maxHeartbeats 4000000
/-! F63: * and ** of ints of up to about a hundred million bits. -/
namespace Fz
open PySem PySem.Spec PyProof.Rows L2
def CMulX (i j : Int) : Prop := Builtin.Int.intBits i + Builtin.Int.intBits j ≤ 134217728
def CPowX (i j : Int) : Prop := 0 ≤ j ∧ (Builtin.Int.intBits i : Int) * j ≤ 2 ^ 27
noncomputable instance (i j : Int) : Decidable (CMulX i j) := Classical.propDecidable _
noncomputable instance (i j : Int) : Decidable (CPowX i j) := Classical.propDecidable _
noncomputable abbrev pMulX := pInt fun i j => if CMulX i j then some (i * j) else none
noncomputable abbrev pPowX := pInt fun i j => if CPowX i j then some (i ^ j.toNat) else none
section
variable {X : Cx} {F : Fx}
theorem op_mulX0 : OpR X (binaryOp .Mult) (rI CMulX fun i j => .int (i * j)) := opI fun _ _ _ _ _ _ _ hc q => mul_int q (IntMulOk.of_le (Nat.le_refl _) (Nat.le_refl _) hc)
theorem op_powX0 : OpR X (binaryOp .Pow) (rI CPowX fun i j => .int (i ^ j.toNat)) := opI fun _ _ _ _ _ _ _ hc q => pow_int hc.1 hc.2 q
theorem op_mulX : OpF X F PR (binaryOp .Mult) pMulX := op_intF op_mulX0
theorem op_powX : OpF X F PR (binaryOp .Pow) pPowX := op_intF op_powX0
end
section
variable {S : FS} {Q : D → FS → Prop} {d e : D}
@[simp] theorem wE_pMulX : wE (pMulX d e S) Q = wInt d fun i => wInt e fun j => CMulX i j ∧ Q (.int (i * j)) S := by
  cases d <;> cases e <;> simp [pMulX, pInt, wInt]
  rename_i i j
  by_cases h : CMulX i j <;> simp [h]
@[simp] theorem wE_pPowX : wE (pPowX d e S) Q = wInt d fun i => wInt e fun j => CPowX i j ∧ Q (.int (i ^ j.toNat)) S := by
  cases d <;> cases e <;> simp [pPowX, pInt, wInt]
  rename_i i j
  by_cases h : CPowX i j <;> simp [h]
end
theorem bits_le {i : Int} {k : Nat} (h : i.natAbs < 2 ^ k) : Builtin.Int.intBits i ≤ k := by
  unfold Builtin.Int.intBits
  split
  · omega
  · rename_i h0
    have h1 : i.natAbs ≠ 0 := by
      intro z
      apply h0
      first
        | exact z
        | (simp at z; simp [z])
    have := (Nat.log2_lt h1).mpr h
    omega
theorem mulX {i j : Int} {a b : Nat} (h : Builtin.Int.intBits i ≤ a) (g : Builtin.Int.intBits j ≤ b) (k : a + b ≤ 134217728) : CMulX i j := by unfold CMulX; omega
theorem powX {i : Int} {a : Nat} {n : Nat} (h : Builtin.Int.intBits i ≤ a) (k : a * n ≤ 134217728) : CPowX i (n : Int) := by
  refine ⟨by omega, ?_⟩
  have := Nat.mul_le_mul_right n h
  have e : ((Builtin.Int.intBits i : Nat) : Int) * (n : Int) = ((Builtin.Int.intBits i * n : Nat) : Int) := by simp
  rw [e]
  have : Builtin.Int.intBits i * n ≤ 134217728 := Nat.le_trans this k
  omega
end Fz
end

section
set_option Elab.async false
set_option linter.all false
set_option maxRecDepth 100000
set_option maxHeartbeats 4000000
/-! dens, new with k18 -/
namespace DL
open PySem L2 Fz
end DL
end

section
set_option Elab.async false
set_option linter.all false
set_option maxRecDepth 100000
set_option maxHeartbeats 4000000
/-! dens, new with k22 -/
namespace DL
open PySem L2 Fz
end DL
end

section
set_option Elab.async false
set_option linter.all false
set_option maxRecDepth 100000
set_option maxHeartbeats 4000000
/-! dens, new with k71 -/
namespace DL
open PySem L2 Fz
/-- slots: 0 well, 1 many, 2 found, 3 mixed -/
noncomputable def b__law_draw : FS → SRes :=
 fSeq (fIf (fT (fOp pGt (fOpN pIx 0 (fC (.int 0))) (fC (.int 0)))) (fSeq (fSetD 2 (fOp pMod (fCall (one pToInt) (fCons (fOpN pIx 0 (fC (.int 0))) (fC []))) (fPeek 1)))
        (fSeq (fSetIx 0 (fOp pDiv (fOpN pIx 0 (fC (.int 0))) (fPeek 1)) (fC (.int 0)))
        (fRetD (fVar 2)))) (fun S => .nx S))
        (fSeq (fSetIx 0 (fFrz (fOp pAdd (fOpN pIx 0 (fC (.int 2))) (fC (.int 1)))) (fC (.int 2)))
        (fSeq (fSetD 3 (fOp pMod (fCall (one pToInt) (fCons (fOp pPowX (fFrz (fOp pAdd (fFrz (fOp pAdd (fOpN pIx 0 (fC (.int 1))) (fOp pMulX (fC (.int 2654435761)) (fOpN pIx 0 (fC (.int 2)))))) (fOp pMulX (fOp pMulX (fC (.int 40503)) (fOpN pIx 0 (fC (.int 2)))) (fOpN pIx 0 (fC (.int 2)))))) (fC (.int 3))) (fC []))) (fC (.int 618970019642690137449562111))))
        (fSeq (fSetD 3 (fOp pMod (fCall (one pToInt) (fCons (fOp pPowX (fFrz (fOpN pAdd 3 (fC (.int 97)))) (fC (.int 5))) (fC []))) (fC (.int 170141183460469231731687303715884105727))))
        (fRetD (fOp pMod (fCall (one pToInt) (fCons (fOpN pDiv 3 (fC (.int 65536))) (fC []))) (fPeek 1))))))
@[irreducible] noncomputable def d__law_draw : Den := denOf 4 b__law_draw
/-- slots: 0 well, 1 k, 2 most, 3 at -/
noncomputable def b__law_word_2 : FS → SRes :=
 fRetD (fCall (one pTuple) (fCons (fFrz (fLc (fRange1 (fFrz (fCallP d__law_draw 2 (fAS 0 (fAD (fFrz (fOpN pAdd 2 (fC (.int 1)))) (fC [])))))) (gN 3) (fC true) (fFrz (fCallP d__law_draw 2 (fAS 0 (fAD (fVar 1) (fC []))))) [3])) (fC [])))
@[irreducible] noncomputable def d__law_word_2 : Den := denOf 4 b__law_word_2
/-- slots: 0 well, 1 system, 2 most, 3 road -/
noncomputable def b__law_stand : FS → SRes :=
 fRetD (fTup (fCons (fFrz (fCallP d__law_draw 2 (fAS 0 (fAD (fOpN pIx 1 (fC (.int 1))) (fC []))))) (fCons (fCall (one pTuple) (fCons (fFrz (fLc (fRange1 (fOpN pIx 1 (fC (.int 2)))) (gN 3) (fC true) (fFrz (fCallP d__law_word_2 3 (fAS 0 (fAD (fOpN pIx 1 (fC (.int 0))) (fAD (fVar 2) (fC [])))))) [3])) (fC []))) (fC []))))
@[irreducible] noncomputable def d__law_stand : Den := denOf 4 b__law_stand
/-- slots: 0 well, 1 two, 2 k, 3 roads, 4 rooms, 5 steps, 6 turn, 7 way, 8 road, 9 letter, 10 deed -/
noncomputable def b__law_system : FS → SRes :=
 fSeq (fPars [2, 3] (fConsV (fOp pAdd (fC (.int 1)) (fFrz (fCallP d__law_draw 2 (fAS 0 (fAD (fC (.int 2)) (fC [])))))) (fConsV (fV (fIte (fTru (fPeek 1)) (fC (.int 2)) (fC (.int 1)))) (fC []))))
        (fSeq (fPars [4, 5] (fConsV (fOp pAdd (fC (.int 1)) (fFrz (fCallP d__law_draw 2 (fAS 0 (fAD (fIte (fTru (fPeek 1)) (fC (.int 3)) (fC (.int 4))) (fC [])))))) (fLastV (fDNew))))
        (fSeq (fFor (fRange1 (fFrz (fOp pAdd (fC (.int 1)) (fFrz (fCallP d__law_draw 2 (fAS 0 (fAD (fIte (fTru (fPeek 1)) (fC (.int 5)) (fC (.int 8))) (fC [])))))))) (gN 6) (fSeq (fPars [7, 8, 9] (fConsV (fCallP d__law_draw 2 (fAS 0 (fAD (fC (.int 5)) (fC [])))) (fConsV (fCallP d__law_draw 2 (fAS 0 (fAD (fVar 3) (fC [])))) (fConsV (fCallP d__law_draw 2 (fAS 0 (fAD (fVar 2) (fC [])))) (fC [])))))
        (fSeq (fSetD 10 (fIte (fT (fOpN pEq 7 (fC (.int 0)))) (fTup (fCons (fC (.int 0)) (fC []))) (fTup (fCons (fFrz (fOp pAdd (fC (.int 1)) (fCall (one pToInt) (fCons (fOpN pGt 7 (fC (.int 2))) (fC []))))) (fCons (fVar 8) (fCons (fVar 9) (fC [])))))))
        (fDPut 5 (fC (.bool true)) (fTup (fCons (fFrz (fCallP d__law_draw 2 (fAS 0 (fAD (fVar 4) (fC []))))) (fCons (fVar 10) (fCons (fFrz (fCallP d__law_draw 2 (fAS 0 (fAD (fVar 4) (fC []))))) (fC [])))))))))
        (fRetD (fTup (fCons (fVar 2) (fCons (fVar 4) (fCons (fVar 3) (fCons (fCall (one pTuple) (fCons (fFrz (fSortDic 5)) (fC []))) (fC [])))))))))
@[irreducible] noncomputable def d__law_system : Den := denOf 11 b__law_system
/-- slots: 0 script, 1 place, 2 mixed, 3 one, 4 cell -/
noncomputable def b__law_well_2 : FS → SRes :=
 fSeq (fSet 2 (fOp pAdd (fC (.int 2862933555777941757)) (fOpN pMulX 1 (fC (.int 3202034522624059733)))))
        (fSeq (fFor (fItems (fFrz (fSlN 0 (fC none) (fPart (fC (.int 64)))))) (gN 3) (fSetD 2 (fOp pMod (fCall (one pToInt) (fCons (fFrz (fOp pAdd (fFrz (fOp pAdd (fOpN pMulX 2 (fC (.int 3935559000370003845))) (fOpN pMulX 3 (fC (.int 2691343689449507681))))) (fC (.int 1442695040888963407)))) (fC []))) (fC (.int 618970019642690137449562111)))))
        (fSeq (fSetD 4 (fIte (fT (fOpN pLt 1 (fCall (one pLen) (fCons (fPeek 0) (fC []))))) (fCall (one pToInt) (fCons (fOpN pIx 0 (fVar 1)) (fC []))) (fC (.int 0))))
        (fRet (fLst (fCons (fCall (two pMax2) (fCons (fC (.int 0)) (fCons (fOp pSub (fCall (one pAbs) (fCons (fPeek 4) (fC []))) (fOp pPowX (fC (.int 10)) (fC (.int 18)))) (fC [])))) (fCons (fVar 2) (fCons (fC (.int 0)) (fC []))))))))
@[irreducible] noncomputable def d__law_well_2 : Den := denOf 5 b__law_well_2
/-- slots: 0 system, 1 told, 2 word -/
noncomputable def b_are_words : FS → SRes :=
 fSeq (fIf (fOrT (fNotT (fTru (fIsi "tuple" (fPeek 1)))) (fT (fOp pNe (fCall (one pLen) (fCons (fPeek 1) (fC []))) (fOpN pIx 0 (fC (.int 2)))))) (fRetD (fC (.bool false))) (fun S => .nx S))
        (fRetD (fAny false (fItems (fVar 1)) (gN 2) (fC true) (fFrz (fCallP d_is_letters 2 (fAD (fOpN pIx 0 (fC (.int 0))) (fAD (fVar 2) (fC []))))) [2]))
@[irreducible] noncomputable def d_are_words : Den := denOf 3 b_are_words
/-- slots: 0 system, 1 value -/
noncomputable def b_is_stand_in : FS → SRes :=
 fSeq (fIf (fOrT (fNotT (fTru (fIsi "tuple" (fPeek 1)))) (fT (fOp pNe (fCall (one pLen) (fCons (fPeek 1) (fC []))) (fC (.int 2))))) (fRetD (fC (.bool false))) (fun S => .nx S))
        (fRetD (fAndV (fFrz (fCallP d_is_between 3 (fAD (fOpN pIx 1 (fC (.int 0))) (fAD (fC (.int 0)) (fAD (fOp pSub (fOpN pIx 0 (fC (.int 1))) (fC (.int 1))) (fC [])))))) (fFrz (fCallP d_are_words 2 (fAD (fVar 0) (fAD (fOpN pIx 1 (fC (.int 1))) (fC [])))))))
@[irreducible] noncomputable def d_is_stand_in : Den := denOf 2 b_is_stand_in
/-- slots: 0 some, 1 one, 2 other -/
noncomputable def b_is_ascending_2 : FS → SRes :=
 fRetD (fAny false (fZip (fVar 0) (fFrz (fSlN 0 (fPart (fC (.int 1))) (fC none)))) (gTp 2 (gCs (gN 1) (gCs (gN 2) (gNl)))) (fC true) (fOpN pLtD 1 (fPeek 2)) [1, 2])
@[irreducible] noncomputable def d_is_ascending_2 : Den := denOf 3 b_is_ascending_2
/-- slots: 0 k, 1 roads, 2 told -/
noncomputable def b_is_deed : FS → SRes :=
 fSeq (fIf (fOrT (fNotT (fTru (fIsi "tuple" (fPeek 2)))) (fOrT (fT (fOp pNotIn (fCall (one pLen) (fCons (fPeek 2) (fC []))) (fTup (fCons (fC (.int 1)) (fCons (fC (.int 3)) (fC [])))))) (fNotT (fTru (fFrz (fCallP d_is_between 3 (fAD (fOpN pIx 2 (fC (.int 0))) (fAD (fC (.int 0)) (fAD (fC (.int 2)) (fC [])))))))))) (fRetD (fC (.bool false))) (fun S => .nx S))
        (fSeq (fIf (fT (fOp pEq (fOpN pIx 2 (fC (.int 0))) (fC (.int 0)))) (fRetD (fOp pEq (fCall (one pLen) (fCons (fPeek 2) (fC []))) (fC (.int 1)))) (fun S => .nx S))
        (fRetD (fAndV (fOp pEq (fCall (one pLen) (fCons (fPeek 2) (fC []))) (fC (.int 3))) (fAndV (fFrz (fCallP d_is_between 3 (fAD (fOpN pIx 2 (fC (.int 1))) (fAD (fC (.int 0)) (fAD (fOpN pSub 1 (fC (.int 1))) (fC [])))))) (fFrz (fCallP d_is_between 3 (fAD (fOpN pIx 2 (fC (.int 2))) (fAD (fC (.int 0)) (fAD (fOpN pSub 0 (fC (.int 1))) (fC []))))))))))
@[irreducible] noncomputable def d_is_deed : Den := denOf 3 b_is_deed
/-- slots: 0 k, 1 rooms, 2 roads, 3 told -/
noncomputable def b_is_step : FS → SRes :=
 fSeq (fIf (fOrT (fNotT (fTru (fIsi "tuple" (fPeek 3)))) (fT (fOp pNe (fCall (one pLen) (fCons (fPeek 3) (fC []))) (fC (.int 3))))) (fRetD (fC (.bool false))) (fun S => .nx S))
        (fRetD (fAndV (fFrz (fCallP d_is_between 3 (fAD (fOpN pIx 3 (fC (.int 0))) (fAD (fC (.int 0)) (fAD (fOpN pSub 1 (fC (.int 1))) (fC [])))))) (fAndV (fFrz (fCallP d_is_between 3 (fAD (fOpN pIx 3 (fC (.int 2))) (fAD (fC (.int 0)) (fAD (fOpN pSub 1 (fC (.int 1))) (fC [])))))) (fFrz (fCallP d_is_deed 3 (fAD (fVar 0) (fAD (fVar 2) (fAD (fOpN pIx 3 (fC (.int 1))) (fC [])))))))))
@[irreducible] noncomputable def d_is_step : Den := denOf 4 b_is_step
end DL
end

section
set_option Elab.async false
set_option linter.all false
set_option maxRecDepth 100000
set_option maxHeartbeats 4000000
/-! S18: the wells of the laws k60 and up: draws; the shell. -/
namespace DL
open PySem L2 Fz
/-- a well with a count of at most c -/
def Wk (c : Nat) (o : Ob) : Prop := ∃ a b n : Int, o = .lst [.int a, .int b, .int n] ∧ 0 ≤ a ∧ 0 ≤ b ∧ b < (618970019642690137449562111 : Int) ∧ 0 ≤ n ∧ n ≤ c
theorem Wk.up {c d : Nat} {o : Ob} (h : Wk c o) (l : c ≤ d) : Wk d o := by
  obtain ⟨a, b, n, h1, h2, h3, h4, h5, h6⟩ := h
  exact ⟨a, b, n, h1, h2, h3, h4, h5, by omega⟩
theorem bits_lt {i : Int} {k : Nat} (h0 : 0 ≤ i) (h : i < 2 ^ k) : Builtin.Int.intBits i ≤ k := bits_le (by
  have e : ((i.natAbs : Nat) : Int) = i := by omega
  have e2 : (((2 : Nat) ^ k : Nat) : Int) = (2 : Int) ^ k := by simp
  omega)
theorem mulXs {i j : Int} (h0 : 0 ≤ i) (hi : i < 2 ^ 200) (g0 : 0 ≤ j) (hj : j < 2 ^ 200) : CMulX i j := mulX (a := 200) (b := 200) (bits_lt h0 hi) (bits_lt g0 hj) (by decide)
theorem draw_w {c : Nat} {o : Ob} {m : Int} (ho : Wk c o) (hc : c ≤ 1000000000) (hm : 0 < m) (hm2 : m ≤ 1000000) {Q : SV → List SV → Prop} (h : ∀ o' r, Wk (c + 1) o' → 0 ≤ r → r < m → Q (.d (.int r)) [.pin o', .d (.int m)]) : wC (d__law_draw [.pin o, .d (.int m)]) Q := by
  obtain ⟨a, b, n, rfl, ha, hb, hb2, hn0, hn1⟩ := ho
  unfold d__law_draw
  rw [wC_denOf]
  simp [b__law_draw]
  refine ⟨fun h1 => ⟨hm, divW hm (by omega), h _ _ ⟨a / m, b, n, rfl, Int.ediv_nonneg ha (by omega), hb, hb2, hn0, by omega⟩ (Int.emod_nonneg _ (by omega)) (Int.emod_lt_of_pos _ hm)⟩, fun h1 => ?_⟩
  have hn2 : n + 1 ≤ 1000000001 := by omega
  have hq : 40503 * (n + 1) * (n + 1) ≤ 40503 * 1000000001 * 1000000001 := Int.mul_le_mul (by omega) hn2 (by omega) (by omega)
  have hq0 : 0 ≤ 40503 * (n + 1) * (n + 1) := Int.mul_nonneg (by omega) (by omega)
  have p3 : CPowX (b + 2654435761 * (n + 1) + 40503 * (n + 1) * (n + 1)) 3 := powX (a := 200) (n := 3) (bits_lt (by omega) (by omega)) (by decide)
  refine ⟨mulXs (by omega) (by omega) (by omega) (by omega), mulXs (by omega) (by omega) (by omega) (by omega), mulXs (by omega) (by omega) (by omega) (by omega), p3, ?_⟩
  have hx := emodW (x := (b + 2654435761 * (n + 1) + 40503 * (n + 1) * (n + 1)) ^ 3) (m := (618970019642690137449562111 : Int)) (by decide)
  generalize (b + 2654435761 * (n + 1) + 40503 * (n + 1) * (n + 1)) ^ 3 % 618970019642690137449562111 = x at hx ⊢
  have p5 : CPowX (x + 97) 5 := powX (a := 200) (n := 5) (bits_lt (by omega) (by omega)) (by decide)
  refine ⟨p5, divW (by decide) (by decide), hm, h _ _ ⟨a, b, n + 1, rfl, ha, hb, hb2, by omega, by omega⟩ (Int.emod_nonneg _ (by omega)) (Int.emod_lt_of_pos _ hm)⟩
theorem well2_w {ns : List Int} {at_ : Int} (h0 : 0 ≤ at_) (h1 : at_ < 1000) (hl : ns.length ≤ 63) (hb : ∀ z ∈ ns, Builtin.Int.intBits z ≤ 1048576) {Q : SV → List SV → Prop} (h : ∀ o, Wk 0 o → Q (.own o) [.d (scriptD ns), .d (.int at_)]) : wC (d__law_well_2 [.d (scriptD ns), .d (.int at_)]) Q := by
  unfold d__law_well_2
  rw [wC_denOf]
  simp [b__law_well_2, scriptD]
  have hcut : ∀ {α : Type} (xs : List α), xs.length ≤ 63 → cutL xs none (some 64) = xs := fun xs hx => by
    rw [show (64 : Int) = ((64 : Nat) : Int) from rfl, cutL_take, List.take_of_length_le (by omega)]
  rw [hcut _ (by simpa using hl)]
  refine ⟨mulXs h0 (by omega) (by omega) (by omega), ?_⟩
  refine wS_forF (fun _ S => ∃ (v : Int) (c : Option SV), 0 ≤ v ∧ v < (618970019642690137449562111 : Int) ∧ S = [some (.d (.list (ns.map .int))), some (.d (.int at_)), some (.d (.int v)), c, none]) ?_ ?_ ?_
  · exact ⟨2862933555777941757 + at_ * 3202034522624059733, none, by omega, by omega, by simp⟩
  · rintro i d S hd ⟨v, c, hv, hv2, rfl⟩
    obtain ⟨z, hz, rfl⟩ := List.mem_map.mp (List.mem_of_getElem? hd)
    simp
    refine ⟨mulXs hv (by omega) (by omega) (by omega), mulX (a := 1048576) (b := 200) (hb z hz) (bits_lt (by omega) (by omega)) (by decide), ?_⟩
    exact emodW (by decide)
  · rintro S ⟨v, c, hv, hv2, rfl⟩
    simp
    have p18 : CPowX 10 18 := powX (a := 200) (n := 18) (bits_lt (by omega) (by omega)) (by decide)
    refine ⟨fun hlt => ?_, fun hge => ?_⟩
    · have e : ns[at_.toNat]? = some ns[at_.toNat] := List.getElem?_eq_getElem (by omega)
      rw [atI_int h0]
      simp [e]
      refine ⟨p18, h _ ⟨_, _, _, rfl, ?_, hv, hv2, by omega, by omega⟩⟩
      split <;> omega
    · exact ⟨p18, h _ ⟨_, _, _, rfl, by decide, hv, hv2, by omega, by omega⟩⟩
end DL
end

section
set_option Elab.async false
set_option linter.all false
set_option maxRecDepth 100000
set_option maxHeartbeats 4000000
/-! S19: systems and stands: what the program's dens promise. -/
namespace DL
open PySem L2 Fz
theorem is_between_w {x a b : Int} (h1 : a ≤ x) (h2 : x ≤ b) {Q : SV → List SV → Prop} (h : Q (.d (.bool true)) [.d (.int x), .d (.int a), .d (.int b)]) : wC (d_is_between [.d (.int x), .d (.int a), .d (.int b)]) Q := by
  unfold d_is_between
  rw [wC_denOf]
  simp [b_is_between, wE_callD]
  refine is_integer_w ?_
  have n1 : ¬ x < a := by omega
  simpa [h1, h2, n1] using h
theorem is_k_w {k : Int} (h1 : 1 ≤ k) (h3 : k ≤ 3) {Q : SV → List SV → Prop} (h : Q (.d (.bool true)) [.d (.int k)]) : wC (d_is_k [.d (.int k)]) Q := by
  unfold d_is_k
  rw [wC_denOf]
  simp [b_is_k, wE_callD]
  refine is_between_w h1 h3 ?_
  simpa using h
theorem is_deed_w {k roads : Int} {dl : List Int} (ok : DeedOk k roads dl) {Q : SV → List SV → Prop} (h : Q (.d (.bool true)) [.d (.int k), .d (.int roads), .d (W dl)]) : wC (d_is_deed [.d (.int k), .d (.int roads), .d (W dl)]) Q := by
  unfold d_is_deed
  rw [wC_denOf]
  have in1 : ∀ n : Int, inOk (.int n) (.tuple [.int 1, .int 3]) = some [.int 1, .int 3] := fun n => inOk_t rfl (by decide)
  rcases ok with rfl | ⟨s, r, l, rfl, hs, r0, r1, l0, l1⟩
  · simp [b_is_deed, wE_callD, in1, hasD]
    refine is_between_w (by omega) (by omega) ?_
    simp
    exact h
  · have s0 : ¬ s = 0 := by omega
    simp [b_is_deed, wE_callD, in1, hasD]
    refine is_between_w (by omega) (by omega) ?_
    simp [s0]
    refine is_between_w (by omega) (by omega) ?_
    simp
    refine is_between_w (by omega) (by omega) ?_
    simp
    exact h
abbrev Stp := Int × List Int × Int
def spD (s : Stp) : D := .tuple [.int s.1, W s.2.1, .int s.2.2]
def StpOk (k rooms roads : Int) (s : Stp) : Prop := (0 ≤ s.1 ∧ s.1 < rooms) ∧ DeedOk k roads s.2.1 ∧ 0 ≤ s.2.2 ∧ s.2.2 < rooms
theorem is_step_w {k rooms roads : Int} {s : Stp} (ok : StpOk k rooms roads s) {Q : SV → List SV → Prop} (h : Q (.d (.bool true)) [.d (.int k), .d (.int rooms), .d (.int roads), .d (spD s)]) : wC (d_is_step [.d (.int k), .d (.int rooms), .d (.int roads), .d (spD s)]) Q := by
  unfold d_is_step
  rw [wC_denOf]
  obtain ⟨⟨a0, a1⟩, hd, b0, b1⟩ := ok
  simp [b_is_step, wE_callD, spD]
  refine is_between_w (by omega) (by omega) ?_
  simp
  refine is_between_w (by omega) (by omega) ?_
  simp
  refine is_deed_w hd ?_
  simpa [spD] using h
def AscS (ss : List Stp) : Prop := ∀ (i : Nat) (a b : Stp), ss[i]? = some a → ss[i + 1]? = some b → ltD (spD a) (spD b) = some true
theorem smalSp {s : Stp} (h : s.2.1.length ≤ 10000000) {k : Nat} : Smal (k + 2) (spD s) := .tup (by simp) (.cons .int (.cons (smalW h) (.cons .int .nil)))
theorem deed_len {k roads : Int} {dl : List Int} (ok : DeedOk k roads dl) : dl.length ≤ 3 := by
  rcases ok with rfl | ⟨s, r, l, rfl, _⟩ <;> simp
theorem is_ascending_2_w {ss : List Stp} (ha : AscS ss) (hl : ∀ s ∈ ss, s.2.1.length ≤ 3) {Q : SV → List SV → Prop} (h : Q (.d (.bool true)) [.d (.tuple (ss.map spD))]) : wC (d_is_ascending_2 [.d (.tuple (ss.map spD))]) Q := by
  unfold d_is_ascending_2
  rw [wC_denOf]
  simp [b_is_ascending_2]
  refine wE_anyF (fun i S => S = [some (.d (.tuple (ss.map spD))), none, none]) rfl ?_ ?_
  · rintro i d S hd rfl
    obtain ⟨x, y, rfl, hx, hy⟩ := zipD_get hd
    rw [List.getElem?_map] at hx
    obtain ⟨a, ha1, rfl⟩ := Option.map_eq_some_iff.mp hx
    rw [List.getElem?_tail, List.getElem?_map] at hy
    obtain ⟨b, hb1, rfl⟩ := Option.map_eq_some_iff.mp hy
    have sa : ∀ s ∈ ss, SeqAt.shaped (spD s) = true := fun s hs => shaped_of_tup (k := 1) (.cons .int (.cons (smalW (by have := hl s hs; omega)) (.cons .int .nil))) (by omega)
    simp [wE_pLtD, ha i a b ha1 hb1, sa a (List.mem_of_getElem? ha1), sa b (List.mem_of_getElem? hb1)]
  · rintro S rfl
    simp
    exact h
/-- a system -/
structure Sy where
  k : Int
  rooms : Int
  roads : Int
  ss : List Stp
def Sy.d (y : Sy) : D := .tuple [.int y.k, .int y.rooms, .int y.roads, .tuple (y.ss.map spD)]
structure SyOk (y : Sy) : Prop where
  k1 : 1 ≤ y.k
  k3 : y.k ≤ 3
  m1 : 1 ≤ y.rooms
  m2 : y.rooms ≤ 100
  r1 : 1 ≤ y.roads
  r2 : y.roads ≤ 2
  st : ∀ s ∈ y.ss, StpOk y.k y.rooms y.roads s
  asc : AscS y.ss
  len : y.ss.length ≤ 100
/-- a stand -/
abbrev Sd := Int × Ws
def sdD (x : Sd) : D := .tuple [.int x.1, .tuple (LW x.2)]
def SdOk (y : Sy) (x : Sd) : Prop := (0 ≤ x.1 ∧ x.1 < y.rooms) ∧ (x.2.length : Int) = y.roads ∧ ∀ w ∈ x.2, IsW y.k w ∧ w.length ≤ 100
theorem is_stand_in_w {y : Sy} {x : Sd} (ok : SdOk y x) {Q : SV → List SV → Prop} (h : Q (.d (.bool true)) [.d y.d, .d (sdD x)]) : wC (d_is_stand_in [.d y.d, .d (sdD x)]) Q := by
  unfold d_is_stand_in
  rw [wC_denOf]
  obtain ⟨⟨a0, a1⟩, hl, hw⟩ := ok
  simp [b_is_stand_in, wE_callD, sdD, Sy.d]
  refine is_between_w (by omega) (by omega) ?_
  simp
  unfold d_are_words
  rw [wC_denOf]
  simp [b_are_words, wE_callD, LW, hl]
  refine any_w (fun _ => true) (fun S => ∃ c, S = [some (.d (.tuple [.int y.k, .int y.rooms, .int y.roads, .tuple (y.ss.map spD)])), some (.d (.tuple (x.2.map W))), c]) ⟨_, rfl⟩ ?_ ?_
  · rintro w hm S ⟨c, rfl⟩
    simp [wE_callD]
    refine is_letters_w (hw w hm).1 ?_
    simp
  · rintro S ⟨c, rfl⟩
    simp
    simpa [sdD, Sy.d, LW] using h
theorem cutL_last {α : Type} {xs : List α} : cutL xs (some (-1)) none = xs.drop (xs.length - 1) := by
  unfold cutL
  rw [HT.sIx_none]
  have : HT.sIx xs.length 0 (some (-1)) = xs.length - 1 := by
    show (if (-1 : Int) < 0 then ((-1 : Int) + (xs.length : Int)).toNat else min (-1 : Int).toNat xs.length) = _
    rw [if_pos (by decide)]
    omega
  rw [this, List.take_of_length_le (by simp)]
end DL
end

section
set_option Elab.async false
set_option linter.all false
set_option maxRecDepth 100000
set_option maxHeartbeats 4000000
/-! S20: systems and stands as the law looks at them: draws, losses, steps. -/
namespace DL
open PySem L2 Fz SrtO
end DL
end

section
set_option Elab.async false
set_option linter.all false
set_option maxRecDepth 100000
set_option maxHeartbeats 4000000
/-! S9: what repr asks of small data. -/
namespace DL
open PySem L2 Fz
structure ShowB (n : Nat) (d : D) : Prop where
  ok : d.showable = true
  nd : d.hasDict = false
  len : d.shown.length ≤ n
theorem ShowB.up {n m : Nat} {d : D} (h : ShowB n d) (l : n ≤ m) : ShowB m d := ⟨h.ok, h.nd, Nat.le_trans h.len l⟩
theorem join_len {c : Nat} : ∀ ts : List Str, (∀ t ∈ ts, t.length ≤ c) → (Str.join ", " ts).length ≤ (c + 2) * ts.length
  | [], _ => by rw [Str.join.eq_1]; exact Nat.zero_le _
  | [t], h => by rw [Str.join.eq_2]; have := h t (by simp); simp; omega
  | t :: u :: ts, h => by
    have a := join_len (u :: ts) (fun x hx => h x (List.mem_cons_of_mem _ hx))
    have b := h t (by simp)
    have e : (", " : Str).length = 2 := by decide
    rw [Str.join.eq_3 _ _ _ (by simp), Str.length_append, Str.length_append, e]
    rw [List.length_cons, Nat.mul_succ]
    omega
theorem showAll {n : Nat} : ∀ {ds : List D}, (∀ d ∈ ds, ShowB n d) → PyData.showableAll ds = true ∧ PyData.hasDictAll ds = false ∧ (PyData.shownAll ds).length = ds.length ∧ ∀ t ∈ PyData.shownAll ds, t.length ≤ n
  | [], _ => ⟨rfl, rfl, rfl, fun t ht => by simp [PyData.shownAll] at ht⟩
  | d :: ds, h => by
    obtain ⟨a, b, c, e⟩ := showAll (n := n) (ds := ds) fun x hx => h x (List.mem_cons_of_mem _ hx)
    have hd := h d (by simp)
    refine ⟨by simp only [PyData.showableAll, hd.ok, a]; rfl, by simp only [PyData.hasDictAll, hd.nd, b]; rfl, by simp only [PyData.shownAll, List.length_cons, c], fun t ht => ?_⟩
    simp only [PyData.shownAll] at ht
    rcases List.mem_cons.mp ht with rfl | q
    · exact hd.len
    · exact e t q
theorem ShowB.tup {n : Nat} {ds : List D} (h : ∀ d ∈ ds, ShowB n d) : ShowB ((n + 2) * ds.length + 3) (.tuple ds) := by
  obtain ⟨a, b, c, e⟩ := showAll h
  refine ⟨by simpa only [PyData.showable] using a, by simpa only [PyData.hasDict] using b, ?_⟩
  have j := join_len _ e
  rw [c] at j
  simp only [PyData.shown, tupleText]
  rw [Str.length_append, Str.length_append]
  have e1 : (Str.ofString "(").length = 1 := by decide
  have e2 : ∀ c : Bool, (Str.ofString (if c = true then ",)" else ")")).length ≤ 2 := by decide
  have := e2 ((PyData.shownAll ds).length == 1)
  rw [e1]
  omega
theorem ShowB.nat {i : Int} (h0 : 0 ≤ i) (h : i < 1000) : ShowB 3 (.int i) := by
  have key : ∀ j : Fin 1000, (PyData.showable (.int ((j : Nat) : Int)) = true ∧ PyData.hasDict (.int ((j : Nat) : Int)) = false ∧ (PyData.shown (.int ((j : Nat) : Int))).length ≤ 3) := by decide +kernel
  obtain ⟨j, rfl⟩ : ∃ j : Nat, i = (j : Int) := ⟨i.toNat, by omega⟩
  obtain ⟨a, b, c⟩ := key ⟨j, by omega⟩
  exact ⟨a, b, c⟩
theorem ShowB.W {w : List Int} (h : ∀ x ∈ w, 0 ≤ x ∧ x < 1000) : ShowB (5 * w.length + 3) (W w) := by
  have := ShowB.tup (n := 3) (ds := w.map .int) fun d hd => by
    obtain ⟨x, hx, rfl⟩ := List.mem_map.mp hd
    exact ShowB.nat (h x hx).1 (h x hx).2
  rw [List.length_map] at this
  exact this
theorem ShowB.showOk {n k : Nat} {d : D} (h : ShowB n d) (hn : n ≤ 16000000) (hs : Smal k d) (hk : k ≤ 60) : Fz.showOk d := ⟨h.ok, h.nd, Nat.le_trans h.len (szL hn), by have := hs.lay.2; omega⟩
end DL
end

section
set_option Elab.async false
set_option linter.all false
set_option maxRecDepth 100000
set_option maxHeartbeats 4000000
/-! S21: systems drawn; the law's own look at a step. -/
namespace DL
open PySem L2 Fz SrtO
/-! ### dicts that mark things told by keys -/
section
variable {α : Type} [DecidableEq α] (f : α → D)
structure KeyF : Prop where
  tk : ∀ a, (tk (f a)).isSome = true
  inj : ∀ a b, f a = f b → a = b
def KG (l : List α) : List (D × D) := l.map fun a => (f a, .bool true)
def addG (l : List α) (a : α) : List α := if a ∈ l then l else l ++ [a]
variable {f}
theorem KeyF.nk (K : KeyF f) (a : α) : (nk (f a)).isSome = true := by
  obtain ⟨k, h⟩ := Option.isSome_iff_exists.mp (K.tk a)
  rw [(tk_nk h).1]; rfl
theorem KeyF.iff (K : KeyF f) {a b : α} : Fz.nk (f a) = Fz.nk (f b) ↔ a = b := by
  constructor
  · intro h
    obtain ⟨k, hk⟩ := Option.isSome_iff_exists.mp (K.nk a)
    exact K.inj a b (nk_inj hk (h ▸ hk))
  · intro h; rw [h]
theorem kOk_KG (K : KeyF f) {l : List α} {a : α} : kOk (KG f l) (f a) = true := by
  unfold kOk KG
  have h1 : ((l.map fun a => (f a, PyData.bool true)).all fun p => (tk p.1).isSome) = true := List.all_eq_true.mpr fun q hq => by
    obtain ⟨p, _, rfl⟩ := List.mem_map.mp hq
    exact K.tk p
  rw [h1, K.tk]
  simp
theorem dHas_KG (K : KeyF f) {a : α} : ∀ {l : List α}, dHas (KG f l) (f a) = decide (a ∈ l)
  | [] => rfl
  | q :: l => by
    have ih := dHas_KG K (a := a) (l := l)
    unfold dHas dAt KG at ih ⊢
    by_cases h : q = a
    · subst h
      simp [List.find?_cons]
    · have h2 : ¬ a = q := fun z => h z.symm
      have h3 : ¬ nk (f q) = nk (f a) := fun z => h (K.iff.mp z)
      simp only [List.map_cons, List.find?_cons, h3, decide_false, List.mem_cons, h2, false_or]
      exact ih
theorem dPut_KG (K : KeyF f) {l : List α} {a : α} : dPut (KG f l) (f a) (.bool true) = KG f (addG l a) := by
  unfold dPut addG
  rw [dHas_KG K]
  by_cases h : a ∈ l
  · simp only [h, decide_true, if_true]
    unfold KG
    rw [List.map_map]
    refine List.map_congr_left fun q _ => ?_
    simp only [Function.comp, dPutF]
    split <;> rfl
  · simp only [h, decide_false, if_false]
    unfold KG
    simp
theorem addG_mem {l : List α} {a b : α} : b ∈ addG l a ↔ b ∈ l ∨ b = a := by
  unfold addG
  split
  · rename_i h
    constructor
    · exact .inl
    · rintro (h2 | rfl)
      · exact h2
      · exact h
  · simp
theorem addG_nodup {l : List α} {a : α} (h : l.Nodup) : (addG l a).Nodup := by
  unfold addG
  split
  · exact h
  · rename_i hn
    rw [List.nodup_append]
    exact ⟨h, List.nodup_cons.mpr ⟨List.not_mem_nil, .nil⟩, fun x hx y hy => by rw [List.mem_singleton.mp hy]; rintro rfl; exact hn hx⟩
theorem addG_len {l : List α} {a : α} : (addG l a).length ≤ l.length + 1 := by
  unfold addG; split <;> simp
theorem KG_keys {l : List α} : (KG f l).map (·.1) = l.map f := by
  unfold KG
  rw [List.map_map]
  rfl
@[simp] theorem KG_len {l : List α} : (KG f l).length = l.length := by simp [KG]
def sortF (f : α → D) (l : List α) : List α := sortG (fun a b => ltE (f a) (f b)) l
theorem ltF_swo {f : α → D} : Swo fun a b => ltE (f a) (f b) := lx_swo fun x => enc (f x)
theorem sortD_F {l : List α} : sortD (l.map f) = (sortF f l).map f := by
  rw [sortD_G]
  exact sortG_map f l
theorem sortF_mem {l : List α} {a : α} : a ∈ sortF f l ↔ a ∈ l := sortG_mem ltF_swo
theorem sortF_perm {l : List α} : (sortF f l).Perm l := (sortG_ok ltF_swo l).2.perm
/-- strictly ascending -/
theorem sortF_asc (K : KeyF f) (hp : ∀ a, plainD (f a) = true) (hs : ∀ a b, (ltD (f a) (f b)).isSome = true) {l : List α} (h : l.Nodup) : ∀ (i : Nat) (a b : α), (sortF f l)[i]? = some a → (sortF f l)[i + 1]? = some b → ltD (f a) (f b) = some true := by
  intro i a b ha hb
  have hsr := (sortG_ok (ltF_swo (f := f)) l).1
  have hnd : (sortF f l).Nodup := sortF_perm.nodup_iff.mpr h
  obtain ⟨hi, ea⟩ := List.getElem?_eq_some_iff.mp ha
  obtain ⟨hj, eb⟩ := List.getElem?_eq_some_iff.mp hb
  have h1 : ltE (f b) (f a) = false := by
    have := List.pairwise_iff_getElem.mp hsr i (i + 1) hi hj (by omega)
    have ea' : (sortG (fun a b => ltE (f a) (f b)) l)[i] = a := ea
    have eb' : (sortG (fun a b => ltE (f a) (f b)) l)[i + 1] = b := eb
    rw [ea', eb'] at this
    exact this
  have hne : a ≠ b := by
    have := List.pairwise_iff_getElem.mp hnd i (i + 1) hi hj (by omega)
    rw [ea, eb] at this
    exact this
  have h2 : ltE (f a) (f b) = true := by
    cases hx : ltE (f a) (f b) with
    | true => rfl
    | false => exact absurd (K.inj a b (enc_key (K.nk a) (K.nk b) (lx_tri hx h1))) hne
  obtain ⟨r, hr⟩ := Option.isSome_iff_exists.mp (hs a b)
  have := ltD_lx (hp a) (hp b) hr
  rw [hr, this]
  exact congrArg some h2
end
/-! ### steps as keys -/
theorem tk_spD (s : Stp) : (tk (spD s)).isSome = true := by
  have h3 : nk (spD s) = some (.tup [.num s.1, .tup (s.2.1.map .num), .num s.2.2]) := by
    unfold spD
    simp only [nk, nks, nk_W, Option.map_some]
  show (match nk (spD s) with | some k => if k.depth ≤ 8 then some k else none | none => none).isSome = true
  rw [h3]
  have : (NestedKey.tup [.num s.1, .tup (s.2.1.map .num), .num s.2.2]).depth ≤ 8 := by
    simp only [NestedKey.depth, NestedKey.depthAll, depthAll_ints]
    decide
  simp only [this, if_true, Option.isSome_some]
theorem spD_inj (a b : Stp) (h : spD a = spD b) : a = b := by
  obtain ⟨a1, a2, a3⟩ := a
  obtain ⟨b1, b2, b3⟩ := b
  unfold spD at h
  simp only [PyData.tuple.injEq, List.cons.injEq, PyData.int.injEq, and_true] at h
  obtain ⟨h1, h2, h3⟩ := h
  have h4 := eqW (x := a2) (y := b2)
  rw [h2, eqW] at h4
  have : a2 = b2 := by simpa using h4
  rw [h1, h3, this]
theorem keyF_sp : KeyF spD := ⟨tk_spD, spD_inj⟩
theorem plain_sp (s : Stp) : plainD (spD s) = true := by unfold spD; simp only [plainD, plainL, plain_W]; rfl
theorem ltD_sp (a b : Stp) : (ltD (spD a) (spD b)).isSome = true := by
  unfold spD
  simp only [ltD, ltL]
  split
  · split
    · split <;> rfl
    · exact ltD_W
  · rfl
theorem sortOk_sp {ss : List Stp} (h : ∀ s ∈ ss, s.2.1.length ≤ 3) : SortOk (ss.map spD) := by
  refine ⟨fun d hd => ?_, fun d hd e he => ?_⟩
  · obtain ⟨s, hs, rfl⟩ := List.mem_map.mp hd
    exact ⟨plain_sp s, shaped_of_tup (k := 1) (.cons .int (.cons (smalW (by have := h s hs; omega)) (.cons .int .nil))) (by omega)⟩
  · obtain ⟨w, hw, rfl⟩ := List.mem_map.mp hd
    obtain ⟨v, hv, rfl⟩ := List.mem_map.mp he
    exact ltD_sp w v
/-! ### what is drawn -/
theorem law_word2_w {c : Nat} {o : Ob} {k : Int} {most : Nat} (ho : Wk c o) (hc : c ≤ 900000000) (hk : 1 ≤ k) (hk2 : k ≤ 3) (hm2 : most ≤ 50) {Q : SV → List SV → Prop} (h : ∀ o' xs, Wk (c + most + 1) o' → IsW k xs → xs.length ≤ most → Q (.d (W xs)) [.pin o', .d (.int k), .d (.int (most : Int))]) : wC (d__law_word_2 [.pin o, .d (.int k), .d (.int (most : Int))]) Q := by
  unfold d__law_word_2
  rw [wC_denOf]
  simp [b__law_word_2, wE_callD]
  refine draw_w ho (by omega) (by omega) (by omega) ?_
  intro o1 n ho1 hn0 hn1
  simp
  refine ⟨by omega, ?_⟩
  rw [rng0]
  refine wE_lcF (fun i acc S => ∃ (o' : Ob) (xs : List Int) (c3 : Option SV), Wk (c + 1 + i) o' ∧ acc = xs.map .int ∧ IsW k xs ∧ xs.length = i ∧ i ≤ n.toNat ∧ S = [some (.pin o'), some (.d (.int k)), some (.d (.int (most : Int))), c3]) ⟨o1, [], none, by simpa using ho1, rfl, fun _ h => absurd h (by simp), rfl, by omega, rfl⟩ ?_ ?_
  · rintro i d acc S hd ⟨o', xs, c3, ho', rfl, hx, hl, hi, rfl⟩
    have hil := (List.getElem?_eq_some_iff.mp hd).1
    simp at hil
    simp [wE_callD]
    refine draw_w ho' (by omega) (by omega) (by omega) ?_
    intro o2 r ho2 r0 r1
    simp
    refine ⟨szS (by omega), o2, ?_, xs ++ [r], by simp, ?_, by simp; omega, by omega, rfl⟩
    · exact ho2.up (by omega)
    · intro x hx2
      rcases List.mem_append.mp hx2 with q | q
      · exact hx x q
      · rw [List.mem_singleton.mp q]; exact ⟨r0, r1⟩
  · rintro acc S ⟨o', xs, c3, ho', rfl, hx, hl, hi, rfl⟩
    simp
    simp at hl
    exact h o' xs (ho'.up (by simp; omega)) hx (by omega)
theorem law_stand_w {c : Nat} {o : Ob} {y : Sy} {most : Nat} (ho : Wk c o) (hc : c ≤ 800000000) (ok : SyOk y) (hm2 : most ≤ 50) {Q : SV → List SV → Prop} (h : ∀ o' x, Wk (c + 200) o' → SdOk y x → (∀ w ∈ x.2, w.length ≤ most) → Q (.d (sdD x)) [.pin o', .d y.d, .d (.int (most : Int))]) : wC (d__law_stand [.pin o, .d y.d, .d (.int (most : Int))]) Q := by
  unfold d__law_stand
  rw [wC_denOf]
  obtain ⟨k1, k3, m1, m2, r1, r2, st, asc, len⟩ := ok
  simp [b__law_stand, wE_callD, Sy.d]
  refine draw_w ho (by omega) (by omega) (by omega) ?_
  intro o1 room ho1 hr0 hr1
  simp
  refine ⟨by omega, ?_⟩
  rw [rng0]
  refine wE_lcF (fun i acc S => ∃ (o' : Ob) (ws : Ws) (c3 : Option SV), Wk (c + 1 + (most + 1) * i) o' ∧ acc = LW ws ∧ (∀ w ∈ ws, IsW y.k w ∧ w.length ≤ most) ∧ ws.length = i ∧ i ≤ y.roads.toNat ∧ S = [some (.pin o'), some (.d (.tuple [.int y.k, .int y.rooms, .int y.roads, .tuple (y.ss.map spD)])), some (.d (.int (most : Int))), c3]) ⟨o1, [], none, by simpa using ho1, rfl, fun _ h => absurd h (by simp), rfl, by omega, rfl⟩ ?_ ?_
  · rintro i d acc S hd ⟨o', ws, c3, ho', rfl, hx, hl, hi, rfl⟩
    have hil := (List.getElem?_eq_some_iff.mp hd).1
    simp at hil
    have hb : (most + 1) * i ≤ 51 * 2 := Nat.mul_le_mul (by omega) (by omega)
    simp [wE_callD]
    refine law_word2_w ho' (by omega) k1 k3 hm2 ?_
    intro o2 w ho2 hw hwl
    simp
    refine ⟨szS (by simp [LW]; omega), o2, ?_, ws ++ [w], by simp [LW], ?_, by simp; omega, by omega, rfl⟩
    · rw [Nat.mul_add, Nat.mul_one]; exact ho2.up (by omega)
    · intro v hv
      rcases List.mem_append.mp hv with q | q
      · exact hx v q
      · rw [List.mem_singleton.mp q]; exact ⟨hw, hwl⟩
  · rintro acc S ⟨o', ws, c3, ho', rfl, hx, hl, hi, rfl⟩
    simp at hl
    have hb : (most + 1) * y.roads.toNat ≤ 51 * 2 := Nat.mul_le_mul (by omega) (by omega)
    simp
    refine h o' (room, ws) (ho'.up ?_) ⟨⟨hr0, hr1⟩, ?_, fun w hw => ⟨(hx w hw).1, by have := (hx w hw).2; omega⟩⟩ fun w hw => (hx w hw).2
    · simp; omega
    · show ((ws.length : Nat) : Int) = y.roads
      omega
end DL
end

section
set_option Elab.async false
set_option linter.all false
set_option maxRecDepth 100000
set_option maxHeartbeats 4000000
/-! F64: the keys of an own dict walked; its slot is empty from there on (it is read for the last time). -/
namespace Fz
open PySem PySem.Spec PyProof.Rows L2
section
variable {P : Program} {w : World} {K : PySem.W.Frag} {tg : Expr} {a : Addr} {od : Obj} {u : HO} {es : Array DictEntry} {ep : Nat} {ks : List V}
end
section
variable {X : Cx} {F : Fx} {tg o : Expr} {i : Nat}
end
end Fz
end

section
set_option Elab.async false
set_option linter.all false
set_option maxRecDepth 100000
set_option maxHeartbeats 4000000
/-! F65: a, b, .. = a list. -/
namespace Fz
open PySem PySem.Spec PyProof.Rows L2
section
variable {X : Cx} {F : Fx} {pos : Pos}
end
end Fz
end

section
set_option Elab.async false
set_option linter.all false
set_option maxRecDepth 100000
set_option maxHeartbeats 4000000
/-! F66: any, all of a generator expression of two clauses: the turns. -/
namespace Fz
open PySem PySem.Spec PyProof.Rows L2 GenW
section
variable {Y : Cx} {F : Fx} {elt tg0 iter0 tg iter : Expr} {ifs0 ifs : List Expr} {scope : Scope} {pos : Pos} {g : D → FS → Option FS} {t : FS → Res Bool} {fe : FS → Res D} {ts vs : List Nat} {stop : Bool} {Q : Bool → Hp → Prop}
  {A : Around} {it : Addr} {fp : List Addr} {tn : Nat → Heap → Prop} {J : It} {H1 : Hp} {ds : List D} {σ : Sl} {pins : List (Addr × Obj)} {fs : List Frame}
end
end Fz
end

section
set_option Elab.async false
set_option linter.all false
set_option maxRecDepth 100000
set_option maxHeartbeats 4000000
/-! F67: any, all of a generator expression of two clauses: the outer turns. -/
namespace Fz
open PySem PySem.Spec PyProof.Rows L2 GenW
section
variable (stop : Bool) (g : D → FS → Option FS) (t : FS → Res Bool) (it1 : FS → Res (List D)) (g1 : D → FS → Option FS) (t1 : FS → Res Bool) (fe : FS → Res D) (vs vs1 : List Nat)
end
section
variable {Y : Cx} {F : Fx} {elt tg iter tg1 iter1 : Expr} {ifs ifs1 : List Expr} {scope : Scope} {pos : Pos} {g g1 : D → FS → Option FS} {t t1 : FS → Res Bool} {it1 : FS → Res (List D)} {fe : FS → Res D} {ts vs ts1 vs1 : List Nat} {stop : Bool} {Q : Bool → Hp → Prop}
  {A : Around} {it : Addr} {fp : List Addr} {tn : Nat → Heap → Prop} {J : It} {H1 : Hp} {ds : List D} {σ : Sl}
end
end Fz
end

section
set_option Elab.async false
set_option linter.all false
set_option maxRecDepth 100000
set_option maxHeartbeats 4000000
/-! F68: any, all of a generator expression of two clauses: the rule. -/
namespace Fz
open PySem PySem.Spec PyProof.Rows L2 GenW
section
variable {X : Cx} {F : Fx} {elt tg iter tg1 iter1 : Expr} {ifs ifs1 : List Expr} {scope : Scope} {own : List (Str × Nat)} {gpos : Pos} {it it1 : FS → Res (List D)} {g g1 : D → FS → Option FS} {t t1 : FS → Res Bool} {fe : FS → Res D} {ts ts1 vs1 : List Nat}
end
section
variable {X : Cx} {F : Fx} {elt tg iter tg1 iter1 : Expr} {ifs ifs1 : List Expr} {scope : Scope} {own : List (Str × Nat)} {gpos : Pos} {it it1 : FS → Res (List D)} {g g1 : D → FS → Option FS} {t t1 : FS → Res Bool} {fe : FS → Res D} {ts ts1 vs1 : List Nat}
end
end Fz
end

section
set_option Elab.async false
set_option linter.all false
set_option maxRecDepth 100000
set_option maxHeartbeats 4000000
/-! F69: several own values at once, the last but one a dict, the last a whole number. -/
namespace Fz
open PySem PySem.Spec PyProof.Rows L2
section
variable {X : Cx} {F : Fx} {e : Expr} {f : FS → Res SV}
end
end Fz
end

section
set_option Elab.async false
set_option linter.all false
set_option maxRecDepth 100000
set_option maxHeartbeats 4000000
/-! F70: functions that a frame makes: the object. -/
namespace Fz
open PySem PySem.Spec PyProof.Rows L2
section
variable {M : Model} {A : Around} {E : Value → Shared → Prop} {s : Shared} {env : Env} {c P : Addr} {ps : Array Value} {pos : Pos} {firstLine : Nat} {mg : Str → Option Value} {clos : List (Str × Addr)} {Q : Value → Shared → Prop}
end
section
variable {X : Cx} {F : Fx} {pins : List (Addr × Obj)} {σ : Sl} {S : FS} {H : Hp} {s : Shared}
end
end Fz
end

section
set_option Elab.async false
set_option linter.all false
set_option maxRecDepth 100000
set_option maxHeartbeats 4000000
/-! F71: the frame's cells and own objects, known to the letter for the time of a call. -/
namespace Fz
open PySem PySem.Spec PyProof.Rows L2
section
variable {H H' : Hp} {A : Lks} {b : Addr} {o : Obj}
end
section
variable {P : Program} {w : World} {H H' : Hp} {h h' : Heap} {A : Lks} {b : Addr}
end
/-! ### the locks of a running frame -/
end Fz
end

section
set_option Elab.async false
set_option linter.all false
set_option maxRecDepth 100000
set_option maxHeartbeats 4000000
/-! F72: a call that hands functions on. -/
namespace Fz
open PySem PySem.Spec PyProof.Rows L2
section
variable {X : Cx} {F : Fx} {e : Expr} {es : List Expr} {f : FS → Res D} {g : FS → Res (List AC)} {pos p : Pos} {i j : Nat}
end
/-! ### the call -/
section
variable {X : Cx} {F : Fx} {e : Expr} {es : List Expr} {pos p : Pos}
end
end Fz
end

section
set_option Elab.async false
set_option linter.all false
set_option maxRecDepth 100000
set_option maxHeartbeats 4000000
/-! F78: the frame of a function that a frame makes, with cells of its own over those that it caught. -/
namespace Fz
open PySem PySem.Spec PyProof.Rows L2
section
variable {M : Model} {A : Around} {E : Value → Shared → Prop} {s₀ s : Shared} {own : List (Str × Addr)} {cm : Str → Option Value} {env : Env}
end
section
variable {M : Model} {A : Around} {E : Value → Shared → Prop} {s : Shared}
end
section
variable {CX : CXT} {P : Program} {w : World} {K : Fg} {mg : Str → Option Value} {base : Heap} {N ps fr : List Str} {F : NdefX.NF} {f : Addr} {A : Around} {outer : List Env} {s s1 : Shared} {H : Hp} {E : XK} {us : List Value} {vs : List V} {ws : List (Option V)} {kf : Str → Option NameKind}
end
end Fz
end

section
set_option Elab.async false
set_option linter.all false
set_option maxRecDepth 100000
set_option maxHeartbeats 4000000
/-! F73: what a function that a frame makes answers. -/
namespace Fz
open PySem PySem.Spec PyProof.Rows L2
section
variable {prog : Program} {w : World} {A : Around} {R : Result → Shared → Prop} {s : Shared}
end
/-! ### cells: out of sight within the function, known to the letter outside -/
section
variable {C : Addr → Prop} {H H1 H2 : Hp} {b : Addr} {P : Program} {w : World} {h h' : Heap}
end
/-! ### the function's own frame -/
end Fz
end

section
set_option Elab.async false
set_option linter.all false
set_option maxRecDepth 100000
set_option maxHeartbeats 4000000
/-! F74: a def within a def; the call of a function of a slot; generator expressions within functions that a frame makes. -/
namespace Fz
open PySem PySem.Spec PyProof.Rows L2
section
variable {X : Cx} {F : Fx}
end
/-! ### readings -/
section
variable {S : FS} {f : FS → Res D} {Q : D → FS → Prop} {QA : List AC → FS → Prop} {N B C : FS → Prop} {R : SV → FS → Prop}
end
end Fz
end

section
set_option Elab.async false
set_option linter.all false
set_option maxRecDepth 100000
set_option maxHeartbeats 4000000
/-! F75: d.setdefault(k, x), xs.pop(), xs.pop(i); where functions stand in a text. -/
namespace Fz
open PySem PySem.Spec PyProof.Rows L2
section
variable {X : Cx} {pins : List (Addr × Obj)} {σ : L2.St} {H : Hp} {s : Shared} {a : Addr} {kvs : List (D × D)} {k v : D} {y z : V} {u r : Value} {A : Around} {E : Value → Shared → Prop}
end
section
variable {X : Cx} {F : Fx} {o e ke : Expr} {i : Nat} {pos apos cpos p1 : Pos} {f fe fk fx : FS → Res D}
end
/-! ### readings -/
section
variable {S : FS} {fk fx : FS → Res D} {Q : D → FS → Prop} {i : Nat}
end
/-! ### where functions stand in a text -/
end Fz
end

section
set_option Elab.async false
set_option linter.all false
set_option maxRecDepth 100000
set_option maxHeartbeats 4000000
/-! F76: the functions of a frame, told one by one. -/
namespace Fz
open PySem PySem.Spec PyProof.Rows L2
section
variable {X : Cx} {F : Fx}
end
end Fz
end

section
set_option Elab.async false
set_option linter.all false
set_option maxRecDepth 100000
set_option maxHeartbeats 4000000
/-! F77: len(d). -/
namespace PySem
open PyProof.Rows PySem.Spec
section
variable {prog : Program} {w : World} {A : Around} {E : Value → Shared → Prop} {s : Shared} {d : Addr} {es : Array DictEntry} {ep : Nat}
end
end PySem
namespace Fz
open PySem PySem.Spec PyProof.Rows L2
section
variable {X : Cx} {F : Fx}
variable {o : Expr} {i : Nat} {pos p : Pos}
end
section
variable {S : FS} {Q : D → FS → Prop} {i : Nat}
end
end Fz
end

section
set_option Elab.async false
set_option linter.all false
set_option maxRecDepth 100000
set_option maxHeartbeats 4000000
/-! F79: list(range(a, b)). -/
namespace Fz
open PySem PySem.Spec PyProof.Rows L2
section
variable {X : Cx} {F : Fx} {a b : Expr} {f g : FS → Res D} {p p2 pos pos2 : Pos}
end
end Fz
end

section
set_option Elab.async false
set_option linter.all false
set_option maxRecDepth 100000
set_option maxHeartbeats 4000000
/-! F80: for over a list that a slot owns, and that the body leaves alone. -/
namespace Fz
open PySem PySem.Spec PyProof.Rows L2
section
variable {K : Fg} {F : Fx} {S : FS} {σ : Sl} {H H' : Hp} {i : Nat} {a : Addr} {vs : List V} {ds : List D}
end
section
variable {X : Cx} {F : Fx} {pos : Pos}
end
end Fz
end

section
set_option Elab.async false
set_option linter.all false
set_option maxRecDepth 100000
set_option maxHeartbeats 4000000
/-! F81: repr of lists, tuples, None, bools, ints. -/
namespace Fz
open PySem PySem.Spec PyProof.Rows L2
noncomputable def pRepr2 (d : D) : FS → Res D := fun S => match d with
  | .list ds => if showOk (.list ds) then .ok (.str (PyData.shown (.list ds))) S else .bad
  | .tuple ds => if showOk (.tuple ds) then .ok (.str (PyData.shown (.tuple ds))) S else .bad
  | .none => .ok (.str "None") S
  | .bool b => .ok (.str (if b then "True" else "False")) S
  | .int i => if i.natAbs.log2 < 1920 then .ok (.str (toString i)) S else .bad
  | _ => .bad
section
variable {X : Cx} {F : Fx}
def rRepN : List V → Hp → VK → Prop := fun xs H Q => xs = [.non] ∧ Q (.str "None") H
def rRepB : List V → Hp → VK → Prop := fun xs H Q => ∃ b, xs = [.bl b] ∧ Q (.str (if b then "True" else "False")) H
def rRepI : List V → Hp → VK → Prop := fun xs H Q => ∃ i : Int, xs = [.int i] ∧ i.natAbs.log2 < 1920 ∧ Q (.str (toString i)) H
theorem cr_repN : CallR X (.builtin "repr") rRepN := by
  intro pins s σ H xs us Q I r h
  obtain ⟨rfl, q⟩ := h
  cases r with
  | cons rv t =>
    cases t
    cases rv
    exact PySem.P.repr_of_none ⟨.str _, H, I.tok _, ⟨_, rfl⟩, q⟩
theorem cr_repB : CallR X (.builtin "repr") rRepB := by
  intro pins s σ H xs us Q I r h
  obtain ⟨b, rfl, q⟩ := h
  cases r with
  | cons rv t =>
    cases t
    cases rv
    exact PySem.P.repr_of_bool ⟨.str _, H, I.tok _, ⟨_, rfl⟩, q⟩
theorem cr_repI : CallR X (.builtin "repr") rRepI := by
  intro pins s σ H xs us Q I r h
  obtain ⟨i, rfl, hz, q⟩ := h
  cases r with
  | cons rv t =>
    cases t
    obtain ⟨t, rfl⟩ := rv
    exact PySem.P.repr_of_int hz ⟨.str _, H, I.tok _, ⟨_, rfl⟩, q⟩
theorem c_repr2 {k : Nat} (hr : RoomG k X.A) : CallF X F PR (.builtin "repr") (one pRepr2) := callF_one fun d => by
  cases d with
  | list ds =>
    by_cases h : showOk (.list ds)
    · exact .inl ⟨_, cr_reprD hr, fun S σ H x Q r hx p => by
        simp only [pRepr2, if_pos h] at p
        obtain ⟨a, vs, rfl, _, _⟩ := hx.list
        exact ⟨a, _, rfl, hx.dp, h, p.ok r (.str _)⟩⟩
    · exact .inr fun _ => by simp only [pRepr2, if_neg h]
  | tuple ds =>
    by_cases h : showOk (.tuple ds)
    · exact .inl ⟨_, cr_reprD hr, fun S σ H x Q r hx p => by
        simp only [pRepr2, if_pos h] at p
        obtain ⟨a, vs, rfl, _, _⟩ := hx.tuple
        exact ⟨a, _, rfl, hx.dp, h, p.ok r (.str _)⟩⟩
    · exact .inr fun _ => by simp only [pRepr2, if_neg h]
  | none => exact .inl ⟨_, cr_repN, fun S σ H x Q r hx p => by
      simp only [pRepr2] at p
      obtain rfl := hx.non
      exact ⟨rfl, p.ok r (.str _)⟩⟩
  | bool b => exact .inl ⟨_, cr_repB, fun S σ H x Q r hx p => by
      simp only [pRepr2] at p
      obtain rfl := hx.bl
      exact ⟨b, rfl, p.ok r (.str _)⟩⟩
  | int i =>
    by_cases h : i.natAbs.log2 < 1920
    · exact .inl ⟨_, cr_repI, fun S σ H x Q r hx p => by
        simp only [pRepr2, if_pos h] at p
        obtain rfl := hx.int
        exact ⟨i, rfl, h, p.ok r (.str _)⟩⟩
    · exact .inr fun _ => by simp only [pRepr2, if_neg h]
  | _ => exact .inr fun _ => rfl
end
section
variable {S : FS} {Q : D → FS → Prop}
@[simp] theorem wE_pRepr2_l {ds : List D} : wE (pRepr2 (.list ds) S) Q = (showOk (.list ds) ∧ Q (.str (PyData.shown (.list ds))) S) := by
  unfold pRepr2; simp only; split <;> simp [*]
@[simp] theorem wE_pRepr2_t {ds : List D} : wE (pRepr2 (.tuple ds) S) Q = (showOk (.tuple ds) ∧ Q (.str (PyData.shown (.tuple ds))) S) := by
  unfold pRepr2; simp only; split <;> simp [*]
@[simp] theorem wE_pRepr2_n : wE (pRepr2 .none S) Q = Q (.str "None") S := rfl
@[simp] theorem wE_pRepr2_b {b : Bool} : wE (pRepr2 (.bool b) S) Q = Q (.str (if b then "True" else "False")) S := rfl
@[simp] theorem wE_pRepr2_i {i : Int} : wE (pRepr2 (.int i) S) Q = (i.natAbs.log2 < 1920 ∧ Q (.str (toString i)) S) := by
  unfold pRepr2; simp only; split <;> simp [*]
end
end Fz
end

section
set_option Elab.async false
set_option linter.all false
set_option maxRecDepth 100000
set_option maxHeartbeats 4000000
/-! F82: str of an int; isinstance of a slot that holds data or an empty dict. -/
namespace Fz
open PySem PySem.Spec PyProof.Rows L2
noncomputable def pStrI (d : D) : FS → Res D := fun S => match d with
  | .int i => if i.natAbs.log2 < 1920 then .ok (.str (toString i)) S else .bad
  | _ => .bad
section
variable {X : Cx} {F : Fx}
theorem c_strI : CallF X F PR (.type "str") (one pStrI) := callF_one fun d => by
  cases d with
  | int i =>
    by_cases h : i.natAbs.log2 < 1920
    · exact .inl ⟨_, call_str_int, fun S σ H x Q r hx p => by
        simp only [pStrI, if_pos h] at p
        obtain rfl := hx.int
        exact ⟨i, rfl, h, p.ok r (.str _)⟩⟩
    · exact .inr fun _ => by simp only [pStrI, if_neg h]
  | _ => exact .inr fun _ => rfl
end
section
variable {S : FS} {Q : D → FS → Prop}
@[simp] theorem wE_pStrI {i : Int} : wE (pStrI (.int i) S) Q = (i.natAbs.log2 < 1920 ∧ Q (.str (toString i)) S) := by
  unfold pStrI; simp only; split <;> simp [*]
end
def fIsiO (T : String) (i : Nat) : FS → Res D := fun S => match S[i]? with
  | some (some (.d d)) => .ok (.bool (isT (dTyp d) T)) S
  | some (some (.pin (.dic []))) => .ok (.bool (isT "dict" T)) S
  | _ => .bad
section
variable {S : FS} {Q : D → FS → Prop} {T : String} {i : Nat}
end
section
variable {X : Cx} {F : Fx} {o : Expr} {i : Nat} {pos p : Pos}
theorem e_isiO {T : String} {x : Str} {q : Pos} (hg : Gl X "isinstance") (hm : X.mg "isinstance" = none) (hv : bootBuiltins "isinstance" = some (.builtin "isinstance")) (he : PE X o (tVar i))
    (hg2 : Gl X x) (hm2 : X.mg x = none) (hv2 : bootBuiltins x = some (.type T)) (hn2 : x ≠ "__name__" := by decide) (hdb2 : (x == ("__debug__" : Str)) = false := by decide) (hT : T ∈ ["int", "bool", "str", "tuple", "list", "dict"] := by decide)
    (hs : starEach [o, .Name x q] X.env = (false, eval o X.env) :: starEach [.Name x q] X.env := by rfl) (hs2 : starEach [.Name x q] X.env = (false, eval (.Name x q) X.env) :: starEach [] X.env := by rfl) (hpl : (backTo pos (starEach [.Name x q] X.env)).any (·.1) = false := by rfl) :
    ED X F (.Call (.Name "isinstance" p) [o, .Name x q] [] pos) (fIsiO T i) :=
  (pe_callB call_isi hg hm hv (pa_cons he (pa_cons (pe_bltn (v := .ty T) hg2 hm2 hv2 rfl hn2 hdb2) pa_nil hs2) hs) (by decide) (by decide) hs hpl).via fun σ H Q ⟨S, r, p⟩ => by
    unfold fIsiO at p
    split at p
    · rename_i d hd
      obtain ⟨x, ex, v⟩ := r.slot i _ hd
      have v' : Qd X.K H x d := Or.inl v
      exact ⟨x, ex, _, _, _, _, _, rfl, .ty T, v'.ty, kit_all d T hT, p.ok r (Pd.bl _)⟩
    · rename_i hd
      have e : dicRd S i = some [] := by unfold dicRd; rw [hd]
      obtain ⟨a, ea, g⟩ := r.dicV e
      have ty : TyX X.K H (.ref a) (.type "dict") := by
        rcases g with ⟨raw, h, _⟩ | ⟨_, n, _⟩
        · rcases h with h | ⟨ob, h⟩
          · exact .base (.dK h)
          · exact .fDict h
        · exact absurd rfl n
      exact ⟨_, ea, _, _, _, _, _, rfl, .ty T, ty, kit_all (.dict []) T hT, p.ok r (Pd.bl _)⟩
    · exact p.elim
end
end Fz
end

section
set_option Elab.async false
set_option linter.all false
set_option maxRecDepth 100000
set_option maxHeartbeats 4000000
/-! dens, new with k02 -/
namespace DL
open PySem L2 Fz
end DL
end

section
set_option Elab.async false
set_option linter.all false
set_option maxRecDepth 100000
set_option maxHeartbeats 4000000
/-! dens, new with k20 -/
namespace DL
open PySem L2 Fz
end DL
end

section
set_option Elab.async false
set_option linter.all false
set_option maxRecDepth 100000
set_option maxHeartbeats 4000000
/-! dens, new with k06 -/
namespace DL
open PySem L2 Fz
end DL
end

section
set_option Elab.async false
set_option linter.all false
set_option maxRecDepth 100000
set_option maxHeartbeats 4000000
/-! dens, new with k08 -/
namespace DL
open PySem L2 Fz
end DL
end

section
set_option Elab.async false
set_option linter.all false
set_option maxRecDepth 100000
set_option maxHeartbeats 4000000
/-! dens, new with k09 -/
namespace DL
open PySem L2 Fz
end DL
end

section
set_option Elab.async false
set_option linter.all false
set_option maxRecDepth 100000
set_option maxHeartbeats 4000000
/-! dens, new with k11 -/
namespace DL
open PySem L2 Fz
end DL
end

section
set_option Elab.async false
set_option linter.all false
set_option maxRecDepth 100000
set_option maxHeartbeats 4000000
/-! dens, new with k12 -/
namespace DL
open PySem L2 Fz
end DL
end

section
set_option Elab.async false
set_option linter.all false
set_option maxRecDepth 100000
set_option maxHeartbeats 4000000
/-! dens, new with k13 -/
namespace DL
open PySem L2 Fz
end DL
end

section
set_option Elab.async false
set_option linter.all false
set_option maxRecDepth 100000
set_option maxHeartbeats 4000000
/-! dens, new with k07 -/
namespace DL
open PySem L2 Fz
end DL
end

section
set_option Elab.async false
set_option linter.all false
set_option maxRecDepth 100000
set_option maxHeartbeats 4000000
/-! dens, new with k98 -/
namespace DL
open PySem L2 Fz
end DL
end

section
set_option Elab.async false
set_option linter.all false
set_option maxRecDepth 100000
set_option maxHeartbeats 4000000
/-! dens, new with k24 -/
namespace DL
open PySem L2 Fz
end DL
end

section
set_option Elab.async false
set_option linter.all false
set_option maxRecDepth 100000
set_option maxHeartbeats 4000000
/-! dens, new with k26 -/
namespace DL
open PySem L2 Fz
end DL
end

section
set_option Elab.async false
set_option linter.all false
set_option maxRecDepth 100000
set_option maxHeartbeats 4000000
/-! dens, new with k28 -/
namespace DL
open PySem L2 Fz
end DL
end

section
set_option Elab.async false
set_option linter.all false
set_option maxRecDepth 100000
set_option maxHeartbeats 4000000
/-! dens, new with k32 -/
namespace DL
open PySem L2 Fz
end DL
end

section
set_option Elab.async false
set_option linter.all false
set_option maxRecDepth 100000
set_option maxHeartbeats 4000000
/-! dens, new with k31 -/
namespace DL
open PySem L2 Fz
end DL
end

section
set_option Elab.async false
set_option linter.all false
set_option maxRecDepth 100000
set_option maxHeartbeats 4000000
/-! dens, new with k70 -/
namespace DL
open PySem L2 Fz
/-- slots: 0 well, 1 system, 2 k, 3 rooms, 4 roads, 5 steps, 6 step, 7 odd, 8 bad, 9 deed, 10 one -/
noncomputable def b__law_bent_4 : FS → SRes :=
 fSeq (fAsg (gTp 4 (gCs (gN 2) (gCs (gN 3) (gCs (gN 4) (gCs (gN 5) (gNl)))))) (fVar 1))
        (fSeq (fSetD 6 (fOpN pIx 5 (fFrz (fCallP d__law_draw 2 (fAS 0 (fAD (fCall (one pLen) (fCons (fPeek 5) (fC []))) (fC [])))))))
        (fSeq (fSet 7 (fLst (fCons (fC .none) (fCons (fTup (fC [])) (fCons (fFrz (fCall (one pList) (fCons (fPeek 1) (fC [])))) (fCons (fFrz (fSlN 1 (fC none) (fPart (fC (.int 3))))) (fCons (fFrz (fOpN pAdd 1 (fTup (fCons (fC (.int 0)) (fC []))))) (fCons (fTup (fCons (fC (.int 0)) (fCons (fVar 3) (fCons (fVar 4) (fCons (fVar 5) (fC [])))))) (fCons (fTup (fCons (fC (.int 4)) (fCons (fVar 3) (fCons (fVar 4) (fCons (fVar 5) (fC [])))))) (fCons (fTup (fCons (fC (.bool true)) (fCons (fVar 3) (fCons (fVar 4) (fCons (fVar 5) (fC [])))))) (fC [])))))))))))
        (fSeq (fSet 7 (fOpN pAdd 7 (fFrz (fLst (fCons (fTup (fCons (fVar 2) (fCons (fC (.int 0)) (fCons (fVar 4) (fCons (fTup (fC [])) (fC [])))))) (fCons (fTup (fCons (fVar 2) (fCons (fC (.bool true)) (fCons (fVar 4) (fCons (fTup (fC [])) (fC [])))))) (fCons (fTup (fCons (fVar 2) (fCons (fVar 3) (fCons (fC (.int 0)) (fCons (fTup (fC [])) (fC [])))))) (fCons (fTup (fCons (fVar 2) (fCons (fVar 3) (fCons (fC (.int 3)) (fCons (fVar 5) (fC [])))))) (fCons (fTup (fCons (fVar 2) (fCons (fCall (one pStrI) (fCons (fPeek 3) (fC []))) (fCons (fVar 4) (fCons (fTup (fC [])) (fC [])))))) (fCons (fTup (fCons (fVar 2) (fCons (fVar 3) (fCons (fC (.bool true)) (fCons (fTup (fC [])) (fC [])))))) (fC [])))))))))))
        (fSeq (fSet 7 (fOpN pAdd 7 (fFrz (fLst (fCons (fTup (fCons (fVar 2) (fCons (fVar 3) (fCons (fVar 4) (fCons (fFrz (fCall (one pList) (fCons (fPeek 5) (fC [])))) (fC [])))))) (fCons (fTup (fCons (fVar 2) (fCons (fVar 3) (fCons (fVar 4) (fCons (fFrz (fOpN pAdd 5 (fFrz (fSlN 5 (fPart (bnd (fC (.int 1)) pNeg)) (fC none))))) (fC [])))))) (fCons (fTup (fCons (fVar 2) (fCons (fVar 3) (fCons (fVar 4) (fCons (fFrz (fRev (fPeek 5))) (fC [])))))) (fCons (fTup (fCons (fVar 2) (fCons (fVar 3) (fCons (fVar 4) (fCons (fC .none) (fC [])))))) (fC [])))))))))
        (fSeq (fSet 8 (fLst (fCons (fC .none) (fCons (fFrz (fSlN 6 (fC none) (fPart (fC (.int 2))))) (fCons (fFrz (fOpN pAdd 6 (fTup (fCons (fC (.int 0)) (fC []))))) (fCons (fFrz (fCall (one pList) (fCons (fPeek 6) (fC [])))) (fCons (fFrz (fOp pAdd (fTup (fCons (fVar 3) (fC []))) (fFrz (fSlN 6 (fPart (fC (.int 1))) (fC none))))) (fCons (fFrz (fOp pAdd (fTup (fCons (bnd (fC (.int 1)) pNeg) (fC []))) (fFrz (fSlN 6 (fPart (fC (.int 1))) (fC none))))) (fCons (fFrz (fOp pAdd (fFrz (fSlN 6 (fC none) (fPart (fC (.int 2))))) (fTup (fCons (fVar 3) (fC []))))) (fCons (fFrz (fOp pAdd (fTup (fCons (fC (.bool true)) (fC []))) (fFrz (fSlN 6 (fPart (fC (.int 1))) (fC none))))) (fC [])))))))))))
        (fSeq (fSet 8 (fOpN pAdd 8 (fFrz (fLc (fItems (fFrz (fLst (fCons (fTup (fC [])) (fCons (fTup (fCons (fC (.int 0)) (fCons (fC (.int 0)) (fC [])))) (fCons (fTup (fCons (fC (.int 0)) (fCons (fC (.int 0)) (fCons (fC (.int 0)) (fC []))))) (fCons (fTup (fCons (fC (.int 1)) (fC []))) (fCons (fTup (fCons (fC (.int 1)) (fCons (fC (.int 0)) (fC [])))) (fCons (fTup (fCons (fC (.int 3)) (fCons (fC (.int 0)) (fCons (fC (.int 0)) (fC []))))) (fCons (fTup (fCons (fC (.int 1)) (fCons (fVar 4) (fCons (fC (.int 0)) (fC []))))) (fCons (fTup (fCons (fC (.int 2)) (fCons (fC (.int 0)) (fCons (fVar 2) (fC []))))) (fCons (fTup (fCons (fC (.int 1)) (fCons (fC (.int 0)) (fCons (fC (.bool true)) (fC []))))) (fCons (fFrz (fLst (fCons (fC (.int 0)) (fC [])))) (fCons (fC (.int 0)) (fC []))))))))))))))) (gN 9) (fC true) (fTup (fCons (fOpN pIx 6 (fC (.int 0))) (fCons (fVar 9) (fCons (fOpN pIx 6 (fC (.int 2))) (fC []))))) [9]))))
        (fSeq (fSet 8 (fOpN pAdd 8 (fFrz (fLc (fItems (fFrz (fLst (fCons (fTup (fCons (fC (.bool false)) (fC []))) (fCons (fTup (fCons (fC (.int 2)) (fCons (bnd (fC (.int 1)) pNeg) (fCons (fC (.int 0)) (fC []))))) (fCons (fTup (fCons (fC (.int 1)) (fCons (fC (.int 0)) (fCons (fC (.int 0)) (fCons (fC (.int 0)) (fC [])))))) (fCons (fTup (fCons (fC (.int 1)) (fCons (fC .none) (fCons (fC (.int 0)) (fC []))))) (fCons (fTup (fCons (fC (.str "1")) (fCons (fC (.int 0)) (fCons (fC (.int 0)) (fC []))))) (fC []))))))))) (gN 9) (fC true) (fTup (fCons (fOpN pIx 6 (fC (.int 0))) (fCons (fVar 9) (fCons (fOpN pIx 6 (fC (.int 2))) (fC []))))) [9]))))
        (fSeq (fSet 7 (fOpN pAdd 7 (fFrz (fLc (fItems (fVar 8)) (gN 10) (fC true) (fTup (fCons (fVar 2) (fCons (fVar 3) (fCons (fVar 4) (fCons (fTup (fCons (fVar 10) (fC []))) (fC [])))))) [10]))))
        (fRetD (fOpN pIx 7 (fFrz (fCallP d__law_draw 2 (fAS 0 (fAD (fCall (one pLen) (fCons (fPeek 7) (fC []))) (fC [])))))))))))))))
@[irreducible] noncomputable def d__law_bent_4 : Den := denOf 11 b__law_bent_4
/-- slots: 0 well, 1 system, 2 stand, 3 room, 4 words, 5 odd, 6 one -/
noncomputable def b__law_bent_stand : FS → SRes :=
 fSeq (fAsg (gTp 2 (gCs (gN 3) (gCs (gN 4) (gNl)))) (fVar 2))
        (fSeq (fSet 5 (fLst (fCons (fC .none) (fCons (fTup (fC [])) (fCons (fFrz (fCall (one pList) (fCons (fPeek 2) (fC [])))) (fCons (fFrz (fOpN pAdd 2 (fTup (fCons (fC (.int 0)) (fC []))))) (fCons (fFrz (fSlN 2 (fC none) (fPart (fC (.int 1))))) (fCons (fTup (fCons (fOpN pIx 1 (fC (.int 1))) (fCons (fVar 4) (fC [])))) (fCons (fTup (fCons (bnd (fC (.int 1)) pNeg) (fCons (fVar 4) (fC [])))) (fCons (fTup (fCons (fC (.bool true)) (fCons (fVar 4) (fC [])))) (fCons (fTup (fCons (fCall (one pStrI) (fCons (fPeek 3) (fC []))) (fCons (fVar 4) (fC [])))) (fCons (fTup (fCons (fVar 3) (fCons (fFrz (fCall (one pList) (fCons (fPeek 4) (fC [])))) (fC [])))) (fC [])))))))))))))
        (fSeq (fSet 5 (fOpN pAdd 5 (fFrz (fLst (fCons (fTup (fCons (fVar 3) (fCons (fFrz (fOpN pAdd 4 (fTup (fCons (fTup (fC [])) (fC []))))) (fC [])))) (fCons (fTup (fCons (fVar 3) (fCons (fFrz (fSlN 4 (fPart (fC (.int 1))) (fC none))) (fC [])))) (fCons (fTup (fCons (fVar 3) (fCons (fOpN pIx 4 (fC (.int 0))) (fC [])))) (fCons (fTup (fCons (fVar 3) (fCons (fC .none) (fC [])))) (fCons (fTup (fCons (fVar 4) (fCons (fVar 3) (fC [])))) (fC []))))))))))
        (fSeq (fSet 5 (fOpN pAdd 5 (fFrz (fLc (fItems (fFrz (fLst (fCons (fC .none) (fCons (fFrz (fLst (fCons (fC (.int 0)) (fC [])))) (fCons (fTup (fCons (fOpN pIx 1 (fC (.int 0))) (fC []))) (fCons (fTup (fCons (bnd (fC (.int 1)) pNeg) (fC []))) (fCons (fTup (fCons (fC (.bool true)) (fC []))) (fCons (fTup (fCons (fC (.str "0")) (fC []))) (fCons (fC (.str "0")) (fCons (fC (.int 0)) (fCons (fTup (fCons (fTup (fCons (fC (.int 0)) (fC []))) (fC []))) (fCons (fTup (fCons (fC (.int 0)) (fCons (fC .none) (fC [])))) (fC [])))))))))))))) (gN 6) (fC true) (fTup (fCons (fVar 3) (fCons (fFrz (fOp pAdd (fTup (fCons (fVar 6) (fC []))) (fFrz (fSlN 4 (fPart (fC (.int 1))) (fC none))))) (fC [])))) [6]))))
        (fRetD (fOpN pIx 5 (fFrz (fCallP d__law_draw 2 (fAS 0 (fAD (fCall (one pLen) (fCons (fPeek 5) (fC []))) (fC []))))))))))
@[irreducible] noncomputable def d__law_bent_stand : Den := denOf 7 b__law_bent_stand
/-- slots: 0 value, 1 low, 2 high -/
noncomputable def b__law_whole : FS → SRes :=
 fRetD (fAndV (fIsi "int" (fPeek 0)) (fAndV (fNotV (fIsi "bool" (fPeek 0))) (fChain pLe pLe (fVar 1) (fVar 0) (fPeek 2))))
@[irreducible] noncomputable def d__law_whole : Den := denOf 3 b__law_whole
/-- slots: 0 system, 1 value, 2 word, 3 letter -/
noncomputable def b__law_is_stand : FS → SRes :=
 fSeq (fIf (fOrT (fNotT (fTru (fIsi "tuple" (fPeek 1)))) (fOrT (fT (fOp pNe (fCall (one pLen) (fCons (fPeek 1) (fC []))) (fC (.int 2)))) (fNotT (fTru (fFrz (fCallP d__law_whole 3 (fAD (fOpN pIx 1 (fC (.int 0))) (fAD (fC (.int 0)) (fAD (fOp pSub (fOpN pIx 0 (fC (.int 1))) (fC (.int 1))) (fC [])))))))))) (fRetD (fC (.bool false))) (fun S => .nx S))
        (fSeq (fIf (fOrT (fNotT (fTru (fIsi "tuple" (fOpN pIx 1 (fC (.int 1)))))) (fOrT (fT (fOp pNe (fCall (one pLen) (fCons (fOpN pIx 1 (fC (.int 1))) (fC []))) (fOpN pIx 0 (fC (.int 2))))) (fNotT (fTru (fCall (one pAll) (fCons (fFrz (fLc (fItems (fOpN pIx 1 (fC (.int 1)))) (gN 2) (fC true) (fIsi "tuple" (fPeek 2)) [2])) (fC []))))))) (fRetD (fC (.bool false))) (fun S => .nx S))
        (fRetD (fCall (one pAll) (fCons (fFrz (fLc (fItems (fOpN pIx 1 (fC (.int 1)))) (gN 2) (fC true) (fCall (one pAll) (fCons (fFrz (fLc (fItems (fVar 2)) (gN 3) (fC true) (fFrz (fCallP d__law_whole 3 (fAD (fVar 3) (fAD (fC (.int 0)) (fAD (fOp pSub (fOpN pIx 0 (fC (.int 0))) (fC (.int 1))) (fC [])))))) [3])) (fC []))) [2])) (fC [])))))
@[irreducible] noncomputable def d__law_is_stand : Den := denOf 4 b__law_is_stand
/-- slots: 0 k, 1 rooms, 2 roads, 3 step, 4 deed -/
noncomputable def b__law_is_step : FS → SRes :=
 fSeq (fIf (fOrT (fNotT (fTru (fIsi "tuple" (fPeek 3)))) (fOrT (fT (fOp pNe (fCall (one pLen) (fCons (fPeek 3) (fC []))) (fC (.int 3)))) (fNotT (fTru (fIsi "tuple" (fOpN pIx 3 (fC (.int 1)))))))) (fRetD (fC (.bool false))) (fun S => .nx S))
        (fSeq (fSetD 4 (fOpN pIx 3 (fC (.int 1))))
        (fSeq (fIf (fOrT (fNotT (fTru (fFrz (fCallP d__law_whole 3 (fAD (fOpN pIx 3 (fC (.int 0))) (fAD (fC (.int 0)) (fAD (fOpN pSub 1 (fC (.int 1))) (fC [])))))))) (fOrT (fNotT (fTru (fFrz (fCallP d__law_whole 3 (fAD (fOpN pIx 3 (fC (.int 2))) (fAD (fC (.int 0)) (fAD (fOpN pSub 1 (fC (.int 1))) (fC [])))))))) (fT (fOp pNotIn (fCall (one pLen) (fCons (fPeek 4) (fC []))) (fTup (fCons (fC (.int 1)) (fCons (fC (.int 3)) (fC [])))))))) (fRetD (fC (.bool false))) (fun S => .nx S))
        (fSeq (fIf (fT (fOp pEq (fCall (one pLen) (fCons (fPeek 4) (fC []))) (fC (.int 1)))) (fRet (fCallP d__law_whole 3 (fAD (fOpN pIx 4 (fC (.int 0))) (fAD (fC (.int 0)) (fAD (fC (.int 0)) (fC [])))))) (fun S => .nx S))
        (fRetD (fAndV (fFrz (fCallP d__law_whole 3 (fAD (fOpN pIx 4 (fC (.int 0))) (fAD (fC (.int 1)) (fAD (fC (.int 2)) (fC [])))))) (fAndV (fFrz (fCallP d__law_whole 3 (fAD (fOpN pIx 4 (fC (.int 1))) (fAD (fC (.int 0)) (fAD (fOpN pSub 2 (fC (.int 1))) (fC [])))))) (fFrz (fCallP d__law_whole 3 (fAD (fOpN pIx 4 (fC (.int 2))) (fAD (fC (.int 0)) (fAD (fOpN pSub 0 (fC (.int 1))) (fC []))))))))))))
@[irreducible] noncomputable def d__law_is_step : Den := denOf 5 b__law_is_step
/-- slots: 0 value, 1 k, 2 rooms, 3 roads, 4 steps, 5 step, 6 one, 7 other -/
noncomputable def b__law_is_system : FS → SRes :=
 fSeq (fIf (fOrT (fNotT (fTru (fIsi "tuple" (fPeek 0)))) (fOrT (fT (fOp pNe (fCall (one pLen) (fCons (fPeek 0) (fC []))) (fC (.int 4)))) (fNotT (fTru (fIsi "tuple" (fOpN pIx 0 (fC (.int 3)))))))) (fRetD (fC (.bool false))) (fun S => .nx S))
        (fSeq (fAsg (gTp 4 (gCs (gN 1) (gCs (gN 2) (gCs (gN 3) (gCs (gN 4) (gNl)))))) (fVar 0))
        (fSeq (fIf (fOrT (fNotT (fTru (fFrz (fCallP d__law_whole 3 (fAD (fVar 1) (fAD (fC (.int 1)) (fAD (fC (.int 3)) (fC [])))))))) (fOrT (fNotT (fTru (fFrz (fCallP d__law_whole 3 (fAD (fVar 2) (fAD (fC (.int 1)) (fAD (fOp pPow (fC (.int 10)) (fC (.int 9))) (fC [])))))))) (fNotT (fTru (fFrz (fCallP d__law_whole 3 (fAD (fVar 3) (fAD (fC (.int 1)) (fAD (fC (.int 2)) (fC [])))))))))) (fRetD (fC (.bool false))) (fun S => .nx S))
        (fSeq (fIf (fNotT (fTru (fCall (one pAll) (fCons (fFrz (fLc (fItems (fVar 4)) (gN 5) (fC true) (fFrz (fCallP d__law_is_step 4 (fAD (fVar 1) (fAD (fVar 2) (fAD (fVar 3) (fAD (fVar 5) (fC []))))))) [5])) (fC []))))) (fRetD (fC (.bool false))) (fun S => .nx S))
        (fRetD (fCall (one pAll) (fCons (fFrz (fLc (fZip (fVar 4) (fFrz (fSlN 4 (fPart (fC (.int 1))) (fC none)))) (gTp 2 (gCs (gN 6) (gCs (gN 7) (gNl)))) (fC true) (fOpN pLtD 6 (fPeek 7)) [6, 7])) (fC [])))))))
@[irreducible] noncomputable def d__law_is_system : Den := denOf 8 b__law_is_system
/-- slots: 0 value, 1 steps, 2 k, 3 roads, 4 rooms, 5 step -/
noncomputable def b_is_system_2 : FS → SRes :=
 fSeq (fIf (fOrT (fNotT (fTru (fIsiO "tuple" 0))) (fT (fOp pNe (fCall (one pLen) (fCons (fPeek 0) (fC []))) (fC (.int 4))))) (fRetD (fC (.bool false))) (fun S => .nx S))
        (fSeq (fAsg (gTp 4 (gCs (gN 2) (gCs (gN 4) (gCs (gN 3) (gCs (gN 1) (gNl)))))) (fVar 0))
        (fSeq (fIf (fOrT (fNotT (fTru (fFrz (fCallP d_is_k 1 (fAD (fVar 2) (fC [])))))) (fOrT (fNotT (fTru (fFrz (fCallP d_is_integer 1 (fAD (fVar 4) (fC [])))))) (fOrT (fT (fOpN pLt 4 (fC (.int 1)))) (fNotT (fTru (fFrz (fCallP d_is_between 3 (fAD (fVar 3) (fAD (fC (.int 1)) (fAD (fC (.int 2)) (fC []))))))))))) (fRetD (fC (.bool false))) (fun S => .nx S))
        (fSeq (fIf (fOrT (fNotT (fTru (fIsi "tuple" (fPeek 1)))) (fNotT (fTru (fAny false (fItems (fVar 1)) (gN 5) (fC true) (fFrz (fCallP d_is_step 4 (fAD (fVar 2) (fAD (fVar 4) (fAD (fVar 3) (fAD (fVar 5) (fC []))))))) [5])))) (fRetD (fC (.bool false))) (fun S => .nx S))
        (fRet (fCallP d_is_ascending_2 1 (fAD (fVar 1) (fC [])))))))
@[irreducible] noncomputable def d_is_system_2 : Den := denOf 6 b_is_system_2
/-- slots: 0 system -/
noncomputable def b_check_system_2 : FS → SRes :=
 fIf (fNotT (fTru (fFrz (fCallP d_is_system_2 1 (fAD (fVar 0) (fC [])))))) (fun _ => .bad) (fun S => .nx S)
@[irreducible] noncomputable def d_check_system_2 : Den := denOf 1 b_check_system_2
/-- slots: 0 system, 1 value -/
noncomputable def b_is_stand : FS → SRes :=
 fSeq (fDrop (fCallP d_check_system_2 1 (fAD (fVar 0) (fC []))))
        (fRet (fCallP d_is_stand_in 2 (fAD (fVar 0) (fAD (fVar 1) (fC [])))))
@[irreducible] noncomputable def d_is_stand : Den := denOf 2 b_is_stand
/-- slots: 0 script, 1 place, 2 well, 3 turn, 4 system, 5 stand, 6 kept, 7 step, 8 bent, 9 odd -/
noncomputable def b_law70 : FS → SRes :=
 fSeq (fFor (fRange1 (fCall (two pMax2) (fCons (fC (.int 1)) (fCons (fCall (two pMin2) (fCons (fC (.int 3)) (fCons (fCall (one pLen) (fCons (fPeek 0) (fC []))) (fC [])))) (fC []))))) (gN 1) (fSeq (fSet 2 (fCallP d__law_well_2 2 (fAD (fVar 0) (fAD (fVar 1) (fC [])))))
        (fFor (fRange1 (fC (.int 4))) (gN 3) (fSeq (fSet 4 (fCallP d__law_system 2 (fAS 2 (fAD (fOp pEq (fOp pMod (fCall (one pToInt) (fCons (fPeek 3) (fC []))) (fC (.int 2))) (fC (.int 1))) (fC [])))))
        (fSeq (fPars [5, 6] (fConsV (fCallP d__law_stand 3 (fAS 2 (fAD (fVar 4) (fAD (fC (.int 4)) (fC []))))) (fConsV (fV (fCall (one pRepr2) (fCons (fPeek 4) (fC [])))) (fC []))))
        (fSeq (fIf (fNotT (fTru (fFrz (fCallP (d__law_same 24) 2 (fAD (fFrz (fLst (fCons (fFrz (fCallP d_is_system_2 1 (fAD (fVar 4) (fC [])))) (fCons (fFrz (fCallK d_is_system_2 1 0 1 [0] (fC []) (fAD (fVar 4) (fC [])))) (fCons (fFrz (fCallP d_is_stand 2 (fAD (fVar 4) (fAD (fVar 5) (fC []))))) (fCons (fFrz (fCallK d_is_stand 2 0 2 [1, 0] (fC []) (fAD (fVar 5) (fAD (fVar 4) (fC []))))) (fC []))))))) (fAD (fFrz (fOp pMulS (fFrz (fLst (fCons (fC (.bool true)) (fC [])))) (fC (.int 4)))) (fC []))))))) (fRetD (fC (.bool false))) (fun S => .nx S))
        (fSeq (fFor (fRange1 (fC (.int 3))) (gN 7) (fSeq (fPars [8, 9] (fConsV (fCallP d__law_bent_4 2 (fAS 2 (fAD (fVar 4) (fC [])))) (fConsV (fCallP d__law_bent_stand 3 (fAS 2 (fAD (fVar 4) (fAD (fVar 5) (fC []))))) (fC []))))
        (fIf (fNotT (fTru (fFrz (fCallP (d__law_same 24) 2 (fAD (fFrz (fLst (fCons (fFrz (fCallP d_is_system_2 1 (fAD (fVar 8) (fC [])))) (fCons (fFrz (fCallP d_is_stand 2 (fAD (fVar 4) (fAD (fVar 9) (fC []))))) (fC []))))) (fAD (fFrz (fLst (fCons (fFrz (fCallP d__law_is_system 1 (fAD (fVar 8) (fC [])))) (fCons (fFrz (fCallP d__law_is_stand 2 (fAD (fVar 4) (fAD (fVar 9) (fC []))))) (fC []))))) (fC []))))))) (fRetD (fC (.bool false))) (fun S => .nx S))))
        (fIf (fT (fOp pNe (fCall (one pRepr2) (fCons (fPeek 4) (fC []))) (fPeek 6))) (fRetD (fC (.bool false))) (fun S => .nx S)))))))))
        (fRet (fCallP (d__law_same 24) 2 (fAD (fFrz (fLst (fCons (fFrz (fCallP d_is_system_2 1 (fAD (fTup (fCons (fC (.int 3)) (fCons (fC (.int 5)) (fCons (fC (.int 2)) (fCons (fTup (fC [])) (fC [])))))) (fC [])))) (fCons (fFrz (fCallP d_is_system_2 1 (fAD (fC (.str "system")) (fC [])))) (fCons (fFrz (fCallT d_is_system_2 1 (fTL (fDNew)))) (fCons (fFrz (fCallP d_is_stand 2 (fAD (fTup (fCons (fC (.int 1)) (fCons (fC (.int 1)) (fCons (fC (.int 1)) (fCons (fTup (fC [])) (fC [])))))) (fAD (fTup (fCons (fC (.int 0)) (fCons (fTup (fCons (fTup (fC [])) (fC []))) (fC [])))) (fC []))))) (fC []))))))) (fAD (fFrz (fLst (fCons (fC (.bool true)) (fCons (fC (.bool false)) (fCons (fC (.bool false)) (fCons (fC (.bool true)) (fC []))))))) (fC [])))))
@[irreducible] noncomputable def d_law70 : Den := denOf 10 b_law70
end DL
end

section
set_option Elab.async false
set_option linter.all false
set_option maxRecDepth 100000
set_option maxHeartbeats 4000000
/-! S76: forms of systems and stands: of any data. -/
namespace DL
open PySem L2 Fz
/-- a whole number between two -/
def wholeD (lo hi : Int) : D → Bool
  | .int i => decide (lo ≤ i) && decide (i ≤ hi)
  | _ => false
theorem wholeD_int {lo hi : Int} {d : D} (h : wholeD lo hi d = true) : ∃ i, d = .int i ∧ lo ≤ i ∧ i ≤ hi := by
  cases d with
  | int i => simp [wholeD] at h; exact ⟨i, rfl, h⟩
  | _ => cases h
def intD : D → Bool
  | .int _ => true
  | _ => false
theorem isI : isT "NoneType" "int" = false ∧ isT "bool" "int" = true ∧ isT "int" "int" = true ∧ isT "str" "int" = false ∧ isT "tuple" "int" = false ∧ isT "list" "int" = false ∧ isT "dict" "int" = false := by decide
theorem isB : isT "NoneType" "bool" = false ∧ isT "bool" "bool" = true ∧ isT "int" "bool" = false := by decide
theorem isTu : isT "NoneType" "tuple" = false ∧ isT "bool" "tuple" = false ∧ isT "int" "tuple" = false ∧ isT "str" "tuple" = false ∧ isT "tuple" "tuple" = true ∧ isT "list" "tuple" = false ∧ isT "dict" "tuple" = false := by decide
theorem spl {lo hi i : Int} {P : Bool → Prop} (h : P (decide (lo ≤ i) && decide (i ≤ hi))) : (lo ≤ i → P (decide (i ≤ hi))) ∧ (i < lo → P false) := by
  constructor
  · intro q
    rw [decide_eq_true q, Bool.true_and] at h
    exact h
  · intro q
    rw [decide_eq_false (by omega), Bool.false_and] at h
    exact h
theorem law_whole_w {d : D} {lo hi : Int} {Q : SV → List SV → Prop} (h : Q (.d (.bool (wholeD lo hi d))) [.d d, .d (.int lo), .d (.int hi)]) : wC (d__law_whole [.d d, .d (.int lo), .d (.int hi)]) Q := by
  unfold d__law_whole
  rw [wC_denOf]
  cases d with
  | int i =>
    simp [b__law_whole, dTyp, isI, isB]
    exact spl (P := fun b => Q (.d (.bool b)) [.d (.int i), .d (.int lo), .d (.int hi)]) h
  | _ => simp [b__law_whole, dTyp, isI, isB]; simpa [wholeD] using h
theorem is_integer_g {d : D} {Q : SV → List SV → Prop} (h : Q (.d (.bool (intD d))) [.d d]) : wC (d_is_integer [.d d]) Q := by
  unfold d_is_integer
  rw [wC_denOf]
  cases d <;> simp [b_is_integer, dTyp, isI, isB] <;> simpa [intD] using h
theorem is_between_g {d : D} {lo hi : Int} {Q : SV → List SV → Prop} (h : Q (.d (.bool (wholeD lo hi d))) [.d d, .d (.int lo), .d (.int hi)]) : wC (d_is_between [.d d, .d (.int lo), .d (.int hi)]) Q := by
  unfold d_is_between
  rw [wC_denOf]
  simp [b_is_between, wE_callD]
  refine is_integer_g ?_
  cases d with
  | int i =>
    simp [intD]
    exact spl (P := fun b => Q (.d (.bool b)) [.d (.int i), .d (.int lo), .d (.int hi)]) h
  | _ => simp [intD]; simpa [wholeD] using h
theorem is_k_g {d : D} {Q : SV → List SV → Prop} (h : Q (.d (.bool (wholeD 1 3 d))) [.d d]) : wC (d_is_k [.d d]) Q := by
  unfold d_is_k
  rw [wC_denOf]
  simp [b_is_k, wE_callD]
  refine is_between_g ?_
  simpa using h
theorem is_below_g {d : D} {k : Int} {Q : SV → List SV → Prop} (h : Q (.d (.bool (wholeD 0 (k - 1) d))) [.d d, .d (.int k)]) : wC (d_is_below [.d d, .d (.int k)]) Q := by
  have e : ∀ i : Int, (decide (0 ≤ i) && decide (i ≤ k - 1)) = (decide (0 ≤ i) && decide (i < k)) := fun i => by
    congr 1
    exact decide_eq_decide.mpr (by omega)
  unfold d_is_below
  rw [wC_denOf]
  simp [b_is_below, wE_callD]
  unfold d_is_natural
  rw [wC_denOf]
  simp [b_is_natural, wE_callD]
  refine is_integer_g ?_
  cases d with
  | int i =>
    simp only [wholeD, e] at h
    simp [intD]
    by_cases h0 : 0 ≤ i
    · rw [decide_eq_true h0, Bool.true_and] at h
      exact ⟨fun _ => h, fun q => absurd h0 (by omega)⟩
    · rw [decide_eq_false h0, Bool.false_and] at h
      exact ⟨fun q => absurd q h0, fun _ => h⟩
  | _ => simp [intD]; simpa [wholeD] using h
/-- what a system does at a step -/
def deedD (k roads : Int) : D → Bool
  | .tuple [x] => wholeD 0 0 x
  | .tuple [x, y, z] => wholeD 1 2 x && (wholeD 0 (roads - 1) y && wholeD 0 (k - 1) z)
  | _ => false
def stepD (k rooms roads : Int) : D → Bool
  | .tuple [a, b, c] => wholeD 0 (rooms - 1) a && (wholeD 0 (rooms - 1) c && deedD k roads b)
  | _ => false
theorem in13 {z : Int} : inOk (.int z) (.tuple [.int 1, .int 3]) = some [.int 1, .int 3] :=
  inOk_t ((Smal.int : Smal 0 _).shaped (by decide)) ((Smal.tup (by decide) (.cons .int (.cons .int .nil)) : Smal 1 _).shaped (by decide))
theorem has13 {z : Int} : hasD (.int z) [.int 1, .int 3] = (decide (z = 1) || decide (z = 3)) := by
  have h1 : PyData.eqv (.int 1) (.int z) = decide (z = 1) := by
    rw [show PyData.eqv (.int 1) (.int z) = decide ((1 : Int) = z) by simp [PyData.eqv]; rfl]
    exact decide_eq_decide.mpr eq_comm
  have h3 : PyData.eqv (.int 3) (.int z) = decide (z = 3) := by
    rw [show PyData.eqv (.int 3) (.int z) = decide ((3 : Int) = z) by simp [PyData.eqv]; rfl]
    exact decide_eq_decide.mpr eq_comm
  simp [hasD, h1, h3]
theorem stepD_n {k rooms roads : Int} {ds : List D} (h : ¬ ds.length = 3) : stepD k rooms roads (.tuple ds) = false := by
  unfold stepD
  split
  · rename_i e; cases e; exact absurd rfl h
  · rfl
theorem deedD_n {k roads : Int} {ds : List D} (h : ¬ (ds.length = 1 ∨ ds.length = 3)) : deedD k roads (.tuple ds) = false := by
  unfold deedD
  split
  · rename_i e; cases e; exact absurd (.inl rfl) h
  · rename_i e; cases e; exact absurd (.inr rfl) h
  · rfl
theorem law_is_step_w {k rooms roads : Int} {d : D} (hd : Smal 8 d) {Q : SV → List SV → Prop} (h : Q (.d (.bool (stepD k rooms roads d))) [.d (.int k), .d (.int rooms), .d (.int roads), .d d]) : wC (d__law_is_step [.d (.int k), .d (.int rooms), .d (.int roads), .d d]) Q := by
  unfold d__law_is_step
  rw [wC_denOf]
  cases d with
  | tuple ds =>
    cases hd with
    | tup hl hs =>
    by_cases h3 : ds.length = 3
    · match ds, h3 with
      | [a, b, c], _ =>
        have hb : Smal 7 b := hs.mem b (by simp)
        cases b with
        | tuple es =>
          cases hb with
          | tup hel hes =>
          simp [b__law_is_step, dTyp, isTu, wE_callD]
          refine law_whole_w ?_
          cases w1 : wholeD 0 (rooms - 1) a with
          | false => simp; simpa [stepD, w1] using h
          | true =>
          simp [wE_callD]
          refine law_whole_w ?_
          cases w2 : wholeD 0 (rooms - 1) c with
          | false => simp; simpa [stepD, w1, w2] using h
          | true =>
          simp only [stepD, w1, w2, Bool.true_and] at h
          simp [in13, has13]
          by_cases l1 : es.length = 1
          · match es, l1 with
            | [x], _ =>
              simp [wE_callD]
              refine law_whole_w ?_
              simpa [deedD] using h
          · by_cases l3 : es.length = 3
            · match es, l3 with
              | [x, y, z], _ =>
                simp [wE_callD]
                refine law_whole_w ?_
                cases v1 : wholeD 1 2 x with
                | false => simp; simpa [deedD, v1] using h
                | true =>
                simp [wE_callD]
                refine law_whole_w ?_
                cases v2 : wholeD 0 (roads - 1) y with
                | false => simp; simpa [deedD, v1, v2] using h
                | true =>
                simp [wE_callD]
                refine law_whole_w ?_
                simpa [deedD, v1, v2] using h
            · rw [deedD_n (by omega)] at h
              have n1 : ¬ (es.length : Int) = 1 := by omega
              have n3 : ¬ (es.length : Int) = 3 := by omega
              simp [n1, n3]
              exact h
        | _ => simp [b__law_is_step, dTyp, isTu, wE_callD]; simpa [stepD, deedD] using h
    · have n3 : ¬ (ds.length : Int) = 3 := by omega
      rw [stepD_n h3] at h
      simp [b__law_is_step, dTyp, isTu, wE_callD, n3]
      exact h
  | _ => simp [b__law_is_step, dTyp, isTu]; simpa [stepD] using h
theorem is_deed_g {k roads : Int} {d : D} (hd : Smal 7 d) {Q : SV → List SV → Prop} (h : Q (.d (.bool (deedD k roads d))) [.d (.int k), .d (.int roads), .d d]) : wC (d_is_deed [.d (.int k), .d (.int roads), .d d]) Q := by
  unfold d_is_deed
  rw [wC_denOf]
  cases d with
  | tuple es =>
    cases hd with
    | tup hel hes =>
    by_cases l1 : es.length = 1
    · match es, l1 with
      | [x], _ =>
        simp [b_is_deed, dTyp, isTu, wE_callD, in13, has13]
        refine is_between_g ?_
        cases v : wholeD 0 2 x with
        | false =>
          simp
          have : wholeD 0 0 x = false := by
            cases x with
            | int i => simp [wholeD] at v ⊢; omega
            | _ => rfl
          simpa [deedD, this] using h
        | true =>
          obtain ⟨i, rfl, i0, i2⟩ := wholeD_int v
          simp
          by_cases hi : i = 0
          · subst hi
            simpa [deedD, wholeD] using h
          · have : wholeD 0 0 (.int i) = false := by simp [wholeD]; omega
            simp [hi]
            simpa [deedD, this] using h
    · by_cases l3 : es.length = 3
      · match es, l3 with
        | [x, y, z], _ =>
          simp [b_is_deed, dTyp, isTu, wE_callD, in13, has13]
          refine is_between_g ?_
          cases v : wholeD 0 2 x with
          | false =>
            simp
            have : wholeD 1 2 x = false := by
              cases x with
              | int i => simp [wholeD] at v ⊢; omega
              | _ => rfl
            simpa [deedD, this] using h
          | true =>
            obtain ⟨i, rfl, i0, i2⟩ := wholeD_int v
            simp
            by_cases hi : i = 0
            · subst hi
              simpa [deedD, wholeD] using h
            · have e12 : wholeD 1 2 (.int i) = true := by simp [wholeD]; omega
              simp [hi, wE_callD]
              refine is_between_g ?_
              cases v2 : wholeD 0 (roads - 1) y with
              | false => simp; simpa [deedD, e12, v2] using h
              | true =>
              simp [wE_callD]
              refine is_between_g ?_
              simpa [deedD, e12, v2] using h
      · rw [deedD_n (by omega)] at h
        have n1 : ¬ (es.length : Int) = 1 := by omega
        have n3 : ¬ (es.length : Int) = 3 := by omega
        simp [b_is_deed, dTyp, isTu, wE_callD, in13, has13, n1, n3]
        exact h
  | _ => simp [b_is_deed, dTyp, isTu]; simpa [deedD] using h
theorem is_step_g {k rooms roads : Int} {d : D} (hd : Smal 8 d) {Q : SV → List SV → Prop} (h : Q (.d (.bool (stepD k rooms roads d))) [.d (.int k), .d (.int rooms), .d (.int roads), .d d]) : wC (d_is_step [.d (.int k), .d (.int rooms), .d (.int roads), .d d]) Q := by
  unfold d_is_step
  rw [wC_denOf]
  cases d with
  | tuple ds =>
    cases hd with
    | tup hl hs =>
    by_cases h3 : ds.length = 3
    · match ds, h3 with
      | [a, b, c], _ =>
        have hb : Smal 7 b := hs.mem b (by simp)
        simp [b_is_step, dTyp, isTu, wE_callD]
        refine is_between_g ?_
        cases w1 : wholeD 0 (rooms - 1) a with
        | false => simp; simpa [stepD, w1] using h
        | true =>
        simp [wE_callD]
        refine is_between_g ?_
        cases w2 : wholeD 0 (rooms - 1) c with
        | false => simp; simpa [stepD, w1, w2] using h
        | true =>
        simp [wE_callD]
        refine is_deed_g hb ?_
        simpa [stepD, w1, w2] using h
    · have n3 : ¬ (ds.length : Int) = 3 := by omega
      rw [stepD_n h3] at h
      simp [b_is_step, dTyp, isTu, wE_callD, n3]
      exact h
  | _ => simp [b_is_step, dTyp, isTu]; simpa [stepD] using h
theorem deedD_W {k roads : Int} {d : D} (h : deedD k roads d = true) : ∃ dl, d = W dl ∧ DeedOk k roads dl := by
  unfold deedD at h
  split at h
  · obtain ⟨i, rfl, i0, i1⟩ := wholeD_int h
    obtain rfl : i = 0 := by omega
    exact ⟨[0], rfl, .inl rfl⟩
  · simp only [Bool.and_eq_true] at h
    obtain ⟨h1, h2, h3⟩ := h
    obtain ⟨i, rfl, i0, i1⟩ := wholeD_int h1
    obtain ⟨j, rfl, j0, j1⟩ := wholeD_int h2
    obtain ⟨l, rfl, l0, l1⟩ := wholeD_int h3
    exact ⟨[i, j, l], rfl, .inr ⟨i, j, l, rfl, by omega, j0, by omega, l0, by omega⟩⟩
  · cases h
theorem stepD_sp {k rooms roads : Int} {d : D} (h : stepD k rooms roads d = true) : ∃ s : Stp, d = spD s ∧ StpOk k rooms roads s := by
  unfold stepD at h
  split at h
  · simp only [Bool.and_eq_true] at h
    obtain ⟨h1, h2, h3⟩ := h
    obtain ⟨i, rfl, i0, i1⟩ := wholeD_int h1
    obtain ⟨j, rfl, j0, j1⟩ := wholeD_int h2
    obtain ⟨dl, rfl, ok⟩ := deedD_W h3
    exact ⟨(i, dl, j), rfl, ⟨i0, by show i < rooms; omega⟩, ok, j0, by show j < rooms; omega⟩
  · cases h
theorem steps_sp {k rooms roads : Int} : ∀ {ss : List D}, ss.all (stepD k rooms roads) = true → ∃ l : List Stp, ss = l.map spD ∧ ∀ s ∈ l, StpOk k rooms roads s
  | [], _ => ⟨[], rfl, fun _ h => (nomatch h)⟩
  | d :: ss, h => by
    rw [List.all_cons, Bool.and_eq_true] at h
    obtain ⟨s, rfl, ok⟩ := stepD_sp h.1
    obtain ⟨l, rfl, ol⟩ := steps_sp h.2
    exact ⟨s :: l, rfl, fun z hz => by
      rcases List.mem_cons.mp hz with rfl | hz
      · exact ok
      · exact ol z hz⟩
theorem zipDm {α β : Type} {f : α → D} {g : β → D} {xs : List α} {ys : List β} : zipD (xs.map f) (ys.map g) = (xs.zip ys).map fun q => .tuple [f q.1, g q.2] := by
  unfold zipD
  induction xs generalizing ys with
  | nil => simp
  | cons x xs ih =>
    cases ys with
    | nil => simp
    | cons y ys => simp [ih]
def ascS (ss : List D) : Bool := (ss.zip ss.tail).all fun q => decide (ltD q.1 q.2 = some true)
theorem ascS_sp {l : List Stp} : ascS (l.map spD) = (l.zip l.tail).all fun q => decide (ltD (spD q.1) (spD q.2) = some true) := by
  unfold ascS
  rw [← List.map_tail, List.zip_map, List.all_map]
  rfl
theorem shaped_sp {s : Stp} (h : s.2.1.length ≤ 3) : SeqAt.shaped (spD s) = true := shaped_of_tup (k := 1) (.cons .int (.cons (smalW (by omega)) (.cons .int .nil))) (by omega)
theorem lt_sp {a b : Stp} : ltD (spD a) (spD b) = some (decide (ltD (spD a) (spD b) = some true)) := by
  have := ltD_sp a b
  cases e : ltD (spD a) (spD b) with
  | none => rw [e] at this; cases this
  | some x => cases x <;> simp
theorem is_ascending_g {l : List Stp} (hl : ∀ s ∈ l, s.2.1.length ≤ 3) {Q : SV → List SV → Prop} (h : Q (.d (.bool (ascS (l.map spD)))) [.d (.tuple (l.map spD))]) : wC (d_is_ascending_2 [.d (.tuple (l.map spD))]) Q := by
  unfold d_is_ascending_2
  rw [wC_denOf]
  simp [b_is_ascending_2]
  rw [← List.map_tail, zipDm]
  refine any_w (fun q => decide (ltD (spD q.1) (spD q.2) = some true)) (fun S => S = [some (.d (.tuple (l.map spD))), none, none]) rfl ?_ ?_
  · rintro ⟨a, b⟩ hm S rfl
    have ha := (List.of_mem_zip hm).1
    have hb := List.mem_of_mem_tail (List.of_mem_zip hm).2
    simp
    rw [wE_pLtD, lt_sp]
    simp [shaped_sp (hl a ha), shaped_sp (hl b hb)]
  · rintro S rfl
    rw [ascS_sp] at h
    simp
    simpa using h
end DL
end

section
set_option Elab.async false
set_option linter.all false
set_option maxRecDepth 100000
set_option maxHeartbeats 4000000
/-! S77: forms of systems and stands, of any data: whole. -/
namespace DL
open PySem L2 Fz
@[simp] theorem isO_d {T : String} {d : D} {S : FS} {Q : D → FS → Prop} : Fz.wE (fIsiO T 0 (some (.d d) :: S)) Q = Q (.bool (isT (dTyp d) T)) (some (.d d) :: S) := rfl
@[simp] theorem isO_e {T : String} {S : FS} {Q : D → FS → Prop} : Fz.wE (fIsiO T 0 (some (.pin (.dic [])) :: S)) Q = Q (.bool (isT "dict" T)) (some (.pin (.dic [])) :: S) := rfl
def toI : D → Int
  | .int i => i
  | _ => 0
def posG (top : Int → Bool) : D → Bool
  | .int i => decide (1 ≤ i) && top i
  | _ => false
def sysG (top : Int → Bool) : D → Bool
  | .tuple [a, b, c, .tuple ss] => wholeD 1 3 a && (posG top b && (wholeD 1 2 c && (ss.all (stepD (toI a) (toI b) (toI c)) && ascS ss)))
  | _ => false
theorem sysG_n {top : Int → Bool} {ds : List D} (h : ¬ ds.length = 4) : sysG top (.tuple ds) = false := by
  unfold sysG
  split
  · rename_i e; cases e; exact absurd rfl h
  · rfl
theorem sysG_t {top : Int → Bool} {a b c t : D} (h : ∀ ss, t ≠ .tuple ss) : sysG top (.tuple [a, b, c, t]) = false := by
  unfold sysG
  split
  · rename_i e; cases e; exact absurd rfl (h _)
  · rfl
theorem posG_int {top : Int → Bool} {d : D} (h : posG top d = true) : ∃ i, d = .int i ∧ 1 ≤ i ∧ top i = true := by
  cases d with
  | int i => simp [posG] at h; exact ⟨i, rfl, h⟩
  | _ => cases h
theorem pos9 {d : D} : wholeD 1 1000000000 d = posG (fun i => decide (i ≤ 1000000000)) d := by
  cases d <;> rfl
theorem cpow9 : CPow 10 9 := powW
theorem law_is_system_w {d : D} (hd : Smal 10 d) {Q : SV → List SV → Prop} (h : Q (.d (.bool (sysG (fun i => decide (i ≤ 1000000000)) d))) [.d d]) : wC (d__law_is_system [.d d]) Q := by
  unfold d__law_is_system
  rw [wC_denOf]
  cases d with
  | tuple ds =>
    cases hd with
    | tup hl hs =>
    by_cases h4 : ds.length = 4
    · match ds, h4 with
      | [a, b, c, t], _ =>
        have ht : Smal 9 t := hs.mem t (by simp)
        cases t with
        | tuple ss =>
          cases ht with
          | tup htl hts =>
          simp [b__law_is_system, dTyp, isTu, wE_callD]
          refine law_whole_w ?_
          cases w1 : wholeD 1 3 a with
          | false => simp; simpa [sysG, w1] using h
          | true =>
          obtain ⟨k, rfl, k1, k3⟩ := wholeD_int w1
          simp [wE_callD]
          refine ⟨cpow9, ?_⟩
          refine law_whole_w ?_
          rw [pos9]
          cases w2 : posG (fun i => decide (i ≤ 1000000000)) b with
          | false => simp; simpa [sysG, w1, w2] using h
          | true =>
          obtain ⟨rooms, rfl, m1, m2⟩ := posG_int w2
          simp [wE_callD]
          refine law_whole_w ?_
          cases w3 : wholeD 1 2 c with
          | false => simp; simpa [sysG, w1, w2, w3] using h
          | true =>
          obtain ⟨roads, rfl, r1, r2⟩ := wholeD_int w3
          simp only [sysG, w1, w2, w3, toI, Bool.true_and] at h
          simp
          rw [show ss = ss.map id by simp]
          refine lc_w (fun _ => true) (fun s => PyData.bool (stepD k rooms roads s)) (fun S => ∃ c5, S = [some (.d (.tuple [.int k, .int rooms, .int roads, .tuple (ss.map id)])), some (.d (.int k)), some (.d (.int rooms)), some (.d (.int roads)), some (.d (.tuple (ss.map id))), c5, none, none]) ⟨none, rfl⟩ (by omega) ?_ ?_
          · rintro s hm S ⟨c5, rfl⟩
            simp [wE_callD]
            refine law_is_step_w (hts.mem s hm) ?_
            simp
          · rintro S ⟨c5, rfl⟩
            have eb : ∀ l : List D, bls ((l.filter fun _ => true).map fun s => PyData.bool (stepD k rooms roads s)) = some (l.map fun s => stepD k rooms roads s) := fun l => by
              induction l with
              | nil => rfl
              | cons o l ih => simpa using ih
            have em : ((ss.map fun s => stepD k rooms roads s).all id) = ss.all (stepD k rooms roads) := by rw [List.all_map]; rfl
            simp only [wFrz_own, wE_pAll, eb, wO_some, em]
            cases w4 : ss.all (stepD k rooms roads) with
            | false => simp; simpa [w4] using h
            | true =>
            obtain ⟨l, rfl, ol⟩ := steps_sp w4
            have sl : ∀ s ∈ l, s.2.1.length ≤ 3 := fun s hs => deed_len (ol s hs).2.1
            rw [w4, Bool.true_and] at h
            simp
            rw [← List.map_tail, zipDm]
            refine lc_w (fun _ => true) (fun q => PyData.bool (decide (ltD (spD q.1) (spD q.2) = some true))) (fun S => S = [some (.d (.tuple [.int k, .int rooms, .int roads, .tuple (l.map spD)])), some (.d (.int k)), some (.d (.int rooms)), some (.d (.int roads)), some (.d (.tuple (l.map spD))), c5, none, none]) rfl (by simp at htl ⊢; omega) ?_ ?_
            · rintro ⟨a, b⟩ hm S rfl
              have ha := (List.of_mem_zip hm).1
              have hb := List.mem_of_mem_tail (List.of_mem_zip hm).2
              simp
              rw [wE_pLtD, lt_sp]
              simp [shaped_sp (sl a ha), shaped_sp (sl b hb)]
            · rintro S rfl
              have eb2 : ∀ m : List (Stp × Stp), bls ((m.filter fun _ => true).map fun q => PyData.bool (decide (ltD (spD q.1) (spD q.2) = some true))) = some (m.map fun q => decide (ltD (spD q.1) (spD q.2) = some true)) := fun m => by
                induction m with
                | nil => rfl
                | cons o m ih => simpa using ih
              have em2 : (((l.zip l.tail).map fun q => decide (ltD (spD q.1) (spD q.2) = some true)).all id) = ascS (l.map spD) := by rw [ascS_sp, List.all_map]; rfl
              simp only [wFrz_own, wE_pAll, eb2, wO_some, em2]
              simp
              exact h
        | _ =>
          rw [sysG_t (by intro ss e; cases e)] at h
          simp [b__law_is_system, dTyp, isTu, wE_callD]
          exact h
    · have n4 : ¬ (ds.length : Int) = 4 := by omega
      rw [sysG_n h4] at h
      simp [b__law_is_system, dTyp, isTu, wE_callD, n4]
      exact h
  | _ => simp [b__law_is_system, dTyp, isTu]; simpa [sysG] using h
theorem is_system_g {d : D} (hd : Smal 10 d) {Q : SV → List SV → Prop} (h : Q (.d (.bool (sysG (fun _ => true) d))) [.d d]) : wC (d_is_system_2 [.d d]) Q := by
  unfold d_is_system_2
  rw [wC_denOf]
  cases d with
  | tuple ds =>
    cases hd with
    | tup hl hs =>
    by_cases h4 : ds.length = 4
    · match ds, h4 with
      | [a, b, c, t], _ =>
        have ht : Smal 9 t := hs.mem t (by simp)
        simp [b_is_system_2, dTyp, isTu, wE_callD]
        refine is_k_g ?_
        cases w1 : wholeD 1 3 a with
        | false =>
          simp
          have : sysG (fun _ => true) (.tuple [a, b, c, t]) = false := by
            cases t <;> simp [sysG, w1]
          simpa [this] using h
        | true =>
        obtain ⟨k, rfl, k1, k3⟩ := wholeD_int w1
        simp [wE_callD]
        refine is_integer_g ?_
        cases w2 : posG (fun _ => true) b with
        | false =>
          have e : sysG (fun _ => true) (.tuple [.int k, b, c, t]) = false := by
            cases t <;> simp [sysG, w2]
          rw [e] at h
          cases b with
          | int i =>
            have : i < 1 := by simp [posG] at w2; omega
            simp [intD, this]
            exact ⟨h, fun q => by omega⟩
          | _ => simp [intD]; exact h
        | true =>
        obtain ⟨rooms, rfl, m1, m2⟩ := posG_int w2
        have n1 : ¬ rooms < 1 := by omega
        simp [intD, n1, wE_callD]
        intro _
        refine is_between_g ?_
        cases w3 : wholeD 1 2 c with
        | false =>
          have e : sysG (fun _ => true) (.tuple [.int k, .int rooms, c, t]) = false := by
            cases t <;> simp [sysG, w3]
          rw [e] at h
          simp
          exact h
        | true =>
        obtain ⟨roads, rfl, r1, r2⟩ := wholeD_int w3
        cases t with
        | tuple ss =>
          cases ht with
          | tup htl hts =>
          simp only [sysG, w1, w2, w3, toI, Bool.true_and] at h
          simp [dTyp, isTu]
          rw [show ss = ss.map id by simp]
          refine any_w (fun s => stepD k rooms roads s) (fun S => ∃ c5, S = [some (.d (.tuple [.int k, .int rooms, .int roads, .tuple (ss.map id)])), some (.d (.tuple (ss.map id))), some (.d (.int k)), some (.d (.int roads)), some (.d (.int rooms)), c5]) ⟨none, rfl⟩ ?_ ?_
          · rintro s hm S ⟨c5, rfl⟩
            simp [wE_callD]
            refine is_step_g (hts.mem s hm) ?_
            simp
          · rintro S ⟨c5, rfl⟩
            simp only [Bool.false_eq_true, if_false]
            cases w4 : ss.all (stepD k rooms roads) with
            | false => simp [w4]; simpa [w4] using h
            | true =>
            obtain ⟨l, rfl, ol⟩ := steps_sp w4
            have sl : ∀ s ∈ l, s.2.1.length ≤ 3 := fun s hs => deed_len (ol s hs).2.1
            rw [w4, Bool.true_and] at h
            simp [w4, wE_callD]
            refine is_ascending_g sl ?_
            simp
            exact h
        | _ =>
          rw [sysG_t (by intro ss e; cases e)] at h
          simp [dTyp, isTu]
          exact h
    · have n4 : ¬ (ds.length : Int) = 4 := by omega
      rw [sysG_n h4] at h
      simp [b_is_system_2, dTyp, isTu, wE_callD, n4]
      exact h
  | _ => simp [b_is_system_2, dTyp, isTu]; simpa [sysG] using h
theorem is_system_e {Q : SV → List SV → Prop} (h : Q (.d (.bool false)) [.pin (.dic [])]) : wC (d_is_system_2 [.pin (.dic [])]) Q := by
  unfold d_is_system_2
  rw [wC_denOf]
  simp [b_is_system_2, isTu]
  exact h
end DL
end

section
set_option Elab.async false
set_option linter.all false
set_option maxRecDepth 100000
set_option maxHeartbeats 4000000
/-! S78: forms of stands, of any data. -/
namespace DL
open PySem L2 Fz
def isTD : D → Bool
  | .tuple _ => true
  | _ => false
def wordD (k : Int) : D → Bool
  | .tuple xs => xs.all (wholeD 0 (k - 1))
  | _ => false
def standD (k rooms roads : Int) : D → Bool
  | .tuple [a, .tuple ws] => wholeD 0 (rooms - 1) a && (decide ((ws.length : Int) = roads) && ws.all (wordD k))
  | _ => false
theorem standD_n {k rooms roads : Int} {ds : List D} (h : ¬ ds.length = 2) : standD k rooms roads (.tuple ds) = false := by
  unfold standD
  split
  · rename_i e; cases e; exact absurd rfl h
  · rfl
theorem lcI_w {xs : List D} {g : D → FS → Option FS} {t : FS → Res Bool} {fe : FS → Res D} {vs : List Nat} {S : FS} {Q : SV → FS → Prop} (q : D → Bool) (h : D → D) (I : FS → Prop) (h0 : I S) (hl : xs.length ≤ 16000000)
    (step : ∀ x, x ∈ xs → ∀ S, I S → wO (g x (wipeS S vs)) fun S1 => Fz.wE (t S1) fun k S2 => k = q x ∧ (k = false → I (restS S S2 vs)) ∧ (k = true → Fz.wE (fe S2) fun y S3 => y = h x ∧ I (restS S S3 vs)))
    (hQ : ∀ S, I S → Q (.own (.lst ((xs.filter q).map h))) S) : Fz.wE (lcF g t fe vs xs S []) Q := by
  have := lc_w (xs := xs) (f := id) q h I h0 hl step hQ
  rwa [List.map_id] at this
theorem tu_beq {d : D} : (dTyp d == "tuple") = isTD d := by cases d <;> rfl
theorem bls_map {α : Type} (f : α → Bool) : ∀ l : List α, bls ((l.filter fun _ => true).map fun s => PyData.bool (f s)) = some (l.map f) := fun l => by
  induction l with
  | nil => rfl
  | cons o l ih => simpa using ih
theorem map_all {α : Type} (f : α → Bool) (l : List α) : (l.map f).all id = l.all f := by rw [List.all_map]; rfl
theorem law_is_stand_w {y : Sy} {d : D} (hd : Smal 10 d) {Q : SV → List SV → Prop} (h : Q (.d (.bool (standD y.k y.rooms y.roads d))) [.d y.d, .d d]) : wC (d__law_is_stand [.d y.d, .d d]) Q := by
  unfold d__law_is_stand
  rw [wC_denOf]
  obtain ⟨k, rooms, roads, ss⟩ := y
  simp only [Sy.d] at h ⊢
  cases d with
  | tuple ds =>
    cases hd with
    | tup hl hs =>
    by_cases h2 : ds.length = 2
    · match ds, h2 with
      | [a, t], _ =>
        have ht : Smal 9 t := hs.mem t (by simp)
        simp [b__law_is_stand, dTyp, isTu, wE_callD]
        refine law_whole_w ?_
        cases w1 : wholeD 0 (rooms - 1) a with
        | false =>
          have e : standD k rooms roads (.tuple [a, t]) = false := by cases t <;> simp [standD, w1]
          rw [e] at h
          simp
          exact h
        | true =>
        cases t with
        | tuple ws =>
          cases ht with
          | tup htl hts =>
          simp only [standD, w1, Bool.true_and] at h
          simp [dTyp, isTu]
          by_cases hr : (ws.length : Int) = roads
          · simp only [hr, decide_true, Bool.true_and] at h
            simp [hr]
            rw [show ws = ws.map id by simp]
            refine lc_w (fun _ => true) (fun s => PyData.bool (isTD s)) (fun S => ∃ c2, S = [some (.d (.tuple [.int k, .int rooms, .int roads, .tuple (ss.map spD)])), some (.d (.tuple [a, .tuple (ws.map id)])), c2, none]) ⟨none, rfl⟩ (by omega) ?_ ?_
            · rintro s hm S ⟨c2, rfl⟩
              simp
              exact tu_beq
            · rintro S ⟨c2, rfl⟩
              simp only [wFrz_own, wE_pAll, bls_map, wO_some, map_all]
              cases w2 : ws.all isTD with
              | false =>
                have e : ws.all (wordD k) = false := by
                  rw [List.all_eq_false] at w2 ⊢
                  obtain ⟨s, hs1, hs2⟩ := w2
                  refine ⟨s, hs1, ?_⟩
                  cases s <;> simp [isTD, wordD] at hs2 ⊢
                rw [e] at h
                simp
                simpa using h
              | true =>
              have tu : ∀ s ∈ ws, ∃ xs, s = .tuple xs := fun s hs1 => by
                have := List.all_eq_true.mp w2 s hs1
                cases s <;> simp [isTD] at this ⊢
              simp
              refine lcI_w (fun _ => true) (fun s => PyData.bool (wordD k s)) (fun S => ∃ c2 c3, S = [some (.d (.tuple [.int k, .int rooms, .int roads, .tuple (ss.map spD)])), some (.d (.tuple [a, .tuple ws])), c2, c3]) ⟨c2, none, rfl⟩ (by omega) ?_ ?_
              · rintro s hm S ⟨c2, c3, rfl⟩
                obtain ⟨xs, rfl⟩ := tu s hm
                have hxs := hts.mem _ hm
                cases hxs with
                | tup hxl hxs =>
                simp
                refine lcI_w (fun _ => true) (fun x => PyData.bool (wholeD 0 (k - 1) x)) (fun S => ∃ c3, S = [some (.d (.tuple [.int k, .int rooms, .int roads, .tuple (ss.map spD)])), some (.d (.tuple [a, .tuple ws])), some (.d (.tuple xs)), c3]) ⟨c3, rfl⟩ (by omega) ?_ ?_
                · rintro x hx S ⟨c3, rfl⟩
                  simp [wE_callD]
                  refine law_whole_w ?_
                  simp
                · rintro S ⟨c3, rfl⟩
                  simp only [wFrz_own, wE_pAll, bls_map, wO_some, map_all]
                  simp [wordD]
              · rintro S ⟨c2, c3, rfl⟩
                simp only [wFrz_own, wE_pAll, bls_map, wO_some, map_all]
                simp
                exact h
          · simp [hr] at h
            simp [hr]
            exact h
        | _ =>
          simp [standD] at h
          simp [dTyp, isTu]
          exact h
    · have n2 : ¬ (ds.length : Int) = 2 := by omega
      rw [standD_n h2] at h
      simp [b__law_is_stand, dTyp, isTu, wE_callD, n2]
      exact h
  | _ => simp [b__law_is_stand, dTyp, isTu]; simpa [standD] using h
theorem is_letters_g {k : Int} {d : D} {Q : SV → List SV → Prop} (h : Q (.d (.bool (wordD k d))) [.d (.int k), .d d]) : wC (d_is_letters [.d (.int k), .d d]) Q := by
  unfold d_is_letters
  rw [wC_denOf]
  cases d with
  | tuple xs =>
    simp [b_is_letters, dTyp, isTu]
    rw [show xs = xs.map id by simp]
    refine any_w (fun x => wholeD 0 (k - 1) x) (fun S => ∃ c, S = [some (.d (.int k)), some (.d (.tuple (xs.map id))), c]) ⟨none, rfl⟩ ?_ ?_
    · rintro x hx S ⟨c, rfl⟩
      simp [wE_callD]
      refine is_below_g ?_
      simp
    · rintro S ⟨c, rfl⟩
      simp
      exact h
  | _ => simp [b_is_letters, dTyp, isTu]; simpa [wordD] using h
theorem is_stand_in_g {y : Sy} {d : D} (hd : Smal 10 d) {Q : SV → List SV → Prop} (h : Q (.d (.bool (standD y.k y.rooms y.roads d))) [.d y.d, .d d]) : wC (d_is_stand_in [.d y.d, .d d]) Q := by
  unfold d_is_stand_in
  rw [wC_denOf]
  obtain ⟨k, rooms, roads, ss⟩ := y
  simp only [Sy.d] at h ⊢
  cases d with
  | tuple ds =>
    cases hd with
    | tup hl hs =>
    by_cases h2 : ds.length = 2
    · match ds, h2 with
      | [a, t], _ =>
        have ht : Smal 9 t := hs.mem t (by simp)
        simp [b_is_stand_in, dTyp, isTu, wE_callD]
        refine is_between_g ?_
        cases w1 : wholeD 0 (rooms - 1) a with
        | false =>
          have e : standD k rooms roads (.tuple [a, t]) = false := by cases t <;> simp [standD, w1]
          rw [e] at h
          simp
          exact h
        | true =>
        simp [wE_callD]
        unfold d_are_words
        rw [wC_denOf]
        cases t with
        | tuple ws =>
          cases ht with
          | tup htl hts =>
          simp only [standD, w1, Bool.true_and] at h
          simp [b_are_words, dTyp, isTu]
          by_cases hr : (ws.length : Int) = roads
          · simp only [hr, decide_true, Bool.true_and] at h
            simp [hr]
            rw [show ws = ws.map id by simp]
            refine any_w (fun s => wordD k s) (fun S => ∃ c, S = [some (.d (.tuple [.int k, .int rooms, .int roads, .tuple (ss.map spD)])), some (.d (.tuple (ws.map id))), c]) ⟨none, rfl⟩ ?_ ?_
            · rintro s hm S ⟨c, rfl⟩
              simp [wE_callD]
              refine is_letters_g ?_
              simp
            · rintro S ⟨c, rfl⟩
              simp
              exact h
          · simp [hr] at h
            simp [hr]
            exact h
        | _ =>
          simp [standD] at h
          simp [b_are_words, dTyp, isTu]
          exact h
    · have n2 : ¬ (ds.length : Int) = 2 := by omega
      rw [standD_n h2] at h
      simp [b_is_stand_in, dTyp, isTu, wE_callD, n2]
      exact h
  | _ => simp [b_is_stand_in, dTyp, isTu]; simpa [standD] using h
end DL
end

section
set_option Elab.async false
set_option linter.all false
set_option maxRecDepth 100000
set_option maxHeartbeats 4000000
/-! S79: drawn systems have steps. -/
namespace DL
open PySem L2 Fz
theorem sys_loop2 {c : Nat} {o : Ob} {k rm roads n : Int} {two : Bool} (ho : Wk c o) (hc : c ≤ 800000000) (k1 : 1 ≤ k) (k2 : k ≤ 3) (r1 : 1 ≤ roads) (r2 : roads ≤ 2) (m1 : 1 ≤ rm) (m2 : rm ≤ 4) (n1 : 1 ≤ n) (n2 : n ≤ 8) :
    wS (forF (gN 6) (fSeq (fPars [7, 8, 9] (fConsV (fCallP d__law_draw 2 (fAS 0 (fAD (fC (.int 5)) (fC [])))) (fConsV (fCallP d__law_draw 2 (fAS 0 (fAD (fVar 3) (fC [])))) (fConsV (fCallP d__law_draw 2 (fAS 0 (fAD (fVar 2) (fC [])))) (fC [])))))
        (fSeq (fSetD 10 (fIte (fT (fOpN pEq 7 (fC (.int 0)))) (fTup (fCons (fC (.int 0)) (fC []))) (fTup (fCons (fFrz (fOp pAdd (fC (.int 1)) (fCall (one pToInt) (fCons (fOpN pGt 7 (fC (.int 2))) (fC []))))) (fCons (fVar 8) (fCons (fVar 9) (fC [])))))))
        (fDPut 5 (fC (.bool true)) (fTup (fCons (fFrz (fCallP d__law_draw 2 (fAS 0 (fAD (fVar 4) (fC []))))) (fCons (fVar 10) (fCons (fFrz (fCallP d__law_draw 2 (fAS 0 (fAD (fVar 4) (fC []))))) (fC [])))))))) (rngD 0 n.toNat) [some (.pin o), some (.d (.bool two)), some (.d (.int k)), some (.d (.int roads)), some (.d (.int rm)), some (.own (.dic [])), none, none, none, none, none])
      (fun S => ∃ (o' : Ob) (ss : List Stp) (c6 c7 c8 c9 c10 : Option SV), S = [some (.pin o'), some (.d (.bool two)), some (.d (.int k)), some (.d (.int roads)), some (.d (.int rm)), some (.own (.dic (KG spD ss))), c6, c7, c8, c9, c10] ∧ Wk (c + 60) o' ∧ ss.Nodup ∧ (∀ s ∈ ss, StpOk k rm roads s) ∧ ss.length ≤ 8 ∧ 1 ≤ ss.length) (fun _ _ => False) (fun _ => False) (fun _ => False) := by
  have er : rngD 0 n.toNat = (List.range n.toNat).map fun i : Nat => PyData.int (i : Int) := by simp [rngD]
  rw [er]
  refine wS_forP (fun p _ S => ∃ (o' : Ob) (ss : List Stp) (c6 c7 c8 c9 c10 : Option SV), S = [some (.pin o'), some (.d (.bool two)), some (.d (.int k)), some (.d (.int roads)), some (.d (.int rm)), some (.own (.dic (KG spD ss))), c6, c7, c8, c9, c10] ∧ Wk (c + 5 * p.length) o' ∧ ss.Nodup ∧ (∀ s ∈ ss, StpOk k rm roads s) ∧ ss.length ≤ p.length ∧ (1 ≤ p.length → 1 ≤ ss.length)) ⟨o, [], none, none, none, none, none, rfl, by simpa using ho, .nil, by simp, by simp, by simp⟩ ?_ ?_
  · rintro p t r S e ⟨o', ss, c6, c7, c8, c9, c10, rfl, ho', nd, hss, hl, hne⟩
    obtain ⟨rfl, ht⟩ := range_at e
    simp [wE_callD]
    refine draw_w ho' (by omega) (by omega) (by omega) ?_
    intro o1 way ho1 hw0 hw1
    simp
    refine draw_w ho1 (by omega) (by omega) (by omega) ?_
    intro o2 road ho2 hr0 hr1
    simp
    refine draw_w ho2 (by omega) (by omega) (by omega) ?_
    intro o3 letter ho3 hl0 hl1
    have put : ∀ (dl : List Int) (o3 : Ob) (c7 c8 c9 c10 : Option SV), Wk (c + 5 * p.length + 1 + 1 + 1) o3 → DeedOk k roads dl →
        wS (fDPut 5 (fC (PyData.bool true)) (fTup (fCons (fFrz (fCallP d__law_draw 2 (fAS 0 (fAD (fVar 4) (fC []))))) (fCons (fVar 10) (fCons (fFrz (fCallP d__law_draw 2 (fAS 0 (fAD (fVar 4) (fC []))))) (fC []))))) [some (.pin o3), some (.d (.bool two)), some (.d (.int k)), some (.d (.int roads)), some (.d (.int rm)), some (.own (.dic (KG spD ss))), some (.d (.int (p.length : Nat))), c7, c8, c9, some (.d (W dl))])
          (fun S => ∃ (o' : Ob) (ss : List Stp) (c6 c7 c8 c9 c10 : Option SV), S = [some (.pin o'), some (.d (.bool two)), some (.d (.int k)), some (.d (.int roads)), some (.d (.int rm)), some (.own (.dic (KG spD ss))), c6, c7, c8, c9, c10] ∧ Wk (c + 5 * (p.length + 1)) o' ∧ ss.Nodup ∧ (∀ s ∈ ss, StpOk k rm roads s) ∧ ss.length ≤ p.length + 1 ∧ (1 ≤ p.length + 1 → 1 ≤ ss.length)) (fun _ _ => False) (fun _ => False) (fun _ => False) := by
      intro dl o3 c7 c8 c9 c10 ho3 hd
      simp [wE_callD]
      refine draw_w ho3 (by omega) (by omega) (by omega) ?_
      intro o4 room ho4 hm0 hm1
      simp
      refine draw_w ho4 (by omega) (by omega) (by omega) ?_
      intro o5 there ho5 ht0 ht1
      have ek : PyData.tuple [.int room, W dl, .int there] = spD (room, dl, there) := rfl
      simp [ek, kOk_KG keyF_sp, dPut_KG keyF_sp]
      refine ⟨szS (by omega), o5, addG ss (room, dl, there), ⟨rfl, rfl⟩, ho5.up (by omega), addG_nodup nd, ?_, ?_, ?_⟩
      · intro s1 s2 s3 hs
        rcases addG_mem.mp hs with hs | hs
        · exact hss _ hs
        · rw [hs]; exact ⟨⟨hm0, hm1⟩, hd, ht0, ht1⟩
      · have := addG_len (l := ss) (a := ((room, dl, there) : Stp))
        omega
      · first
        | exact List.length_pos_of_mem (addG_mem.mpr (.inr rfl))
        | exact fun _ => List.length_pos_of_mem (addG_mem.mpr (.inr rfl))
    simp [wE_callD] at put
    simp
    have tw : ¬ way = 0 → (1 + (if 2 < way then (1 : Int) else 0) = 1 ∨ 1 + (if 2 < way then (1 : Int) else 0) = 2) := fun _ => by
      by_cases h : 2 < way
      · rw [if_pos h]; exact .inr rfl
      · rw [if_neg h]; exact .inl rfl
    refine ⟨fun _ => put [0] o3 _ _ _ ho3 (.inl rfl), fun hw => put [_, road, letter] o3 _ _ _ ho3 (.inr ⟨_, road, letter, rfl, tw hw, hr0, hr1, hl0, hl1⟩)⟩
  · rintro S ⟨o', ss, c6, c7, c8, c9, c10, rfl, ho', nd, hss, hl, hne⟩
    rw [List.length_range] at ho' hl hne
    exact ⟨o', ss, c6, c7, c8, c9, c10, rfl, ho'.up (by omega), nd, hss, by omega, hne (by omega)⟩
theorem law_system2_w {c : Nat} {o : Ob} {two : Bool} (ho : Wk c o) (hc : c ≤ 700000000) {Q : SV → List SV → Prop} (h : ∀ o' y, Wk (c + 100) o' → SyOk y → y.ss.length ≤ 8 → 1 ≤ y.ss.length → y.rooms ≤ 4 → Q (.d y.d) [.pin o', .d (.bool two)]) : wC (d__law_system [.pin o, .d (.bool two)]) Q := by
  unfold d__law_system
  rw [wC_denOf]
  have fin : ∀ {o' : Ob} {ss : List Stp} {k rm roads : Int}, Wk (c + 70) o' → 1 ≤ k → k ≤ 3 → 1 ≤ roads → roads ≤ 2 → 1 ≤ rm → rm ≤ 4 → ss.Nodup → (∀ s ∈ ss, StpOk k rm roads s) → ss.length ≤ 8 → 1 ≤ ss.length →
      SortOk (ss.map spD) ∧ Q (.d (.tuple [.int k, .int rm, .int roads, .tuple ((sortF spD ss).map spD)])) [.pin o', .d (.bool two)] := by
    intro o' ss k rm roads ho' k1 k2 r1 r2 m1 m2 nd hss hl hne
    have hlen : (sortF spD ss).length = ss.length := sortF_perm.length_eq
    refine ⟨sortOk_sp fun s hs => deed_len (hss s hs).2.1, h o' ⟨k, rm, roads, sortF spD ss⟩ (ho'.up (by omega)) ⟨k1, k2, m1, by show rm ≤ 100; omega, r1, r2, fun s hs => hss s (sortF_mem.mp hs), sortF_asc keyF_sp plain_sp ltD_sp nd, by show (sortF spD ss).length ≤ 100; omega⟩ (by show (sortF spD ss).length ≤ 8; omega) (by show 1 ≤ (sortF spD ss).length; omega) m2⟩
  simp [b__law_system, wE_callD]
  refine draw_w ho (by omega) (by omega) (by omega) ?_
  intro o1 k0 ho1 hk0 hk1
  cases two
  all_goals
    simp
    refine draw_w ho1 (by omega) (by omega) (by omega) ?_
    intro o2 m0 ho2 hm0 hm1
    simp
    refine draw_w ho2 (by omega) (by omega) (by omega) ?_
    intro o3 n0 ho3 hn0 hn1
    simp
    refine ⟨by omega, ?_⟩
    refine wS.imp (sys_loop2 ho3 (by omega) (by omega) (by omega) (by omega) (by omega) (by omega) (by omega) (by omega) (by omega)) ?_ (fun _ _ z => z.elim) (fun _ z => z.elim) (fun _ z => z.elim)
    rintro S ⟨o', ss, c6, c7, c8, c9, c10, rfl, ho', nd, hss, hl, hne⟩
    have f := fin (ho'.up (by omega)) (by omega) (by omega) (by omega) (by omega) (by omega) (by omega) nd hss hl hne
    have ek : List.map (fun x => x.fst) (KG spD ss) = ss.map spD := KG_keys
    simp [ek, sortD_F]
    exact f
end DL
end

section
set_option Elab.async false
set_option linter.all false
set_option maxRecDepth 100000
set_option maxHeartbeats 4000000
namespace K70
open PySem L2 Fz DL
def smR (d : D) : Prop := ∀ a i c t, d = .tuple [a, .int i, c, t] → i ≤ 1000000000
def Ben (d : D) : Prop := Smal 10 d ∧ smR d
theorem sys_eq {d : D} (h : smR d) : sysG (fun i => decide (i ≤ 1000000000)) d = sysG (fun _ => true) d := by
  unfold sysG
  split
  · rename_i a b c ss
    have e : posG (fun i => decide (i ≤ 1000000000)) b = posG (fun _ => true) b := by
      cases b with
      | int i =>
        have := h _ i _ _ rfl
        simp [posG, this]
      | _ => rfl
    rw [e]
  · rfl
theorem lcS_w {xs : List D} {g : D → FS → Option FS} {t : FS → Res Bool} {fe : FS → Res D} {vs : List Nat} {S : FS} {Q : SV → FS → Prop} (h : D → D) (hl : xs.length ≤ 16000000)
    (step : ∀ x, x ∈ xs → wO (g x (wipeS S vs)) fun S1 => Fz.wE (t S1) fun k S2 => k = true ∧ Fz.wE (fe S2) fun y S3 => y = h x ∧ restS S S3 vs = S)
    (hQ : Q (.own (.lst (xs.map h))) S) : Fz.wE (lcF g t fe vs xs S []) Q := by
  refine lcI_w (fun _ => true) h (fun S' => S' = S) rfl hl ?_ ?_
  · rintro x hx S' rfl
    have st := step x hx
    cases hg : g x (wipeS S' vs) with
    | none => rw [hg] at st; exact st.elim
    | some S1 =>
      rw [hg] at st
      have st : Fz.wE (t S1) _ := st
      rw [wO_some]
      refine st.mono ?_
      rintro k S2 ⟨rfl, s2⟩
      exact ⟨rfl, fun e => (nomatch e), fun _ => s2⟩
  · rintro S' rfl
    have e : (xs.filter fun _ => true) = xs := List.filter_eq_self.mpr fun _ _ => rfl
    rw [e]
    exact hQ
@[irreducible] def wEI {α : Type} (r : Res α) (Q : α → FS → Prop) : Prop := Fz.wE r Q
theorem wEI_eq {α : Type} {r : Res α} {Q : α → FS → Prop} : wEI r Q = Fz.wE r Q := by unfold wEI; rfl
theorem lcSI_w {xs : List D} {g : D → FS → Option FS} {t : FS → Res Bool} {fe : FS → Res D} {vs : List Nat} {S : FS} {Q : SV → FS → Prop} (h : D → D) (hl : xs.length ≤ 16000000)
    (step : ∀ x, x ∈ xs → wO (g x (wipeS S vs)) fun S1 => Fz.wE (t S1) fun k S2 => k = true ∧ Fz.wE (fe S2) fun y S3 => y = h x ∧ restS S S3 vs = S)
    (hQ : Q (.own (.lst (xs.map h))) S) : wEI (lcF g t fe vs xs S []) Q := by
  rw [wEI_eq]
  exact lcS_w h hl step hQ
theorem pickO_w {L : List D} {j : Nat} {P : D → Prop} (hj : j < L.length) (h : ∀ d ∈ L, P d) : wO L[j]? P := by
  have e : L[j]? = some L[j] := List.getElem?_eq_getElem hj
  rw [e]
  exact h _ (List.getElem_mem hj)
theorem all_sp {ss : List Stp} (h : ∀ s ∈ ss, s.2.1.length ≤ 3) (hl : ss.length ≤ 20) (n : Nat) : SmalL (n + 2) (ss.map spD) := SmalL.of fun d hd => by
  obtain ⟨s, hs, rfl⟩ := List.mem_map.mp hd
  exact smalSp (by have := h s hs; omega)
theorem cut_sub {α : Type} {xs : List α} {x : α} (h : x ∈ cutL xs (some (-1)) none) : x ∈ xs := by
  rw [DL.cutL_last] at h
  exact List.mem_of_mem_drop h
theorem strI {i : Int} (h1 : 1 ≤ i) (h4 : i ≤ 4) : PyData.strOk (Str.ofString i.repr) = true := by
  have : i = 1 ∨ i = 2 ∨ i = 3 ∨ i = 4 := by omega
  rcases this with rfl | rfl | rfl | rfl <;> decide +kernel
theorem s10 : PyData.strOk (Str.ofString "1") = true ∧ PyData.strOk (Str.ofString "0") = true := by decide +kernel
theorem law_bent_w {c : Nat} {o : Ob} {y : Sy} (ho : Wk c o) (hc : c ≤ 700000000) (ok : SyOk y) (hl : y.ss.length ≤ 8) (h1 : 1 ≤ y.ss.length) (hr : y.rooms ≤ 4) {Q : SV → List SV → Prop} (h : ∀ o' d, Wk (c + 5) o' → Ben d → Q (.d d) [.pin o', .d y.d]) : wC (d__law_bent_4 [.pin o, .d y.d]) Q := by
  unfold d__law_bent_4
  rw [wC_denOf]
  obtain ⟨k, rooms, roads, ss⟩ := y
  simp only [Sy.d] at h ⊢ hl h1 hr
  have hr0 := ok.m1
  simp only at hr0
  simp [b__law_bent_4, wE_callD]
  refine draw_w ho (by omega) (by omega) (by omega) ?_
  intro o1 r ho1 r0 r1
  obtain ⟨j, rfl⟩ : ∃ j : Nat, r = (j : Int) := ⟨r.toNat, by omega⟩
  have hj : j < ss.length := by omega
  obtain ⟨⟨a, dl, b⟩, e1, hsm⟩ : ∃ s : Stp, ss[j]? = some s ∧ s ∈ ss := ⟨ss[j], List.getElem?_eq_getElem hj, List.getElem_mem hj⟩
  have hdl : dl.length ≤ 3 := deed_len (ok.st _ hsm).2.1
  have esp : spD (a, dl, b) = .tuple [.int a, W dl, .int b] := rfl
  have hlog : rooms.natAbs.log2 < 1920 := by
    have := log2_small (n := rooms.natAbs) (k := 200) (by omega) (by decide)
    omega
  have hcl : (cutL (ss.map spD) (some (-1)) none).length ≤ 8 := by
    rw [DL.cutL_last, List.length_drop, List.length_map]; omega
  have hsz : ss.length + (cutL (ss.map spD) (some (-1)) none).length ≤ sizeLine := szL (by omega)
  simp [e1, esp, hlog, hsz]
  rw [← wEI_eq]
  refine lcSI_w (fun e => .tuple [.int a, e, .int b]) ?_ ?_ ?_
  · simp
  · intro d hd
    simp
  simp
  rw [← wEI_eq]
  refine lcSI_w (fun e => .tuple [.int a, e, .int b]) ?_ ?_ ?_
  · simp
  · intro d hd
    simp
  simp
  rw [← wEI_eq]
  refine lcSI_w (fun e => .tuple [.int k, .int rooms, .int roads, .tuple [e]]) ?_ ?_ ?_
  · simp
  · intro d hd
    simp
  simp [wE_callD]
  have h42 : 42 ≤ sizeLine := szL (by omega)
  simp only [h42, true_and]
  refine draw_w ho1 (by omega) (by omega) (by omega) ?_
  intro o2 r2 ho2 r20 r21
  obtain ⟨j2, rfl⟩ : ∃ j2 : Nat, r2 = (j2 : Int) := ⟨r2.toNat, by omega⟩
  simp
  refine pickO_w (by simp; omega) ?_
  intro d hd
  refine h o2 d (ho2.up (by omega)) ?_
  have len3 : ∀ s ∈ ss, s.2.1.length ≤ 3 := fun s hs => deed_len (ok.st s hs).2.1
  have sm1 : ∀ n, Smal (n + 3) (.tuple (ss.map spD)) := fun n => .tup (by simp; omega) (all_sp len3 (by omega) n)
  have sm2 : ∀ n, Smal (n + 3) (.list (ss.map spD)) := fun n => .lst (by simp; omega) (all_sp len3 (by omega) n)
  have sm3 : ∀ n, Smal (n + 3) (.tuple (ss.map spD).reverse) := fun n => .tup (by simp; omega) (SmalL.of fun d hd => (all_sp len3 (by omega) n).mem d (List.mem_reverse.mp hd))
  have sm4 : ∀ n, Smal (n + 3) (.tuple (ss.map spD ++ cutL (ss.map spD) (some (-1)) none)) := fun n => .tup (by rw [List.length_append, List.length_map]; omega) (SmalL.of fun d hd => by
    rcases List.mem_append.mp hd with q | q
    · exact (all_sp len3 (by omega) n).mem d q
    · exact (all_sp len3 (by omega) n).mem d (cut_sub q))
  have smw : ∀ n, Smal (n + 1) (W dl) := fun n => smalW (by omega)
  have hst := strI hr0 hr
  have e3 : cutL [PyData.int k, .int rooms, .int roads, .tuple (ss.map spD)] none (some 3) = [PyData.int k, .int rooms, .int roads] := rfl
  rw [e3] at hd
  revert d
  simp only [List.forall_mem_cons]
  repeat' apply And.intro
  all_goals first
    | (intro a i c t e; first | (cases e; omega) | (cases e))
    | (repeat' first
        | exact sm1 _
        | exact sm2 _
        | exact sm3 _
        | exact sm4 _
        | exact smw _
        | exact Smal.int
        | exact Smal.bl
        | exact Smal.non
        | exact Smal.str hst
        | exact Smal.str s10.1
        | exact Smal.str s10.2
        | exact SmalL.nil
        | refine SmalL.cons ?_ ?_
        | refine Smal.tup (by simp) ?_
        | refine Smal.lst (by simp) ?_)
    | trace_state
  all_goals exact fun x hx => (nomatch hx)
theorem strO {i : Int} (h0 : 0 ≤ i) (h4 : i ≤ 4) : PyData.strOk (Str.ofString i.repr) = true := by
  have : i = 0 ∨ i = 1 ∨ i = 2 ∨ i = 3 ∨ i = 4 := by omega
  rcases this with rfl | rfl | rfl | rfl | rfl <;> decide +kernel
theorem law_bent_stand_w {c : Nat} {o : Ob} {y : Sy} {x : Sd} (ho : Wk c o) (hc : c ≤ 700000000) (ok : SyOk y) (hr : y.rooms ≤ 4) (hx : SdOk y x) (hw : ∀ w ∈ x.2, w.length ≤ 4) {Q : SV → List SV → Prop} (h : ∀ o' d, Wk (c + 5) o' → Smal 10 d → Q (.d d) [.pin o', .d y.d, .d (sdD x)]) : wC (d__law_bent_stand [.pin o, .d y.d, .d (sdD x)]) Q := by
  unfold d__law_bent_stand
  rw [wC_denOf]
  obtain ⟨k, rooms, roads, ss⟩ := y
  obtain ⟨room, ws⟩ := x
  obtain ⟨⟨x0, x1⟩, xl, _⟩ := hx
  simp only [Sy.d, sdD] at h ⊢ hr x0 x1 xl hw
  have r1 := ok.r1
  have r2 := ok.r2
  simp only at r1 r2
  obtain ⟨w, ws', rfl⟩ : ∃ w ws', ws = w :: ws' := by
    cases ws with
    | nil => simp at xl; omega
    | cons w ws' => exact ⟨w, ws', rfl⟩
  have hlog : room.natAbs.log2 < 1920 := by
    have := log2_small (n := room.natAbs) (k := 200) (by omega) (by decide)
    omega
  have hwl : ws'.length ≤ 1 := by simp at xl; omega
  have hsz : ws'.length + 1 + 1 ≤ sizeLine := szL (by omega)
  have hsz2 : 1 + ws'.length ≤ sizeLine := szL (by omega)
  simp [b__law_bent_stand, wE_callD, hlog, LW, hsz, hsz2]
  rw [← wEI_eq]
  refine lcSI_w (fun e => .tuple [.int room, .tuple (e :: ws'.map W)]) ?_ ?_ ?_
  · simp
  · intro d hd
    simp [hsz2]
  simp [wE_callD]
  refine draw_w ho (by omega) (by omega) (by omega) ?_
  intro o2 r2 ho2 r20 r21
  obtain ⟨j2, rfl⟩ : ∃ j2 : Nat, r2 = (j2 : Int) := ⟨r2.toNat, by omega⟩
  simp
  refine pickO_w (by simp; omega) ?_
  intro d hd
  refine h o2 d (ho2.up (by omega)) ?_
  have smw : ∀ n, Smal (n + 1) (W w) := fun n => smalW (by have := hw w (by simp); omega)
  have smW : ∀ n, SmalL (n + 1) (ws'.map W) := fun n => SmalL.of fun d hd => by
    obtain ⟨v, hv, rfl⟩ := List.mem_map.mp hd
    exact smalW (by have := hw v (by simp [hv]); omega)
  have smA : ∀ n, SmalL (n + 1) (ws'.map W ++ [PyData.tuple []]) := fun n => SmalL.of fun d hd => by
    rcases List.mem_append.mp hd with q | q
    · exact (smW n).mem d q
    · rw [List.mem_singleton.mp q]; exact .tup (by simp) .nil
  have hst := strO x0 (show room ≤ 4 by omega)
  revert d
  simp only [List.forall_mem_cons]
  repeat' apply And.intro
  all_goals first
    | (repeat' first
        | exact smw _
        | exact smW _
        | exact smA _
        | exact Smal.int
        | exact Smal.bl
        | exact Smal.non
        | exact Smal.str hst
        | exact Smal.str s10.1
        | exact Smal.str s10.2
        | exact SmalL.nil
        | refine SmalL.cons ?_ ?_
        | refine Smal.tup (by simp; try omega) ?_
        | refine Smal.lst (by simp; try omega) ?_)
    | exact fun x hx => (nomatch hx)
  all_goals exact fun x hx => (nomatch hx)
theorem is_system2_w {y : Sy} (ok : SyOk y) {Q : SV → List SV → Prop} (h : Q (.d (.bool true)) [.d y.d]) : wC (d_is_system_2 [.d y.d]) Q := by
  unfold d_is_system_2
  rw [wC_denOf]
  obtain ⟨k1, k3, m1, m2, r1, r2, st, asc, len⟩ := ok
  have n1 : ¬ y.rooms < 1 := by omega
  simp [b_is_system_2, wE_callD, Sy.d, dTyp, isTu]
  refine is_k_w k1 k3 ?_
  simp
  refine is_integer_w ?_
  simp [n1]
  intro _
  refine is_between_w r1 r2 ?_
  simp [dTyp, isTu]
  refine any_w (fun _ => true) (fun S => ∃ c, S = [some (.d (.tuple [.int y.k, .int y.rooms, .int y.roads, .tuple (y.ss.map spD)])), some (.d (.tuple (y.ss.map spD))), some (.d (.int y.k)), some (.d (.int y.roads)), some (.d (.int y.rooms)), c]) ⟨_, rfl⟩ ?_ ?_
  · rintro s hs S ⟨c, rfl⟩
    simp [wE_callD]
    refine is_step_w (st s hs) ?_
    simp
  · rintro S ⟨c, rfl⟩
    simp [wE_callD]
    refine is_ascending_2_w asc (fun s hs => deed_len (st s hs).2.1) ?_
    simpa [Sy.d] using h
theorem check_system2_w {y : Sy} (ok : SyOk y) {Q : SV → List SV → Prop} (h : Q (.d .none) [.d y.d]) : wC (d_check_system_2 [.d y.d]) Q := by
  unfold d_check_system_2
  rw [wC_denOf]
  simp [b_check_system_2, wE_callD]
  refine is_system2_w ok ?_
  simpa using h
theorem is_stand_w {y : Sy} {x : Sd} (oy : SyOk y) (ok : SdOk y x) {Q : SV → List SV → Prop} (h : Q (.d (.bool true)) [.d y.d, .d (sdD x)]) : wC (d_is_stand [.d y.d, .d (sdD x)]) Q := by
  unfold d_is_stand
  rw [wC_denOf]
  simp [b_is_stand, wE_callD]
  refine check_system2_w oy ?_
  simp [wE_callD]
  refine is_stand_in_w ok ?_
  simpa using h
theorem is_stand_g {y : Sy} {d : D} (oy : SyOk y) (hd : Smal 10 d) {Q : SV → List SV → Prop} (h : Q (.d (.bool (standD y.k y.rooms y.roads d))) [.d y.d, .d d]) : wC (d_is_stand [.d y.d, .d d]) Q := by
  unfold d_is_stand
  rw [wC_denOf]
  simp [b_is_stand, wE_callD]
  refine check_system2_w oy ?_
  simp [wE_callD]
  refine is_stand_in_g hd ?_
  simpa using h
theorem show_sp {y : Sy} (ok : SyOk y) {s : Stp} (h : s ∈ y.ss) : ShowB 93 (spD s) := by
  have k3 := ok.k3
  have r2 := ok.r2
  have m2 := ok.m2
  obtain ⟨⟨a0, a1⟩, hd, b0, b1⟩ := ok.st s h
  have hw : ShowB 28 (W s.2.1) := (ShowB.W fun x hx => by
    rcases hd with e | ⟨t, r, l, e, ht, r0, r1, l0, l1⟩
    · rw [e] at hx; simp at hx; omega
    · rw [e] at hx; simp at hx; omega).up (by have := deed_len hd; omega)
  refine (ShowB.tup (n := 28) (ds := [.int s.1, W s.2.1, .int s.2.2]) fun d hd => ?_).up (by simp)
  simp only [List.mem_cons, List.not_mem_nil, or_false] at hd
  rcases hd with rfl | rfl | rfl
  · exact (ShowB.nat a0 (by omega)).up (by omega)
  · exact hw
  · exact (ShowB.nat b0 (by omega)).up (by omega)
theorem show_sy {y : Sy} (ok : SyOk y) (h8 : y.ss.length ≤ 8) : ShowB 4000 y.d := by
  have k1 := ok.k1
  have k3 := ok.k3
  have r1 := ok.r1
  have r2 := ok.r2
  have m1 := ok.m1
  have m2 := ok.m2
  have hs : ShowB 900 (.tuple (y.ss.map spD)) := (ShowB.tup (n := 93) fun d hd => by
    obtain ⟨s, hm, rfl⟩ := List.mem_map.mp hd
    exact show_sp ok hm).up (by rw [List.length_map]; omega)
  refine (ShowB.tup (n := 900) (ds := [.int y.k, .int y.rooms, .int y.roads, .tuple (y.ss.map spD)]) fun d hd => ?_).up (by simp)
  simp only [List.mem_cons, List.not_mem_nil, or_false] at hd
  rcases hd with rfl | rfl | rfl | rfl
  · exact (ShowB.nat (by omega) (by omega)).up (by omega)
  · exact (ShowB.nat (by omega) (by omega)).up (by omega)
  · exact (ShowB.nat (by omega) (by omega)).up (by omega)
  · exact hs
theorem smalSy {y : Sy} (ok : SyOk y) (h8 : y.ss.length ≤ 8) {k : Nat} : Smal (k + 4) y.d := .tup (by simp) (.cons .int (.cons .int (.cons .int (.cons (.tup (by rw [List.length_map]; omega) (SmalL.of fun d hd => by
  obtain ⟨s, hs, rfl⟩ := List.mem_map.mp hd
  exact smalSp (k := k) (by have := deed_len (ok.st s hs).2.1; omega))) .nil))))
theorem rk {y : Sy} (ok : SyOk y) (h8 : y.ss.length ≤ 8) {S : FS} {Q : D → FS → Prop} : Fz.wE (pRepr2 y.d S) Q = Q (.str (PyData.shown y.d)) S := by
  have sk : showOk y.d := (show_sy ok h8).showOk (k := 5) (by omega) (smalSy ok h8 (k := 1)) (by omega)
  have e : y.d = .tuple [.int y.k, .int y.rooms, .int y.roads, .tuple (y.ss.map spD)] := rfl
  rw [e] at sk ⊢
  rw [wE_pRepr2_t, eq_true sk, true_and]
theorem bl2 {a b : Bool} : Smal 1 (.list [.bool a, .bool b]) := .lst (by simp) (.cons .bl (.cons .bl .nil))
theorem bl4 {a b c d : Bool} : Smal 1 (.list [.bool a, .bool b, .bool c, .bool d]) := .lst (by simp) (.cons .bl (.cons .bl (.cons .bl (.cons .bl .nil))))
theorem the_law (ns : List Int) (h : ns.length ≤ 63) (hb : ∀ z ∈ ns, Builtin.Int.intBits z ≤ 1048576) : ∃ l, d_law70 [.d (scriptD ns)] = .ok (.d (.bool true)) l := by
  suffices wC (d_law70 [.d (scriptD ns)]) fun v l => v = .d (.bool true) by
    obtain ⟨v, l, e, rfl⟩ := this.ok
    exact ⟨l, e⟩
  unfold d_law70
  rw [wC_denOf]
  have hq : ∃ q : Int, (if 1 < if (ns.length : Int) < 3 then (ns.length : Int) else 3 then if (ns.length : Int) < 3 then (ns.length : Int) else 3 else 1) = q ∧ 0 ≤ q ∧ q ≤ 63 := ⟨_, rfl, by split <;> (try split) <;> omega, by split <;> (try split) <;> omega⟩
  obtain ⟨q, e, hq0, hq1⟩ := hq
  simp [b_law70, scriptD, e]
  refine ⟨by omega, ?_⟩
  refine wS_forF (fun i S => ∃ c1 c2 c3 c4 c5 c6 c7 c8 c9, S = [some (.d (scriptD ns)), c1, c2, c3, c4, c5, c6, c7, c8, c9]) ⟨none, none, none, none, none, none, none, none, none, rfl⟩ ?_ ?_
  · rintro i d S hd ⟨c1, c2, c3, c4, c5, c6, c7, c8, c9, rfl⟩
    obtain ⟨hi, rfl⟩ := rngD_get hd
    simp [wE_callD]
    refine well2_w (by omega) (by omega) h hb ?_
    intro o ho
    simp
    refine wS_forF (fun t S => ∃ o c3 c4 c5 c6 c7 c8 c9, Wk (400 * t) o ∧ S = [some (.d (scriptD ns)), some (.d (.int (i : Int))), some (.own o), c3, c4, c5, c6, c7, c8, c9]) ⟨o, c3, c4, c5, c6, c7, c8, c9, by simpa using ho, rfl⟩ ?_ ?_
    · rintro t d S hd ⟨o, c3, c4, c5, c6, c7, c8, c9, ho, rfl⟩
      obtain ⟨ht, rfl⟩ := rngD_get hd
      simp [wE_callD]
      refine law_system2_w ho (by omega) ?_
      intro o1 y ho1 ok h8 h1 h4
      simp [wE_callD]
      refine law_stand_w (most := 4) ho1 (by omega) ok (by omega) ?_
      intro o2 x ho2 hx hx4
      have rky : ∀ {S : FS} {Q : D → FS → Prop}, Fz.wE (pRepr2 y.d S) Q = Q (.str (PyData.shown y.d)) S := fun {S Q} => rk ok h8
      simp [rky, wE_callD]
      refine is_system2_w ok ?_
      simp [wE_callD]
      refine is_system2_w ok ?_
      simp [wE_callD]
      refine is_stand_w ok hx ?_
      simp [wE_callD]
      refine is_stand_w ok hx ?_
      simp [wE_callD]
      refine same_w (bl4 : Smal 1 _) (by omega) ?_
      simp
      refine wS_forF (fun u S => ∃ o c7 c8 c9, Wk (400 * t + 300 + 10 * u) o ∧ S = [some (.d (scriptD ns)), some (.d (.int (i : Int))), some (.own o), some (.d (.int (t : Int))), some (.d y.d), some (.d (sdD x)), some (.d (.str (PyData.shown y.d))), c7, c8, c9]) ⟨o2, c7, c8, c9, ho2.up (by omega), rfl⟩ ?_ ?_
      · rintro u d S hd ⟨o3, c7, c8, c9, ho3, rfl⟩
        obtain ⟨hu, rfl⟩ := rngD_get hd
        simp [wE_callD]
        refine law_bent_w ho3 (by omega) ok h8 h1 h4 ?_
        intro o4 be ho4 hbe
        simp [wE_callD]
        refine law_bent_stand_w ho4 (by omega) ok h4 hx hx4 ?_
        intro o5 od ho5 hod
        simp [wE_callD]
        refine is_system_g hbe.1 ?_
        simp [wE_callD]
        refine is_stand_g ok hod ?_
        simp [wE_callD]
        refine law_is_system_w hbe.1 ?_
        simp [wE_callD]
        refine law_is_stand_w hod ?_
        rw [sys_eq hbe.2]
        simp [wE_callD]
        refine same_w (bl2 : Smal 1 _) (by omega) ?_
        simp
        exact ho5.up (by omega)
      · rintro S ⟨o3, c7, c8, c9, ho3, rfl⟩
        simp [rky]
        exact ho3.up (by simp; omega)
    · rintro S ⟨o, c3, c4, c5, c6, c7, c8, c9, ho, rfl⟩
      exact ⟨_, _, _, _, _, _, _, _, _, rfl⟩
  · rintro S ⟨c1, c2, c3, c4, c5, c6, c7, c8, c9, rfl⟩
    have sm : ∀ {d : D} {n : Nat}, Smal n d → n ≤ 10 → Smal 10 d := fun h l => h.up l
    simp [scriptD, wE_callD]
    refine is_system_g (sm (.tup (by simp) (.cons .int (.cons .int (.cons .int (.cons (.tup (by simp) .nil) .nil)))) : Smal 2 _) (by omega)) ?_
    rw [show sysG (fun _ => true) (.tuple [.int 3, .int 5, .int 2, .tuple []]) = true by rfl]
    simp [wE_callD]
    refine is_system_g (.str (by decide +kernel)) ?_
    rw [show sysG (fun _ => true) (.str (Str.ofString "system")) = false by rfl]
    simp [wE_callT]
    refine is_system_e ?_
    simp [wE_callD]
    have oy : SyOk ⟨1, 1, 1, []⟩ := ⟨by decide, by decide, by decide, by decide, by decide, by decide, fun s hs => (nomatch hs), fun i a b ha => by simp at ha, by simp⟩
    refine is_stand_g (y := ⟨1, 1, 1, []⟩) oy (sm (.tup (by simp) (.cons .int (.cons (.tup (by simp) (.cons (.tup (by simp) .nil) .nil)) .nil)) : Smal 3 _) (by omega)) ?_
    rw [show standD 1 1 1 (.tuple [.int 0, .tuple [.tuple []]]) = true by rfl]
    simp [wE_callD, Sy.d]
    refine same_w (bl4 : Smal 1 _) (by omega) ?_
    simp
end K70
end

section
set_option Elab.async false
set_option linter.all false
set_option maxRecDepth 100000
set_option maxHeartbeats 4000000

/-! the text: its defs -/
namespace K70
open PySem PySem.Spec PyProof.Rows L2 Fz DL
def top (i : Nat) : Stmt := PySem.Challenge.pw_wholestrewn_k70_whole_systems_and_stands.main.body.getD i (.Pass ⟨0, 0, 0, 0⟩)
def D__law_draw : He.DefD := ⟨("_law_draw", none), "_law_draw", "_law_draw", defArgs (top 23), defBody (top 23), defScope (top 23), [], []⟩
def D__law_bent : He.DefD := ⟨("_law_bent", none), "_law_bent", "_law_bent", defArgs (top 32), defBody (top 32), defScope (top 32), [], []⟩
def D__law_bent_stand : He.DefD := ⟨("_law_bent_stand", none), "_law_bent_stand", "_law_bent_stand", defArgs (top 33), defBody (top 33), defScope (top 33), [], []⟩
def D__law_whole : He.DefD := ⟨("_law_whole", none), "_law_whole", "_law_whole", defArgs (top 28), defBody (top 28), defScope (top 28), [], []⟩
def D__law_is_stand : He.DefD := ⟨("_law_is_stand", none), "_law_is_stand", "_law_is_stand", defArgs (top 31), defBody (top 31), defScope (top 31), [], []⟩
def D__law_is_step : He.DefD := ⟨("_law_is_step", none), "_law_is_step", "_law_is_step", defArgs (top 29), defBody (top 29), defScope (top 29), [], []⟩
def D__law_is_system : He.DefD := ⟨("_law_is_system", none), "_law_is_system", "_law_is_system", defArgs (top 30), defBody (top 30), defScope (top 30), [], []⟩
def D__law_same : He.DefD := ⟨("_law_same", none), "_law_same", "_law_same", defArgs (top 24), defBody (top 24), defScope (top 24), [], []⟩
def D__law_word : He.DefD := ⟨("_law_word", none), "_law_word", "_law_word", defArgs (top 26), defBody (top 26), defScope (top 26), [], []⟩
def D__law_stand : He.DefD := ⟨("_law_stand", none), "_law_stand", "_law_stand", defArgs (top 27), defBody (top 27), defScope (top 27), [], []⟩
def D__law_system : He.DefD := ⟨("_law_system", none), "_law_system", "_law_system", defArgs (top 25), defBody (top 25), defScope (top 25), [], []⟩
def D__law_well : He.DefD := ⟨("_law_well", none), "_law_well", "_law_well", defArgs (top 22), defBody (top 22), defScope (top 22), [], []⟩
def D_is_ascending : He.DefD := ⟨("is_ascending", none), "is_ascending", "is_ascending", defArgs (top 11), defBody (top 11), defScope (top 11), [], []⟩
def D_is_integer : He.DefD := ⟨("is_integer", none), "is_integer", "is_integer", defArgs (top 5), defBody (top 5), defScope (top 5), [], []⟩
def D_is_between : He.DefD := ⟨("is_between", none), "is_between", "is_between", defArgs (top 8), defBody (top 8), defScope (top 8), [], []⟩
def D_is_k : He.DefD := ⟨("is_k", none), "is_k", "is_k", defArgs (top 9), defBody (top 9), defScope (top 9), [], []⟩
def D_is_deed : He.DefD := ⟨("is_deed", none), "is_deed", "is_deed", defArgs (top 14), defBody (top 14), defScope (top 14), [], []⟩
def D_is_step : He.DefD := ⟨("is_step", none), "is_step", "is_step", defArgs (top 15), defBody (top 15), defScope (top 15), [], []⟩
def D_is_system : He.DefD := ⟨("is_system", none), "is_system", "is_system", defArgs (top 16), defBody (top 16), defScope (top 16), [], []⟩
def D_check_system : He.DefD := ⟨("check_system", none), "check_system", "check_system", defArgs (top 17), defBody (top 17), defScope (top 17), [], []⟩
def D_is_natural : He.DefD := ⟨("is_natural", none), "is_natural", "is_natural", defArgs (top 6), defBody (top 6), defScope (top 6), [], []⟩
def D_is_below : He.DefD := ⟨("is_below", none), "is_below", "is_below", defArgs (top 7), defBody (top 7), defScope (top 7), [], []⟩
def D_is_letters : He.DefD := ⟨("is_letters", none), "is_letters", "is_letters", defArgs (top 10), defBody (top 10), defScope (top 10), [], []⟩
def D_are_words : He.DefD := ⟨("are_words", none), "are_words", "are_words", defArgs (top 18), defBody (top 18), defScope (top 18), [], []⟩
def D_is_stand_in : He.DefD := ⟨("is_stand_in", none), "is_stand_in", "is_stand_in", defArgs (top 19), defBody (top 19), defScope (top 19), [], []⟩
def D_is_stand : He.DefD := ⟨("is_stand", none), "is_stand", "is_stand", defArgs (top 20), defBody (top 20), defScope (top 20), [], []⟩
def D_law : He.DefD := ⟨("law", none), "law", "law", defArgs (top 34), defBody (top 34), defScope (top 34), [], []⟩
def fn : List He.DefD := [D__law_draw, D__law_bent, D__law_bent_stand, D__law_whole, D__law_is_stand, D__law_is_step, D__law_is_system, D__law_same, D__law_word, D__law_stand, D__law_system, D__law_well, D_is_ascending, D_is_integer, D_is_between, D_is_k, D_is_deed, D_is_step, D_is_system, D_check_system, D_is_natural, D_is_below, D_is_letters, D_are_words, D_is_stand_in, D_is_stand, D_law]
def fa : List He.Fa := [.glo "_law_draw", .glo "_law_bent", .glo "_law_bent_stand", .glo "_law_whole", .glo "_law_is_stand", .glo "_law_is_step", .glo "_law_is_system", .glo "_law_same", .glo "_law_word", .glo "_law_stand", .glo "_law_system", .glo "_law_well", .glo "is_ascending", .glo "is_integer", .glo "is_between", .glo "is_k", .glo "is_deed", .glo "is_step", .glo "is_system", .glo "check_system", .glo "is_natural", .glo "is_below", .glo "is_letters", .glo "are_words", .glo "is_stand_in", .glo "is_stand", .glo "law", .free "int", .free "len", .free "list", .free "str", .free "isinstance", .free "bool", .free "tuple", .free "all", .free "zip", .free "range", .free "sorted", .free "abs", .free "max", .int "MOST_LETTERS" 3, .int "MOST_ROADS" 2, .free "min", .free "repr"]
def ts : List DP := [("is_ascending", none), ("is_system", none), ("is_letters", none), ("are_words", none)]
/-! derivations -/
section
variable {P : Program} {w : World} {K : Fg} {mg : Str → Option Value} {base : Heap} {T : List Addr}
theorem sc__law_draw : FnScope ["well", "many", "found", "mixed"] ["well", "many"] D__law_draw.scope := ⟨rfl, rfl, rfl, by decide +kernel, rfl, by decide +kernel, by decide +kernel⟩
theorem f__law_draw (C : HeadC fa fn ts K mg base T) : FnF P w K mg base T 1 D__law_draw "_law_draw" ["well", "many"] 2 d__law_draw := by
  unfold d__law_draw
  refine fn_mk C 0 0 sc__law_draw fun cdv A outer s H E1 H0 pins E hr => ?_
  exact s_cons (s_if (t_cmp op_gtF (e_ixN (pv 0) (e_int)) (ED.q (e_int)) (nomark _)) (s_cons (s_setD sc__law_draw.nd rfl (.inl rfl) (e_op op_modF (e_callTy c_int rfl (C.free 27) bt_int (a_last (ED.q (e_ixN (pv 0) (e_int))))) (e_peek (pv 1))))
        (s_cons (s_setIx (pv 0) (e_op op_divF (e_ixN (pv 0) (e_int)) (e_peek (pv 1))) (e_int) (fun _ => rfl))
        (s_one (s_retD (e_var (pv 2)))))) (s_nil))
        (s_cons (s_setIx (pv 0) (EV.frz (e_op op_addF (e_ixN (pv 0) (e_int)) (ED.q (e_int)))) (e_int) (fun _ => rfl))
        (s_cons (s_setD sc__law_draw.nd rfl (.inl rfl) (e_op op_modF (e_callTy c_int rfl (C.free 27) bt_int (a_last (ED.q (e_op op_powX (EV.frz (e_op op_addF (EV.frz (e_op op_addF (e_ixN (pv 0) (e_int)) (ED.q (e_op op_mulX (e_int) (ED.q (e_ixN (pv 0) (e_int))))))) (ED.q (e_op op_mulX (e_op op_mulX (e_int) (ED.q (e_ixN (pv 0) (e_int)))) (ED.q (e_ixN (pv 0) (e_int))))))) (ED.q (e_int)))))) (ED.q (e_int))))
        (s_cons (s_setD sc__law_draw.nd rfl (.inl rfl) (e_op op_modF (e_callTy c_int rfl (C.free 27) bt_int (a_last (ED.q (e_op op_powX (EV.frz (e_opN op_addF (pv 3) (ED.q (e_int)))) (ED.q (e_int)))))) (ED.q (e_int))))
        (s_one (s_retD (e_op op_modF (e_callTy c_int rfl (C.free 27) bt_int (a_last (ED.q (e_opN op_divF (pv 3) (ED.q (e_int)))))) (e_peek (pv 1))))))))
theorem g__law_draw (C : HeadC fa fn ts K mg base T) : Fn P w K mg base T 1 "_law_draw" ["well", "many"] 2 d__law_draw := (f__law_draw C).toFn (fun _ _ _ _ _ _ us hl => match us, hl with | [_, _], _ => rfl)
theorem sc__law_bent : FnScope ["well", "system", "k", "rooms", "roads", "steps", "step", "odd", "bad", "deed", "one"] ["well", "system"] D__law_bent.scope := ⟨rfl, rfl, rfl, by decide +kernel, rfl, by decide +kernel, by decide +kernel⟩
theorem f__law_bent (C : HeadC fa fn ts K mg base T) : FnF P w K mg base T 2 D__law_bent "_law_bent" ["well", "system"] 2 d__law_bent_4 := by
  unfold d__law_bent_4
  refine fn_mk C 1 1 sc__law_bent fun cdv A outer s H E1 H0 pins E hr => ?_
  exact s_cons (s_asg (e_var (pv 1)) (g_tup rfl (gs_cons (g_name sc__law_bent.nd rfl (.inr rfl)) (gs_cons (g_name sc__law_bent.nd rfl (.inr rfl)) (gs_cons (g_name sc__law_bent.nd rfl (.inr rfl)) (gs_cons (g_name sc__law_bent.nd rfl (.inl rfl)) (gs_nil)))))))
        (s_cons (s_setD sc__law_bent.nd rfl (.inr rfl) (e_ixN (pv 5) (EV.frz (e_call (g__law_draw C) hr (by decide) rfl (as_s (pv 0) (as_d (e_callB c_len rfl (C.free 28) bt_len (a_last (e_peek (pv 5)))) (as_nil)))))))
        (s_cons (s_set sc__law_bent.nd rfl (.inl rfl) (e_lst (a_cons (e_non) (a_cons (e_tup (a_nil)) (a_cons (EV.frz (e_callTy c_list rfl (C.free 29) bt_list (a_last (e_peek (pv 1))))) (a_cons (EV.frz (e_slN (pv 1) (o_none) (o_some (e_int)))) (a_cons (EV.frz (e_opN op_addF (pv 1) (ED.q (e_tup (a_cons (e_int) (a_nil)))))) (a_cons (e_tup (a_cons (e_int) (a_cons (e_var (pv 3)) (a_cons (e_var (pv 4)) (a_cons (e_var (pv 5)) (a_nil)))))) (a_cons (e_tup (a_cons (e_int) (a_cons (e_var (pv 3)) (a_cons (e_var (pv 4)) (a_cons (e_var (pv 5)) (a_nil)))))) (a_cons (e_tup (a_cons (e_bl) (a_cons (e_var (pv 3)) (a_cons (e_var (pv 4)) (a_cons (e_var (pv 5)) (a_nil)))))) (a_nil)))))))))))
        (s_cons (s_set sc__law_bent.nd rfl (.inl rfl) (e_opN op_addF (pv 7) (EV.q (e_lst (a_cons (e_tup (a_cons (e_var (pv 2)) (a_cons (e_int) (a_cons (e_var (pv 4)) (a_cons (e_tup (a_nil)) (a_nil)))))) (a_cons (e_tup (a_cons (e_var (pv 2)) (a_cons (e_bl) (a_cons (e_var (pv 4)) (a_cons (e_tup (a_nil)) (a_nil)))))) (a_cons (e_tup (a_cons (e_var (pv 2)) (a_cons (e_var (pv 3)) (a_cons (e_int) (a_cons (e_tup (a_nil)) (a_nil)))))) (a_cons (e_tup (a_cons (e_var (pv 2)) (a_cons (e_var (pv 3)) (a_cons (e_int) (a_cons (e_var (pv 5)) (a_nil)))))) (a_cons (e_tup (a_cons (e_var (pv 2)) (a_cons (e_callTy c_strI rfl (C.free 30) bt_str (a_last (e_peek (pv 3)))) (a_cons (e_var (pv 4)) (a_cons (e_tup (a_nil)) (a_nil)))))) (a_cons (e_tup (a_cons (e_var (pv 2)) (a_cons (e_var (pv 3)) (a_cons (e_bl) (a_cons (e_tup (a_nil)) (a_nil)))))) (a_nil)))))))))))
        (s_cons (s_set sc__law_bent.nd rfl (.inl rfl) (e_opN op_addF (pv 7) (EV.q (e_lst (a_cons (e_tup (a_cons (e_var (pv 2)) (a_cons (e_var (pv 3)) (a_cons (e_var (pv 4)) (a_cons (EV.frz (e_callTy c_list rfl (C.free 29) bt_list (a_last (e_peek (pv 5))))) (a_nil)))))) (a_cons (e_tup (a_cons (e_var (pv 2)) (a_cons (e_var (pv 3)) (a_cons (e_var (pv 4)) (a_cons (EV.frz (e_opN op_addF (pv 5) (EV.q (e_slN (pv 5) (o_some (e_neg (e_int))) (o_none))))) (a_nil)))))) (a_cons (e_tup (a_cons (e_var (pv 2)) (a_cons (e_var (pv 3)) (a_cons (e_var (pv 4)) (a_cons (EV.frz (e_rev (e_peek (pv 5)))) (a_nil)))))) (a_cons (e_tup (a_cons (e_var (pv 2)) (a_cons (e_var (pv 3)) (a_cons (e_var (pv 4)) (a_cons (e_non) (a_nil)))))) (a_nil)))))))))
        (s_cons (s_set sc__law_bent.nd rfl (.inl rfl) (e_lst (a_cons (e_non) (a_cons (EV.frz (e_slN (pv 6) (o_none) (o_some (e_int)))) (a_cons (EV.frz (e_opN op_addF (pv 6) (ED.q (e_tup (a_cons (e_int) (a_nil)))))) (a_cons (EV.frz (e_callTy c_list rfl (C.free 29) bt_list (a_last (e_peek (pv 6))))) (a_cons (EV.frz (e_op op_addF (e_tup (a_cons (e_var (pv 3)) (a_nil))) (EV.q (e_slN (pv 6) (o_some (e_int)) (o_none))))) (a_cons (EV.frz (e_op op_addF (e_tup (a_cons (e_neg (e_int)) (a_nil))) (EV.q (e_slN (pv 6) (o_some (e_int)) (o_none))))) (a_cons (EV.frz (e_op op_addF (EV.frz (e_slN (pv 6) (o_none) (o_some (e_int)))) (ED.q (e_tup (a_cons (e_var (pv 3)) (a_nil)))))) (a_cons (EV.frz (e_op op_addF (e_tup (a_cons (e_bl) (a_nil))) (EV.q (e_slN (pv 6) (o_some (e_int)) (o_none))))) (a_nil)))))))))))
        (s_cons (s_set sc__law_bent.nd rfl (.inl rfl) (e_opN op_addF (pv 8) (EV.q (e_lc (own := [("deed", 9)]) rfl sc__law_bent.nd (i_seq (EV.frz (e_lst (a_cons (e_tup (a_nil)) (a_cons (e_tup (a_cons (e_int) (a_cons (e_int) (a_nil)))) (a_cons (e_tup (a_cons (e_int) (a_cons (e_int) (a_cons (e_int) (a_nil))))) (a_cons (e_tup (a_cons (e_int) (a_nil))) (a_cons (e_tup (a_cons (e_int) (a_cons (e_int) (a_nil)))) (a_cons (e_tup (a_cons (e_int) (a_cons (e_int) (a_cons (e_int) (a_nil))))) (a_cons (e_tup (a_cons (e_int) (a_cons (e_var (pv 4)) (a_cons (e_int) (a_nil))))) (a_cons (e_tup (a_cons (e_int) (a_cons (e_int) (a_cons (e_var (pv 2)) (a_nil))))) (a_cons (e_tup (a_cons (e_int) (a_cons (e_int) (a_cons (e_bl) (a_nil))))) (a_cons (EV.frz (e_lst (a_cons (e_int) (a_nil)))) (a_cons (e_int) (a_nil))))))))))))))) (blkOk_by (by kernel_rfl)) (by decide) (fun _ _ _ _ _ _ _ => g_name sc__law_bent.nd rfl (.inl rfl)) (fun _ _ _ _ _ _ _ => ts_nil) (fun _ _ _ _ _ _ _ => e_tup (a_cons (e_ixN (pv 6) (e_int)) (a_cons (e_var (pv 9)) (a_cons (e_ixN (pv 6) (e_int)) (a_nil)))))))))
        (s_cons (s_set sc__law_bent.nd rfl (.inl rfl) (e_opN op_addF (pv 8) (EV.q (e_lc (own := [("deed", 9)]) rfl sc__law_bent.nd (i_seq (EV.frz (e_lst (a_cons (e_tup (a_cons (e_bl) (a_nil))) (a_cons (e_tup (a_cons (e_int) (a_cons (e_neg (e_int)) (a_cons (e_int) (a_nil))))) (a_cons (e_tup (a_cons (e_int) (a_cons (e_int) (a_cons (e_int) (a_cons (e_int) (a_nil)))))) (a_cons (e_tup (a_cons (e_int) (a_cons (e_non) (a_cons (e_int) (a_nil))))) (a_cons (e_tup (a_cons (e_str) (a_cons (e_int) (a_cons (e_int) (a_nil))))) (a_nil))))))))) (blkOk_by (by kernel_rfl)) (by decide) (fun _ _ _ _ _ _ _ => g_name sc__law_bent.nd rfl (.inl rfl)) (fun _ _ _ _ _ _ _ => ts_nil) (fun _ _ _ _ _ _ _ => e_tup (a_cons (e_ixN (pv 6) (e_int)) (a_cons (e_var (pv 9)) (a_cons (e_ixN (pv 6) (e_int)) (a_nil)))))))))
        (s_cons (s_set sc__law_bent.nd rfl (.inl rfl) (e_opN op_addF (pv 7) (EV.q (e_lc (own := [("one", 10)]) rfl sc__law_bent.nd (i_seq (e_var (pv 8))) (blkOk_by (by kernel_rfl)) (by decide) (fun _ _ _ _ _ _ _ => g_name sc__law_bent.nd rfl (.inl rfl)) (fun _ _ _ _ _ _ _ => ts_nil) (fun _ _ _ _ _ _ _ => e_tup (a_cons (e_var (pv 2)) (a_cons (e_var (pv 3)) (a_cons (e_var (pv 4)) (a_cons (e_tup (a_cons (e_var (pv 10)) (a_nil))) (a_nil))))))))))
        (s_one (s_retD (e_ixN (pv 7) (EV.frz (e_call (g__law_draw C) hr (by decide) rfl (as_s (pv 0) (as_d (e_callB c_len rfl (C.free 28) bt_len (a_last (e_peek (pv 7)))) (as_nil))))))))))))))))
theorem g__law_bent (C : HeadC fa fn ts K mg base T) : Fn P w K mg base T 2 "_law_bent" ["well", "system"] 2 d__law_bent_4 := (f__law_bent C).toFn (fun _ _ _ _ _ _ us hl => match us, hl with | [_, _], _ => rfl)
theorem sc__law_bent_stand : FnScope ["well", "system", "stand", "room", "words", "odd", "one"] ["well", "system", "stand"] D__law_bent_stand.scope := ⟨rfl, rfl, rfl, by decide +kernel, rfl, by decide +kernel, by decide +kernel⟩
theorem f__law_bent_stand (C : HeadC fa fn ts K mg base T) : FnF P w K mg base T 2 D__law_bent_stand "_law_bent_stand" ["well", "system", "stand"] 3 d__law_bent_stand := by
  unfold d__law_bent_stand
  refine fn_mk C 2 2 sc__law_bent_stand fun cdv A outer s H E1 H0 pins E hr => ?_
  exact s_cons (s_asg (e_var (pv 2)) (g_tup rfl (gs_cons (g_name sc__law_bent_stand.nd rfl (.inr rfl)) (gs_cons (g_name sc__law_bent_stand.nd rfl (.inr rfl)) (gs_nil)))))
        (s_cons (s_set sc__law_bent_stand.nd rfl (.inl rfl) (e_lst (a_cons (e_non) (a_cons (e_tup (a_nil)) (a_cons (EV.frz (e_callTy c_list rfl (C.free 29) bt_list (a_last (e_peek (pv 2))))) (a_cons (EV.frz (e_opN op_addF (pv 2) (ED.q (e_tup (a_cons (e_int) (a_nil)))))) (a_cons (EV.frz (e_slN (pv 2) (o_none) (o_some (e_int)))) (a_cons (e_tup (a_cons (e_ixN (pv 1) (e_int)) (a_cons (e_var (pv 4)) (a_nil)))) (a_cons (e_tup (a_cons (e_neg (e_int)) (a_cons (e_var (pv 4)) (a_nil)))) (a_cons (e_tup (a_cons (e_bl) (a_cons (e_var (pv 4)) (a_nil)))) (a_cons (e_tup (a_cons (e_callTy c_strI rfl (C.free 30) bt_str (a_last (e_peek (pv 3)))) (a_cons (e_var (pv 4)) (a_nil)))) (a_cons (e_tup (a_cons (e_var (pv 3)) (a_cons (EV.frz (e_callTy c_list rfl (C.free 29) bt_list (a_last (e_peek (pv 4))))) (a_nil)))) (a_nil)))))))))))))
        (s_cons (s_set sc__law_bent_stand.nd rfl (.inl rfl) (e_opN op_addF (pv 5) (EV.q (e_lst (a_cons (e_tup (a_cons (e_var (pv 3)) (a_cons (EV.frz (e_opN op_addF (pv 4) (ED.q (e_tup (a_cons (e_tup (a_nil)) (a_nil)))))) (a_nil)))) (a_cons (e_tup (a_cons (e_var (pv 3)) (a_cons (EV.frz (e_slN (pv 4) (o_some (e_int)) (o_none))) (a_nil)))) (a_cons (e_tup (a_cons (e_var (pv 3)) (a_cons (e_ixN (pv 4) (e_int)) (a_nil)))) (a_cons (e_tup (a_cons (e_var (pv 3)) (a_cons (e_non) (a_nil)))) (a_cons (e_tup (a_cons (e_var (pv 4)) (a_cons (e_var (pv 3)) (a_nil)))) (a_nil))))))))))
        (s_cons (s_set sc__law_bent_stand.nd rfl (.inl rfl) (e_opN op_addF (pv 5) (EV.q (e_lc (own := [("one", 6)]) rfl sc__law_bent_stand.nd (i_seq (EV.frz (e_lst (a_cons (e_non) (a_cons (EV.frz (e_lst (a_cons (e_int) (a_nil)))) (a_cons (e_tup (a_cons (e_ixN (pv 1) (e_int)) (a_nil))) (a_cons (e_tup (a_cons (e_neg (e_int)) (a_nil))) (a_cons (e_tup (a_cons (e_bl) (a_nil))) (a_cons (e_tup (a_cons (e_str) (a_nil))) (a_cons (e_str) (a_cons (e_int) (a_cons (e_tup (a_cons (e_tup (a_cons (e_int) (a_nil))) (a_nil))) (a_cons (e_tup (a_cons (e_int) (a_cons (e_non) (a_nil)))) (a_nil)))))))))))))) (blkOk_by (by kernel_rfl)) (by decide) (fun _ _ _ _ _ _ _ => g_name sc__law_bent_stand.nd rfl (.inl rfl)) (fun _ _ _ _ _ _ _ => ts_nil) (fun _ _ _ _ _ _ _ => e_tup (a_cons (e_var (pv 3)) (a_cons (EV.frz (e_op op_addF (e_tup (a_cons (e_var (pv 6)) (a_nil))) (EV.q (e_slN (pv 4) (o_some (e_int)) (o_none))))) (a_nil))))))))
        (s_one (s_retD (e_ixN (pv 5) (EV.frz (e_call (g__law_draw C) hr (by decide) rfl (as_s (pv 0) (as_d (e_callB c_len rfl (C.free 28) bt_len (a_last (e_peek (pv 5)))) (as_nil)))))))))))
theorem g__law_bent_stand (C : HeadC fa fn ts K mg base T) : Fn P w K mg base T 2 "_law_bent_stand" ["well", "system", "stand"] 3 d__law_bent_stand := (f__law_bent_stand C).toFn (fun _ _ _ _ _ _ us hl => match us, hl with | [_, _, _], _ => rfl)
theorem sc__law_whole : FnScope ["value", "low", "high"] ["value", "low", "high"] D__law_whole.scope := ⟨rfl, rfl, rfl, by decide +kernel, rfl, by decide +kernel, by decide +kernel⟩
theorem f__law_whole (C : HeadC fa fn ts K mg base T) : FnF P w K mg base T 1 D__law_whole "_law_whole" ["value", "low", "high"] 3 d__law_whole := by
  unfold d__law_whole
  refine fn_mk C 3 3 sc__law_whole fun cdv A outer s H E1 H0 pins E hr => ?_
  exact s_one (s_retD (Fz.v_and (e_isi rfl (C.free 31) bt_isinstance (e_peek (pv 0)) rfl (C.free 27) bt_int) (Fz.v_and (Fz.v_not (ED.q (e_isi rfl (C.free 31) bt_isinstance (e_peek (pv 0)) rfl (C.free 32) bt_bool))) (Fz.v_one (e_chain op_leF op_leF (e_var (pv 1)) (e_var (pv 0)) (e_peek (pv 2)))))))
theorem g__law_whole (C : HeadC fa fn ts K mg base T) : Fn P w K mg base T 1 "_law_whole" ["value", "low", "high"] 3 d__law_whole := (f__law_whole C).toFn (fun _ _ _ _ _ _ us hl => match us, hl with | [_, _, _], _ => rfl)
theorem sc__law_is_stand : FnScope ["system", "value", "word", "letter"] ["system", "value"] D__law_is_stand.scope := ⟨rfl, rfl, rfl, by decide +kernel, rfl, by decide +kernel, by decide +kernel⟩
theorem f__law_is_stand (C : HeadC fa fn ts K mg base T) : FnF P w K mg base T 2 D__law_is_stand "_law_is_stand" ["system", "value"] 2 d__law_is_stand := by
  unfold d__law_is_stand
  refine fn_mk C 4 4 sc__law_is_stand fun cdv A outer s H E1 H0 pins E hr => ?_
  exact s_cons (s_if (t_bool (w_or (t_not (t_tru (ED.q (e_isi rfl (C.free 31) bt_isinstance (e_peek (pv 1)) rfl (C.free 33) bt_tuple)))) (w_or (t_cmp (op_neF hr.rm.units) (e_callB c_len rfl (C.free 28) bt_len (a_last (e_peek (pv 1)))) (ED.q (e_int)) (nomark _)) (w_or1 (t_not (t_tru (EV.q (e_call (g__law_whole C) hr (by decide) rfl (as_d (e_ixN (pv 1) (e_int)) (as_d (e_int) (as_d (e_op op_subF (e_ixN (pv 0) (e_int)) (ED.q (e_int))) (as_nil)))))))))))) (s_one (s_retD (e_bl))) (s_nil))
        (s_cons (s_if (t_bool (w_or (t_not (t_tru (ED.q (e_isi rfl (C.free 31) bt_isinstance (ED.q (e_ixN (pv 1) (e_int))) rfl (C.free 33) bt_tuple)))) (w_or (t_cmp (op_neF hr.rm.units) (e_callB c_len rfl (C.free 28) bt_len (a_last (ED.q (e_ixN (pv 1) (e_int))))) (ED.q (e_ixN (pv 0) (e_int))) (nomark _)) (w_or1 (t_not (t_tru (ED.q (e_callB (c_all rfl) rfl (C.free 34) bt_all (a_last (EV.q (e_lc (own := [("word", 2)]) rfl sc__law_is_stand.nd (i_seq (e_ixN (pv 1) (e_int))) (blkOk_by (by kernel_rfl)) (by decide) (fun _ _ _ _ _ _ _ => g_name sc__law_is_stand.nd rfl (.inl rfl)) (fun _ _ _ _ _ _ _ => ts_nil) (fun _ _ _ _ _ _ _ => e_isi rfl (C.free 31) bt_isinstance (e_peek (pv 2)) rfl (C.free 33) bt_tuple)))))))))))) (s_one (s_retD (e_bl))) (s_nil))
        (s_one (s_retD (e_callB (c_all rfl) rfl (C.free 34) bt_all (a_last (EV.q (e_lc (own := [("word", 2)]) rfl sc__law_is_stand.nd (i_seq (e_ixN (pv 1) (e_int))) (blkOk_by (by kernel_rfl)) (by decide) (fun _ _ _ _ _ _ _ => g_name sc__law_is_stand.nd rfl (.inl rfl)) (fun _ _ _ _ _ _ _ => ts_nil) (fun _ _ _ _ _ _ _ => e_callB (c_all rfl) rfl (C.free 34) bt_all (a_last (EV.q (e_lc (own := [("letter", 3)]) rfl sc__law_is_stand.nd (i_seq (e_var (pv 2))) (blkOk_by (by kernel_rfl)) (by decide) (fun _ _ _ _ _ _ _ => g_name sc__law_is_stand.nd rfl (.inl rfl)) (fun _ _ _ _ _ _ _ => ts_nil) (fun _ _ _ _ _ _ _ => EV.frz (e_call (g__law_whole C) hr (by decide) rfl (as_d (e_var (pv 3)) (as_d (e_int) (as_d (e_op op_subF (e_ixN (pv 0) (e_int)) (ED.q (e_int))) (as_nil)))))))))))))))))
theorem g__law_is_stand (C : HeadC fa fn ts K mg base T) : Fn P w K mg base T 2 "_law_is_stand" ["system", "value"] 2 d__law_is_stand := (f__law_is_stand C).toFn (fun _ _ _ _ _ _ us hl => match us, hl with | [_, _], _ => rfl)
theorem sc__law_is_step : FnScope ["k", "rooms", "roads", "step", "deed"] ["k", "rooms", "roads", "step"] D__law_is_step.scope := ⟨rfl, rfl, rfl, by decide +kernel, rfl, by decide +kernel, by decide +kernel⟩
theorem f__law_is_step (C : HeadC fa fn ts K mg base T) : FnF P w K mg base T 2 D__law_is_step "_law_is_step" ["k", "rooms", "roads", "step"] 4 d__law_is_step := by
  unfold d__law_is_step
  refine fn_mk C 5 5 sc__law_is_step fun cdv A outer s H E1 H0 pins E hr => ?_
  exact s_cons (s_if (t_bool (w_or (t_not (t_tru (ED.q (e_isi rfl (C.free 31) bt_isinstance (e_peek (pv 3)) rfl (C.free 33) bt_tuple)))) (w_or (t_cmp (op_neF hr.rm.units) (e_callB c_len rfl (C.free 28) bt_len (a_last (e_peek (pv 3)))) (ED.q (e_int)) (nomark _)) (w_or1 (t_not (t_tru (ED.q (e_isi rfl (C.free 31) bt_isinstance (ED.q (e_ixN (pv 3) (e_int))) rfl (C.free 33) bt_tuple)))))))) (s_one (s_retD (e_bl))) (s_nil))
        (s_cons (s_setD sc__law_is_step.nd rfl (.inl rfl) (e_ixN (pv 3) (e_int)))
        (s_cons (s_if (t_bool (w_or (t_not (t_tru (EV.q (e_call (g__law_whole C) hr (by decide) rfl (as_d (e_ixN (pv 3) (e_int)) (as_d (e_int) (as_d (e_opN op_subF (pv 1) (ED.q (e_int))) (as_nil)))))))) (w_or (t_not (t_tru (EV.q (e_call (g__law_whole C) hr (by decide) rfl (as_d (e_ixN (pv 3) (e_int)) (as_d (e_int) (as_d (e_opN op_subF (pv 1) (ED.q (e_int))) (as_nil)))))))) (w_or1 (t_cmp (op_notInF (room65 hr.rm)) (e_callB c_len rfl (C.free 28) bt_len (a_last (e_peek (pv 4)))) (ED.q (e_tup (a_cons (e_int) (a_cons (e_int) (a_nil))))) rfl))))) (s_one (s_retD (e_bl))) (s_nil))
        (s_cons (s_if (t_cmp (op_eqF hr.rm.units) (e_callB c_len rfl (C.free 28) bt_len (a_last (e_peek (pv 4)))) (ED.q (e_int)) (nomark _)) (s_one (s_ret (e_call (g__law_whole C) hr (by decide) rfl (as_d (e_ixN (pv 4) (e_int)) (as_d (e_int) (as_d (e_int) (as_nil))))))) (s_nil))
        (s_one (s_retD (Fz.v_and (EV.frz (e_call (g__law_whole C) hr (by decide) rfl (as_d (e_ixN (pv 4) (e_int)) (as_d (e_int) (as_d (e_int) (as_nil)))))) (Fz.v_and (EV.frz (e_call (g__law_whole C) hr (by decide) rfl (as_d (e_ixN (pv 4) (e_int)) (as_d (e_int) (as_d (e_opN op_subF (pv 2) (ED.q (e_int))) (as_nil)))))) (Fz.v_one (EV.frz (e_call (g__law_whole C) hr (by decide) rfl (as_d (e_ixN (pv 4) (e_int)) (as_d (e_int) (as_d (e_opN op_subF (pv 0) (ED.q (e_int))) (as_nil))))))))))))))
theorem g__law_is_step (C : HeadC fa fn ts K mg base T) : Fn P w K mg base T 2 "_law_is_step" ["k", "rooms", "roads", "step"] 4 d__law_is_step := (f__law_is_step C).toFn (fun _ _ _ _ _ _ us hl => match us, hl with | [_, _, _, _], _ => rfl)
theorem sc__law_is_system : FnScope ["value", "k", "rooms", "roads", "steps", "step", "one", "other"] ["value"] D__law_is_system.scope := ⟨rfl, rfl, rfl, by decide +kernel, rfl, by decide +kernel, by decide +kernel⟩
theorem f__law_is_system (C : HeadC fa fn ts K mg base T) : FnF P w K mg base T 3 D__law_is_system "_law_is_system" ["value"] 1 d__law_is_system := by
  unfold d__law_is_system
  refine fn_mk C 6 6 sc__law_is_system fun cdv A outer s H E1 H0 pins E hr => ?_
  exact s_cons (s_if (t_bool (w_or (t_not (t_tru (ED.q (e_isi rfl (C.free 31) bt_isinstance (e_peek (pv 0)) rfl (C.free 33) bt_tuple)))) (w_or (t_cmp (op_neF hr.rm.units) (e_callB c_len rfl (C.free 28) bt_len (a_last (e_peek (pv 0)))) (ED.q (e_int)) (nomark _)) (w_or1 (t_not (t_tru (ED.q (e_isi rfl (C.free 31) bt_isinstance (ED.q (e_ixN (pv 0) (e_int))) rfl (C.free 33) bt_tuple)))))))) (s_one (s_retD (e_bl))) (s_nil))
        (s_cons (s_asg (e_var (pv 0)) (g_tup rfl (gs_cons (g_name sc__law_is_system.nd rfl (.inr rfl)) (gs_cons (g_name sc__law_is_system.nd rfl (.inr rfl)) (gs_cons (g_name sc__law_is_system.nd rfl (.inr rfl)) (gs_cons (g_name sc__law_is_system.nd rfl (.inl rfl)) (gs_nil)))))))
        (s_cons (s_if (t_bool (w_or (t_not (t_tru (EV.q (e_call (g__law_whole C) hr (by decide) rfl (as_d (e_var (pv 1)) (as_d (e_int) (as_d (e_int) (as_nil)))))))) (w_or (t_not (t_tru (EV.q (e_call (g__law_whole C) hr (by decide) rfl (as_d (e_var (pv 2)) (as_d (e_int) (as_d (e_op op_powF (e_int) (ED.q (e_int))) (as_nil)))))))) (w_or1 (t_not (t_tru (EV.q (e_call (g__law_whole C) hr (by decide) rfl (as_d (e_var (pv 3)) (as_d (e_int) (as_d (e_int) (as_nil)))))))))))) (s_one (s_retD (e_bl))) (s_nil))
        (s_cons (s_if (t_not (t_tru (ED.q (e_callB (c_all rfl) rfl (C.free 34) bt_all (a_last (EV.q (e_lc (own := [("step", 5)]) rfl sc__law_is_system.nd (i_seq (e_var (pv 4))) (blkOk_by (by kernel_rfl)) (by decide) (fun _ _ _ _ _ _ _ => g_name sc__law_is_system.nd rfl (.inl rfl)) (fun _ _ _ _ _ _ _ => ts_nil) (fun _ _ _ _ _ _ _ => EV.frz (e_call (g__law_is_step C) hr (by decide) rfl (as_d (e_var (pv 1)) (as_d (e_var (pv 2)) (as_d (e_var (pv 3)) (as_d (e_var (pv 5)) (as_nil)))))))))))))) (s_one (s_retD (e_bl))) (s_nil))
        (s_one (s_retD (e_callB (c_all rfl) rfl (C.free 34) bt_all (a_last (EV.q (e_lc (own := [("one", 6), ("other", 7)]) rfl sc__law_is_system.nd (i_zip rfl (C.free 35) (e_var (pv 4)) (EV.frz (e_slN (pv 4) (o_some (e_int)) (o_none)))) (blkOk_by (by kernel_rfl)) (by decide) (fun _ _ _ _ _ _ _ => g_tup rfl (gs_cons (g_name sc__law_is_system.nd rfl (.inl rfl)) (gs_cons (g_name sc__law_is_system.nd rfl (.inl rfl)) (gs_nil)))) (fun _ _ _ _ _ _ _ => ts_nil) (fun _ _ _ _ _ _ _ => e_cmpN (op_ltD (room70 hr.rm)) (pv 6) (e_peek (pv 7)) (nomark _)))))))))))
theorem g__law_is_system (C : HeadC fa fn ts K mg base T) : Fn P w K mg base T 3 "_law_is_system" ["value"] 1 d__law_is_system := (f__law_is_system C).toFn (fun _ _ _ _ _ _ us hl => match us, hl with | [_], _ => rfl)
theorem sc__law_same : FnScope ["told", "due", "k"] ["told", "due"] D__law_same.scope := ⟨rfl, rfl, rfl, by decide +kernel, rfl, by decide +kernel, by decide +kernel⟩
theorem f__law_same (C : HeadC fa fn ts K mg base T) : ∀ k, FnF P w K mg base T (0 + k + 1) D__law_same "_law_same" ["told", "due"] 2 (d__law_same k)
  | 0 => by
    rw [d__law_same_0]
    exact fn_bad C 7 7
  | k + 1 => by
    have ih := (f__law_same C k).toFn (fun _ _ _ _ _ _ us hl => match us, hl with | [_, _], _ => rfl)
    rw [d__law_same_s]
    refine fn_mk C 7 7 sc__law_same fun cdv A outer s H E1 H0 pins E hr => ?_
    exact s_cons (s_if (t_cmpN op_isBF (pv 1) (ED.q (e_non)) (nomark _)) (s_one (s_retD (e_cmpN op_isBF (pv 0) (ED.q (e_non)) (nomark _)))) (s_nil))
        (s_cons (s_if (t_tru (ED.q (e_isi rfl (C.free 31) bt_isinstance (e_peek (pv 1)) rfl (C.free 32) bt_bool))) (s_one (s_retD (e_ite (t_tru (e_peek (pv 1))) (e_cmpN op_isBF (pv 0) (ED.q (e_bl)) (nomark _)) (e_cmpN op_isBF (pv 0) (ED.q (e_bl)) (nomark _))))) (s_nil))
        (s_cons (s_if (t_tru (ED.q (e_isi rfl (C.free 31) bt_isinstance (e_peek (pv 1)) rfl (C.free 27) bt_int))) (s_one (s_retD (Fz.v_and (e_isi rfl (C.free 31) bt_isinstance (e_peek (pv 0)) rfl (C.free 27) bt_int) (Fz.v_and (Fz.v_not (ED.q (e_isi rfl (C.free 31) bt_isinstance (e_peek (pv 0)) rfl (C.free 32) bt_bool))) (Fz.v_one (e_cmpN (op_eqF hr.rm.units) (pv 0) (e_peek (pv 1)) (nomark _))))))) (s_nil))
        (s_cons (s_if (t_tru (ED.q (e_isi rfl (C.free 31) bt_isinstance (e_peek (pv 1)) rfl (C.free 30) bt_str))) (s_one (s_retD (Fz.v_and (e_isi rfl (C.free 31) bt_isinstance (e_peek (pv 0)) rfl (C.free 30) bt_str) (Fz.v_one (e_cmpN (op_eqF hr.rm.units) (pv 0) (e_peek (pv 1)) (nomark _)))))) (s_nil))
        (s_cons (s_if (t_bool (w_or (t_cmp (op_neF hr.rm.units) (e_isi rfl (C.free 31) bt_isinstance (e_peek (pv 1)) rfl (C.free 33) bt_tuple) (ED.q (e_isi rfl (C.free 31) bt_isinstance (e_peek (pv 0)) rfl (C.free 33) bt_tuple)) (nomark _)) (w_or1 (t_cmp (op_neF hr.rm.units) (e_isi rfl (C.free 31) bt_isinstance (e_peek (pv 1)) rfl (C.free 29) bt_list) (ED.q (e_isi rfl (C.free 31) bt_isinstance (e_peek (pv 0)) rfl (C.free 29) bt_list)) (nomark _))))) (s_one (s_retD (e_bl))) (s_nil))
        (s_one (s_retD (Fz.v_and (e_cmp (op_eqF hr.rm.units) (e_callB c_len rfl (C.free 28) bt_len (a_last (e_peek (pv 0)))) (ED.q (e_callB c_len rfl (C.free 28) bt_len (a_last (e_peek (pv 1))))) (nomark _)) (Fz.v_one (e_callB (c_all rfl) rfl (C.free 34) bt_all (a_last (EV.q (e_lc (own := [("k", 2)]) rfl sc__law_same.nd (i_range1 rfl (C.free 36) (e_callB c_len rfl (C.free 28) bt_len (a_last (e_peek (pv 1))))) (blkOk_by (by kernel_rfl)) (by decide) (fun _ _ _ _ _ _ _ => g_name sc__law_same.nd rfl (.inl rfl)) (fun _ _ _ _ _ _ _ => ts_nil) (fun _ _ _ _ _ _ _ => EV.frz (e_call ih hr (by omega) rfl (as_d (e_ixN (pv 0) (e_var (pv 2))) (as_d (e_ixN (pv 1) (e_var (pv 2))) (as_nil)))))))))))))))))
theorem g__law_same (C : HeadC fa fn ts K mg base T) (k : Nat) : Fn P w K mg base T (0 + k + 1) "_law_same" ["told", "due"] 2 (d__law_same k) := (f__law_same C k).toFn (fun _ _ _ _ _ _ us hl => match us, hl with | [_, _], _ => rfl)
theorem sc__law_word : FnScope ["well", "k", "most", "at"] ["well", "k", "most"] D__law_word.scope := ⟨rfl, rfl, rfl, by decide +kernel, rfl, by decide +kernel, by decide +kernel⟩
theorem f__law_word (C : HeadC fa fn ts K mg base T) : FnF P w K mg base T 2 D__law_word "_law_word" ["well", "k", "most"] 3 d__law_word_2 := by
  unfold d__law_word_2
  refine fn_mk C 8 8 sc__law_word fun cdv A outer s H E1 H0 pins E hr => ?_
  exact s_one (s_retD (e_callTy c_tuple rfl (C.free 33) bt_tuple (a_last (EV.q (e_lc (own := [("at", 3)]) rfl sc__law_word.nd (i_range1 rfl (C.free 36) (EV.frz (e_call (g__law_draw C) hr (by decide) rfl (as_s (pv 0) (as_d (EV.frz (e_opN op_addF (pv 2) (ED.q (e_int)))) (as_nil)))))) (blkOk_by (by kernel_rfl)) (by decide) (fun _ _ _ _ _ _ _ => g_name sc__law_word.nd rfl (.inl rfl)) (fun _ _ _ _ _ _ _ => ts_nil) (fun _ _ _ _ _ _ _ => EV.frz (e_call (g__law_draw C) hr (by decide) rfl (as_s (pv 0) (as_d (e_var (pv 1)) (as_nil))))))))))
theorem g__law_word (C : HeadC fa fn ts K mg base T) : Fn P w K mg base T 2 "_law_word" ["well", "k", "most"] 3 d__law_word_2 := (f__law_word C).toFn (fun _ _ _ _ _ _ us hl => match us, hl with | [_, _, _], _ => rfl)
theorem sc__law_stand : FnScope ["well", "system", "most", "road"] ["well", "system", "most"] D__law_stand.scope := ⟨rfl, rfl, rfl, by decide +kernel, rfl, by decide +kernel, by decide +kernel⟩
theorem f__law_stand (C : HeadC fa fn ts K mg base T) : FnF P w K mg base T 3 D__law_stand "_law_stand" ["well", "system", "most"] 3 d__law_stand := by
  unfold d__law_stand
  refine fn_mk C 9 9 sc__law_stand fun cdv A outer s H E1 H0 pins E hr => ?_
  exact s_one (s_retD (e_tup (a_cons (EV.frz (e_call (g__law_draw C) hr (by decide) rfl (as_s (pv 0) (as_d (e_ixN (pv 1) (e_int)) (as_nil))))) (a_cons (e_callTy c_tuple rfl (C.free 33) bt_tuple (a_last (EV.q (e_lc (own := [("road", 3)]) rfl sc__law_stand.nd (i_range1 rfl (C.free 36) (e_ixN (pv 1) (e_int))) (blkOk_by (by kernel_rfl)) (by decide) (fun _ _ _ _ _ _ _ => g_name sc__law_stand.nd rfl (.inl rfl)) (fun _ _ _ _ _ _ _ => ts_nil) (fun _ _ _ _ _ _ _ => EV.frz (e_call (g__law_word C) hr (by decide) rfl (as_s (pv 0) (as_d (e_ixN (pv 1) (e_int)) (as_d (e_var (pv 2)) (as_nil)))))))))) (a_nil)))))
theorem g__law_stand (C : HeadC fa fn ts K mg base T) : Fn P w K mg base T 3 "_law_stand" ["well", "system", "most"] 3 d__law_stand := (f__law_stand C).toFn (fun _ _ _ _ _ _ us hl => match us, hl with | [_, _, _], _ => rfl)
theorem sc__law_system : FnScope ["well", "two", "k", "roads", "rooms", "steps", "turn", "way", "road", "letter", "deed"] ["well", "two"] D__law_system.scope := ⟨rfl, rfl, rfl, by decide +kernel, rfl, by decide +kernel, by decide +kernel⟩
theorem f__law_system (C : HeadC fa fn ts K mg base T) : FnF P w K mg base T 2 D__law_system "_law_system" ["well", "two"] 2 d__law_system := by
  unfold d__law_system
  refine fn_mk C 10 10 sc__law_system fun cdv A outer s H E1 H0 pins E hr => ?_
  exact s_cons (s_par2 rfl sc__law_system.nd rfl rfl (by decide) rfl rfl (av_cons (e_op op_addF (e_int) (EV.q (e_call (g__law_draw C) hr (by decide) rfl (as_s (pv 0) (as_d (e_int) (as_nil)))))) (av_cons (ED.v (e_ite (t_tru (e_peek (pv 1))) (e_int) (e_int))) (av_nil) (fun _ _ => av_nil)) (fun _ _ => av_cons (ED.v (e_ite (t_tru (e_peek (pv 1))) (e_int) (e_int))) (av_nil) (fun _ _ => av_nil))) rfl)
        (s_cons (s_par2 rfl sc__law_system.nd rfl rfl (by decide) rfl rfl (av_cons (e_op op_addF (e_int) (EV.q (e_call (g__law_draw C) hr (by decide) rfl (as_s (pv 0) (as_d (e_ite (t_tru (e_peek (pv 1))) (e_int) (e_int)) (as_nil)))))) (av_last (e_dnew)) (fun _ _ => av_last (e_dnew))) rfl)
        (s_cons (s_for PassesOwn.never rfl (i_range1 rfl (C.free 36) (EV.frz (e_op op_addF (e_int) (EV.q (e_call (g__law_draw C) hr (by decide) rfl (as_s (pv 0) (as_d (e_ite (t_tru (e_peek (pv 1))) (e_int) (e_int)) (as_nil)))))))) (g_name sc__law_system.nd rfl (.inl rfl)) (s_cons (s_par3 rfl sc__law_system.nd rfl rfl rfl (by decide) (by decide) (by decide) rfl rfl rfl (av_cons (e_call (g__law_draw C) hr (by decide) rfl (as_s (pv 0) (as_d (e_int) (as_nil)))) (av_cons (e_call (g__law_draw C) hr (by decide) rfl (as_s (pv 0) (as_d (e_var (pv 3)) (as_nil)))) (av_cons (e_call (g__law_draw C) hr (by decide) rfl (as_s (pv 0) (as_d (e_var (pv 2)) (as_nil)))) (av_nil) (fun _ _ => av_nil)) (fun _ _ => av_cons (e_call (g__law_draw C) hr (by decide) rfl (as_s (pv 0) (as_d (e_var (pv 2)) (as_nil)))) (av_nil) (fun _ _ => av_nil))) (fun _ _ => av_cons (e_call (g__law_draw C) hr (by decide) rfl (as_s (pv 0) (as_d (e_var (pv 3)) (as_nil)))) (av_cons (e_call (g__law_draw C) hr (by decide) rfl (as_s (pv 0) (as_d (e_var (pv 2)) (as_nil)))) (av_nil) (fun _ _ => av_nil)) (fun _ _ => av_cons (e_call (g__law_draw C) hr (by decide) rfl (as_s (pv 0) (as_d (e_var (pv 2)) (as_nil)))) (av_nil) (fun _ _ => av_nil)))) rfl)
        (s_cons (s_setD sc__law_system.nd rfl (.inl rfl) (e_ite (t_cmpN (op_eqF hr.rm.units) (pv 7) (ED.q (e_int)) (nomark _)) (e_tup (a_cons (e_int) (a_nil))) (e_tup (a_cons (EV.frz (e_op op_addF (e_int) (ED.q (e_callTy c_int rfl (C.free 27) bt_int (a_last (ED.q (e_cmpN op_gtF (pv 7) (ED.q (e_int)) (nomark _)))))))) (a_cons (e_var (pv 8)) (a_cons (e_var (pv 9)) (a_nil)))))))
        (s_one (s_dput (room70 hr.rm) (pv 5) (e_bl) (e_tup (a_cons (EV.frz (e_call (g__law_draw C) hr (by decide) rfl (as_s (pv 0) (as_d (e_var (pv 4)) (as_nil))))) (a_cons (e_var (pv 10)) (a_cons (EV.frz (e_call (g__law_draw C) hr (by decide) rfl (as_s (pv 0) (as_d (e_var (pv 4)) (as_nil))))) (a_nil))))))))))
        (s_one (s_retD (e_tup (a_cons (e_var (pv 2)) (a_cons (e_var (pv 4)) (a_cons (e_var (pv 3)) (a_cons (e_callTy c_tuple rfl (C.free 33) bt_tuple (a_last (EV.q (e_sortDic rfl (room70 hr.rm) rfl (C.free 37) (pv 5))))) (a_nil))))))))))
theorem g__law_system (C : HeadC fa fn ts K mg base T) : Fn P w K mg base T 2 "_law_system" ["well", "two"] 2 d__law_system := (f__law_system C).toFn (fun _ _ _ _ _ _ us hl => match us, hl with | [_, _], _ => rfl)
theorem sc__law_well : FnScope ["script", "place", "mixed", "one", "cell"] ["script", "place"] D__law_well.scope := ⟨rfl, rfl, rfl, by decide +kernel, rfl, by decide +kernel, by decide +kernel⟩
theorem f__law_well (C : HeadC fa fn ts K mg base T) : FnF P w K mg base T 1 D__law_well "_law_well" ["script", "place"] 2 d__law_well_2 := by
  unfold d__law_well_2
  refine fn_mk C 11 11 sc__law_well fun cdv A outer s H E1 H0 pins E hr => ?_
  exact s_cons (s_set sc__law_well.nd rfl (.inl rfl) (e_op op_addF (e_int) (ED.q (e_opN op_mulX (pv 1) (ED.q (e_int))))))
        (s_cons (s_for PassesOwn.never rfl (i_seq (EV.frz (e_slN (pv 0) (o_none) (o_some (e_int))))) (g_name sc__law_well.nd rfl (.inl rfl)) (s_one (s_setD sc__law_well.nd rfl (.inl rfl) (e_op op_modF (e_callTy c_int rfl (C.free 27) bt_int (a_last (EV.q (e_op op_addF (EV.frz (e_op op_addF (e_opN op_mulX (pv 2) (ED.q (e_int))) (ED.q (e_opN op_mulX (pv 3) (ED.q (e_int)))))) (ED.q (e_int)))))) (ED.q (e_int))))))
        (s_cons (s_setD sc__law_well.nd rfl (.inl rfl) (e_ite (t_cmpN op_ltF (pv 1) (ED.q (e_callB c_len rfl (C.free 28) bt_len (a_last (e_peek (pv 0))))) (nomark _)) (e_callTy c_int rfl (C.free 27) bt_int (a_last (ED.q (e_ixN (pv 0) (e_var (pv 1)))))) (e_int)))
        (s_one (s_ret (e_lst (a_cons (e_callB (c_max2 rfl) rfl (C.free 39) bt_max (a_consQ (e_int) (a_last (ED.q (e_op op_subF (e_callB c_abs rfl (C.free 38) bt_abs (a_last (e_peek (pv 4)))) (ED.q (e_op op_powX (e_int) (ED.q (e_int))))))))) (a_cons (e_var (pv 2)) (a_cons (e_int) (a_nil)))))))))
theorem g__law_well (C : HeadC fa fn ts K mg base T) : Fn P w K mg base T 1 "_law_well" ["script", "place"] 2 d__law_well_2 := (f__law_well C).toFn (fun _ _ _ _ _ _ us hl => match us, hl with | [_, _], _ => rfl)
theorem sc_is_ascending : FnScope ["some", "one", "other"] ["some"] D_is_ascending.scope := ⟨rfl, rfl, rfl, by decide +kernel, rfl, by decide +kernel, by decide +kernel⟩
theorem f_is_ascending (C : HeadC fa fn ts K mg base T) : FnF P w K mg base T 2 D_is_ascending "is_ascending" ["some"] 1 d_is_ascending_2 := by
  unfold d_is_ascending_2
  refine fn_mkC C 12 12 0 sc_is_ascending fun A outer s H E1 H0 pins E hr => ?_
  exact s_one (s_retD (e_any (own := [("one", 1), ("other", 2)]) false hr rfl sc_is_ascending.nd rfl (C.free 34) (C.tab 0).1 rfl (C.tab 0).2 (i_zip rfl (C.free 35) (e_var (pv 0)) (EV.frz (e_slN (pv 0) (o_some (e_int)) (o_none)))) (blkOk_by (by kernel_rfl)) ⟨rfl, by decide +kernel, rfl⟩ (by decide) (fun _ _ _ _ _ _ _ _ hr => g_tup rfl (gs_cons (g_name sc_is_ascending.nd rfl (.inl rfl)) (gs_cons (g_name sc_is_ascending.nd rfl (.inl rfl)) (gs_nil)))) (fun _ _ _ _ _ _ _ _ hr => ts_nil) (fun _ _ _ _ _ _ _ _ hr => e_cmpN (op_ltD (room70 hr.rm)) (pv 1) (e_peek (pv 2)) (nomark _))))
theorem g_is_ascending (C : HeadC fa fn ts K mg base T) : Fn P w K mg base T 2 "is_ascending" ["some"] 1 d_is_ascending_2 := (f_is_ascending C).toFn (fun _ _ _ _ _ _ us hl => match us, hl with | [_], _ => rfl)
theorem sc_is_integer : FnScope ["value"] ["value"] D_is_integer.scope := ⟨rfl, rfl, rfl, by decide +kernel, rfl, by decide +kernel, by decide +kernel⟩
theorem f_is_integer (C : HeadC fa fn ts K mg base T) : FnF P w K mg base T 1 D_is_integer "is_integer" ["value"] 1 d_is_integer := by
  unfold d_is_integer
  refine fn_mk C 13 13 sc_is_integer fun cdv A outer s H E1 H0 pins E hr => ?_
  exact s_one (s_retD (Fz.v_and (e_isi rfl (C.free 31) bt_isinstance (e_peek (pv 0)) rfl (C.free 27) bt_int) (Fz.v_one (Fz.v_not (ED.q (e_isi rfl (C.free 31) bt_isinstance (e_peek (pv 0)) rfl (C.free 32) bt_bool))))))
theorem g_is_integer (C : HeadC fa fn ts K mg base T) : Fn P w K mg base T 1 "is_integer" ["value"] 1 d_is_integer := (f_is_integer C).toFn (fun _ _ _ _ _ _ us hl => match us, hl with | [_], _ => rfl)
theorem sc_is_between : FnScope ["value", "low", "high"] ["value", "low", "high"] D_is_between.scope := ⟨rfl, rfl, rfl, by decide +kernel, rfl, by decide +kernel, by decide +kernel⟩
theorem f_is_between (C : HeadC fa fn ts K mg base T) : FnF P w K mg base T 2 D_is_between "is_between" ["value", "low", "high"] 3 d_is_between := by
  unfold d_is_between
  refine fn_mk C 14 14 sc_is_between fun cdv A outer s H E1 H0 pins E hr => ?_
  exact s_one (s_retD (Fz.v_and (EV.frz (e_call (g_is_integer C) hr (by decide) rfl (as_d (e_var (pv 0)) (as_nil)))) (Fz.v_one (e_chain op_leF op_leF (e_var (pv 1)) (e_var (pv 0)) (e_peek (pv 2))))))
theorem g_is_between (C : HeadC fa fn ts K mg base T) : Fn P w K mg base T 2 "is_between" ["value", "low", "high"] 3 d_is_between := (f_is_between C).toFn (fun _ _ _ _ _ _ us hl => match us, hl with | [_, _, _], _ => rfl)
theorem sc_is_k : FnScope ["value"] ["value"] D_is_k.scope := ⟨rfl, rfl, rfl, by decide +kernel, rfl, by decide +kernel, by decide +kernel⟩
theorem f_is_k (C : HeadC fa fn ts K mg base T) : FnF P w K mg base T 3 D_is_k "is_k" ["value"] 1 d_is_k := by
  unfold d_is_k
  refine fn_mk C 15 15 sc_is_k fun cdv A outer s H E1 H0 pins E hr => ?_
  exact s_one (s_ret (e_call (g_is_between C) hr (by decide) rfl (as_d (e_var (pv 0)) (as_d (e_int) (as_d (e_gint rfl (C.int 40)) (as_nil))))))
theorem g_is_k (C : HeadC fa fn ts K mg base T) : Fn P w K mg base T 3 "is_k" ["value"] 1 d_is_k := (f_is_k C).toFn (fun _ _ _ _ _ _ us hl => match us, hl with | [_], _ => rfl)
theorem sc_is_deed : FnScope ["k", "roads", "told"] ["k", "roads", "told"] D_is_deed.scope := ⟨rfl, rfl, rfl, by decide +kernel, rfl, by decide +kernel, by decide +kernel⟩
theorem f_is_deed (C : HeadC fa fn ts K mg base T) : FnF P w K mg base T 3 D_is_deed "is_deed" ["k", "roads", "told"] 3 d_is_deed := by
  unfold d_is_deed
  refine fn_mk C 16 16 sc_is_deed fun cdv A outer s H E1 H0 pins E hr => ?_
  exact s_cons (s_if (t_bool (w_or (t_not (t_tru (ED.q (e_isi rfl (C.free 31) bt_isinstance (e_peek (pv 2)) rfl (C.free 33) bt_tuple)))) (w_or (t_cmp (op_notInF (room65 hr.rm)) (e_callB c_len rfl (C.free 28) bt_len (a_last (e_peek (pv 2)))) (ED.q (e_tup (a_cons (e_int) (a_cons (e_int) (a_nil))))) rfl) (w_or1 (t_not (t_tru (EV.q (e_call (g_is_between C) hr (by decide) rfl (as_d (e_ixN (pv 2) (e_int)) (as_d (e_int) (as_d (e_int) (as_nil)))))))))))) (s_one (s_retD (e_bl))) (s_nil))
        (s_cons (s_if (t_cmp (op_eqF hr.rm.units) (e_ixN (pv 2) (e_int)) (ED.q (e_int)) (nomark _)) (s_one (s_retD (e_cmp (op_eqF hr.rm.units) (e_callB c_len rfl (C.free 28) bt_len (a_last (e_peek (pv 2)))) (ED.q (e_int)) (nomark _)))) (s_nil))
        (s_one (s_retD (Fz.v_and (e_cmp (op_eqF hr.rm.units) (e_callB c_len rfl (C.free 28) bt_len (a_last (e_peek (pv 2)))) (ED.q (e_int)) (nomark _)) (Fz.v_and (EV.frz (e_call (g_is_between C) hr (by decide) rfl (as_d (e_ixN (pv 2) (e_int)) (as_d (e_int) (as_d (e_opN op_subF (pv 1) (ED.q (e_int))) (as_nil)))))) (Fz.v_one (EV.frz (e_call (g_is_between C) hr (by decide) rfl (as_d (e_ixN (pv 2) (e_int)) (as_d (e_int) (as_d (e_opN op_subF (pv 0) (ED.q (e_int))) (as_nil))))))))))))
theorem g_is_deed (C : HeadC fa fn ts K mg base T) : Fn P w K mg base T 3 "is_deed" ["k", "roads", "told"] 3 d_is_deed := (f_is_deed C).toFn (fun _ _ _ _ _ _ us hl => match us, hl with | [_, _, _], _ => rfl)
theorem sc_is_step : FnScope ["k", "rooms", "roads", "told"] ["k", "rooms", "roads", "told"] D_is_step.scope := ⟨rfl, rfl, rfl, by decide +kernel, rfl, by decide +kernel, by decide +kernel⟩
theorem f_is_step (C : HeadC fa fn ts K mg base T) : FnF P w K mg base T 4 D_is_step "is_step" ["k", "rooms", "roads", "told"] 4 d_is_step := by
  unfold d_is_step
  refine fn_mk C 17 17 sc_is_step fun cdv A outer s H E1 H0 pins E hr => ?_
  exact s_cons (s_if (t_bool (w_or (t_not (t_tru (ED.q (e_isi rfl (C.free 31) bt_isinstance (e_peek (pv 3)) rfl (C.free 33) bt_tuple)))) (w_or1 (t_cmp (op_neF hr.rm.units) (e_callB c_len rfl (C.free 28) bt_len (a_last (e_peek (pv 3)))) (ED.q (e_int)) (nomark _))))) (s_one (s_retD (e_bl))) (s_nil))
        (s_one (s_retD (Fz.v_and (EV.frz (e_call (g_is_between C) hr (by decide) rfl (as_d (e_ixN (pv 3) (e_int)) (as_d (e_int) (as_d (e_opN op_subF (pv 1) (ED.q (e_int))) (as_nil)))))) (Fz.v_and (EV.frz (e_call (g_is_between C) hr (by decide) rfl (as_d (e_ixN (pv 3) (e_int)) (as_d (e_int) (as_d (e_opN op_subF (pv 1) (ED.q (e_int))) (as_nil)))))) (Fz.v_one (EV.frz (e_call (g_is_deed C) hr (by decide) rfl (as_d (e_var (pv 0)) (as_d (e_var (pv 2)) (as_d (e_ixN (pv 3) (e_int)) (as_nil)))))))))))
theorem g_is_step (C : HeadC fa fn ts K mg base T) : Fn P w K mg base T 4 "is_step" ["k", "rooms", "roads", "told"] 4 d_is_step := (f_is_step C).toFn (fun _ _ _ _ _ _ us hl => match us, hl with | [_, _, _, _], _ => rfl)
theorem sc_is_system : FnScope ["value", "steps", "k", "roads", "rooms", "step"] ["value"] D_is_system.scope := ⟨rfl, rfl, rfl, by decide +kernel, rfl, by decide +kernel, by decide +kernel⟩
theorem f_is_system (C : HeadC fa fn ts K mg base T) : FnF P w K mg base T 6 D_is_system "is_system" ["value"] 1 d_is_system_2 := by
  unfold d_is_system_2
  refine fn_mkC C 18 18 1 sc_is_system fun A outer s H E1 H0 pins E hr => ?_
  exact s_cons (s_if (t_bool (w_or (t_not (t_tru (ED.q (e_isiO rfl (C.free 31) bt_isinstance (pv 0) rfl (C.free 33) bt_tuple)))) (w_or1 (t_cmp (op_neF hr.rm.units) (e_callB c_len rfl (C.free 28) bt_len (a_last (e_peek (pv 0)))) (ED.q (e_int)) (nomark _))))) (s_one (s_retD (e_bl))) (s_nil))
        (s_cons (s_asg (e_var (pv 0)) (g_tup rfl (gs_cons (g_name sc_is_system.nd rfl (.inr rfl)) (gs_cons (g_name sc_is_system.nd rfl (.inr rfl)) (gs_cons (g_name sc_is_system.nd rfl (.inr rfl)) (gs_cons (g_name sc_is_system.nd rfl (.inl rfl)) (gs_nil)))))))
        (s_cons (s_if (t_bool (w_or (t_not (t_tru (EV.q (e_call (g_is_k C) hr (by decide) rfl (as_d (e_var (pv 2)) (as_nil)))))) (w_or (t_not (t_tru (EV.q (e_call (g_is_integer C) hr (by decide) rfl (as_d (e_var (pv 4)) (as_nil)))))) (w_or (t_cmpN op_ltF (pv 4) (ED.q (e_int)) (nomark _)) (w_or1 (t_not (t_tru (EV.q (e_call (g_is_between C) hr (by decide) rfl (as_d (e_var (pv 3)) (as_d (e_int) (as_d (e_gint rfl (C.int 41)) (as_nil))))))))))))) (s_one (s_retD (e_bl))) (s_nil))
        (s_cons (s_if (t_bool (w_or (t_not (t_tru (ED.q (e_isi rfl (C.free 31) bt_isinstance (e_peek (pv 1)) rfl (C.free 33) bt_tuple)))) (w_or1 (t_not (t_tru (ED.q (e_any (own := [("step", 5)]) false hr rfl sc_is_system.nd rfl (C.free 34) (C.tab 1).1 rfl (C.tab 1).2 (i_seq (e_var (pv 1))) (blkOk_by (by kernel_rfl)) ⟨rfl, by decide +kernel, rfl⟩ (by decide) (fun _ _ _ _ _ _ _ _ hr => g_name sc_is_system.nd rfl (.inl rfl)) (fun _ _ _ _ _ _ _ _ hr => ts_nil) (fun _ _ _ _ _ _ _ _ hr => EV.frz (e_call (g_is_step C) hr (by decide) rfl (as_d (e_var (pv 2)) (as_d (e_var (pv 4)) (as_d (e_var (pv 3)) (as_d (e_var (pv 5)) (as_nil)))))))))))))) (s_one (s_retD (e_bl))) (s_nil))
        (s_one (s_ret (e_call (g_is_ascending C) hr (by decide) rfl (as_d (e_var (pv 1)) (as_nil))))))))
theorem g_is_system (C : HeadC fa fn ts K mg base T) : Fn P w K mg base T 6 "is_system" ["value"] 1 d_is_system_2 := (f_is_system C).toFn (fun _ _ _ _ _ _ us hl => match us, hl with | [_], _ => rfl)
theorem k_is_system_0_value (C : HeadC fa fn ts K mg base T) : FnK P w K mg base T 6 "is_system" ["value"] 1 d_is_system_2 0 ["value"] [0] := (f_is_system C).toFnK fun _ _ _ _ _ _ us ws h1 h2 => match us, ws, h1, h2 with | [], [_], _, _ => rfl
theorem sc_check_system : FnScope ["system"] ["system"] D_check_system.scope := ⟨rfl, rfl, rfl, by decide +kernel, rfl, by decide +kernel, by decide +kernel⟩
theorem f_check_system (C : HeadC fa fn ts K mg base T) : FnF P w K mg base T 7 D_check_system "check_system" ["system"] 1 d_check_system_2 := by
  unfold d_check_system_2
  refine fn_mk C 19 19 sc_check_system fun cdv A outer s H E1 H0 pins E hr => ?_
  exact s_one (s_if (t_not (t_tru (EV.q (e_call (g_is_system C) hr (by decide) rfl (as_d (e_var (pv 0)) (as_nil)))))) (s_one (s_never)) (s_nil))
theorem g_check_system (C : HeadC fa fn ts K mg base T) : Fn P w K mg base T 7 "check_system" ["system"] 1 d_check_system_2 := (f_check_system C).toFn (fun _ _ _ _ _ _ us hl => match us, hl with | [_], _ => rfl)
theorem sc_is_natural : FnScope ["value"] ["value"] D_is_natural.scope := ⟨rfl, rfl, rfl, by decide +kernel, rfl, by decide +kernel, by decide +kernel⟩
theorem f_is_natural (C : HeadC fa fn ts K mg base T) : FnF P w K mg base T 2 D_is_natural "is_natural" ["value"] 1 d_is_natural := by
  unfold d_is_natural
  refine fn_mk C 20 20 sc_is_natural fun cdv A outer s H E1 H0 pins E hr => ?_
  exact s_one (s_retD (Fz.v_and (EV.frz (e_call (g_is_integer C) hr (by decide) rfl (as_d (e_var (pv 0)) (as_nil)))) (Fz.v_one (e_cmpN op_geF (pv 0) (ED.q (e_int)) (nomark _)))))
theorem g_is_natural (C : HeadC fa fn ts K mg base T) : Fn P w K mg base T 2 "is_natural" ["value"] 1 d_is_natural := (f_is_natural C).toFn (fun _ _ _ _ _ _ us hl => match us, hl with | [_], _ => rfl)
theorem sc_is_below : FnScope ["value", "many"] ["value", "many"] D_is_below.scope := ⟨rfl, rfl, rfl, by decide +kernel, rfl, by decide +kernel, by decide +kernel⟩
theorem f_is_below (C : HeadC fa fn ts K mg base T) : FnF P w K mg base T 3 D_is_below "is_below" ["value", "many"] 2 d_is_below := by
  unfold d_is_below
  refine fn_mk C 21 21 sc_is_below fun cdv A outer s H E1 H0 pins E hr => ?_
  exact s_one (s_retD (Fz.v_and (EV.frz (e_call (g_is_natural C) hr (by decide) rfl (as_d (e_var (pv 0)) (as_nil)))) (Fz.v_one (e_cmpN op_ltF (pv 0) (e_peek (pv 1)) (nomark _)))))
theorem g_is_below (C : HeadC fa fn ts K mg base T) : Fn P w K mg base T 3 "is_below" ["value", "many"] 2 d_is_below := (f_is_below C).toFn (fun _ _ _ _ _ _ us hl => match us, hl with | [_, _], _ => rfl)
theorem sc_is_letters : FnScope ["k", "value", "letter"] ["k", "value"] D_is_letters.scope := ⟨rfl, rfl, rfl, by decide +kernel, rfl, by decide +kernel, by decide +kernel⟩
theorem f_is_letters (C : HeadC fa fn ts K mg base T) : FnF P w K mg base T 5 D_is_letters "is_letters" ["k", "value"] 2 d_is_letters := by
  unfold d_is_letters
  refine fn_mkC C 22 22 2 sc_is_letters fun A outer s H E1 H0 pins E hr => ?_
  exact s_one (s_retD (Fz.v_and (e_isi rfl (C.free 31) bt_isinstance (e_peek (pv 1)) rfl (C.free 33) bt_tuple) (Fz.v_one (e_any (own := [("letter", 2)]) false hr rfl sc_is_letters.nd rfl (C.free 34) (C.tab 2).1 rfl (C.tab 2).2 (i_seq (e_var (pv 1))) (blkOk_by (by kernel_rfl)) ⟨rfl, by decide +kernel, rfl⟩ (by decide) (fun _ _ _ _ _ _ _ _ hr => g_name sc_is_letters.nd rfl (.inl rfl)) (fun _ _ _ _ _ _ _ _ hr => ts_nil) (fun _ _ _ _ _ _ _ _ hr => EV.frz (e_call (g_is_below C) hr (by decide) rfl (as_d (e_var (pv 2)) (as_d (e_var (pv 0)) (as_nil)))))))))
theorem g_is_letters (C : HeadC fa fn ts K mg base T) : Fn P w K mg base T 5 "is_letters" ["k", "value"] 2 d_is_letters := (f_is_letters C).toFn (fun _ _ _ _ _ _ us hl => match us, hl with | [_, _], _ => rfl)
theorem sc_are_words : FnScope ["system", "told", "word"] ["system", "told"] D_are_words.scope := ⟨rfl, rfl, rfl, by decide +kernel, rfl, by decide +kernel, by decide +kernel⟩
theorem f_are_words (C : HeadC fa fn ts K mg base T) : FnF P w K mg base T 7 D_are_words "are_words" ["system", "told"] 2 d_are_words := by
  unfold d_are_words
  refine fn_mkC C 23 23 3 sc_are_words fun A outer s H E1 H0 pins E hr => ?_
  exact s_cons (s_if (t_bool (w_or (t_not (t_tru (ED.q (e_isi rfl (C.free 31) bt_isinstance (e_peek (pv 1)) rfl (C.free 33) bt_tuple)))) (w_or1 (t_cmp (op_neF hr.rm.units) (e_callB c_len rfl (C.free 28) bt_len (a_last (e_peek (pv 1)))) (ED.q (e_ixN (pv 0) (e_int))) (nomark _))))) (s_one (s_retD (e_bl))) (s_nil))
        (s_one (s_retD (e_any (own := [("word", 2)]) false hr rfl sc_are_words.nd rfl (C.free 34) (C.tab 3).1 rfl (C.tab 3).2 (i_seq (e_var (pv 1))) (blkOk_by (by kernel_rfl)) ⟨rfl, by decide +kernel, rfl⟩ (by decide) (fun _ _ _ _ _ _ _ _ hr => g_name sc_are_words.nd rfl (.inl rfl)) (fun _ _ _ _ _ _ _ _ hr => ts_nil) (fun _ _ _ _ _ _ _ _ hr => EV.frz (e_call (g_is_letters C) hr (by decide) rfl (as_d (e_ixN (pv 0) (e_int)) (as_d (e_var (pv 2)) (as_nil))))))))
theorem g_are_words (C : HeadC fa fn ts K mg base T) : Fn P w K mg base T 7 "are_words" ["system", "told"] 2 d_are_words := (f_are_words C).toFn (fun _ _ _ _ _ _ us hl => match us, hl with | [_, _], _ => rfl)
theorem sc_is_stand_in : FnScope ["system", "value"] ["system", "value"] D_is_stand_in.scope := ⟨rfl, rfl, rfl, by decide +kernel, rfl, by decide +kernel, by decide +kernel⟩
theorem f_is_stand_in (C : HeadC fa fn ts K mg base T) : FnF P w K mg base T 8 D_is_stand_in "is_stand_in" ["system", "value"] 2 d_is_stand_in := by
  unfold d_is_stand_in
  refine fn_mk C 24 24 sc_is_stand_in fun cdv A outer s H E1 H0 pins E hr => ?_
  exact s_cons (s_if (t_bool (w_or (t_not (t_tru (ED.q (e_isi rfl (C.free 31) bt_isinstance (e_peek (pv 1)) rfl (C.free 33) bt_tuple)))) (w_or1 (t_cmp (op_neF hr.rm.units) (e_callB c_len rfl (C.free 28) bt_len (a_last (e_peek (pv 1)))) (ED.q (e_int)) (nomark _))))) (s_one (s_retD (e_bl))) (s_nil))
        (s_one (s_retD (Fz.v_and (EV.frz (e_call (g_is_between C) hr (by decide) rfl (as_d (e_ixN (pv 1) (e_int)) (as_d (e_int) (as_d (e_op op_subF (e_ixN (pv 0) (e_int)) (ED.q (e_int))) (as_nil)))))) (Fz.v_one (EV.frz (e_call (g_are_words C) hr (by decide) rfl (as_d (e_var (pv 0)) (as_d (e_ixN (pv 1) (e_int)) (as_nil)))))))))
theorem g_is_stand_in (C : HeadC fa fn ts K mg base T) : Fn P w K mg base T 8 "is_stand_in" ["system", "value"] 2 d_is_stand_in := (f_is_stand_in C).toFn (fun _ _ _ _ _ _ us hl => match us, hl with | [_, _], _ => rfl)
theorem sc_is_stand : FnScope ["system", "value"] ["system", "value"] D_is_stand.scope := ⟨rfl, rfl, rfl, by decide +kernel, rfl, by decide +kernel, by decide +kernel⟩
theorem f_is_stand (C : HeadC fa fn ts K mg base T) : FnF P w K mg base T 9 D_is_stand "is_stand" ["system", "value"] 2 d_is_stand := by
  unfold d_is_stand
  refine fn_mk C 25 25 sc_is_stand fun cdv A outer s H E1 H0 pins E hr => ?_
  exact s_cons (s_expr (e_call (g_check_system C) hr (by decide) rfl (as_d (e_var (pv 0)) (as_nil))))
        (s_one (s_ret (e_call (g_is_stand_in C) hr (by decide) rfl (as_d (e_var (pv 0)) (as_d (e_var (pv 1)) (as_nil))))))
theorem g_is_stand (C : HeadC fa fn ts K mg base T) : Fn P w K mg base T 9 "is_stand" ["system", "value"] 2 d_is_stand := (f_is_stand C).toFn (fun _ _ _ _ _ _ us hl => match us, hl with | [_, _], _ => rfl)
theorem k_is_stand_0_value_system (C : HeadC fa fn ts K mg base T) : FnK P w K mg base T 9 "is_stand" ["system", "value"] 2 d_is_stand 0 ["value", "system"] [1, 0] := (f_is_stand C).toFnK fun _ _ _ _ _ _ us ws h1 h2 => match us, ws, h1, h2 with | [], [_, _], _, _ => rfl
theorem sc_law : FnScope ["script", "place", "well", "turn", "system", "stand", "kept", "step", "bent", "odd"] ["script"] D_law.scope := ⟨rfl, rfl, rfl, by decide +kernel, rfl, by decide +kernel, by decide +kernel⟩
theorem f_law (C : HeadC fa fn ts K mg base T) : FnF P w K mg base T 26 D_law "law" ["script"] 1 d_law70 := by
  unfold d_law70
  refine fn_mk C 26 26 sc_law fun cdv A outer s H E1 H0 pins E hr => ?_
  exact s_cons (s_for PassesOwn.never rfl (i_range1 rfl (C.free 36) (e_callB (c_max2 rfl) rfl (C.free 39) bt_max (a_consQ (e_int) (a_last (ED.q (e_callB (c_min2 rfl) rfl (C.free 42) bt_min (a_consQ (e_int) (a_last (ED.q (e_callB c_len rfl (C.free 28) bt_len (a_last (e_peek (pv 0))))))))))))) (g_name sc_law.nd rfl (.inl rfl)) (s_cons (s_set sc_law.nd rfl (.inl rfl) (e_call (g__law_well C) hr (by decide) rfl (as_d (e_var (pv 0)) (as_d (e_var (pv 1)) (as_nil)))))
        (s_one (s_for PassesOwn.never rfl (i_range1 rfl (C.free 36) (e_int)) (g_name sc_law.nd rfl (.inl rfl)) (s_cons (s_set sc_law.nd rfl (.inl rfl) (e_call (g__law_system C) hr (by decide) rfl (as_s (pv 2) (as_d (e_cmp (op_eqF hr.rm.units) (e_op op_modF (e_callTy c_int rfl (C.free 27) bt_int (a_last (e_peek (pv 3)))) (ED.q (e_int))) (ED.q (e_int)) (nomark _)) (as_nil)))))
        (s_cons (s_par2 rfl sc_law.nd rfl rfl (by decide) rfl rfl (av_cons (e_call (g__law_stand C) hr (by decide) rfl (as_s (pv 2) (as_d (e_var (pv 4)) (as_d (e_int) (as_nil))))) (av_cons (ED.v (e_callB (c_repr2 hr) rfl (C.free 43) bt_repr (a_last (e_peek (pv 4))))) (av_nil) (fun _ _ => av_nil)) (fun _ _ => av_cons (ED.v (e_callB (c_repr2 hr) rfl (C.free 43) bt_repr (a_last (e_peek (pv 4))))) (av_nil) (fun _ _ => av_nil))) rfl)
        (s_cons (s_if (t_not (t_tru (EV.q (e_call (g__law_same C 24) hr (by decide) rfl (as_d (EV.frz (e_lst (a_cons (EV.frz (e_call (g_is_system C) hr (by decide) rfl (as_d (e_var (pv 4)) (as_nil)))) (a_cons (EV.frz (e_callK0 (k_is_system_0_value C) hr (by decide) rfl (ks_d (e_var (pv 4)) (ks_nil)))) (a_cons (EV.frz (e_call (g_is_stand C) hr (by decide) rfl (as_d (e_var (pv 4)) (as_d (e_var (pv 5)) (as_nil))))) (a_cons (EV.frz (e_callK0 (k_is_stand_0_value_system C) hr (by decide) rfl (ks_d (e_var (pv 5)) (ks_d (e_var (pv 4)) (ks_nil))))) (a_nil))))))) (as_d (EV.frz (e_op op_mulS (EV.frz (e_lst (a_cons (e_bl) (a_nil)))) (ED.q (e_int)))) (as_nil))))))) (s_one (s_retD (e_bl))) (s_nil))
        (s_cons (s_for PassesOwn.never rfl (i_range1 rfl (C.free 36) (e_int)) (g_name sc_law.nd rfl (.inl rfl)) (s_cons (s_par2 rfl sc_law.nd rfl rfl (by decide) rfl rfl (av_cons (e_call (g__law_bent C) hr (by decide) rfl (as_s (pv 2) (as_d (e_var (pv 4)) (as_nil)))) (av_cons (e_call (g__law_bent_stand C) hr (by decide) rfl (as_s (pv 2) (as_d (e_var (pv 4)) (as_d (e_var (pv 5)) (as_nil))))) (av_nil) (fun _ _ => av_nil)) (fun _ _ => av_cons (e_call (g__law_bent_stand C) hr (by decide) rfl (as_s (pv 2) (as_d (e_var (pv 4)) (as_d (e_var (pv 5)) (as_nil))))) (av_nil) (fun _ _ => av_nil))) rfl)
        (s_one (s_if (t_not (t_tru (EV.q (e_call (g__law_same C 24) hr (by decide) rfl (as_d (EV.frz (e_lst (a_cons (EV.frz (e_call (g_is_system C) hr (by decide) rfl (as_d (e_var (pv 8)) (as_nil)))) (a_cons (EV.frz (e_call (g_is_stand C) hr (by decide) rfl (as_d (e_var (pv 4)) (as_d (e_var (pv 9)) (as_nil))))) (a_nil))))) (as_d (EV.frz (e_lst (a_cons (EV.frz (e_call (g__law_is_system C) hr (by decide) rfl (as_d (e_var (pv 8)) (as_nil)))) (a_cons (EV.frz (e_call (g__law_is_stand C) hr (by decide) rfl (as_d (e_var (pv 4)) (as_d (e_var (pv 9)) (as_nil))))) (a_nil))))) (as_nil))))))) (s_one (s_retD (e_bl))) (s_nil)))))
        (s_one (s_if (t_cmp (op_neF hr.rm.units) (e_callB (c_repr2 hr) rfl (C.free 43) bt_repr (a_last (e_peek (pv 4)))) (e_peek (pv 6)) (nomark _)) (s_one (s_retD (e_bl))) (s_nil)))))))))))
        (s_one (s_ret (e_call (g__law_same C 24) hr (by decide) rfl (as_d (EV.frz (e_lst (a_cons (EV.frz (e_call (g_is_system C) hr (by decide) rfl (as_d (e_tup (a_cons (e_int) (a_cons (e_int) (a_cons (e_int) (a_cons (e_tup (a_nil)) (a_nil)))))) (as_nil)))) (a_cons (EV.frz (e_call (g_is_system C) hr (by decide) rfl (as_d (e_str) (as_nil)))) (a_cons (EV.frz (e_callT (g_is_system C) hr (by decide) rfl (ts_last (e_dnew)))) (a_cons (EV.frz (e_call (g_is_stand C) hr (by decide) rfl (as_d (e_tup (a_cons (e_int) (a_cons (e_int) (a_cons (e_int) (a_cons (e_tup (a_nil)) (a_nil)))))) (as_d (e_tup (a_cons (e_int) (a_cons (e_tup (a_cons (e_tup (a_nil)) (a_nil))) (a_nil)))) (as_nil))))) (a_nil))))))) (as_d (EV.frz (e_lst (a_cons (e_bl) (a_cons (e_bl) (a_cons (e_bl) (a_cons (e_bl) (a_nil))))))) (as_nil))))))
end
end K70
end

section
set_option Elab.async false
set_option linter.all false
set_option maxRecDepth 100000
set_option maxHeartbeats 0
namespace K70
open PySem PySem.Spec PyProof.Rows L2 Fz DL
abbrev R : PySem.W.OpenRow := PySem.W.OpenLaw.row PySem.Challenge.rw_wholestrewn_k70_whole_systems_and_stands
abbrev hk : PySem.W.Hook := hookC 4 fa fn ts
def ob (s : PySem.W.SharedT) : AlC := obsC 4 fa fn ts (HandSHeadRun.getT s)
theorem ob_eq (s : PySem.W.SharedT) : ob s = hk.obs s.abs := obsC_eq (HandSHeadRun.getT_eq s)
def loose0 : List Str := ["__name__", "StrewnError", "InvalidSystem", "MOST_LETTERS", "is_integer", "is_natural", "is_below", "is_between", "is_k", "is_letters", "is_ascending", "MOST_ROADS", "is_deed", "is_step", "is_system", "check_system", "are_words", "is_stand_in", "is_stand", "_law_well"]
def loose1 : List Str := ["_law_draw", "_law_same", "_law_system", "_law_word", "_law_stand", "_law_whole", "_law_is_step", "_law_is_system", "_law_is_stand", "_law_bent", "_law_bent_stand", "law"]
def loose : List Str := loose0 ++ loose1
theorem run (w : World) : HandSHeadRun.RunEq R (PySem.W.view R.prog [34]) hk ob 3000 loose w := by
  intro os
  kernel_rfl
end K70
open PySem PySem.W PySem.Calls PyProof.Rows
theorem PySem.Challenge.cw_wholestrewn_k70_whole_systems_and_stands_holds : PySem.Challenge.rw_wholestrewn_k70_whole_systems_and_stands.Holds := by
  w_on; o_law
  refine HandSHeadRun.head_any (r := K70.R) (q := view K70.R.prog [34]) (H := K70.hk) (ob := K70.ob) (M := 3000) (loose := K70.loose) (d := HandSHeadRun.topDef K70.R.prog 34) (kwd := []) K70.ob_eq
    (by kernel_rfl) (fun s => by kernel_rfl) K70.run (by kernel_rfl) (by kernel_rfl) (by kernel_rfl) (by rfl) (by first | assumption | decide +kernel) (by decide +kernel) ⟨rfl, rfl, rfl, rfl, rfl, by decide +kernel⟩ ?hw ?hc
  case hw => w_witness2
  case hc =>
    refine Fz.walk_F (lw := PySem.Challenge.rw_wholestrewn_k70_whole_systems_and_stands) (n := 63) (k := 26) (x := "script") rfl (by decide) (by kernel_rfl) ⟨⟨rfl, by decide, by decide⟩, rfl⟩ ?_
    intro w mg fa h Y G hmg0
    obtain ⟨K, KX, c, tb⟩ := Y
    have hmg : mg ("law" : PySem.Str) = some (.ref fa) := by
      have e : (HandSHeadRun.topDef K70.R.prog 34).name = ("law" : PySem.Str) := by kernel_rfl
      rw [← e]
      exact hmg0
    exact Fz.head_close (fa := K70.fa) (fn := K70.fn) (ts := K70.ts) (i := 26) (j := 26) (d := K70.D_law) (y := "law") KX G c tb (fun base C => K70.f_law C) K70.the_law (fun _ _ _ _ _ _ us hl => match us, hl with | [_], _ => rfl) hmg
end
