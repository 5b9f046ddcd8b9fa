import PyProof.Rows.All
import Wide.All
import OpenK.AllK
import Wide.FinOn
import HandS.ForMost
import HandS.IsInst
import HandS.Flow
import HandS.Style
import HandS.Wide
import HandS.Defaults
import HandS.Dict
import HandS.DictTup
import KE.KeyNested
import KE.KDictKeyed
import HandS.TupAny
import HandS.GenList
import HandS.AnyAll
import KE.KNestM
import HandS.Head0
import HandS.Head1
import HandS.Head2
import HandS.HeadEnd
import HandS.HeadHook1
import HandS.HeadHook2
import HandS.EndTab
import HandS.HeadWalk
import HandS.Zip
import HandS.Deep
import HandS.TupMul
import HandS.SortRule
import HandS.SortInts
import PyProof.Rows.SortKeyStr
import KE.KSortTup
import KE.KDictSum
import KE.KDictWalk
import KE.SortKeyed
import HandS.SortKw
import KE.KDictDisplayH
import HandS.TupLe
import PyProof.Draws
import PyProof.EnumMake
import HandS.Conv
import HandS.TupSets
import HandS.Iter
import HandS.TryOnly
import HandS.Nested
import KE.KNest
import KE.KLam
import KE.GoesCell
import HandS.SetKeys
import KE.KDictCopyH
import PySem.Challenge.RW_wholestrewn_k13_whole_machines_turned_ab

section
set_option Elab.async false
set_option linter.all false
set_option maxRecDepth 100000
set_option maxHeartbeats 4000000
/-! N0: keys of dicts: data as keys, a dict with tuples as keys as an object of the abstract heap. -/
namespace Fz
open PySem PySem.Spec PyProof.Rows L2
mutual
/-- data as a key: no bools -/
def nk : PyData → Option NestedKey
  | .none => some .none
  | .int i => some (.num i)
  | .str x => some (.text x)
  | .tuple ds => (nks ds).map .tup
  | _ => none
def nks : List PyData → Option (List NestedKey)
  | [] => some []
  | d :: ds => match nk d, nks ds with
    | some k, some ks => some (k :: ks)
    | _, _ => none
end
/-- a flat key -/
def fk : PyData → Option Key
  | .int i => some (.inl i)
  | .str x => some (.inr x)
  | _ => none
/-- a tuple as a key, to depth 8 -/
def tk (d : PyData) : Option NestedKey := match d with
  | .tuple ds => (match nk (.tuple ds) with
    | some k => if k.depth ≤ 8 then some k else none
    | none => none)
  | _ => none
theorem tk_nk {d : PyData} {k : NestedKey} (h : tk d = some k) : nk d = some k ∧ k.depth ≤ 8 ∧ ∃ ds, d = .tuple ds := by
  cases d with
  | tuple ds =>
    simp only [tk] at h
    cases e : nk (.tuple ds) with
    | none => rw [e] at h; cases h
    | some k2 =>
      rw [e] at h
      simp only at h
      split at h
      · cases h; exact ⟨rfl, by assumption, ds, rfl⟩
      · cases h
  | _ => cases h
mutual
theorem nk_inj : ∀ {d e : PyData} {k : NestedKey}, nk d = some k → nk e = some k → d = e
  | .none, e, k, h, g => by
    simp only [nk, Option.some.injEq] at h; subst h
    cases e <;> simp [nk] at g ⊢
  | .int i, e, k, h, g => by
    simp only [nk, Option.some.injEq] at h; subst h
    cases e <;> simp [nk] at g ⊢
    exact g.symm
  | .str i, e, k, h, g => by
    simp only [nk, Option.some.injEq] at h; subst h
    cases e <;> simp [nk] at g ⊢
    exact g.symm
  | .tuple ds, e, k, h, g => by
    simp only [nk, Option.map_eq_some_iff] at h
    obtain ⟨ks, h1, rfl⟩ := h
    cases e with
    | tuple es =>
      simp only [nk, Option.map_eq_some_iff] at g
      obtain ⟨ks2, g1, g2⟩ := g
      cases g2
      rw [nks_inj h1 g1]
    | _ => simp [nk] at g
  | .bool _, _, _, h, _ => by simp [nk] at h
  | .list _, _, _, h, _ => by simp [nk] at h
  | .dict _, _, _, h, _ => by simp [nk] at h
theorem nks_inj : ∀ {ds es : List PyData} {ks : List NestedKey}, nks ds = some ks → nks es = some ks → ds = es
  | [], es, ks, h, g => by
    simp only [nks, Option.some.injEq] at h; subst h
    cases es with
    | nil => rfl
    | cons e es =>
      simp only [nks] at g
      cases e1 : nk e <;> cases e2 : nks es <;> simp [e1, e2] at g
  | d :: ds, es, ks, h, g => by
    simp only [nks] at h
    cases e1 : nk d with
    | none => simp [e1] at h
    | some k1 =>
      cases e2 : nks ds with
      | none => simp [e1, e2] at h
      | some k2 =>
        simp only [e1, e2, Option.some.injEq] at h
        subst h
        cases es with
        | nil => simp [nks] at g
        | cons e es =>
          simp only [nks] at g
          cases f1 : nk e with
          | none => simp [f1] at g
          | some l1 =>
            cases f2 : nks es with
            | none => simp [f1, f2] at g
            | some l2 =>
              simp only [f1, f2, Option.some.injEq, List.cons.injEq] at g
              obtain ⟨g1, g2⟩ := g
              subst g1; subst g2
              rw [nk_inj e1 f1, nks_inj e2 f2]
end
/-- the dict with tuples as keys at a -/
def DicP (w : World) (a : Addr) (raw : List (NestedKey × Addr × V)) (h : Heap) : Prop := raw.length ≤ sizeLine ∧ (a == sysModules) = false ∧ ∃ xs : List (NestedKey × Addr × Value),
  Paired (fun p q => p.1 = q.1 ∧ p.2.1 = q.2.1 ∧ RelV p.2.2 q.2.2) raw xs ∧ ∃ o es ep, h.get? a = some o ∧ o.ExactDict ∧ o.data = .dict es ep ∧ es.toList = xs.map (fun x => (⟨x.1.hash w, .ref x.2.1, x.2.2⟩ : DictEntry)) ∧ (xs.map (·.1)).Nodup
def DicT (w : World) (a : Addr) (raw : List (NestedKey × Addr × V)) : HO := .ext (DicP w a raw)
theorem DicP.stays {w : World} {a : Addr} {raw : List (NestedKey × Addr × V)} {h1 h2 : Heap} (x : DicP w a raw h1) (k : ∀ o, h1.get? a = some o → h2.get? a = some o) : DicP w a raw h2 := by
  obtain ⟨z, hd, xs, r, o, es, ep, e, c⟩ := x
  exact ⟨z, hd, xs, r, o, es, ep, k _ e, c⟩
theorem DicT.ok {P : Program} {w : World} {H : Hp} {a : Addr} {raw : List (NestedKey × Addr × V)} {h : Heap} (x : DicP w a raw h) : ObjOk P w H h a (DicT w a raw) := by
  obtain ⟨_, _, _, _, o, _, _, e, _⟩ := id x
  exact ⟨x, ⟨o, e⟩, fun h1 h2 y k => y.stays k⟩
end Fz
end

section
set_option Elab.async false
set_option linter.all false
set_option maxRecDepth 100000
set_option maxHeartbeats 4000000
/-! F0: pure data, their relation to the abstract heap, the state of a def's slots, the judgements by plain functions. -/
namespace Fz
open PySem PySem.Spec PyProof.Rows L2

abbrev D := PyData
abbrev Sl := L2.St
abbrev Fg := PySem.W.Frag

/-- a list that never changes any more -/
def FrzL (K : Fg) (H : Hp) (a : Addr) (xs : List V) : Prop := (∃ o, H a = some (.frz o (.lst xs))) ∨ SqL K (fun _ => none) a xs
theorem FrzL.sq {K : Fg} {H : Hp} {a : Addr} {xs : List V} (h : FrzL K H a xs) : SqL K H a xs := by
  rcases h with ⟨o, h⟩ | h
  · exact .inl (.inr ⟨o, h⟩)
  · rcases h with (h | ⟨o, h⟩) | h
    · cases h
    · cases h
    · exact .inr h
/-- a table of code objects -/
def TabT (H : Hp) (P : Addr) : Prop := ∃ ps : Array Value, H P = some (.tbl ps) ∧ TriplesOk ps.toList
/-- what never changes is kept, a table stays one -/
structure Pers (H H' : Hp) : Prop where
  tup : ∀ a xs, H a = some (.tup xs) → H' a = some (.tup xs)
  frz : ∀ a o u, H a = some (.frz o u) → H' a = some (.frz o u)
  tbl : ∀ a, TabT H a → TabT H' a
theorem Pers.refl (H : Hp) : Pers H H := ⟨fun _ _ h => h, fun _ _ _ h => h, fun _ h => h⟩
theorem Pers.trans {H H1 H2 : Hp} (a : Pers H H1) (b : Pers H1 H2) : Pers H H2 := ⟨fun p xs h => b.tup p xs (a.tup p xs h), fun p o u h => b.frz p o u (a.frz p o u h), fun p h => b.tbl p (a.tbl p h)⟩
theorem FrzL.mono {K : Fg} {H H' : Hp} {a : Addr} {xs : List V} (p : Pers H H') (h : FrzL K H a xs) : FrzL K H' a xs := by
  rcases h with ⟨o, h⟩ | h
  · exact .inl ⟨o, p.frz _ _ _ h⟩
  · exact .inr h
theorem sqT_mono {K : Fg} {H H' : Hp} {a : Addr} {xs : List V} (p : Pers H H') (h : SqT K H a xs) : SqT K H' a xs := by
  rcases h with (h | ⟨o, h⟩) | h
  · exact .inl (.inl (p.tup _ _ h))
  · exact .inl (.inr ⟨o, p.frz _ _ _ h⟩)
  · exact .inr h
mutual
/-- the value is the data d, and stays it -/
inductive Pd (K : Fg) (H : Hp) : V → D → Prop
  | non : Pd K H .non .none
  | bl (b : Bool) : Pd K H (.bl b) (.bool b)
  | int (i : Int) : Pd K H (.int i) (.int i)
  | str (x : Str) : Pd K H (.str x) (.str x)
  | tup {a : Addr} {xs : List V} {ds : List D} (h : SqT K H a xs) (r : PdAll K H xs ds) : Pd K H (.ref a) (.tuple ds)
  | lst {a : Addr} {xs : List V} {ds : List D} (h : FrzL K H a xs) (r : PdAll K H xs ds) : Pd K H (.ref a) (.list ds)
inductive PdAll (K : Fg) (H : Hp) : List V → List D → Prop
  | nil : PdAll K H [] []
  | cons {x : V} {d : D} {xs : List V} {ds : List D} (h : Pd K H x d) (r : PdAll K H xs ds) : PdAll K H (x :: xs) (d :: ds)
end
mutual
theorem Pd.mono {K : Fg} {H H' : Hp} (p : Pers H H') : ∀ {x : V} {d : D}, Pd K H x d → Pd K H' x d
  | _, _, .non => .non
  | _, _, .bl b => .bl b
  | _, _, .int i => .int i
  | _, _, .str x => .str x
  | _, _, .tup h r => .tup (sqT_mono p h) (PdAll.mono p r)
  | _, _, .lst h r => .lst (h.mono p) (PdAll.mono p r)
theorem PdAll.mono {K : Fg} {H H' : Hp} (p : Pers H H') : ∀ {xs : List V} {ds : List D}, PdAll K H xs ds → PdAll K H' xs ds
  | _, _, .nil => .nil
  | _, _, .cons h r => .cons (Pd.mono p h) (PdAll.mono p r)
end
mutual
theorem Pd.dp {K : Fg} {H : Hp} : ∀ {x : V} {d : D}, Pd K H x d → Dp K H x d
  | _, _, .non => .non
  | _, _, .bl b => .bl b
  | _, _, .int i => .int i
  | _, _, .str x => .str x
  | _, _, .tup h r => .tup h (PdAll.dp r)
  | _, _, .lst h r => .lst h.sq (PdAll.dp r)
theorem PdAll.dp {K : Fg} {H : Hp} : ∀ {xs : List V} {ds : List D}, PdAll K H xs ds → DpAll K H xs ds
  | _, _, .nil => .nil
  | _, _, .cons h r => .cons h.dp (PdAll.dp r)
end

/-! ### objects that one slot owns, what a slot holds -/
inductive Ob where
  | lst (ds : List D)
  | dic (kvs : List (D × D))
/-- d: data for good; own: an object that no one else holds; pin: an object that the caller holds, too (a parameter) -/
abbrev FnD := List D → Option D
/-- ro: an object that no one changes while the frame runs; fn: a function that keeps all, within k levels, and answers g; loc: the j-th function that this frame's text makes -/
inductive SX where
  | ro (o : Ob)
  | fn (k : Nat) (g : FnD)
  | loc (j : Nat)
inductive SV where
  | d (x : D)
  | own (o : Ob)
  | pin (o : Ob)
  | x (e : SX)
abbrev FS := List (Option SV)
structure Exn where
  cls : Str
  val : D
inductive Res (α : Type) where
  | ok (a : α) (S : FS)
  | exn (e : Exn) (S : FS)
  | bad
def Res.bind {α β : Type} (r : Res α) (k : α → FS → Res β) : Res β := match r with
  | .ok a S => k a S
  | .exn e S => .exn e S
  | .bad => .bad
@[simp] theorem Res.bind_ok {α β : Type} (a : α) (S : FS) (k : α → FS → Res β) : (Res.ok a S).bind k = k a S := rfl
@[simp] theorem Res.bind_exn {α β : Type} (e : Exn) (S : FS) (k : α → FS → Res β) : (Res.exn e S : Res α).bind k = .exn e S := rfl
@[simp] theorem Res.bind_bad {α β : Type} (k : α → FS → Res β) : (Res.bad : Res α).bind k = .bad := rfl
/-- one after another -/
def bnd {α β : Type} (fa : FS → Res α) (k : α → FS → Res β) : FS → Res β := fun S => (fa S).bind k

/-- a dict with keys that are flat, or tuples -/
def DicG (K : Fg) (w : World) (H : Hp) (a : Addr) (T : HO → Prop) (kvs : List (D × D)) : Prop :=
  (∃ raw : List (Key × V), T (.dK raw) ∧ Paired (fun (p : Key × V) (q : D × D) => fk q.1 = some p.1 ∧ Pd K H p.2 q.2) raw kvs) ∨
  ∃ raw : List (NestedKey × Addr × V), kvs ≠ [] ∧ T (DicT w a raw) ∧ Paired (fun (p : NestedKey × Addr × V) (q : D × D) => tk q.1 = some p.1 ∧ Pd K H (.ref p.2.1) q.1 ∧ Pd K H p.2.2 q.2) raw kvs
def DicR (K : Fg) (w : World) (H : Hp) (a : Addr) (kvs : List (D × D)) : Prop := DicG K w H a (fun u => H a = some u) kvs
/-- .. as it may be read -/
def DicV (K : Fg) (w : World) (H : Hp) (a : Addr) (kvs : List (D × D)) : Prop := DicG K w H a (Rd H a) kvs
/-- an object that is known to the letter -/
def RoR (K : Fg) (w : World) (H : Hp) (a : Addr) : Ob → Prop
  | .lst ds => ∃ o vs, H a = some (.frz o (.lst vs)) ∧ PdAll K H vs ds
  | .dic kvs => ∃ o, DicG K w H a (fun u => H a = some (.frz o u)) kvs
def ObR (K : Fg) (w : World) (H : Hp) (a : Addr) : Ob → Prop
  | .lst ds => ∃ vs, H a = some (.lst vs) ∧ PdAll K H vs ds
  | .dic kvs => DicR K w H a kvs
def isTbl : HO → Bool
  | .tbl _ => true
  | _ => false
/-- the fields of a code object whose table is at P -/
def CodeFs (vs : Array Value) (P : Addr) : Prop := ∃ file tf flags tg inF text tt, vs.getD 11 .none = .ref P ∧ vs.getD 18 .none = .str file tf ∧ vs.getD 7 .none = .int flags tg ∧ vs.getD 9 .none = .bool inF ∧ vs.getD 10 .none = .int text tt
/-- a code object that is made while the text runs, and its own table -/
def CodeG (H : Hp) (cv : Value) : Prop := ∃ (c : Addr) (oc : Obj) (u : HO) (vs : Array Value) (q : Str) (t : Tok) (P : Addr), cv = .ref c ∧ H c = some (.frz oc u) ∧ oc.cls = .type "code" ∧ oc.data = .fields vs ∧ vs[1]? = some (.str q t) ∧ vs[11]? = some (.ref P) ∧ CodeFs vs P ∧ c ≠ P ∧ TabT H P ∧ ∃ y, u = .own y
theorem mut_tbl : ∀ {u : HO}, Mut (some u) → isTbl u = false
  | .tbl _, h => h.elim
  | .lst _, _ => rfl
  | .tup _, _ => rfl
  | .dK _, _ => rfl
  | .dT _, _ => rfl
  | .set _ _, _ => rfl
  | .ins _ _ _, _ => rfl
  | .own _, _ => rfl
  | .xd _, _ => rfl
  | .met _ _, _ => rfl
  | .rng _ _, _ => rfl
  | .frz _ _, _ => rfl
  | .ext _, _ => rfl
def TabOk (H : Hp) (P : Addr) : Prop := ∃ ps : Array Value, H P = some (.tbl ps) ∧ TriplesOk ps.toList ∧ ∀ pos cv, codeAmong pos ps.toList = some cv → CodeG H cv
theorem CodeG.later {H H' : Hp} {cv : Value} (h : CodeG H cv) (p : Pers H H') : CodeG H' cv :=
  let ⟨c, oc, u, vs, q, t, P, h1, h2, h3, h4, h5, h6, h7, h8, h9, h10⟩ := h
  ⟨c, oc, u, vs, q, t, P, h1, p.frz _ _ _ h2, h3, h4, h5, h6, h7, h8, p.tbl _ h9, h10⟩
/-- all but frozen lists are kept -/
theorem TabOk.thaw {H H' : Hp} {P : Addr} (h : TabOk H P) (k : ∀ b u, H b = some u → (∀ o vs, u ≠ .frz o (.lst vs)) → H' b = some u) : TabOk H' P :=
  let ⟨ps, e, t, c⟩ := h
  ⟨ps, k _ _ e (fun _ _ z => nomatch z), t, fun pos cv z =>
    let ⟨c, oc, u, vs, q, t, P, h1, h2, h3, h4, h5, h6, h7, h8, ⟨qs, h9, h9'⟩, h10⟩ := c pos cv z
    ⟨c, oc, u, vs, q, t, P, h1, k _ _ h2 (fun o vs z => by obtain ⟨y, h10⟩ := h10; rw [h10] at z; cases z), h3, h4, h5, h6, h7, h8, ⟨qs, k _ _ h9 (fun _ _ z => nomatch z), h9'⟩, h10⟩⟩
theorem TabOk.later {H H' : Hp} {P : Addr} (h : TabOk H P) (p : Pers H H') (k : ∀ b ps, H b = some (.tbl ps) → H' b = some (.tbl ps)) : TabOk H' P :=
  let ⟨ps, e, t, c⟩ := h
  ⟨ps, k _ _ e, t, fun pos cv z => (c pos cv z).later p⟩

/-- what a body knows of its frame: the heap at its entry, the pinned parameters by slot, the tables of code objects, the wish about exceptions -/
structure ClX where
  clo : Hp → V → Nat → FnD → Prop
  cloM : ∀ {H H' : Hp} {x : V} {k : Nat} {g : FnD}, Pers H H' → clo H x k g → clo H' x k g
  loc : Hp → V → Nat → Prop
  locM : ∀ {H H' : Hp} {x : V} {j : Nat}, Pers H H' → loc H x j → loc H' x j
  self : Hp → Prop
  selfM : ∀ {H H' : Hp}, Pers H H' → self H → self H'
structure Fx where
  H0 : Hp
  pins : List (Nat × Addr)
  tabs : List Addr
  held : List (Addr × HO)
  E : XK
  w : World
  cl : ClX
def SxR (K : Fg) (F : Fx) (H : Hp) (x : V) : SX → Prop
  | .ro ob => ∃ a, x = .ref a ∧ RoR K F.w H a ob
  | .fn k g => F.cl.clo H x k g
  | .loc j => F.cl.loc H x j
def SvR (K : Fg) (F : Fx) (i : Nat) (H : Hp) (x : V) : SV → Prop
  | .d d => Pd K H x d
  | .own ob => ∃ a, x = .ref a ∧ ObR K F.w H a ob ∧ F.H0 a = none
  | .pin ob => ∃ a, x = .ref a ∧ ObR K F.w H a ob ∧ (i, a) ∈ F.pins
  | .x e => SxR K F H x e
def Owned (S : FS) (i : Nat) : Prop := ∃ ob, S[i]? = some (some (.own ob)) ∨ S[i]? = some (some (.pin ob))
structure Rel (K : Fg) (F : Fx) (S : FS) (σ : Sl) (H : Hp) : Prop where
  len : S.length = σ.length
  slot : ∀ i sv, S[i]? = some (some sv) → ∃ x, σ[i]? = some (some x) ∧ SvR K F i H x sv
  apart : ∀ i j a, i ≠ j → Owned S i → Owned S j → σ[i]? = some (some (.ref a)) → σ[j]? ≠ some (some (.ref a))
  keep : ∀ a o, F.H0 a = some o → a ∉ F.pins.map (·.2) → isTbl o = false → H a = some o
  there : ∀ a o, F.H0 a = some o → ∃ u, H a = some u
  tabs : ∀ P ∈ F.tabs, TabOk H P
  self : F.cl.self H
  held : ∀ p ∈ F.held, (H p.1 = some p.2 ∧ Mut (some p.2)) ∧ F.H0 p.1 = none ∧ ∀ i, Owned S i → σ[i]? ≠ some (some (.ref p.1))
/-- a value behind an expression: data, or a new object that no slot holds -/
def VR (K : Fg) (F : Fx) (S : FS) (σ : Sl) (H : Hp) (x : V) : SV → Prop
  | .d d => Pd K H x d
  | .own ob => ∃ a, x = .ref a ∧ ObR K F.w H a ob ∧ F.H0 a = none ∧ (∀ i, Owned S i → σ[i]? ≠ some (some (.ref a))) ∧ ∀ p ∈ F.held, p.1 ≠ a
  | .pin _ => False
  | .x _ => False
def PR (K : Fg) (_ : Fx) (_ : FS) (_ : Sl) (H : Hp) (x : V) (d : D) : Prop := Pd K H x d
/-- data for the moment: data, or a list that may change later, of data -/
def Qd (K : Fg) (H : Hp) (x : V) (d : D) : Prop := Pd K H x d ∨ ∃ a vs ds, x = .ref a ∧ d = .list ds ∧ SqL K H a vs ∧ PdAll K H vs ds
theorem Qd.dp {K : Fg} {H : Hp} {x : V} {d : D} (h : Qd K H x d) : Dp K H x d := by
  rcases h with h | ⟨a, vs, ds, rfl, rfl, h, r⟩
  · exact h.dp
  · exact .lst h r.dp
/-- a list's items -/
theorem Qd.list {K : Fg} {H : Hp} {x : V} {ds : List D} (h : Qd K H x (.list ds)) : ∃ a vs, x = .ref a ∧ SqL K H a vs ∧ PdAll K H vs ds := by
  rcases h with h | ⟨a, vs, ds, rfl, e, h, r⟩
  · cases h with
    | lst h r => exact ⟨_, _, rfl, h.sq, r⟩
  · cases e; exact ⟨_, _, rfl, h, r⟩
theorem Qd.pd {K : Fg} {H : Hp} {x : V} {d : D} (h : Qd K H x d) (n : ∀ ds, d ≠ .list ds) : Pd K H x d := by
  rcases h with h | ⟨a, vs, ds, rfl, e, h, r⟩
  · exact h
  · exact absurd e (n ds)
theorem Qd.tuple {K : Fg} {H : Hp} {x : V} {ds : List D} (h : Qd K H x (.tuple ds)) : ∃ a vs, x = .ref a ∧ SqT K H a vs ∧ PdAll K H vs ds := by
  cases h.pd (fun _ e => nomatch e) with
  | tup h2 r => exact ⟨_, _, rfl, h2, r⟩
theorem Qd.int {K : Fg} {H : Hp} {x : V} {i : Int} (h : Qd K H x (.int i)) : x = .int i := by
  cases h.pd (fun _ e => nomatch e); rfl
theorem Qd.bl {K : Fg} {H : Hp} {x : V} {i : Bool} (h : Qd K H x (.bool i)) : x = .bl i := by
  cases h.pd (fun _ e => nomatch e); rfl
theorem Qd.str {K : Fg} {H : Hp} {x : V} {i : Str} (h : Qd K H x (.str i)) : x = .str i := by
  cases h.pd (fun _ e => nomatch e); rfl
theorem Qd.non {K : Fg} {H : Hp} {x : V} (h : Qd K H x .none) : x = .non := by
  cases h.pd (fun _ e => nomatch e); rfl
theorem PdAll.length {K : Fg} {H : Hp} : ∀ {xs : List V} {ds : List D}, PdAll K H xs ds → xs.length = ds.length
  | _, _, .nil => rfl
  | _, _, .cons _ r => by rw [List.length_cons, List.length_cons, PdAll.length r]
theorem PdAll.append {K : Fg} {H : Hp} : ∀ {xs ys : List V} {ds es : List D}, PdAll K H xs ds → PdAll K H ys es → PdAll K H (xs ++ ys) (ds ++ es)
  | _, _, _, _, .nil, s => s
  | _, _, _, _, .cons h r, s => .cons h (PdAll.append r s)
theorem PdAll.take {K : Fg} {H : Hp} : ∀ {xs : List V} {ds : List D} (n : Nat), PdAll K H xs ds → PdAll K H (xs.take n) (ds.take n)
  | _, _, 0, _ => .nil
  | _, _, _ + 1, .nil => .nil
  | _, _, n + 1, .cons h r => .cons h (PdAll.take n r)
theorem PdAll.drop {K : Fg} {H : Hp} : ∀ {xs : List V} {ds : List D} (n : Nat), PdAll K H xs ds → PdAll K H (xs.drop n) (ds.drop n)
  | _, _, 0, r => r
  | _, _, _ + 1, .nil => .nil
  | _, _, n + 1, .cons _ r => PdAll.drop n r
theorem PdAll.get {K : Fg} {H : Hp} : ∀ {xs : List V} {ds : List D} {i : Nat} {d : D}, PdAll K H xs ds → ds[i]? = some d → ∃ x, xs[i]? = some x ∧ Pd K H x d
  | _, _, _, _, .nil, e => by simp at e
  | _, _, 0, _, .cons h _, e => by simp at e; subst e; exact ⟨_, rfl, h⟩
  | _, _, i + 1, d, .cons _ r, e => by
    obtain ⟨x, h1, h2⟩ := PdAll.get (i := i) (d := d) r (by simpa using e)
    exact ⟨x, by simpa using h1, h2⟩
theorem PdAll.set {K : Fg} {H : Hp} {x : V} {d : D} (q : Pd K H x d) : ∀ {xs : List V} {ds : List D} (i : Nat), PdAll K H xs ds → PdAll K H (xs.set i x) (ds.set i d)
  | _, _, _, .nil => .nil
  | _, _, 0, .cons _ r => .cons q r
  | _, _, i + 1, .cons h r => .cons h (PdAll.set q i r)
theorem PdAll.reverse {K : Fg} {H : Hp} {xs : List V} {ds : List D} (h : PdAll K H xs ds) : PdAll K H xs.reverse ds.reverse := by
  induction xs generalizing ds with
  | nil => cases h; exact .nil
  | cons x xs ih =>
    cases h with
    | cons h r => rw [List.reverse_cons, List.reverse_cons]; exact (ih r).append (.cons h .nil)
def QR (K : Fg) (_ : Fx) (_ : FS) (_ : Sl) (H : Hp) (x : V) (d : D) : Prop := Qd K H x d
/-- an exception of a class of the text: told later -/
def ExR (K : Fg) (H : Hp) (e : Exn) (c : Value) (dx : Option Addr) : Prop := False
abbrev GRel (β α : Type) := Fg → Fx → FS → Sl → Hp → β → α → Prop
abbrev VRel (α : Type) := GRel V α
def postG {β α : Type} (K : Fg) (F : Fx) (R : GRel β α) (r : Res α) (σ : Sl) (H : Hp) (Q : β → Hp → Prop) : Prop := match r with
  | .ok d S => ∀ x H', Pers H H' → Rel K F S σ H' → R K F S σ H' x d → Q x H'
  | .exn e S => ∀ c dx H', Pers H H' → Rel K F S σ H' → ExR K H' e c dx → F.E c dx H'
  | .bad => False
def rdG {β α : Type} (K : Fg) (F : Fx) (R : GRel β α) (f : FS → Res α) : Sl → Hp → (β → Hp → Prop) → Prop := fun σ H Q => ∃ S, Rel K F S σ H ∧ postG K F R (f S) σ H Q
/-- an expression's value: data or an own object; data; data for the moment -/
abbrev EV (X : Cx) (F : Fx) (e : Expr) (f : FS → Res SV) : Prop := PE X e (rdG X.K F VR f)
abbrev ED (X : Cx) (F : Fx) (e : Expr) (f : FS → Res D) : Prop := PE X e (rdG X.K F PR f)
abbrev EQ (X : Cx) (F : Fx) (e : Expr) (f : FS → Res D) : Prop := PE X e (rdG X.K F QR f)
def postT (K : Fg) (F : Fx) (r : Res Bool) (σ : Sl) (H : Hp) (Q : Bool → Hp → Prop) : Prop := match r with
  | .ok b S => ∀ H', Pers H H' → Rel K F S σ H' → Q b H'
  | .exn e S => ∀ c dx H', Pers H H' → Rel K F S σ H' → ExR K H' e c dx → F.E c dx H'
  | .bad => False
def rdT (K : Fg) (F : Fx) (f : FS → Res Bool) : TT := fun σ H Q => ∃ S, Rel K F S σ H ∧ postT K F (f S) σ H Q
abbrev ET (X : Cx) (F : Fx) (e : Expr) (f : FS → Res Bool) : Prop := PT X e (rdT X.K F f)

section
variable {α β ι κ : Type} {K : Fg} {F : Fx} {R : GRel ι α} {R' : GRel κ β} {σ : Sl} {H H' : Hp}
theorem postG.later {r : Res α} {Q : ι → Hp → Prop} (p : Pers H H') (h : postG K F R r σ H Q) : postG K F R r σ H' Q := by
  cases r with
  | ok d S => exact fun x H2 q r v => h x H2 (p.trans q) r v
  | exn e S => exact fun c dx H2 q r v => h c dx H2 (p.trans q) r v
  | bad => exact h
theorem postT.later {r : Res Bool} {Q : Bool → Hp → Prop} (p : Pers H H') (h : postT K F r σ H Q) : postT K F r σ H' Q := by
  cases r with
  | ok d S => exact fun H2 q r => h H2 (p.trans q) r
  | exn e S => exact fun c dx H2 q r v => h c dx H2 (p.trans q) r v
  | bad => exact h
theorem postG.imp {r : Res α} {Q Q' : ι → Hp → Prop} (h : postG K F R r σ H Q) (hq : ∀ x H, Q x H → Q' x H) : postG K F R r σ H Q' := by
  cases r with
  | ok d S => exact fun x H2 q r v => hq _ _ (h x H2 q r v)
  | exn e S => exact h
  | bad => exact h
theorem rdG.imp {f : FS → Res α} {Q Q' : ι → Hp → Prop} (h : rdG K F R f σ H Q) (hq : ∀ x H, Q x H → Q' x H) : rdG K F R f σ H Q' :=
  let ⟨S, r, p⟩ := h; ⟨S, r, p.imp hq⟩
/-- the first of two: what is known behind it -/
theorem rdG.bind {fa : FS → Res α} {k : α → FS → Res β} {Q : κ → Hp → Prop} (h : rdG K F R' (bnd fa k) σ H Q) :
    rdG K F R fa σ H fun x H1 => ∃ d S1, Rel K F S1 σ H1 ∧ R K F S1 σ H1 x d ∧ Pers H H1 ∧ postG K F R' (k d S1) σ H1 Q := by
  obtain ⟨S, r, p⟩ := h
  refine ⟨S, r, ?_⟩
  unfold bnd at p
  cases e : fa S with
  | ok d S1 => rw [e] at p; exact fun x H1 q r1 v => ⟨d, S1, r1, v, q, postG.later q p⟩
  | exn e2 S1 => rw [e] at p; exact p
  | bad => rw [e] at p; exact p
theorem rdG.bindT {fa : FS → Res α} {k : α → FS → Res Bool} {Q : Bool → Hp → Prop} (h : rdT K F (bnd fa k) σ H Q) :
    rdG K F R fa σ H fun x H1 => ∃ d S1, Rel K F S1 σ H1 ∧ R K F S1 σ H1 x d ∧ Pers H H1 ∧ postT K F (k d S1) σ H1 Q := by
  obtain ⟨S, r, p⟩ := h
  refine ⟨S, r, ?_⟩
  unfold bnd at p
  cases e : fa S with
  | ok d S1 => rw [e] at p; exact fun x H1 q r1 v => ⟨d, S1, r1, v, q, postT.later q p⟩
  | exn e2 S1 => rw [e] at p; exact p
  | bad => rw [e] at p; exact p
theorem rdT.bind {fa : FS → Res Bool} {k : Bool → FS → Res β} {Q : κ → Hp → Prop} (h : rdG K F R' (bnd fa k) σ H Q) :
    rdT K F fa σ H fun b H1 => ∃ S1, Rel K F S1 σ H1 ∧ Pers H H1 ∧ postG K F R' (k b S1) σ H1 Q := by
  obtain ⟨S, r, p⟩ := h
  refine ⟨S, r, ?_⟩
  unfold bnd at p
  cases e : fa S with
  | ok d S1 => rw [e] at p; exact fun H1 q r1 => ⟨S1, r1, q, postG.later q p⟩
  | exn e2 S1 => rw [e] at p; exact p
  | bad => rw [e] at p; exact p
theorem rdT.bindT {fa : FS → Res Bool} {k : Bool → FS → Res Bool} {Q : Bool → Hp → Prop} (h : rdT K F (bnd fa k) σ H Q) :
    rdT K F fa σ H fun b H1 => ∃ S1, Rel K F S1 σ H1 ∧ Pers H H1 ∧ postT K F (k b S1) σ H1 Q := by
  obtain ⟨S, r, p⟩ := h
  refine ⟨S, r, ?_⟩
  unfold bnd at p
  cases e : fa S with
  | ok d S1 => rw [e] at p; exact fun H1 q r1 => ⟨S1, r1, q, postT.later q p⟩
  | exn e2 S1 => rw [e] at p; exact p
  | bad => rw [e] at p; exact p
theorem rdT.imp {f : FS → Res Bool} {Q Q' : Bool → Hp → Prop} (h : rdT K F f σ H Q) (hq : ∀ x H, Q x H → Q' x H) : rdT K F f σ H Q' := by
  obtain ⟨S, r, p⟩ := h
  refine ⟨S, r, ?_⟩
  cases e : f S with
  | ok d S1 => rw [e] at p; exact fun H1 q r1 => hq _ _ (p H1 q r1)
  | exn e2 S1 => rw [e] at p; exact p
  | bad => rw [e] at p; exact p
/-- the end of a chain, nothing done to the heap -/
theorem postG.ok {d : α} {S : FS} {Q : ι → Hp → Prop} {x : ι} (h : postG K F R (.ok d S) σ H Q) (r : Rel K F S σ H) (v : R K F S σ H x d) : Q x H := h x H (.refl H) r v
theorem postT.ok {b : Bool} {S : FS} {Q : Bool → Hp → Prop} (h : postT K F (.ok b S) σ H Q) (r : Rel K F S σ H) : Q b H := h H (.refl H) r
end
/-- a rule by a weaker reading -/
theorem _root_.L2.PE.via {X : Cx} {e : Expr} {t t' : TE} (h : PE X e t) (hw : ∀ σ H Q, t' σ H Q → t σ H Q) : PE X e t' := ⟨fun pins s σ H Q I q => h.run pins s σ H Q I (hw σ H Q q)⟩
theorem _root_.L2.PT.via {X : Cx} {e : Expr} {t t' : TT} (h : PT X e t) (hw : ∀ σ H Q, t' σ H Q → t σ H Q) : PT X e t' := ⟨fun pins s σ H Q I q => h.run pins s σ H Q I (hw σ H Q q)⟩
theorem _root_.L2.PS.via {X : Cx} {e : Stmt} {t t' : TS} (h : PS X e t) (hw : ∀ D σ H, t' D σ H → t D σ H) : PS X e t' := ⟨fun pins s σ H D I q => h.run pins s σ H D I (hw D σ H q)⟩
end Fz
end

section
set_option Elab.async false
set_option linter.all false
set_option maxRecDepth 100000
set_option maxHeartbeats 4000000
/-! F1: the relation under stores and new objects; names, constants, freezing. -/
namespace Fz
open PySem PySem.Spec PyProof.Rows L2

section
variable {K : Fg} {F : Fx} {S S' : FS} {σ : Sl} {H H' : Hp} {a : Addr} {o : HO}
theorem Pers.put (h : Mut (H a) ∨ H a = none) : Pers H (upd H a o) := by
  have ne : ∀ b u, H b = some u → ¬ Mut (some u) → b ≠ a := fun b u e nm z => by
    subst z
    rcases h with h | h
    · rw [e] at h; exact nm h
    · rw [e] at h; cases h
  exact ⟨fun b xs e => by rw [upd_ne (ne b _ e (fun z => z))]; exact e, fun b ob u e => by rw [upd_ne (ne b _ e (fun z => z))]; exact e, fun b ⟨ps, e, t⟩ => ⟨ps, by rw [upd_ne (ne b _ e (fun z => z))]; exact e, t⟩⟩
theorem ObR.later {w : World} {b : Addr} {ob : Ob} (h : ObR K w H b ob) (p : Pers H H') (e : H' b = H b) : ObR K w H' b ob := by
  cases ob with
  | lst ds => obtain ⟨vs, q, r⟩ := h; exact ⟨vs, e.trans q, r.mono p⟩
  | dic kvs =>
    rcases h with ⟨raw, q, r⟩ | ⟨raw, n, q, r⟩
    · exact .inl ⟨raw, e.trans q, Paired.mapP r fun _ _ z => ⟨z.1, z.2.mono p⟩⟩
    · exact .inr ⟨raw, n, e.trans q, Paired.mapP r fun _ _ z => ⟨z.1, z.2.1.mono p, z.2.2.mono p⟩⟩
theorem DicG.mono {w : World} {b : Addr} {T T' : HO → Prop} {kvs : List (D × D)} (h : DicG K w H b T kvs) (p : Pers H H') (e : ∀ u, T u → T' u) : DicG K w H' b T' kvs := by
  rcases h with ⟨raw, q, r⟩ | ⟨raw, n, q, r⟩
  · exact .inl ⟨raw, e _ q, Paired.mapP r fun _ _ z => ⟨z.1, z.2.mono p⟩⟩
  · exact .inr ⟨raw, n, e _ q, Paired.mapP r fun _ _ z => ⟨z.1, z.2.1.mono p, z.2.2.mono p⟩⟩
theorem DicR.v {w : World} {b : Addr} {kvs : List (D × D)} (h : DicR K w H b kvs) : DicV K w H b kvs := DicG.mono h (.refl H) fun _ e => .inl e
theorem RoR.mono {w : World} {b : Addr} {ob : Ob} (h : RoR K w H b ob) (p : Pers H H') : RoR K w H' b ob := by
  cases ob with
  | lst ds => obtain ⟨o, vs, q, r⟩ := h; exact ⟨o, vs, p.frz _ _ _ q, r.mono p⟩
  | dic kvs => obtain ⟨o, q⟩ := h; exact ⟨o, q.mono p fun u e => p.frz _ _ _ e⟩
theorem SxR.later {x : V} {e : SX} (h : SxR K F H x e) (p : Pers H H') (k : ∀ a o, F.H0 a = some o → a ∉ F.pins.map (·.2) → isTbl o = false → H a = some o) (k' : ∀ a o, F.H0 a = some o → a ∉ F.pins.map (·.2) → isTbl o = false → H' a = some o) : SxR K F H' x e := by
  cases e with
  | ro ob =>
    obtain ⟨a, rfl, q⟩ := h
    exact ⟨a, rfl, q.mono p⟩
  | fn k g => exact F.cl.cloM p h
  | loc j => exact F.cl.locM p h
theorem ObR.there {w : World} {b : Addr} {ob : Ob} (h : ObR K w H b ob) : ∃ u, H b = some u ∧ Mut (some u) ∧ isTbl u = false := by
  cases ob with
  | lst ds => obtain ⟨vs, q, r⟩ := h; exact ⟨_, q, trivial, rfl⟩
  | dic kvs => rcases h with ⟨raw, q, r⟩ | ⟨raw, n, q, r⟩ <;> exact ⟨_, q, trivial, rfl⟩
/-- an owned slot's object -/
theorem Rel.obj (r : Rel K F S σ H) {i : Nat} {ob : Ob} (h : S[i]? = some (some (.own ob)) ∨ S[i]? = some (some (.pin ob))) :
    ∃ a, σ[i]? = some (some (.ref a)) ∧ ObR K F.w H a ob ∧ (F.H0 a = none ∨ a ∈ F.pins.map (·.2)) := by
  rcases h with h | h
  · obtain ⟨x, e, a, rfl, q, n⟩ := r.slot i _ h; exact ⟨a, e, q, .inl n⟩
  · obtain ⟨x, e, a, rfl, q, n⟩ := r.slot i _ h; exact ⟨a, e, q, .inr (List.mem_map.mpr ⟨_, n, rfl⟩)⟩
/-- an object is written (or new): the slots of S' stand as told -/
theorem Rel.put (r : Rel K F S σ H) (hm : Mut (H a) ∨ H a = none) (h0 : F.H0 a = none ∨ a ∈ F.pins.map (·.2)) (hh : ∀ p ∈ F.held, p.1 ≠ a) (hl : S'.length = S.length)
    (hs : ∀ j sv, S'[j]? = some (some sv) → (S[j]? = some (some sv) ∧ (Owned S j → σ[j]? ≠ some (some (.ref a)))) ∨ ∃ x, σ[j]? = some (some x) ∧ SvR K F j (upd H a o) x sv)
    (ho : ∀ j, Owned S' j → Owned S j) : Rel K F S' σ (upd H a o) := by
  have p : Pers H (upd H a o) := Pers.put hm
  have kp : ∀ b u, F.H0 b = some u → b ∉ F.pins.map (·.2) → isTbl u = false → upd H a o b = some u := fun b u e nb nt => by
    have na : b ≠ a := fun h => by
      subst h
      rcases h0 with h0 | h0
      · rw [e] at h0; cases h0
      · exact nb h0
    rw [upd_ne na]; exact r.keep b u e nb nt
  refine ⟨hl.trans r.len, fun j sv e => ?_, fun i j b ne hi hj => r.apart i j b ne (ho i hi) (ho j hj), kp, fun b u e => ?_, fun P hP => ?_, F.cl.selfM p r.self, fun p hp => ?_⟩
  · rcases hs j sv e with ⟨e1, q⟩ | q
    · obtain ⟨x, ex, v⟩ := r.slot j sv e1
      refine ⟨x, ex, ?_⟩
      cases sv with
      | d d => exact Pd.mono p v
      | own ob =>
        obtain ⟨b, rfl, w, z⟩ := v
        have nb : b ≠ a := fun h => q ⟨ob, .inl e1⟩ (h ▸ ex)
        exact ⟨b, rfl, w.later p (upd_ne nb), z⟩
      | pin ob =>
        obtain ⟨b, rfl, w, z⟩ := v
        have nb : b ≠ a := fun h => q ⟨ob, .inr e1⟩ (h ▸ ex)
        exact ⟨b, rfl, w.later p (upd_ne nb), z⟩
      | x e => exact SxR.later v p r.keep kp
    · exact q
  · by_cases hb : b = a
    · subst hb; exact ⟨o, upd_same⟩
    · rw [upd_ne hb]; exact r.there b u e
  · refine (r.tabs P hP).later p fun b ps e => ?_
    have na : b ≠ a := fun h => by
      subst h
      rcases hm with hm | hm
      · rw [e] at hm; exact hm
      · rw [e] at hm; cases hm
    rw [upd_ne na]; exact e
  · obtain ⟨⟨e, em⟩, n, q⟩ := r.held p hp
    exact ⟨⟨by rw [upd_ne (hh p hp)]; exact e, em⟩, n, fun i hi => q i (ho i hi)⟩
theorem Rel.none0 (r : Rel K F S σ H) (hn : H a = none) : F.H0 a = none := by
  cases e : F.H0 a with
  | none => rfl
  | some o => obtain ⟨u, q⟩ := r.there a o e; rw [hn] at q; cases q
theorem Rel.unslot (r : Rel K F S σ H) (hn : H a = none) {j : Nat} (hj : Owned S j) : σ[j]? ≠ some (some (.ref a)) := fun hx => by
  obtain ⟨ob, hj⟩ := hj
  obtain ⟨b, eb, q, _⟩ := r.obj hj
  rw [hx] at eb; cases eb
  obtain ⟨u, e, _⟩ := q.there
  rw [hn] at e; cases e
/-- a new object -/
theorem Rel.new (r : Rel K F S σ H) (hn : H a = none) : Rel K F S σ (upd H a o) :=
  r.put (.inr hn) (.inl (r.none0 hn)) (fun p hp e => by obtain ⟨⟨q, _⟩, _⟩ := r.held p hp; rw [e, hn] at q; cases q) rfl (fun j sv e => .inl ⟨e, fun hj => r.unslot hn hj⟩) fun j h => h
theorem Pers.new (hn : H a = none) : Pers H (upd H a o) := Pers.put (.inr hn)
/-- a slot is stored with data -/
theorem Rel.setD (r : Rel K F S σ H) {i : Nat} {x : V} {d : D} (v : Pd K H x d) : Rel K F (S.set i (some (.d d))) (σ.set i (some x)) H := by
  have e0 : ∀ j, j ≠ i → (S.set i (some (.d d)))[j]? = S[j]? := fun j h => List.getElem?_set_ne (Ne.symm h)
  have e1 : ∀ j, j ≠ i → (σ.set i (some x))[j]? = σ[j]? := fun j h => List.getElem?_set_ne (Ne.symm h)
  have own : ∀ j, Owned (S.set i (some (.d d))) j → j ≠ i ∧ Owned S j := fun j ⟨ob, h⟩ => by
    by_cases hj : j = i
    · subst hj
      by_cases hl : j < S.length
      · rw [List.getElem?_set_self hl] at h
        rcases h with h | h <;> cases h
      · have q : (S.set j (some (.d d)))[j]? = none := List.getElem?_eq_none (by rw [List.length_set]; omega)
        rw [q] at h
        rcases h with h | h <;> cases h
    · rw [e0 j hj] at h; exact ⟨hj, ob, h⟩
  refine ⟨by rw [List.length_set, List.length_set]; exact r.len, fun j sv e => ?_, fun j k a ne hj hk => ?_, r.keep, r.there, r.tabs, r.self, fun p hp => ⟨(r.held p hp).1, (r.held p hp).2.1, fun j hj => by
    obtain ⟨nj, oj⟩ := own j hj
    rw [e1 j nj]
    exact (r.held p hp).2.2 j oj⟩⟩
  · by_cases hj : j = i
    · subst hj
      have hl : j < S.length := by
        have := List.getElem?_eq_some_iff.mp e
        obtain ⟨h, _⟩ := this
        rw [List.length_set] at h; exact h
      rw [List.getElem?_set_self hl] at e
      cases e
      exact ⟨x, List.getElem?_set_self (by rw [← r.len]; exact hl), v⟩
    · rw [e0 j hj] at e
      rw [e1 j hj]
      exact r.slot j sv e
  · obtain ⟨nj, oj⟩ := own j hj
    obtain ⟨nk, ok⟩ := own k hk
    rw [e1 j nj, e1 k nk]
    exact r.apart j k a ne oj ok
/-- a slot takes an own object over -/
theorem Rel.setO (r : Rel K F S σ H) {i : Nat} {x : V} {ob : Ob} (v : VR K F S σ H x (.own ob)) : Rel K F (S.set i (some (.own ob))) (σ.set i (some x)) H := by
  obtain ⟨a, rfl, q, n, nu, nh⟩ := v
  have e0 : ∀ j, j ≠ i → (S.set i (some (.own ob)))[j]? = S[j]? := fun j h => List.getElem?_set_ne (Ne.symm h)
  have e1 : ∀ j, j ≠ i → (σ.set i (some (V.ref a)))[j]? = σ[j]? := fun j h => List.getElem?_set_ne (Ne.symm h)
  have own : ∀ j, j ≠ i → Owned (S.set i (some (.own ob))) j → Owned S j := fun j hj ⟨ob2, h⟩ => by
    rw [e0 j hj] at h; exact ⟨ob2, h⟩
  refine ⟨by rw [List.length_set, List.length_set]; exact r.len, fun j sv e => ?_, fun j k b ne hj hk => ?_, r.keep, r.there, r.tabs, r.self, fun p hp => ⟨(r.held p hp).1, (r.held p hp).2.1, fun j hj => by
    by_cases h1 : j = i
    · subst h1
      intro hx
      by_cases hl : j < σ.length
      · rw [List.getElem?_set_self hl] at hx
        cases hx
        exact nh p hp rfl
      · rw [List.getElem?_eq_none (by rw [List.length_set]; omega)] at hx
        cases hx
    · rw [e1 j h1]
      exact (r.held p hp).2.2 j (own j h1 hj)⟩⟩
  · by_cases hj : j = i
    · subst hj
      have hl : j < S.length := by
        obtain ⟨h, _⟩ := List.getElem?_eq_some_iff.mp e
        rw [List.length_set] at h; exact h
      rw [List.getElem?_set_self hl] at e
      cases e
      exact ⟨_, List.getElem?_set_self (by rw [← r.len]; exact hl), a, rfl, q, n⟩
    · rw [e0 j hj] at e
      rw [e1 j hj]
      exact r.slot j sv e
  · by_cases h1 : j = i
    · subst h1
      have nk : k ≠ j := Ne.symm ne
      rw [e1 k nk]
      intro hx
      by_cases hl : j < σ.length
      · rw [List.getElem?_set_self hl] at hx
        cases hx
        exact nu k (own k nk hk)
      · rw [List.getElem?_eq_none (by rw [List.length_set]; omega)] at hx
        cases hx
    · rw [e1 j h1]
      by_cases h2 : k = i
      · subst h2
        intro hx hy
        by_cases hl : k < σ.length
        · rw [List.getElem?_set_self hl] at hy
          cases hy
          exact nu j (own j h1 hj) hx
        · rw [List.getElem?_eq_none (by rw [List.length_set]; omega)] at hy
          cases hy
      · rw [e1 k h2]
        exact r.apart j k b ne (own j h1 hj) (own k h2 hk)
/-- a list's own slot, frozen -/
theorem Rel.freeze (r : Rel K F S σ H) {i : Nat} {ds : List D} (h : S[i]? = some (some (.own (.lst ds)))) {vs : List V} {od : Obj} (e : σ[i]? = some (some (.ref a))) (hH : H a = some (.lst vs)) (hv : PdAll K H vs ds) :
    Rel K F (S.set i (some (.d (.list ds)))) σ (upd H a (.frz od (.lst vs))) ∧ Pers H (upd H a (.frz od (.lst vs))) ∧ Pd K (upd H a (.frz od (.lst vs))) (.ref a) (.list ds) := by
  have hm : Mut (H a) := by rw [hH]; trivial
  have p : Pers H (upd H a (.frz od (.lst vs))) := Pers.put (.inl hm)
  have pd : Pd K (upd H a (.frz od (.lst vs))) (.ref a) (.list ds) := .lst (.inl ⟨od, upd_same⟩) (hv.mono p)
  have hl : i < S.length := (List.getElem?_eq_some_iff.mp h).1
  have n0 : F.H0 a = none := by
    obtain ⟨x, ex, b, e2, q, n⟩ := r.slot i _ h
    rw [e] at ex; cases ex; cases e2; exact n
  refine ⟨?_, p, pd⟩
  refine r.put (.inl hm) (.inl n0) (fun p hp e' => (r.held p hp).2.2 i ⟨_, .inl h⟩ (e' ▸ e)) (List.length_set ..) (fun j sv ej => ?_) fun j ⟨ob, hj⟩ => ?_
  · by_cases hj : j = i
    · subst hj
      rw [List.getElem?_set_self hl] at ej
      cases ej
      exact .inr ⟨_, e, pd⟩
    · rw [List.getElem?_set_ne (Ne.symm hj)] at ej
      exact .inl ⟨ej, fun oj => r.apart i j a (Ne.symm hj) ⟨_, .inl h⟩ oj e⟩
  · by_cases hj2 : j = i
    · subst hj2; exact ⟨_, .inl h⟩
    · rw [List.getElem?_set_ne (Ne.symm hj2)] at hj; exact ⟨ob, hj⟩
end

/-! ### names, constants -/
section
variable {X : Cx} {F : Fx} {e : Expr}
def fVar (i : Nat) : FS → Res D := fun S => match S[i]? with
  | some (some (.d d)) => .ok d S
  | some (some (.own (.lst ds))) => .ok (.list ds) (S.set i (some (.d (.list ds))))
  | _ => .bad
theorem e_var {i : Nat} (h : PE X e (tVar i)) : ED X F e (fVar i) := by
  refine ⟨fun pins s σ H Q I ⟨S, r, p⟩ => ?_⟩
  unfold fVar at p
  split at p
  · rename_i d hd
    obtain ⟨x, ex, v⟩ := r.slot i _ hd
    exact h.run pins s σ H Q I ⟨x, ex, p.ok r v⟩
  · rename_i ds hd
    obtain ⟨x, ex, a, rfl, ⟨vs, hH, hv⟩, n⟩ := r.slot i _ hd
    obtain ⟨od, I1⟩ := I.lock hH trivial
    obtain ⟨r1, p1, v1⟩ := r.freeze (od := od) hd ex hH hv
    exact h.run pins s σ _ Q I1 ⟨_, ex, p _ _ p1 r1 v1⟩
  · exact p.elim
/-- a look at a name, nothing frozen -/
def fPeek (i : Nat) : FS → Res D := fun S => match S[i]? with
  | some (some (.d d)) => .ok d S
  | some (some (.own (.lst ds))) => .ok (.list ds) S
  | some (some (.pin (.lst ds))) => .ok (.list ds) S
  | some (some (.x (.ro (.lst ds)))) => .ok (.list ds) S
  | _ => .bad
theorem e_peek {i : Nat} (h : PE X e (tVar i)) : EQ X F e (fPeek i) := by
  refine ⟨fun pins s σ H Q I ⟨S, r, p⟩ => ?_⟩
  unfold fPeek at p
  split at p
  · rename_i d hd
    obtain ⟨x, ex, v⟩ := r.slot i _ hd
    exact h.run pins s σ H Q I ⟨x, ex, p.ok r (Or.inl v)⟩
  · rename_i ds hd
    obtain ⟨x, ex, a, rfl, ⟨vs, hH, hv⟩, n⟩ := r.slot i _ hd
    exact h.run pins s σ H Q I ⟨_, ex, p.ok r (Or.inr ⟨a, vs, ds, rfl, rfl, .inl (.inl hH), hv⟩)⟩
  · rename_i ds hd
    obtain ⟨x, ex, a, rfl, ⟨vs, hH, hv⟩, n⟩ := r.slot i _ hd
    exact h.run pins s σ H Q I ⟨_, ex, p.ok r (Or.inr ⟨a, vs, ds, rfl, rfl, .inl (.inl hH), hv⟩)⟩
  · rename_i ds hd
    obtain ⟨x, ex, a, rfl, o, vs, hH, hv⟩ := r.slot i _ hd
    exact h.run pins s σ H Q I ⟨_, ex, p.ok r (Or.inr ⟨a, vs, ds, rfl, rfl, .inl (.inr ⟨o, hH⟩), hv⟩)⟩
  · exact p.elim
def fC {α : Type} (d : α) : FS → Res α := fun S => .ok d S
theorem e_int {i : Int} {j : Nat} {pos : Pos} : ED X F (.Constant (.int i) j pos) (fC (.int i)) := pe_int.via fun σ H Q ⟨S, r, p⟩ => p.ok r (.int i)
theorem e_bl {b : Bool} {j : Nat} {pos : Pos} : ED X F (.Constant (.bool b) j pos) (fC (.bool b)) := pe_bl.via fun σ H Q ⟨S, r, p⟩ => p.ok r (.bl b)
theorem e_non {j : Nat} {pos : Pos} : ED X F (.Constant .none j pos) (fC .none) := pe_non.via fun σ H Q ⟨S, r, p⟩ => p.ok r .non
/-- data as a value; data as data for the moment -/
def fV (f : FS → Res D) : FS → Res SV := bnd f fun d => fC (.d d)
theorem ED.v {f : FS → Res D} (h : ED X F e f) : EV X F e (fV f) := h.via fun σ H Q hw => hw.bind.imp fun x H1 ⟨d, S1, r, v, p, q⟩ => q.ok r v
theorem ED.q {f : FS → Res D} (h : ED X F e f) : EQ X F e f := h.via fun σ H Q ⟨S, r, p⟩ => ⟨S, r, by
  cases e : f S with
  | ok d S1 => rw [e] at p; exact fun x H1 q r1 v => p x H1 q r1 (Or.inl v)
  | exn e2 S1 => rw [e] at p; exact p
  | bad => rw [e] at p; exact p⟩
/-- a value as data: a new list is frozen -/
def fFrz (f : FS → Res SV) : FS → Res D := bnd f fun sv S => match sv with
  | .d d => .ok d S
  | .own (.lst ds) => .ok (.list ds) S
  | _ => .bad
theorem EV.frz {f : FS → Res SV} (h : EV X F e f) : ED X F e (fFrz f) := by
  refine ⟨fun pins s σ H Q I hw => ?_⟩
  refine thn (h.run pins s σ H _ I (rdG.bind hw)) fun u s1 ⟨x, H1, I1, rx, sv, S1, r, v, p, q⟩ => ?_
  cases sv with
  | d d => exact ⟨x, H1, I1, rx, q.ok r v⟩
  | own ob =>
    cases ob with
    | lst ds =>
      obtain ⟨a, rfl, ⟨vs, hH, hv⟩, n, nu, nh⟩ := v
      obtain ⟨od, I2⟩ := I1.lock hH trivial
      have hm : Mut (H1 a) := by rw [hH]; trivial
      have p2 : Pers H1 (upd H1 a (.frz od (.lst vs))) := Pers.put (.inl hm)
      have r2 : Rel X.K F S1 σ (upd H1 a (.frz od (.lst vs))) := r.put (.inl hm) (.inl n) nh rfl (fun j sv e => .inl ⟨e, nu j⟩) fun j h => h
      exact ⟨_, _, I2, rx, q _ _ p2 r2 (Pd.lst (.inl ⟨od, upd_same⟩) (hv.mono p2))⟩
    | dic kvs => exact q.elim
  | pin ob => exact q.elim
  | x e => exact q.elim
/-- .. for the moment: nothing is frozen -/
theorem EV.q {f : FS → Res SV} (h : EV X F e f) : EQ X F e (fFrz f) := h.via fun σ H Q hw => (rdG.bind hw).imp fun x H1 ⟨sv, S1, r, v, p, q⟩ => by
  cases sv with
  | d d => exact q.ok r (Or.inl v)
  | own ob =>
    cases ob with
    | lst ds => obtain ⟨a, rfl, ⟨vs, hH, hv⟩, n, nu, nh⟩ := v; exact q.ok r (Or.inr ⟨a, vs, ds, rfl, rfl, .inl (.inl hH), hv⟩)
    | dic kvs => exact q.elim
  | pin ob => exact q.elim
  | x e => exact q.elim
end
end Fz
end

section
set_option Elab.async false
set_option linter.all false
set_option maxRecDepth 100000
set_option maxHeartbeats 4000000
/-! F2: operators. -/
namespace Fz
open PySem PySem.Spec PyProof.Rows L2
section
variable {X : Cx} {F : Fx} {α : Type} {R : VRel α}
/-- an operation by data: what is asked of the two values -/
def rOp {α : Type} (K : Fg) (F : Fx) (R : VRel α) (g : D → D → FS → Res α) : R2 := fun x y H Q => ∃ S σ d e, Rel K F S σ H ∧ Qd K H x d ∧ Qd K H y e ∧ postG K F R (g d e S) σ H Q
abbrev OpF (X : Cx) (F : Fx) (R : VRel α) (f : Value → Value → Sem Value) (g : D → D → FS → Res α) : Prop := OpR X f (rOp X.K F R g)
/-- by cases of the data: each by a rule of its own -/
theorem opF_by {f : Value → Value → Sem Value} {g : D → D → FS → Res α}
    (h : ∀ S σ d e H, (∃ r : R2, OpR X f r ∧ ∀ x y Q, Rel X.K F S σ H → Qd X.K H x d → Qd X.K H y e → postG X.K F R (g d e S) σ H Q → r x y H Q) ∨ g d e S = .bad) : OpF X F R f g := by
  intro pins s σ0 H x y v u Q I rx ry ⟨S, σ, d, e, r, hx, hy, p⟩
  rcases h S σ d e H with ⟨r2, o, k⟩ | hb
  · exact o pins s σ0 H x y v u Q I rx ry (k x y Q r hx hy p)
  · rw [hb] at p; exact p.elim
/-- sums -/
def pAdd (d e : D) : FS → Res SV := fun S => match d, e with
  | .int i, .int j => .ok (.d (.int (i + j))) S
  | .str a, .str b => if a.length + b.length ≤ sizeLine then .ok (.d (.str (a ++ b))) S else .bad
  | .tuple xs, .tuple ys => if xs.length + ys.length ≤ sizeLine then .ok (.d (.tuple (xs ++ ys))) S else .bad
  | .list xs, .list ys => if xs.length + ys.length ≤ sizeLine then .ok (.own (.lst (xs ++ ys))) S else .bad
  | _, _ => .bad
def rCatQ (K : Fg) : R2 := fun x y H Q => ∃ l b xs zs, x = .ref l ∧ y = .ref b ∧ SqL K H l xs ∧ SqL K H b zs ∧ xs.length + zs.length ≤ sizeLine ∧ ∀ p, H p = none → Q (.ref p) (upd H p (.lst (xs ++ zs)))
theorem op_catQ : OpR X (binaryOp .Add) (rCatQ X.K) := by
  intro pins s σ H x y v u Q I rx ry h
  obtain ⟨l, b, xs, zs, rfl, rfl, hH, hB, hz, q⟩ := h
  cases rx
  cases ry
  obtain ⟨its, r, ⟨⟨c1, dd1, dt1, sl1⟩, n, e, k1, k2, k3⟩, _⟩ := I.list hH
  obtain ⟨its2, r2, ⟨⟨c2, dd2, dt2, sl2⟩, n2, e2, l1, l2, l3⟩, _⟩ := I.list hB
  simp only at k1 k2 k3 l1 l2 l3
  subst k1 k2 k3 l1 l2 l3
  have hz2 : its.length + its2.length ≤ sizeLine := by rw [← r.length, ← r2.length]; exact hz
  refine concat_meets ⟨_, e, rfl⟩ ⟨_, e2, rfl⟩ noFill_list_add seq_list_add PySem.F.slot_list_add PySem.F.entry_list_add (PySem.F.args_list_add_2 _ _)
    (list_addW l b its.toArray its2.toArray n n2 _ _ sl1 sl2 (by simpa using hz2)) ⟨e, e2, ?_⟩
  have ea : its.toArray ++ its2.toArray = (its ++ its2).toArray := by simp
  rw [ea]
  exact ⟨.ref _, _, I.lnew (t' := s.toks) (r.append r2) (by rw [List.length_append]; exact hz), rfl, q _ I.fresh⟩
/-- a new list is an own value -/
theorem newList {K : Fg} {S : FS} {σ : Sl} {H : Hp} {p : Addr} {vs : List V} {ds : List D} {Q : VK} (r : Rel K F S σ H) (hv : PdAll K H vs ds) (hp : H p = none) (q : postG K F VR (.ok (.own (.lst ds)) S) σ H Q) : Q (.ref p) (upd H p (.lst vs)) := by
  have p1 : Pers H (upd H p (.lst vs)) := Pers.new hp
  exact q _ _ p1 (r.new hp) ⟨p, rfl, ⟨vs, upd_same, hv.mono p1⟩, r.none0 hp, fun j hj => r.unslot hp hj, fun b hb e => by obtain ⟨⟨q, _⟩, _⟩ := r.held b hb; rw [e, hp] at q; cases q⟩
theorem newTup {K : Fg} {S : FS} {σ : Sl} {H : Hp} {p : Addr} {vs : List V} {ds : List D} (r : Rel K F S σ H) (hv : PdAll K H vs ds) (hp : H p = none) :
    Pers H (upd H p (.tup vs)) ∧ Rel K F S σ (upd H p (.tup vs)) ∧ Pd K (upd H p (.tup vs)) (.ref p) (.tuple ds) := by
  have p1 : Pers H (upd H p (.tup vs)) := Pers.new hp
  exact ⟨p1, r.new hp, .tup (.inl (.inl upd_same)) (hv.mono p1)⟩
theorem op_addF : OpF X F VR (binaryOp .Add) pAdd := opF_by fun S σ d e H => by
  cases d with
  | int i =>
    cases e with
    | int j => exact .inl ⟨_, op_add, fun x y Q r hx hy p => ⟨i, j, hx.int, hy.int, p.ok r (Pd.int _)⟩⟩
    | _ => exact .inr rfl
  | str a =>
    cases e with
    | str b =>
      by_cases hl : a.length + b.length ≤ sizeLine
      · refine .inl ⟨_, op_add_str, fun x y Q r hx hy p => ⟨a, b, hx.str, hy.str, hl, ?_⟩⟩
        simp only [pAdd, if_pos hl] at p
        exact p.ok r (Pd.str _)
      · exact .inr (if_neg hl)
    | _ => exact .inr rfl
  | tuple xs =>
    cases e with
    | tuple ys =>
      by_cases hl : xs.length + ys.length ≤ sizeLine
      · refine .inl ⟨_, op_catA, fun x y Q r hx hy p => ?_⟩
        simp only [pAdd, if_pos hl] at p
        obtain ⟨a, vs, rfl, h1, r1⟩ := hx.tuple
        obtain ⟨b, ws, rfl, h2, r2⟩ := hy.tuple
        refine ⟨a, b, vs, ws, rfl, rfl, h1, h2, by rw [r1.length, r2.length]; exact hl, fun e0 => ?_, fun _ e0 => ?_, fun _ _ q hq => ?_⟩
        · subst e0
          cases r1
          exact p.ok r (Pd.tup h2 r2)
        · subst e0
          cases r2
          rw [List.append_nil] at p
          exact p.ok r (Pd.tup h1 r1)
        · obtain ⟨p1, r3, v⟩ := newTup r (r1.append r2) hq
          exact p _ _ p1 r3 v
      · exact .inr (if_neg hl)
    | _ => exact .inr rfl
  | list xs =>
    cases e with
    | list ys =>
      by_cases hl : xs.length + ys.length ≤ sizeLine
      · refine .inl ⟨_, op_catQ, fun x y Q r hx hy p => ?_⟩
        simp only [pAdd, if_pos hl] at p
        obtain ⟨a, vs, rfl, h1, r1⟩ := hx.list
        obtain ⟨b, ws, rfl, h2, r2⟩ := hy.list
        exact ⟨a, b, vs, ws, rfl, rfl, h1, h2, by rw [r1.length, r2.length]; exact hl, fun q hq => newList r (r1.append r2) hq p⟩
      · exact .inr (if_neg hl)
    | _ => exact .inr rfl
  | none => exact .inr rfl
  | bool b => exact .inr rfl
  | dict k => exact .inr rfl
/-- ints alone -/
def pInt (g : Int → Int → Option Int) (d e : D) : FS → Res D := fun S => match d, e with
  | .int i, .int j => (match g i j with
    | some k => .ok (.int k) S
    | none => .bad)
  | _, _ => .bad
theorem op_intF {f : Value → Value → Sem Value} {C : Int → Int → Prop} [∀ i j, Decidable (C i j)] {g : Int → Int → Int} (h : OpR X f (rI C fun i j => .int (g i j))) : OpF X F PR f (pInt fun i j => if C i j then some (g i j) else none) := opF_by fun S σ d e H => by
  cases d with
  | int i =>
    cases e with
    | int j =>
      by_cases hc : C i j
      · refine .inl ⟨_, h, fun x y Q r hx hy p => ⟨i, j, hx.int, hy.int, hc, ?_⟩⟩
        simp only [pInt, if_pos hc] at p
        exact p.ok r (Pd.int _)
      · exact .inr (by simp only [pInt, if_neg hc])
    | _ => exact .inr rfl
  | _ => exact .inr rfl
noncomputable instance (i j : Int) : Decidable (CMulW i j) := Classical.propDecidable _
noncomputable instance (i j : Int) : Decidable (CDivW i j) := Classical.propDecidable _
noncomputable instance (i j : Int) : Decidable (CPow i j) := Classical.propDecidable _
abbrev pSub := pInt fun i j => some (i - j)
noncomputable abbrev pMul := pInt fun i j => if CMulW i j then some (i * j) else none
noncomputable abbrev pDiv := pInt fun i j => if CDivW i j then some (i / j) else none
abbrev pMod := pInt fun i j => if 0 < j then some (i % j) else none
noncomputable abbrev pPow := pInt fun i j => if CPow i j then some (i ^ j.toNat) else none
theorem op_int0 {f : Value → Value → Sem Value} {g : Int → Int → Int} (h : OpR X f (rI0 fun i j => .int (g i j))) : OpF X F PR f (pInt fun i j => some (g i j)) := opF_by fun S σ d e H => by
  cases d with
  | int i =>
    cases e with
    | int j => exact .inl ⟨_, h, fun x y Q r hx hy p => ⟨i, j, hx.int, hy.int, p.ok r (Pd.int _)⟩⟩
    | _ => exact .inr rfl
  | _ => exact .inr rfl
theorem op_subF : OpF X F PR (binaryOp .Sub) pSub := op_int0 op_sub
theorem op_mulF : OpF X F PR (binaryOp .Mult) pMul := op_intF op_mulW
theorem op_divF : OpF X F PR (binaryOp .FloorDiv) pDiv := op_intF op_fdivW
theorem op_modF : OpF X F PR (binaryOp .Mod) pMod := op_intF op_mod
theorem op_powF : OpF X F PR (binaryOp .Pow) pPow := op_intF op_pow
/-- comparisons of ints -/
def pCmp (g : Int → Int → Bool) (d e : D) : FS → Res D := fun S => match d, e with
  | .int i, .int j => .ok (.bool (g i j)) S
  | _, _ => .bad
theorem op_cmpF {f : Value → Value → Sem Value} {g : Int → Int → Bool} (h : OpR X f (rI0 fun i j => .bl (g i j))) : OpF X F PR f (pCmp g) := opF_by fun S σ d e H => by
  cases d with
  | int i =>
    cases e with
    | int j => exact .inl ⟨_, h, fun x y Q r hx hy p => ⟨i, j, hx.int, hy.int, p.ok r (Pd.bl _)⟩⟩
    | _ => exact .inr rfl
  | _ => exact .inr rfl
abbrev pLt := pCmp fun i j => decide (i < j)
abbrev pLe := pCmp fun i j => decide (i ≤ j)
abbrev pGt := pCmp fun i j => decide (j < i)
abbrev pGe := pCmp fun i j => decide (j ≤ i)
theorem op_ltF : OpF X F PR (compareOp .Lt) pLt := op_cmpF op_lt
theorem op_leF : OpF X F PR (compareOp .LtE) pLe := op_cmpF op_le
theorem op_gtF : OpF X F PR (compareOp .Gt) pGt := op_cmpF op_gt
theorem op_geF : OpF X F PR (compareOp .GtE) pGe := op_cmpF op_ge
/-- == and != of data -/
def strs2 : D → D → Bool
  | .str _, .str _ => true
  | _, _ => false
/-- two texts, or data without dicts, of texts that can be written -/
def eqOk (d e : D) : Bool := strs2 d e || (SeqAt.shaped d && SeqAt.shaped e)
def pEq (d e : D) : FS → Res D := fun S => if eqOk d e = true then .ok (.bool (PyData.eqv d e)) S else .bad
def pNe (d e : D) : FS → Res D := fun S => if eqOk d e = true then .ok (.bool (!PyData.eqv d e)) S else .bad
theorem eqOk_cases {d e : D} (h : eqOk d e = true) : (∃ a b, d = .str a ∧ e = .str b) ∨ (SeqAt.shaped d = true ∧ SeqAt.shaped e = true) := by
  unfold eqOk at h
  rcases Bool.or_eq_true_iff.mp h with h | h
  · unfold strs2 at h
    split at h
    · exact .inl ⟨_, _, rfl, rfl⟩
    · cases h
  · exact .inr (Bool.and_eq_true_iff.mp h)
theorem op_eqF (hu : X.A.units + 64 < cLine) : OpF X F PR (compareOp .Eq) pEq := opF_by fun S σ d e H => by
  by_cases hc : eqOk d e = true
  · rcases eqOk_cases hc with ⟨a, b, rfl, rfl⟩ | hs
    · refine .inl ⟨_, op_eq, fun x y Q r hx hy p => ?_⟩
      rw [hx.str, hy.str]
      unfold pEq at p; rw [if_pos hc] at p
      refine ⟨rfl, ?_⟩
      rw [dec_str]
      have q := p.ok r (Pd.bl _)
      simpa only [PyData.eqv] using q
    · refine .inl ⟨_, op_eqD hu, fun x y Q r hx hy p => ⟨d, e, hx.dp, hy.dp, hs.1, hs.2, ?_⟩⟩
      unfold pEq at p; rw [if_pos hc] at p
      exact p.ok r (Pd.bl _)
  · exact .inr (by unfold pEq; rw [if_neg hc])
theorem op_neF (hu : X.A.units + 64 < cLine) : OpF X F PR (compareOp .NotEq) pNe := opF_by fun S σ d e H => by
  by_cases hc : eqOk d e = true
  · rcases eqOk_cases hc with ⟨a, b, rfl, rfl⟩ | hs
    · refine .inl ⟨_, op_ne, fun x y Q r hx hy p => ?_⟩
      rw [hx.str, hy.str]
      unfold pNe at p; rw [if_pos hc] at p
      refine ⟨rfl, ?_⟩
      rw [dec_str]
      have q := p.ok r (Pd.bl _)
      simpa only [PyData.eqv] using q
    · refine .inl ⟨_, op_neD hu, fun x y Q r hx hy p => ⟨d, e, hx.dp, hy.dp, hs.1, hs.2, ?_⟩⟩
      unfold pNe at p; rw [if_pos hc] at p
      exact p.ok r (Pd.bl _)
  · exact .inr (by unfold pNe; rw [if_neg hc])
def dNone : D → Bool
  | .none => true
  | _ => false
theorem Qd.isNone {K : Fg} {H : Hp} {x : V} {d : D} (h : Qd K H x d) : decide (x = .non) = dNone d := by
  rcases h with h | ⟨a, vs, ds, rfl, rfl, h, r⟩
  · cases h <;> rfl
  · rfl
end

/-! ### two operands -/
section
variable {X : Cx} {F : Fx} {α : Type} {R : VRel α} {a b : Expr} {pos : Pos} {fa fb : FS → Res D} {g : D → D → FS → Res α}
def fOp {α : Type} (g : D → D → FS → Res α) (fa fb : FS → Res D) : FS → Res α := bnd fa fun d => bnd fb fun e => g d e
/-- the left one is a name: it is looked at behind the right one -/
def fOpN {α : Type} (g : D → D → FS → Res α) (i : Nat) (fb : FS → Res D) : FS → Res α := bnd (fPeek i) fun _ => bnd fb fun e => bnd (fPeek i) fun d => g d e
theorem tOp_of {σ : Sl} {H : Hp} {Q : VK} (h : rdG X.K F R (fOp g fa fb) σ H Q) : tOp (rOp X.K F R g) (rdG X.K F PR fa) (rdG X.K F QR fb) σ H Q := by
  refine (rdG.bind h).imp fun x H1 ⟨d, S1, r1, v1, p1, q1⟩ => ?_
  refine (rdG.bind (k := fun e => g d e) (⟨S1, r1, q1⟩ : rdG X.K F R (bnd fb fun e => g d e) σ H1 Q)).imp fun y H2 ⟨e, S2, r2, v2, p2, q2⟩ => ?_
  exact ⟨S2, σ, d, e, r2, .inl (Pd.mono p2 v1), v2, q2⟩
theorem peek_val {K : Fg} {S : FS} {σ : Sl} {H : Hp} {i : Nat} {d : D} {S' : FS} (r : Rel K F S σ H) (h : fPeek i S = .ok d S') : S' = S ∧ ∃ x, σ[i]? = some (some x) ∧ Qd K H x d := by
  unfold fPeek at h
  split at h
  · rename_i d' hd
    cases h
    obtain ⟨x, ex, v⟩ := r.slot i _ hd
    exact ⟨rfl, x, ex, .inl v⟩
  · rename_i ds hd
    cases h
    obtain ⟨x, ex, a, rfl, ⟨vs, hH, hv⟩, n⟩ := r.slot i _ hd
    exact ⟨rfl, _, ex, .inr ⟨a, vs, ds, rfl, rfl, .inl (.inl hH), hv⟩⟩
  · rename_i ds hd
    cases h
    obtain ⟨x, ex, a, rfl, ⟨vs, hH, hv⟩, n⟩ := r.slot i _ hd
    exact ⟨rfl, _, ex, .inr ⟨a, vs, ds, rfl, rfl, .inl (.inl hH), hv⟩⟩
  · rename_i ds hd
    cases h
    obtain ⟨x, ex, a, rfl, o, vs, hH, hv⟩ := r.slot i _ hd
    exact ⟨rfl, _, ex, .inr ⟨a, vs, ds, rfl, rfl, .inl (.inr ⟨o, hH⟩), hv⟩⟩
  · cases h
theorem peek_ok {i : Nat} {S : FS} : (∃ d, fPeek i S = .ok d S) ∨ fPeek i S = .bad := by
  unfold fPeek
  split
  · exact .inl ⟨_, rfl⟩
  · exact .inl ⟨_, rfl⟩
  · exact .inl ⟨_, rfl⟩
  · exact .inl ⟨_, rfl⟩
  · exact .inr rfl
/-- behind the right operand: the name's value -/
theorem peek_in {K : Fg} {S : FS} {σ : Sl} {H : Hp} {i : Nat} {k : D → FS → Res α} {Q : VK} (r : Rel K F S σ H) (p : postG K F R (bnd (fPeek i) k S) σ H Q) : ∃ x d, σ[i]? = some (some x) ∧ Qd K H x d ∧ postG K F R (k d S) σ H Q := by
  unfold bnd at p
  rcases peek_ok (i := i) (S := S) with ⟨d, e⟩ | e
  · obtain ⟨_, x, ex, v⟩ := peek_val r e
    rw [e] at p
    exact ⟨x, d, ex, v, p⟩
  · rw [e] at p; exact p.elim
theorem tOpN_of {i : Nat} {σ : Sl} {H : Hp} {Q : VK} (h : rdG X.K F R (fOpN g i fb) σ H Q) : tOp (rOp X.K F R g) (tVar i) (rdG X.K F QR fb) σ H Q := by
  obtain ⟨S, r, p⟩ := h
  obtain ⟨x, d0, ex, _, p⟩ := peek_in (k := fun _ => bnd fb fun e => bnd (fPeek i) fun d => g d e) r p
  refine ⟨x, ex, (rdG.bind (k := fun e => bnd (fPeek i) fun d => g d e) (R' := R) ⟨S, r, p⟩).imp fun y H1 ⟨e, S1, r1, v1, p1, q1⟩ => ?_⟩
  obtain ⟨x', d, ex', vd, q2⟩ := peek_in r1 q1
  rw [ex] at ex'; cases ex'
  exact ⟨S1, σ, d, e, r1, vd, v1, q2⟩
theorem e_op {op : Operator} (ho : OpF X F R (binaryOp op) g) (ha : ED X F a fa) (hb : EQ X F b fb) : PE X (.BinOp a op b pos) (rdG X.K F R (fOp g fa fb)) := (pe_op ho ha hb).via fun _ _ _ h => tOp_of h
theorem e_opN {i : Nat} {op : Operator} (ho : OpF X F R (binaryOp op) g) (ha : PE X a (tVar i)) (hb : EQ X F b fb) : PE X (.BinOp a op b pos) (rdG X.K F R (fOpN g i fb)) := (pe_op ho ha hb).via fun _ _ _ h => tOpN_of h
theorem e_cmp {op : CmpOp} (ho : OpF X F R (compareOp op) g) (ha : ED X F a fa) (hb : EQ X F b fb) (hm : behindInMarks op b = false) : PE X (.Compare a [op] [b] pos) (rdG X.K F R (fOp g fa fb)) := (pe_cmpR ho ha hb hm).via fun _ _ _ h => tOp_of h
theorem e_cmpN {i : Nat} {op : CmpOp} (ho : OpF X F R (compareOp op) g) (ha : PE X a (tVar i)) (hb : EQ X F b fb) (hm : behindInMarks op b = false) : PE X (.Compare a [op] [b] pos) (rdG X.K F R (fOpN g i fb)) := (pe_cmpR ho ha hb hm).via fun _ _ _ h => tOpN_of h
/-- a bool's value as a test -/
def fT (f : FS → Res D) : FS → Res Bool := bnd f fun d S => match d with
  | .bool b => .ok b S
  | _ => .bad
theorem tTest_of {σ : Sl} {H : Hp} {Q : Bool → Hp → Prop} {f : FS → Res D} {t : TE} (h : rdT X.K F (fT f) σ H Q) (ht : ∀ Q, rdG X.K F PR f σ H Q → t σ H Q) : tTest t σ H Q := by
  refine ht _ ((rdG.bindT h).imp fun x H1 ⟨d, S1, r, v, p, q⟩ => ?_)
  cases d with
  | bool b => cases v; exact ⟨b, rfl, q.ok r⟩
  | _ => exact q.elim
theorem t_cmp {op : CmpOp} {g : D → D → FS → Res D} (ho : OpF X F PR (compareOp op) g) (ha : ED X F a fa) (hb : EQ X F b fb) (hm : behindInMarks op b = false) : ET X F (.Compare a [op] [b] pos) (fT (fOp g fa fb)) :=
  (pt_cmpR ho ha hb hm).via fun _ _ _ h => tTest_of h fun _ h => tOp_of h
theorem t_cmpN {i : Nat} {op : CmpOp} {g : D → D → FS → Res D} (ho : OpF X F PR (compareOp op) g) (ha : PE X a (tVar i)) (hb : EQ X F b fb) (hm : behindInMarks op b = false) : ET X F (.Compare a [op] [b] pos) (fT (fOpN g i fb)) :=
  (pt_cmpR ho ha hb hm).via fun _ _ _ h => tTest_of h fun _ h => tOpN_of h
def fOrT (f g : FS → Res Bool) : FS → Res Bool := bnd f fun b => if b = true then fC true else g
def fNotT (f : FS → Res Bool) : FS → Res Bool := bnd f fun b => fC (!b)
abbrev EW (X : Cx) (F : Fx) (e : Expr) (f : FS → Res Bool) : Prop := PW X e (rdT X.K F f)
theorem _root_.L2.PW.via {X : Cx} {e : Expr} {t t' : TT} (h : PW X e t) (hw : ∀ σ H Q, t' σ H Q → t σ H Q) : PW X e t' := ⟨fun wh pins s σ H Q I q => h.run wh pins s σ H Q I (hw σ H Q q)⟩
variable {f f2 : FS → Res Bool} {rest : List Expr}
theorem w_or1 (ha : ET X F a f) : EW X F (.BoolOp .Or [a] pos) f := pw_or1 ha
theorem w_or (ha : ET X F a f) (hb : EW X F (.BoolOp .Or (b :: rest) pos) f2) : EW X F (.BoolOp .Or (a :: b :: rest) pos) (fOrT f f2) :=
  (pw_or ha hb).via fun σ H Q h => (rdT.bindT h).imp fun c H1 ⟨S1, r, p, q⟩ => by
    cases c with
    | true => exact q.ok r
    | false => exact ⟨S1, r, q⟩
theorem t_not (ha : ET X F a f) : ET X F (.UnaryOp .Not a pos) (fNotT f) :=
  (pt_not ha).via fun σ H Q h => (rdT.bindT h).imp fun c H1 ⟨S1, r, p, q⟩ => q.ok r
/-- a value's truth -/
def dTru : D → Option Bool
  | .none => some false
  | .bool b => some b
  | .int i => some (i != 0)
  | .str x => if x.length ≤ sizeLine then some (x.length != 0) else none
  | .tuple ds => some (!ds.isEmpty)
  | .list ds => some (!ds.isEmpty)
  | .dict _ => none
def fTru (f : FS → Res D) : FS → Res Bool := bnd f fun d S => match dTru d with
  | some b => .ok b S
  | none => .bad
theorem PdAll.isEmpty {K : Fg} {H : Hp} {xs : List V} {ds : List D} (h : PdAll K H xs ds) : xs.isEmpty = ds.isEmpty := by cases h <;> rfl
theorem Qd.tru {K : Fg} {H : Hp} {x : V} {d : D} {b : Bool} (h : Qd K H x d) (e : dTru d = some b) : TruV K x H b := by
  cases d with
  | none => cases h.non; cases e; rfl
  | bool k => cases h.bl; cases e; rfl
  | int k => cases h.int; cases e; rfl
  | str k =>
    cases h.str
    by_cases hk : k.length ≤ sizeLine
    · simp only [dTru, if_pos hk] at e; cases e; exact ⟨hk, by rw [Bool.eq_iff_iff]; simp⟩
    · simp only [dTru, if_neg hk] at e; cases e
  | tuple ds =>
    obtain ⟨a, vs, rfl, h1, r1⟩ := h.tuple
    cases e
    exact .inr (.inl ⟨vs, h1, by rw [r1.isEmpty]⟩)
  | list ds =>
    obtain ⟨a, vs, rfl, h1, r1⟩ := h.list
    cases e
    exact .inl ⟨vs, h1, by rw [r1.isEmpty]⟩
  | dict _ => cases e
theorem t_tru {e : Expr} {f : FS → Res D} (h : EQ X F e f) (he : ∀ whole, isTrue e X.env whole = (do let v ← whole; standAt e.pos; holding [v] (truthy v)) := by intro _; rfl) : ET X F e (fTru f) :=
  (pt_truth h he).via fun σ H Q h => (rdG.bindT h).imp fun x H1 ⟨d, S1, r, v, p, q⟩ => by
    cases e : dTru d with
    | none => rw [e] at q; exact q.elim
    | some b => rw [e] at q; exact ⟨b, Qd.tru v e, q.ok r⟩
/-- and, or of bools as values -/
def fAndV (f g : FS → Res D) : FS → Res D := bnd f fun d => match d with
  | .bool true => g
  | .bool false => fC (.bool false)
  | _ => fun _ => .bad
def fOrV (f g : FS → Res D) : FS → Res D := bnd f fun d => match d with
  | .bool true => fC (.bool true)
  | .bool false => g
  | _ => fun _ => .bad
theorem v_one {op : BoolOp} {f : FS → Res D} (h : ED X F a f) : ED X F (.BoolOp op [a] pos) f := pe_one h
theorem v_and (ha : ED X F a fa) (hb : ED X F (.BoolOp .And (b :: rest) pos) fb) : ED X F (.BoolOp .And (a :: b :: rest) pos) (fAndV fa fb) :=
  (pe_and ha hb).via fun σ H Q h => (rdG.bind h).imp fun x H1 ⟨d, S1, r, v, p, q⟩ => by
    cases d with
    | bool k =>
      cases v
      refine ⟨k, rfl, ?_⟩
      cases k with
      | true => exact ⟨S1, r, q⟩
      | false => exact q.ok r (Pd.bl _)
    | _ => exact q.elim
theorem v_or (ha : ED X F a fa) (hb : ED X F (.BoolOp .Or (b :: rest) pos) fb) : ED X F (.BoolOp .Or (a :: b :: rest) pos) (fOrV fa fb) :=
  (pe_or ha hb).via fun σ H Q h => (rdG.bind h).imp fun x H1 ⟨d, S1, r, v, p, q⟩ => by
    cases d with
    | bool k =>
      cases v
      refine ⟨k, rfl, ?_⟩
      cases k with
      | true => exact q.ok r (Pd.bl _)
      | false => exact ⟨S1, r, q⟩
    | _ => exact q.elim
def fNotV (f : FS → Res D) : FS → Res D := bnd (fTru f) fun b => fC (.bool (!b))
theorem v_not (ha : EQ X F a fa) : ED X F (.UnaryOp .Not a pos) (fNotV fa) :=
  (pe_notT ha).via fun σ H Q ⟨S, r, p⟩ => by
    unfold fNotV fTru at p
    have p' : rdG X.K F PR (bnd fa fun d => bnd (fun S => match dTru d with | some b => Res.ok b S | none => Res.bad) fun b => fC (.bool (!b))) σ H Q := ⟨S, r, by
      unfold bnd at p ⊢
      cases e : fa S with
      | ok d S1 => rw [e] at p; exact p
      | exn e2 S1 => rw [e] at p; exact p
      | bad => rw [e] at p; exact p⟩
    refine (rdG.bind p').imp fun x H1 ⟨d, S1, r, v, p, q⟩ => ?_
    unfold bnd at q
    cases e : dTru d with
    | none => rw [e] at q; exact q.elim
    | some b => rw [e] at q; exact ⟨b, Qd.tru v e, q.ok r (Pd.bl _)⟩
/-- a if t else b -/
def fIte {α : Type} (t : FS → Res Bool) (f g : FS → Res α) : FS → Res α := bnd t fun b => if b = true then f else g
theorem e_ite {c : Expr} {t : FS → Res Bool} {f1 f3 : FS → Res α} (hc : ET X F c t) (ha : PE X a (rdG X.K F R f1)) (hb : PE X b (rdG X.K F R f3)) : PE X (.IfExp c a b pos) (rdG X.K F R (fIte t f1 f3)) :=
  (pe_ifExp hc ha hb).via fun σ H Q h => (rdT.bind h).imp fun c H1 ⟨S1, r, p, q⟩ => by
    cases c with
    | true => exact ⟨S1, r, q⟩
    | false => exact ⟨S1, r, q⟩
end
end Fz
end

section
set_option Elab.async false
set_option linter.all false
set_option maxRecDepth 100000
set_option maxHeartbeats 4000000
/-! F3: argument lists, displays, subscripts, slices, calls of built-ins. -/
namespace Fz
open PySem PySem.Spec PyProof.Rows L2
/-! ### argument lists -/
inductive QAll (K : Fg) (H : Hp) : List V → List D → Prop
  | nil : QAll K H [] []
  | cons {x : V} {d : D} {xs : List V} {ds : List D} (h : Qd K H x d) (r : QAll K H xs ds) : QAll K H (x :: xs) (d :: ds)
def AR (K : Fg) (_ : Fx) (_ : FS) (_ : Sl) (H : Hp) (xs : List V) (ds : List D) : Prop := PdAll K H xs ds
def AQ (K : Fg) (_ : Fx) (_ : FS) (_ : Sl) (H : Hp) (xs : List V) (ds : List D) : Prop := QAll K H xs ds
abbrev EA (X : Cx) (F : Fx) (es : List Expr) (f : FS → Res (List D)) : Prop := PA X es (rdG X.K F AR f)
abbrev EAQ (X : Cx) (F : Fx) (es : List Expr) (f : FS → Res (List D)) : Prop := PA X es (rdG X.K F AQ f)
theorem _root_.L2.PA.via {X : Cx} {e : List Expr} {t t' : TA} (h : PA X e t) (hw : ∀ σ H Q, t' σ H Q → t σ H Q) : PA X e t' := ⟨fun p pins s σ H Q I q => h.run p pins s σ H Q I (hw σ H Q q)⟩
def fCons (f : FS → Res D) (g : FS → Res (List D)) : FS → Res (List D) := bnd f fun d => bnd g fun ds => fC (d :: ds)
section
variable {X : Cx} {F : Fx} {e : Expr} {es : List Expr} {f : FS → Res D} {g : FS → Res (List D)} {pos : Pos} {α : Type} {R : VRel α}
theorem a_nil : EA X F [] (fC []) := pa_nil.via fun _ _ _ ⟨_, r, p⟩ => p.ok r .nil
theorem a_cons (ha : ED X F e f) (hr : EA X F es g) (hs : starEach (e :: es) X.env = (false, eval e X.env) :: starEach es X.env := by rfl) : EA X F (e :: es) (fCons f g) :=
  (pa_cons ha hr hs).via fun σ H Q h => (rdG.bind h).imp fun x H1 ⟨d, S1, r1, v1, p1, q1⟩ =>
    (rdG.bind (k := fun ds => fC (d :: ds)) (R' := AR) ⟨S1, r1, q1⟩).imp fun xs H2 ⟨ds, S2, r2, v2, p2, q2⟩ => q2.ok r2 (.cons (Pd.mono p2 v1) v2)
/-- the last argument may be looked at -/
theorem a_last (ha : EQ X F e f) (hs : starEach [e] X.env = (false, eval e X.env) :: starEach [] X.env := by rfl) : EAQ X F [e] (fCons f (fC [])) :=
  (pa_cons ha pa_nil hs).via fun σ H Q h => (rdG.bind h).imp fun x H1 ⟨d, S1, r1, v1, p1, q1⟩ => q1.ok r1 (.cons v1 .nil)
theorem a_consQ (ha : ED X F e f) (hr : EAQ X F es g) (hs : starEach (e :: es) X.env = (false, eval e X.env) :: starEach es X.env := by rfl) : EAQ X F (e :: es) (fCons f g) :=
  (pa_cons ha hr hs).via fun σ H Q h => (rdG.bind h).imp fun x H1 ⟨d, S1, r1, v1, p1, q1⟩ =>
    (rdG.bind (k := fun ds => fC (d :: ds)) (R' := AQ) ⟨S1, r1, q1⟩).imp fun xs H2 ⟨ds, S2, r2, v2, p2, q2⟩ => q2.ok r2 (.cons (.inl (Pd.mono p2 v1)) v2)
/-! ### displays -/
def fTup (g : FS → Res (List D)) : FS → Res D := bnd g fun ds S => if ds.length ≤ sizeLine then .ok (.tuple ds) S else .bad
def fLst (g : FS → Res (List D)) : FS → Res SV := bnd g fun ds S => if ds.length ≤ sizeLine then .ok (.own (.lst ds)) S else .bad
theorem e_tup {k : Nat} (h : EA X F es g) : ED X F (.Tuple es k pos) (fTup g) := (pe_tup h).via fun σ H Q h => (rdG.bind h).imp fun xs H1 ⟨ds, S1, r, v, p, q⟩ => by
  split at q
  · rename_i hl
    refine ⟨by rw [PdAll.length v]; exact hl, fun a ha => ?_⟩
    obtain ⟨p1, r3, v3⟩ := newTup r v ha
    exact q _ _ p1 r3 v3
  · exact q.elim
theorem e_lst (h : EA X F es g) : EV X F (.List es pos) (fLst g) := (pe_lst h).via fun σ H Q h => (rdG.bind h).imp fun xs H1 ⟨ds, S1, r, v, p, q⟩ => by
  split at q
  · rename_i hl
    exact ⟨by rw [PdAll.length v]; exact hl, fun a ha => newList r v ha q⟩
  · exact q.elim
end
/-! ### subscripts -/
section
variable {X : Cx} {F : Fx} {α : Type} {R : VRel α} {a b : Expr} {pos : Pos} {fa fb : FS → Res D} {g : D → D → FS → Res α}
def pIx (d e : D) : FS → Res D := fun S => match d, e with
  | .tuple ds, .int i => (match atI ds i with
    | some d => .ok d S
    | none => .bad)
  | .list ds, .int i => (match atI ds i with
    | some d => .ok d S
    | none => .bad)
  | .str z, .int i => if z.length ≤ sizeLine then (match atI z.cps.toList i with
    | some c => .ok (.str ⟨#[c]⟩) S
    | none => .bad) else .bad
  | _, _ => .bad
theorem PdAll.atI {K : Fg} {H : Hp} {xs : List V} {ds : List D} {i : Int} {d : D} (h : PdAll K H xs ds) (e : atI ds i = some d) : ∃ x, L2.atI xs i = some x ∧ Pd K H x d := by
  unfold L2.atI at e ⊢
  rw [h.length]
  cases q : ixN ds.length i with
  | none => rw [q] at e; cases e
  | some j =>
    rw [q] at e
    obtain ⟨x, h1, h2⟩ := h.get (show ds[j]? = some d from e)
    exact ⟨x, h1, h2⟩
theorem ix_F : IxR X (rOp X.K F PR pIx) := by
  intro value slice pins s σ0 H x y v u Q I rx ry ⟨S, σ, d, e, r, hx, hy, p⟩ hs
  cases d with
  | tuple ds =>
    cases e with
    | int i =>
      cases q : atI ds i with
      | none => simp only [pIx, q] at p; exact p.elim
      | some d =>
        simp only [pIx, q] at p
        obtain ⟨a, vs, rfl, h1, r1⟩ := hx.tuple
        obtain ⟨z, h2, h3⟩ := r1.atI q
        exact ix_tup value slice pins s σ0 H _ y v u Q I rx ry ⟨a, vs, i, z, rfl, hy.int, h1, h2, p.ok r h3⟩ hs
    | _ => exact p.elim
  | list ds =>
    cases e with
    | int i =>
      cases q : atI ds i with
      | none => simp only [pIx, q] at p; exact p.elim
      | some d =>
        simp only [pIx, q] at p
        obtain ⟨a, vs, rfl, h1, r1⟩ := hx.list
        obtain ⟨z, h2, h3⟩ := r1.atI q
        exact ix_list value slice pins s σ0 H _ y v u Q I rx ry ⟨a, vs, i, z, rfl, hy.int, h1, h2, p.ok r h3⟩ hs
    | _ => exact p.elim
  | str z =>
    cases e with
    | int i =>
      by_cases hl : z.length ≤ sizeLine
      · cases q : atI z.cps.toList i with
        | none => simp only [pIx, q, if_pos hl] at p; exact p.elim
        | some c =>
          simp only [pIx, q, if_pos hl] at p
          exact ix_str value slice pins s σ0 H _ y v u Q I rx ry ⟨z, i, c, hx.str, hy.int, hl, q, p.ok r (Pd.str _)⟩ hs
      · simp only [pIx, if_neg hl] at p; exact p.elim
    | _ => exact p.elim
  | _ => exact p.elim
theorem e_ix (ha : ED X F a fa) (hb : ED X F b fb) (hs : PlainIx b := by exact fun _ _ => rfl) : ED X F (.Subscript a b pos) (fOp pIx fa fb) := (pe_ix ix_F ha hb.q hs).via fun _ _ _ h => tOp_of h
theorem e_ixN {i : Nat} (ha : PE X a (tVar i)) (hb : ED X F b fb) (hs : PlainIx b := by exact fun _ _ => rfl) : ED X F (.Subscript a b pos) (fOpN pIx i fb) := (pe_ix ix_F ha hb.q hs).via fun _ _ _ h => tOpN_of h
/-! ### slices -/
def OR (_ : Fg) (_ : Fx) (_ : FS) (_ : Sl) (_ : Hp) (o o' : Option Int) : Prop := o = o'
abbrev EO (X : Cx) (F : Fx) (e : Option Expr) (f : FS → Res (Option Int)) : Prop := PO X e (rdG X.K F OR f)
theorem _root_.L2.PO.via {X : Cx} {e : Option Expr} {t t' : TO} (h : PO X e t) (hw : ∀ σ H Q, t' σ H Q → t σ H Q) : PO X e t' := ⟨fun pins s σ H Q I q => h.run pins s σ H Q I (hw σ H Q q)⟩
def fPart (f : FS → Res D) : FS → Res (Option Int) := bnd f fun d S => match d with
  | .int i => .ok (some i) S
  | _ => .bad
theorem o_none : EO X F none (fC none) := po_none.via fun _ _ _ ⟨_, r, p⟩ => p.ok r rfl
theorem o_some (h : ED X F a fa) : EO X F (some a) (fPart fa) := (po_some h).via fun σ H Q h => (rdG.bind h).imp fun x H1 ⟨d, S1, r, v, p, q⟩ => by
  cases d with
  | int i => cases v; exact ⟨i, rfl, q.ok r rfl⟩
  | _ => exact q.elim
def cutL {β : Type} (xs : List β) (lo hi : Option Int) : List β := (xs.drop (HT.sIx xs.length 0 lo)).take (HT.sIx xs.length xs.length hi - HT.sIx xs.length 0 lo)
def pSl (d : D) (lo hi : Option Int) : FS → Res SV := fun S => match d with
  | .tuple ds => .ok (.d (.tuple (cutL ds lo hi))) S
  | .list ds => .ok (.own (.lst (cutL ds lo hi))) S
  | .str z => if z.length ≤ sizeLine then .ok (.d (.str (cutS z lo hi))) S else .bad
  | _ => .bad
def rSlF (K : Fg) (F : Fx) : V → Option Int → Option Int → Hp → VK → Prop := fun x lo hi H Q => ∃ S σ d, Rel K F S σ H ∧ Qd K H x d ∧ postG K F VR (pSl d lo hi S) σ H Q
theorem PdAll.cut {K : Fg} {H : Hp} {xs : List V} {ds : List D} (h : PdAll K H xs ds) (lo hi : Option Int) : PdAll K H (cutV xs lo hi) (cutL ds lo hi) := by
  unfold cutV cutL
  rw [h.length]
  exact (h.drop _).take _
theorem sl_F : SlR X (rSlF X.K F) := by
  intro pins s σ0 H x v vl vu lo hi sl Q I rx hs pl pu ⟨S, σ, d, r, hx, p⟩
  cases d with
  | tuple ds =>
    obtain ⟨a, vs, rfl, h1, r1⟩ := hx.tuple
    refine sl_tupA pins s σ0 H _ v vl vu lo hi sl Q I rx hs pl pu ⟨a, vs, rfl, h1, fun hw => ?_, fun hw q hq => ?_⟩
    · have e : cutL ds lo hi = ds := by
        unfold cutL
        rw [← r1.length, hw.1, hw.2, List.drop_zero, Nat.sub_zero, r1.length]
        exact List.take_length
      have p' : postG X.K F VR (.ok (.d (.tuple (cutL ds lo hi))) S) σ H Q := p
      rw [e] at p'
      exact p'.ok r (Pd.tup h1 r1)
    · obtain ⟨p1, r3, v3⟩ := newTup r (r1.cut lo hi) hq
      exact p _ _ p1 r3 v3
  | list ds =>
    obtain ⟨a, vs, rfl, h1, r1⟩ := hx.list
    exact sl_list pins s σ0 H _ v vl vu lo hi sl Q I rx hs pl pu ⟨a, vs, rfl, h1, fun q hq => newList r (r1.cut lo hi) hq p⟩
  | str z =>
    by_cases hl : z.length ≤ sizeLine
    · simp only [pSl, if_pos hl] at p
      exact sl_str pins s σ0 H _ v vl vu lo hi sl Q I rx hs pl pu ⟨z, hx.str, hl, p.ok r (Pd.str _)⟩
    · simp only [pSl, if_neg hl] at p; exact p.elim
  | _ => exact p.elim
def fSlN (i : Nat) (fl fh : FS → Res (Option Int)) : FS → Res SV := bnd (fPeek i) fun _ => bnd fl fun lo => bnd fh fun hi => bnd (fPeek i) fun d => pSl d lo hi
theorem e_slN {i : Nat} {lo hi : Option Expr} {p2 : Pos} {fl fh : FS → Res (Option Int)} (ha : PE X a (tVar i)) (hl : EO X F lo fl) (hh : EO X F hi fh) : EV X F (.Subscript a (.Slice lo hi none p2) pos) (fSlN i fl fh) :=
  (pe_slice sl_F ha hl hh).via fun σ H Q ⟨S, r, p⟩ => by
    obtain ⟨x, d0, ex, _, p⟩ := peek_in (k := fun _ => bnd fl fun lo => bnd fh fun hi => bnd (fPeek i) fun d => pSl d lo hi) r p
    refine ⟨x, ex, (rdG.bind (k := fun lo => bnd fh fun hi => bnd (fPeek i) fun d => pSl d lo hi) (R' := VR) ⟨S, r, p⟩).imp fun l H2 ⟨lo, S2, r2, e2, p2, q2⟩ => ?_⟩
    cases e2
    refine (rdG.bind (k := fun hi => bnd (fPeek i) fun d => pSl d l hi) (R' := VR) ⟨S2, r2, q2⟩).imp fun u H3 ⟨hi, S3, r3, e3, p3, q3⟩ => ?_
    cases e3
    obtain ⟨x', d, ex', vd, q4⟩ := peek_in r3 q3
    rw [ex] at ex'; cases ex'
    exact ⟨S3, σ, d, r3, vd, q4⟩
end
/-! ### built-ins by name -/
section
variable {X : Cx} {F : Fx} {α : Type} {R : VRel α} {g : List D → FS → Res α} {pos p : Pos}
def rCallF {α : Type} (K : Fg) (F : Fx) (R : VRel α) (g : List D → FS → Res α) : List V → Hp → VK → Prop := fun xs H Q => ∃ S σ ds, Rel K F S σ H ∧ QAll K H xs ds ∧ postG K F R (g ds S) σ H Q
abbrev CallF (X : Cx) (F : Fx) (R : VRel α) (f : Value) (g : List D → FS → Res α) : Prop := CallR X f (rCallF X.K F R g)
def fCall {α : Type} (g : List D → FS → Res α) (fs : FS → Res (List D)) : FS → Res α := bnd fs g
theorem tCB_of {fs : FS → Res (List D)} {σ : Sl} {H : Hp} {Q : VK} (h : rdG X.K F R (fCall g fs) σ H Q) : tCB (rCallF X.K F R g) (rdG X.K F AQ fs) σ H Q :=
  (rdG.bind h).imp fun xs H1 ⟨ds, S1, r1, v1, p1, q1⟩ => ⟨S1, σ, ds, r1, v1, q1⟩
theorem e_callB {id : String} {x : Str} {e : Expr} {es : List Expr} {fs : FS → Res (List D)} (hc : CallF X F R (.builtin id) g) (hg : Gl X x) (hm : X.mg x = none) (hv : bootBuiltins x = some (.builtin id)) (ha : EAQ X F (e :: es) fs)
    (hn : x ≠ "__name__" := by decide) (hdb : (x == ("__debug__" : Str)) = false := by decide) (he : starEach (e :: es) X.env = (false, eval e X.env) :: starEach es X.env := by rfl) (hpl : (backTo pos (starEach es X.env)).any (·.1) = false := by rfl) :
    PE X (.Call (.Name x p) (e :: es) [] pos) (rdG X.K F R (fCall g fs)) := (pe_callB hc hg hm hv ha hn hdb he hpl).via fun _ _ _ h => tCB_of h
theorem e_callTy {T : String} {x : Str} {e : Expr} {es : List Expr} {fs : FS → Res (List D)} (hc : CallF X F R (.type T) g) (hg : Gl X x) (hm : X.mg x = none) (hv : bootBuiltins x = some (.type T)) (ha : EAQ X F (e :: es) fs)
    (hn : x ≠ "__name__" := by decide) (hdb : (x == ("__debug__" : Str)) = false := by decide) (he : starEach (e :: es) X.env = (false, eval e X.env) :: starEach es X.env := by rfl) (hpl : (backTo pos (starEach es X.env)).any (·.1) = false := by rfl) :
    PE X (.Call (.Name x p) (e :: es) [] pos) (rdG X.K F R (fCall g fs)) := (pe_callTy hc hg hm hv ha hn hdb he hpl).via fun _ _ _ h => tCB_of h
/-- one argument -/
def one {α : Type} (g : D → FS → Res α) : List D → FS → Res α
  | [d], S => g d S
  | _, _ => .bad
def two {α : Type} (g : D → D → FS → Res α) : List D → FS → Res α
  | [d, e], S => g d e S
  | _, _ => .bad
theorem callF_one {f : Value} {g : D → FS → Res α} (h : ∀ d, (∃ r : List V → Hp → VK → Prop, CallR X f r ∧ ∀ S σ H x Q, Rel X.K F S σ H → Qd X.K H x d → postG X.K F R (g d S) σ H Q → r [x] H Q) ∨ ∀ S, g d S = .bad) : CallF X F R f (one g) := by
  intro pins s σ0 H xs us Q I rx ⟨S, σ, ds, r, ha, p⟩
  cases ha with
  | nil => exact p.elim
  | cons h1 hr =>
    cases hr with
    | nil =>
      rcases h _ with ⟨r2, o, k⟩ | hb
      · exact o pins s σ0 H _ us Q I rx (k S σ H _ Q r h1 p)
      · simp only [one] at p; rw [hb] at p; exact p.elim
    | cons _ _ => exact p.elim
theorem callF_two {f : Value} {g : D → D → FS → Res α} (h : ∀ d e, (∃ r : List V → Hp → VK → Prop, CallR X f r ∧ ∀ S σ H x y Q, Rel X.K F S σ H → Qd X.K H x d → Qd X.K H y e → postG X.K F R (g d e S) σ H Q → r [x, y] H Q) ∨ ∀ S, g d e S = .bad) : CallF X F R f (two g) := by
  intro pins s σ0 H xs us Q I rx ⟨S, σ, ds, r, ha, p⟩
  cases ha with
  | nil => exact p.elim
  | cons h1 hr =>
    cases hr with
    | nil => exact p.elim
    | cons h2 hr =>
      cases hr with
      | nil =>
        rcases h _ _ with ⟨r2, o, k⟩ | hb
        · exact o pins s σ0 H _ us Q I rx (k S σ H _ _ Q r h1 h2 p)
        · simp only [two] at p; rw [hb] at p; exact p.elim
      | cons _ _ => exact p.elim
def pLen (d : D) : FS → Res D := fun S => match d with
  | .tuple ds => .ok (.int ds.length) S
  | .list ds => .ok (.int ds.length) S
  | .str z => if z.length ≤ sizeLine then .ok (.int z.length) S else .bad
  | _ => .bad
theorem c_len : CallF X F PR (.builtin "len") (one pLen) := callF_one fun d => by
  cases d with
  | tuple ds => exact .inl ⟨_, call_len, fun S σ H x Q r hx p => by
      obtain ⟨a, vs, rfl, h1, r1⟩ := hx.tuple
      exact ⟨_, _, rfl, .inr ⟨vs, h1, rfl⟩, p.ok r (by rw [r1.length]; exact Pd.int _)⟩⟩
  | list ds => exact .inl ⟨_, call_len, fun S σ H x Q r hx p => by
      obtain ⟨a, vs, rfl, h1, r1⟩ := hx.list
      exact ⟨_, _, rfl, .inl ⟨vs, h1, rfl⟩, p.ok r (by rw [r1.length]; exact Pd.int _)⟩⟩
  | str z =>
    by_cases hl : z.length ≤ sizeLine
    · exact .inl ⟨_, call_len, fun S σ H x Q r hx p => by
        simp only [pLen, if_pos hl] at p
        cases hx.str
        exact ⟨_, _, rfl, ⟨hl, rfl⟩, p.ok r (Pd.int _)⟩⟩
    · exact .inr fun S => if_neg hl
  | _ => exact .inr fun _ => rfl
def pToInt (d : D) : FS → Res D := fun S => match d with
  | .int i => .ok (.int i) S
  | .bool b => .ok (.int (if b then 1 else 0)) S
  | _ => .bad
theorem c_int : CallF X F PR (.type "int") (one pToInt) := callF_one fun d => by
  cases d with
  | int i => exact .inl ⟨_, call_int1, fun S σ H x Q r hx p => .inl ⟨i, by rw [hx.int], p.ok r (Pd.int _)⟩⟩
  | bool i => exact .inl ⟨_, call_int1, fun S σ H x Q r hx p => .inr ⟨i, by rw [hx.bl], p.ok r (Pd.int _)⟩⟩
  | _ => exact .inr fun _ => rfl
def pAbs (d : D) : FS → Res D := fun S => match d with
  | .int i => .ok (.int (if i < 0 then -i else i)) S
  | _ => .bad
theorem c_abs : CallF X F PR (.builtin "abs") (one pAbs) := callF_one fun d => by
  cases d with
  | int i => exact .inl ⟨_, call_abs, fun S σ H x Q r hx p => ⟨i, by rw [hx.int], p.ok r (Pd.int _)⟩⟩
  | _ => exact .inr fun _ => rfl
def pMax2 (d e : D) : FS → Res D := fun S => match d, e with
  | .int i, .int j => .ok (.int (if j > i then j else i)) S
  | _, _ => .bad
def pMin2 (d e : D) : FS → Res D := fun S => match d, e with
  | .int i, .int j => .ok (.int (if j < i then j else i)) S
  | _, _ => .bad
theorem c_max2 (hc : X.calm = true) : CallF X F PR (.builtin "max") (two pMax2) := callF_two fun d e => by
  cases d with
  | int i =>
    cases e with
    | int j => exact .inl ⟨_, call_max2 hc, fun S σ H x y Q r hx hy p => ⟨i, j, by rw [hx.int, hy.int], p.ok r (Pd.int _)⟩⟩
    | _ => exact .inr fun _ => rfl
  | _ => exact .inr fun _ => rfl
theorem c_min2 (hc : X.calm = true) : CallF X F PR (.builtin "min") (two pMin2) := callF_two fun d e => by
  cases d with
  | int i =>
    cases e with
    | int j => exact .inl ⟨_, call_min2 hc, fun S σ H x y Q r hx hy p => ⟨i, j, by rw [hx.int, hy.int], p.ok r (Pd.int _)⟩⟩
    | _ => exact .inr fun _ => rfl
  | _ => exact .inr fun _ => rfl
def pTuple (d : D) : FS → Res D := fun S => match d with
  | .tuple ds => .ok (.tuple ds) S
  | .list ds => .ok (.tuple ds) S
  | _ => .bad
theorem c_tuple : CallF X F PR (.type "tuple") (one pTuple) := callF_one fun d => by
  cases d with
  | tuple ds => exact .inl ⟨_, call_tuple_of, fun S σ H x Q r hx p => by
      obtain ⟨a, vs, rfl, h1, r1⟩ := hx.tuple
      exact ⟨a, vs, rfl, .inr ⟨h1, p.ok r (Pd.tup h1 r1)⟩⟩⟩
  | list ds => exact .inl ⟨_, call_tuple_of, fun S σ H x Q r hx p => by
      obtain ⟨a, vs, rfl, h1, r1⟩ := hx.list
      refine ⟨a, vs, rfl, .inl ⟨h1, fun l hl => ?_⟩⟩
      obtain ⟨p1, r3, v3⟩ := newTup r r1 hl
      exact p _ _ p1 r3 v3⟩
  | _ => exact .inr fun _ => rfl
def pList (d : D) : FS → Res SV := fun S => match d with
  | .tuple ds => .ok (.own (.lst ds)) S
  | .list ds => .ok (.own (.lst ds)) S
  | _ => .bad
theorem c_list : CallF X F VR (.type "list") (one pList) := callF_one fun d => by
  cases d with
  | tuple ds => exact .inl ⟨_, call_list_of, fun S σ H x Q r hx p => by
      obtain ⟨a, vs, rfl, h1, r1⟩ := hx.tuple
      exact ⟨a, vs, rfl, .inr h1, fun l hl => newList r r1 hl p⟩⟩
  | list ds => exact .inl ⟨_, call_list_of, fun S σ H x Q r hx p => by
      obtain ⟨a, vs, rfl, h1, r1⟩ := hx.list
      exact ⟨a, vs, rfl, .inl h1, fun l hl => newList r r1 hl p⟩⟩
  | _ => exact .inr fun _ => rfl
/-- all, any of a list of bools -/
def bls : List D → Option (List Bool)
  | [] => some []
  | .bool b :: r => (bls r).map (b :: ·)
  | _ :: _ => none
theorem PdAll.bls {K : Fg} {H : Hp} : ∀ {xs : List V} {ds : List D} {bs : List Bool}, PdAll K H xs ds → Fz.bls ds = some bs → xs = bs.map V.bl
  | _, _, _, .nil, e => by cases e; rfl
  | _, _, bs, .cons (d := d) h r, e => by
    cases d with
    | bool b =>
      cases h
      unfold Fz.bls at e
      obtain ⟨cs, e1, rfl⟩ := Option.map_eq_some_iff.mp e
      rw [PdAll.bls r e1]; rfl
    | _ => cases e
def pAll (d : D) : FS → Res D := fun S => match d with
  | .list ds => (match bls ds with
    | some bs => .ok (.bool (bs.all id)) S
    | none => .bad)
  | _ => .bad
theorem c_all (hc : X.calm = true) : CallF X F PR (.builtin "all") (one pAll) := callF_one fun d => by
  cases d with
  | list ds =>
    cases q : bls ds with
    | none => exact .inr fun _ => by simp only [pAll, q]
    | some bs => exact .inl ⟨_, cr_all hc, fun S σ H x Q r hx p => by
        simp only [pAll, q] at p
        obtain ⟨a, vs, rfl, h1, r1⟩ := hx.list
        have e := r1.bls q
        subst e
        exact ⟨a, bs, rfl, h1, p.ok r (Pd.bl _)⟩⟩
  | _ => exact .inr fun _ => rfl
/-! isinstance of a built-in class -/
def dTyp : D → String
  | .none => "NoneType"
  | .bool _ => "bool"
  | .int _ => "int"
  | .str _ => "str"
  | .tuple _ => "tuple"
  | .list _ => "list"
  | .dict _ => "dict"
def isT (a T : String) : Bool := a == T || (a == "bool" && T == "int")
theorem Qd.ty {K : Fg} {H : Hp} {x : V} {d : D} (h : Qd K H x d) : TyX K H x (.type (dTyp d)) := by
  have tl : ∀ {a vs}, SqL K H a vs → TyX K H (.ref a) (.type "list") := fun {a vs} h => by
    rcases h with (h | ⟨o, h⟩) | ⟨o, its, n, h, hc, _⟩
    · exact .base (.lst h)
    · exact .base (.frz h)
    · exact .kList h hc
  rcases h with h | ⟨a, vs, ds, rfl, rfl, h, r⟩
  · cases h with
    | non => exact .base .non
    | bl b => exact .base (.bl b)
    | int b => exact .base (.int b)
    | str b => exact .base (.str b)
    | tup h r =>
      rcases h with (h | ⟨o, h⟩) | ⟨o, its, n, h, hc, _⟩
      · exact .base (.tup h)
      · exact .fTuple h
      · exact .kTuple h hc
    | lst h r => exact tl h.sq
  · exact tl h
theorem kit_all {K : Fg} : ∀ d : D, ∀ T ∈ ["int", "bool", "str", "tuple", "list", "dict"], PySem.W.kitOne K (.type (dTyp d)) (.type T) = some (isT (dTyp d) T) := by
  have key : ∀ a ∈ ["NoneType", "bool", "int", "str", "tuple", "list", "dict"], ∀ T ∈ ["int", "bool", "str", "tuple", "list", "dict"], kitB a T = some (isT a T) := by decide +kernel
  intro d T hT
  refine kit_ty (key _ ?_ T hT)
  cases d <;> simp [dTyp]
def fIsi (T : String) (f : FS → Res D) : FS → Res D := bnd f fun d S => .ok (.bool (isT (dTyp d) T)) S
theorem e_isi {T : String} {x : Str} {e : Expr} {f : FS → Res D} {q : Pos} (hg : Gl X "isinstance") (hm : X.mg "isinstance" = none) (hv : bootBuiltins "isinstance" = some (.builtin "isinstance")) (he : EQ X F e f)
    (hg2 : Gl X x) (hm2 : X.mg x = none) (hv2 : bootBuiltins x = some (.type T)) (hn2 : x ≠ "__name__" := by decide) (hdb2 : (x == ("__debug__" : Str)) = false := by decide) (hT : T ∈ ["int", "bool", "str", "tuple", "list", "dict"] := by decide)
    (hs : starEach [e, .Name x q] X.env = (false, eval e X.env) :: starEach [.Name x q] X.env := by rfl) (hs2 : starEach [.Name x q] X.env = (false, eval (.Name x q) X.env) :: starEach [] X.env := by rfl) (hpl : (backTo pos (starEach [.Name x q] X.env)).any (·.1) = false := by rfl) :
    ED X F (.Call (.Name "isinstance" p) [e, .Name x q] [] pos) (fIsi T f) :=
  (pe_callB call_isi hg hm hv (pa_cons he (pa_cons (pe_bltn (v := .ty T) hg2 hm2 hv2 rfl hn2 hdb2) pa_nil hs2) hs) (by decide) (by decide) hs hpl).via fun σ H Q h => (rdG.bind h).imp fun x H1 ⟨d, S1, r, v, p, q⟩ =>
    ⟨_, _, _, _, _, rfl, .ty T, v.ty, kit_all d T hT, q.ok r (Pd.bl _)⟩
end
end Fz
end

section
set_option Elab.async false
set_option linter.all false
set_option maxRecDepth 100000
set_option maxHeartbeats 4000000
/-! F4: statements. -/
namespace Fz
open PySem PySem.Spec PyProof.Rows L2
inductive SRes where
  | nx (S : FS)
  | rt (v : SV) (S : FS)
  | bk (S : FS)
  | ct (S : FS)
  | exn (e : Exn) (S : FS)
  | bad
def bndS {α : Type} (fa : FS → Res α) (k : α → FS → SRes) : FS → SRes := fun S => match fa S with
  | .ok a S1 => k a S1
  | .exn e S1 => .exn e S1
  | .bad => .bad
def postS (K : Fg) (F : Fx) (r : SRes) (D : Ends) (H : Hp) : Prop := match r with
  | .nx S => ∀ σ H', Pers H H' → Rel K F S σ H' → D.nx σ H'
  | .rt v S => ∀ x σ H', Pers H H' → Rel K F S σ H' → VR K F S σ H' x v → D.rt x H'
  | .bk S => ∀ σ H', Pers H H' → Rel K F S σ H' → D.bk σ H'
  | .ct S => ∀ σ H', Pers H H' → Rel K F S σ H' → D.ct σ H'
  | .exn e S => ∀ c dx σ H', Pers H H' → Rel K F S σ H' → ExR K H' e c dx → F.E c dx H'
  | .bad => False
def rdS (K : Fg) (F : Fx) (f : FS → SRes) : TS := fun D σ H => ∃ S, Rel K F S σ H ∧ postS K F (f S) D H
abbrev ES (X : Cx) (F : Fx) (st : Stmt) (f : FS → SRes) : Prop := PS X st (rdS X.K F f)
abbrev EB (X : Cx) (F : Fx) (st : List Stmt) (f : FS → SRes) : Prop := PSs X st (rdS X.K F f)
theorem _root_.L2.PSs.via {X : Cx} {e : List Stmt} {t t' : TS} (h : PSs X e t) (hw : ∀ D σ H, t' D σ H → t D σ H) : PSs X e t' := ⟨fun pins s σ H D I q => h.run pins s σ H D I (hw D σ H q)⟩
section
variable {α ι : Type} {K : Fg} {F : Fx} {R : GRel ι α} {σ : Sl} {H H' : Hp} {D D' : Ends}
theorem postS.later {r : SRes} (p : Pers H H') (h : postS K F r D H) : postS K F r D H' := by
  cases r with
  | nx S => exact fun σ H2 q r => h σ H2 (p.trans q) r
  | rt v S => exact fun x σ H2 q r => h x σ H2 (p.trans q) r
  | bk S => exact fun σ H2 q r => h σ H2 (p.trans q) r
  | ct S => exact fun σ H2 q r => h σ H2 (p.trans q) r
  | exn e S => exact fun c dx σ H2 q r => h c dx σ H2 (p.trans q) r
  | bad => exact h
theorem rdG.bindS {fa : FS → Res α} {k : α → FS → SRes} (h : rdS K F (bndS fa k) D σ H) :
    rdG K F R fa σ H fun x H1 => ∃ d S1, Rel K F S1 σ H1 ∧ R K F S1 σ H1 x d ∧ Pers H H1 ∧ postS K F (k d S1) D H1 := by
  obtain ⟨S, r, p⟩ := h
  refine ⟨S, r, ?_⟩
  unfold bndS at p
  cases e : fa S with
  | ok d S1 => rw [e] at p; exact fun x H1 q r1 v => ⟨d, S1, r1, v, q, postS.later q p⟩
  | exn e2 S1 => rw [e] at p; exact fun c dx H1 q r1 v => p c dx σ H1 q r1 v
  | bad => rw [e] at p; exact p
theorem rdT.bindS {fa : FS → Res Bool} {k : Bool → FS → SRes} (h : rdS K F (bndS fa k) D σ H) :
    rdT K F fa σ H fun b H1 => ∃ S1, Rel K F S1 σ H1 ∧ Pers H H1 ∧ postS K F (k b S1) D H1 := by
  obtain ⟨S, r, p⟩ := h
  refine ⟨S, r, ?_⟩
  unfold bndS at p
  cases e : fa S with
  | ok d S1 => rw [e] at p; exact fun H1 q r1 => ⟨S1, r1, q, postS.later q p⟩
  | exn e2 S1 => rw [e] at p; exact fun c dx H1 q r1 v => p c dx σ H1 q r1 v
  | bad => rw [e] at p; exact p
end
def fSeq (f g : FS → SRes) : FS → SRes := fun S => match f S with
  | .nx S1 => g S1
  | r => r
section
variable {X : Cx} {F : Fx} {st : Stmt} {rest : List Stmt} {f g : FS → SRes} {pos : Pos} {e : Expr}
theorem s_nil : EB X F [] (fun S => .nx S) := pss_nil.via fun D σ H ⟨S, r, p⟩ => p σ H (.refl H) r
theorem s_cons (h1 : ES X F st f) (h2 : EB X F rest g) : EB X F (st :: rest) (fSeq f g) := (pss_cons h1 h2).via fun D σ H ⟨S, r, p⟩ => by
  refine ⟨S, r, ?_⟩
  unfold fSeq at p
  cases e : f S with
  | nx S1 => rw [e] at p; exact fun σ' H' q r1 => ⟨S1, r1, p.later q⟩
  | rt v S1 => rw [e] at p; exact p
  | bk S1 => rw [e] at p; exact p
  | ct S1 => rw [e] at p; exact p
  | exn e2 S1 => rw [e] at p; exact p
  | bad => rw [e] at p; exact p
theorem s_one (h1 : ES X F st f) : EB X F [st] f := pss_one h1
/-- not to be come to -/
theorem s_never : ES X F st (fun _ => .bad) := ps_never.via fun D σ H ⟨S, r, p⟩ => p
def fRet (f : FS → Res SV) : FS → SRes := bndS f fun v S => .rt v S
def fRetD (f : FS → Res D) : FS → SRes := bndS f fun v S => .rt (.d v) S
theorem s_ret {f : FS → Res SV} (h : EV X F e f) : ES X F (.Return (some e) pos) (fRet f) := (ps_ret h).via fun D σ H h => (rdG.bindS h).imp fun x H1 ⟨d, S1, r, v, p, q⟩ => q x σ H1 (.refl H1) r v
theorem s_retD {f : FS → Res D} (h : ED X F e f) : ES X F (.Return (some e) pos) (fRetD f) := (ps_ret h).via fun D σ H h => (rdG.bindS h).imp fun x H1 ⟨d, S1, r, v, p, q⟩ => q x σ H1 (.refl H1) r v
def fDrop {α : Type} (f : FS → Res α) : FS → SRes := bndS f fun _ S => .nx S
theorem s_expr {α : Type} {R : VRel α} {f : FS → Res α} (he : PE X e (rdG X.K F R f)) (hs : swapsWith e none pos.line X.env = pure false := by rfl) : ES X F (.Expr e pos) (fDrop f) :=
  (ps_expr he hs).via fun D σ H h => (rdG.bindS h).imp fun x H1 ⟨d, S1, r, v, p, q⟩ => q σ H1 (.refl H1) r
def fIf (t : FS → Res Bool) (f g : FS → SRes) : FS → SRes := bndS t fun b => if b = true then f else g
theorem s_if {c : Expr} {a b : List Stmt} {t : FS → Res Bool} (hc : ET X F c t) (ha : EB X F a f) (hb : EB X F b g) : ES X F (.If c a b pos) (fIf t f g) :=
  (ps_if hc ha hb).via fun D σ H h => (rdT.bindS h).imp fun b H1 ⟨S1, r, p, q⟩ => by
    cases b with
    | true => exact ⟨S1, r, q⟩
    | false => exact ⟨S1, r, q⟩
def fSet (i : Nat) (f : FS → Res SV) : FS → SRes := bndS f fun v S => .nx (S.set i (some v))
def fSetD (i : Nat) (f : FS → Res D) : FS → SRes := bndS f fun v S => .nx (S.set i (some (.d v)))
theorem Rel.setV {K : Fg} {S : FS} {σ : Sl} {H : Hp} {i : Nat} {x : V} {v : SV} (r : Rel K F S σ H) (h : VR K F S σ H x v) : Rel K F (S.set i (some v)) (σ.set i (some x)) H := by
  cases v with
  | d d => exact r.setD h
  | own ob => exact r.setO h
  | pin ob => exact h.elim
  | x e => exact h.elim
theorem s_set {i : Nat} {x : Str} {pos' : Pos} {f : FS → Res SV} (hN : X.N.Nodup) (hi : X.N[i]? = some x) (hx : Loc X.env.scope x) (he : EV X F e f) (hs : swapsWith e (some (.Name x pos')) pos.line X.env = pure false := by rfl)
    (hf : X.fn x = true ∨ X.env.scope.names.lookup x = some .local := by first | exact .inl rfl | exact .inr rfl | assumption) : ES X F (.Assign [.Name x pos'] e pos) (fSet i f) :=
  (ps_set hN hi hx he hs hf).via fun D σ H h => (rdG.bindS h).imp fun x H1 ⟨d, S1, r, v, p, q⟩ => q _ H1 (.refl H1) (r.setV v)
theorem s_setD {i : Nat} {x : Str} {pos' : Pos} {f : FS → Res D} (hN : X.N.Nodup) (hi : X.N[i]? = some x) (hx : Loc X.env.scope x) (he : ED X F e f) (hs : swapsWith e (some (.Name x pos')) pos.line X.env = pure false := by rfl)
    (hf : X.fn x = true ∨ X.env.scope.names.lookup x = some .local := by first | exact .inl rfl | exact .inr rfl | assumption) : ES X F (.Assign [.Name x pos'] e pos) (fSetD i f) :=
  (ps_set hN hi hx he hs hf).via fun D σ H h => (rdG.bindS h).imp fun x H1 ⟨d, S1, r, v, p, q⟩ => q _ H1 (.refl H1) (r.setD v)
theorem peek_inS {K : Fg} {S : FS} {σ : Sl} {H : Hp} {i : Nat} {k : D → FS → SRes} {D : Ends} (r : Rel K F S σ H) (p : postS K F (bndS (fPeek i) k S) D H) : ∃ x d, σ[i]? = some (some x) ∧ Qd K H x d ∧ postS K F (k d S) D H := by
  unfold bndS at p
  rcases peek_ok (i := i) (S := S) with ⟨d, e⟩ | e
  · obtain ⟨_, x, ex, v⟩ := peek_val r e
    rw [e] at p
    exact ⟨x, d, ex, v, p⟩
  · rw [e] at p; exact p.elim

/-! ### while -/
def whileN (c : FS → Res Bool) (b : FS → SRes) : Nat → FS → SRes
  | 0, _ => .bad
  | n + 1, S => match c S with
    | .ok true S1 => (match b S1 with
      | .nx S2 => whileN c b n S2
      | .ct S2 => whileN c b n S2
      | .bk S2 => .nx S2
      | r => r)
    | .ok false S1 => .nx S1
    | .exn e S1 => .exn e S1
    | .bad => .bad
open Classical in
noncomputable def whileF (c : FS → Res Bool) (b : FS → SRes) (S : FS) : SRes := if h : ∃ n, whileN c b n S ≠ .bad then whileN c b h.choose S else .bad
theorem whileN_succ {c : FS → Res Bool} {b : FS → SRes} : ∀ n S, whileN c b n S ≠ .bad → whileN c b (n + 1) S = whileN c b n S
  | 0, S, h => absurd rfl h
  | n + 1, S, h => by
    rw [whileN] at h
    rw [whileN, whileN]
    cases e : c S with
    | ok k S1 =>
      cases k with
      | true =>
        rw [e] at h
        simp only at h ⊢
        cases e2 : b S1 with
        | nx S2 => rw [e2] at h; exact whileN_succ n S2 h
        | ct S2 => rw [e2] at h; exact whileN_succ n S2 h
        | _ => rfl
      | false => rfl
    | _ => rfl
theorem whileN_le {c : FS → Res Bool} {b : FS → SRes} {n m : Nat} {S : FS} (h : whileN c b n S ≠ .bad) (hl : n ≤ m) : whileN c b m S = whileN c b n S := by
  induction hl with
  | refl => rfl
  | step _ ih => rw [whileN_succ _ _ (by rw [ih]; exact h), ih]
theorem whileF_of {c : FS → Res Bool} {b : FS → SRes} {n : Nat} {S : FS} (h : whileN c b n S ≠ .bad) : whileF c b S = whileN c b n S := by
  unfold whileF
  rw [dif_pos ⟨n, h⟩]
  have h2 := (⟨n, h⟩ : ∃ n, whileN c b n S ≠ .bad).choose_spec
  by_cases hl : (⟨n, h⟩ : ∃ n, whileN c b n S ≠ .bad).choose ≤ n
  · exact (whileN_le h2 hl).symm
  · exact whileN_le h (by omega)
theorem whileF_get {c : FS → Res Bool} {b : FS → SRes} {S : FS} (h : whileF c b S ≠ .bad) : ∃ n, whileN c b n S ≠ .bad ∧ whileF c b S = whileN c b n S := by
  by_cases hn : ∃ n, whileN c b n S ≠ .bad
  · exact ⟨_, hn.choose_spec, by unfold whileF; rw [dif_pos hn]⟩
  · exact absurd (by unfold whileF; rw [dif_neg hn]) h
/-- one turn -/
theorem whileF_eq (c : FS → Res Bool) (b : FS → SRes) (S : FS) : whileF c b S = match c S with
    | .ok true S1 => (match b S1 with
      | .nx S2 => whileF c b S2
      | .ct S2 => whileF c b S2
      | .bk S2 => .nx S2
      | r => r)
    | .ok false S1 => .nx S1
    | .exn e S1 => .exn e S1
    | .bad => .bad := by
  by_cases h : ∃ n, whileN c b n S ≠ .bad
  · obtain ⟨n, h⟩ := h
    rw [whileF_of h]
    cases n with
    | zero => exact absurd rfl h
    | succ n =>
      rw [whileN] at h ⊢
      cases e : c S with
      | ok k S1 =>
        cases k with
        | true =>
          rw [e] at h
          simp only at h ⊢
          cases e2 : b S1 with
          | nx S2 => rw [e2] at h; exact (whileF_of h).symm
          | ct S2 => rw [e2] at h; exact (whileF_of h).symm
          | _ => rfl
        | false => rfl
      | _ => rfl
  · have hb : whileF c b S = .bad := by unfold whileF; rw [dif_neg h]
    rw [hb]
    have h1 : ∀ n, whileN c b n S = .bad := fun n => Classical.byContradiction fun q => h ⟨n, q⟩
    have none : ∀ S2, (∀ n, whileN c b n S2 = .bad) → whileF c b S2 = .bad := fun S2 q => by
      unfold whileF; rw [dif_neg (fun ⟨n, z⟩ => z (q n))]
    have h2 := fun n => h1 (n + 1)
    simp only [whileN] at h2
    cases e : c S with
    | ok k S1 =>
      cases k with
      | true =>
        rw [e] at h2
        simp only at h2 ⊢
        cases e2 : b S1 with
        | nx S2 => rw [e2] at h2; exact (none S2 h2).symm
        | ct S2 => rw [e2] at h2; exact (none S2 h2).symm
        | rt v S2 => rw [e2] at h2; exact (h2 0).symm
        | bk S2 => rw [e2] at h2; exact (h2 0).symm
        | exn v S2 => rw [e2] at h2; exact (h2 0).symm
        | bad => rfl
      | false => rw [e] at h2; exact (h2 0).symm
    | exn v S2 => rw [e] at h2; exact (h2 0).symm
    | bad => rfl
theorem s_while {c : Expr} {body : List Stmt} {tc : FS → Res Bool} {b : FS → SRes} (hp : PassesOwn (model X.prog X.w) X.A X.env X.xe) (hc : ET X F c tc) (hb : EB X F body b) : ES X F (.While c body [] pos) (whileF tc b) :=
  (ps_while hp hc hb).via fun D σ H ⟨S, r, p⟩ => by
    have ne : whileF tc b S ≠ .bad := fun e => by rw [e] at p; exact p
    obtain ⟨n, hn, e⟩ := whileF_get ne
    rw [e] at p
    refine ⟨fun m σ H => ∃ S, Rel X.K F S σ H ∧ whileN tc b m S ≠ .bad ∧ postS X.K F (whileN tc b m S) D H, ⟨n, S, r, hn, p⟩, ?_⟩
    rintro m σ H ⟨S, r, hn, p⟩
    cases m with
    | zero => exact absurd rfl hn
    | succ m =>
      rw [whileN] at hn p
      refine ⟨S, r, ?_⟩
      cases e : tc S with
      | ok k S1 =>
        rw [e] at hn p
        intro H1 p1 r1
        cases k with
        | false => exact p σ H1 p1 r1
        | true =>
          rw [if_pos rfl]
          refine ⟨_, fun σ' H' q => ⟨m, Nat.lt_succ_self m, q⟩, S1, r1, ?_⟩
          simp only at hn p
          cases e2 : b S1 with
          | nx S2 => rw [e2] at hn p; exact fun σ2 H2 p2 r2 => ⟨S2, r2, hn, p.later (p1.trans p2)⟩
          | ct S2 => rw [e2] at hn p; exact fun σ2 H2 p2 r2 => ⟨S2, r2, hn, p.later (p1.trans p2)⟩
          | bk S2 => rw [e2] at p; exact postS.later p1 p
          | rt v S2 => rw [e2] at p; exact postS.later p1 p
          | exn v S2 => rw [e2] at p; exact postS.later p1 p
          | bad => rw [e2] at hn; exact absurd rfl hn
      | exn e2 S1 => rw [e] at p; exact fun c dx H1 p1 r1 v => p c dx σ H1 p1 r1 v
      | bad => rw [e] at hn; exact absurd rfl hn
end
/-! ### targets -/
section
variable {X : Cx} {F : Fx} {pos : Pos}
/-- the slots beside ts stay -/
def Beside (ts : List Nat) (σ σ' : Sl) : Prop := σ'.length = σ.length ∧ ∀ j, j ∉ ts → σ'[j]? = σ[j]?
theorem Beside.refl (ts : List Nat) (σ : Sl) : Beside ts σ σ := ⟨rfl, fun _ _ => rfl⟩
theorem Beside.trans {ts : List Nat} {σ σ1 σ2 : Sl} (a : Beside ts σ σ1) (b : Beside ts σ1 σ2) : Beside ts σ σ2 := ⟨b.1.trans a.1, fun j h => (b.2 j h).trans (a.2 j h)⟩
theorem Beside.mono {ts ts' : List Nat} {σ σ' : Sl} (a : Beside ts σ σ') (h : ∀ j, j ∈ ts → j ∈ ts') : Beside ts' σ σ' := ⟨a.1, fun j hj => a.2 j fun z => hj (h j z)⟩
theorem Beside.set {σ : Sl} {i : Nat} {v : Option V} : Beside [i] σ (σ.set i v) := ⟨List.length_set .., fun j h => List.getElem?_set_ne (fun e => h (by simp [e]))⟩
def rdTG (K : Fg) (F : Fx) (ts : List Nat) (g : D → FS → Option FS) : TG := fun v σ H Q => ∃ S d, Rel K F S σ H ∧ Pd K H v d ∧ match g d S with
  | some S' => ∀ σ' H', Pers H H' → Rel K F S' σ' H' → Beside ts σ σ' → Q σ' H'
  | none => False
def rdTGs (K : Fg) (F : Fx) (ts : List Nat) (g : List D → FS → Option FS) : TGs := fun vs σ H Q => ∃ S ds, Rel K F S σ H ∧ PdAll K H vs ds ∧ match g ds S with
  | some S' => ∀ σ' H', Pers H H' → Rel K F S' σ' H' → Beside ts σ σ' → Q σ' H'
  | none => False
abbrev EG (X : Cx) (F : Fx) (e : Expr) (ts : List Nat) (g : D → FS → Option FS) : Prop := PG X e (rdTG X.K F ts g)
abbrev EGs (X : Cx) (F : Fx) (e : List Expr) (ts : List Nat) (g : List D → FS → Option FS) : Prop := PGs X e (rdTGs X.K F ts g)
theorem _root_.L2.PG.via {X : Cx} {e : Expr} {t t' : TG} (h : PG X e t) (hw : ∀ v σ H Q, t' v σ H Q → t v σ H Q) : PG X e t' := ⟨fun pins s σ H v u Q I r q => h.run pins s σ H v u Q I r (hw v σ H Q q)⟩
theorem _root_.L2.PGs.via {X : Cx} {e : List Expr} {t t' : TGs} (h : PGs X e t) (hw : ∀ v σ H Q, t' v σ H Q → t v σ H Q) : PGs X e t' := ⟨fun pins s σ H v u Q I r q => h.run pins s σ H v u Q I r (hw v σ H Q q)⟩
def gN (i : Nat) : D → FS → Option FS := fun d S => some (S.set i (some (.d d)))
theorem g_name {i : Nat} {x : Str} (hN : X.N.Nodup) (hi : X.N[i]? = some x) (hx : Loc X.env.scope x) (hf : X.fn x = true ∨ X.env.scope.names.lookup x = some .local := by first | exact .inl rfl | exact .inr rfl | assumption) : EG X F (.Name x pos) [i] (gN i) :=
  (pg_name hN hi hx hf).via fun v σ H Q ⟨S, d, r, hd, q⟩ => q _ _ (.refl H) (r.setD hd) .set
def gNl : List D → FS → Option FS
  | [], S => some S
  | _ :: _, _ => none
def gCs (g : D → FS → Option FS) (h : List D → FS → Option FS) : List D → FS → Option FS
  | d :: ds, S => (g d S).bind (h ds)
  | [], _ => none
theorem gs_nil : EGs X F [] [] gNl := pgs_nil.via fun v σ H Q ⟨S, ds, r, hd, q⟩ => by
  cases hd with
  | nil => exact ⟨rfl, q _ _ (.refl H) r (.refl _ _)⟩
  | cons _ _ => exact q.elim
theorem gs_cons {e : Expr} {es : List Expr} {ts us : List Nat} {g : D → FS → Option FS} {h : List D → FS → Option FS} (h1 : EG X F e ts g) (h2 : EGs X F es us h)
    (hs : (assignEach (e :: es) X.env).map (·.2) = assign e X.env :: (assignEach es X.env).map (·.2) := by rfl) : EGs X F (e :: es) (ts ++ us) (gCs g h) :=
  (pgs_cons h1 h2 hs).via fun v σ H Q ⟨S, ds, r, hd, q⟩ => by
    cases hd with
    | nil => exact q.elim
    | cons hd hr =>
      refine ⟨_, _, rfl, S, _, r, hd, ?_⟩
      simp only [gCs] at q
      cases e1 : g _ S with
      | none => rw [e1] at q; exact q.elim
      | some S1 =>
        rw [e1] at q
        intro σ1 H1 p1 r1 b1
        refine ⟨S1, _, r1, hr.mono p1, ?_⟩
        simp only [Option.bind_some] at q
        cases e2 : h _ S1 with
        | none => rw [e2] at q; exact q.elim
        | some S2 => rw [e2] at q; exact fun σ2 H2 p2 r2 b2 => q σ2 H2 (p1.trans p2) r2 ((b1.mono fun j h => List.mem_append_left _ h).trans (b2.mono fun j h => List.mem_append_right _ h))
def gTp (n : Nat) (g : List D → FS → Option FS) : D → FS → Option FS
  | .tuple ds, S => if ds.length = n then g ds S else none
  | _, _ => none
theorem g_tup {es : List Expr} {k : Nat} {ts : List Nat} {g : List D → FS → Option FS} {n : Nat} (hc : X.calm = true) (h : EGs X F es ts g) (hn : (assignEach es X.env).length = n := by rfl) (hst : (assignEach es X.env).findIdx? (·.1) = none := by rfl) : EG X F (.Tuple es k pos) ts (gTp n g) :=
  (pg_tup hc h hn hst).via fun v σ H Q ⟨S, d, r, hd, q⟩ => by
    cases hd with
    | @tup _ _ ds hs hr =>
      simp only [gTp] at q
      by_cases hl : ds.length = n
      · rw [if_pos hl] at q
        exact ⟨_, _, rfl, hs, by rw [hr.length]; exact hl, S, _, r, hr, q⟩
      · rw [if_neg hl] at q
        exact q.elim
    | _ => exact q.elim
/-- target = e -/
def fAsg (g : D → FS → Option FS) (f : FS → Res D) : FS → SRes := bndS f fun d S => match g d S with
  | some S' => .nx S'
  | none => .bad
theorem s_asg {tg e : Expr} {ts : List Nat} {f : FS → Res D} {g : D → FS → Option FS} (he : ED X F e f) (hg : EG X F tg ts g) (hs : swapsWithSole [tg] e pos.line X.env = pure false := by rfl) (hw : swappedStores [tg] e X.env = pure none := by rfl)
    (h1 : (assignEach [tg] X.env).map (·.2) = [assign tg X.env] := by rfl) : ES X F (.Assign [tg] e pos) (fAsg g f) :=
  (ps_asg he hg hs hw h1).via fun D σ H h => (rdG.bindS h).imp fun x H1 ⟨d, S1, r, v, p, q⟩ => ⟨S1, d, r, v, by
    cases e : g d S1 with
    | none => rw [e] at q; exact q
    | some S2 => rw [e] at q; exact fun σ' H' p r _ => q σ' H' p r⟩
end
end Fz
end

section
set_option Elab.async false
set_option linter.all false
set_option maxRecDepth 100000
set_option maxHeartbeats 4000000
/-! F5: for, list methods, stores to items. -/
namespace Fz
open PySem PySem.Spec PyProof.Rows L2
/-- J hands the data ds out, one after another, while what is for good stays -/
structure Yields (K : Fg) (J : It) (H1 : Hp) (ds : List D) : Prop where
  go : ∀ i H, Pers H1 H → i < ds.length → J.go i H
  stop : ∀ H, Pers H1 H → J.stop ds.length H
  yld : ∀ i H x H' d, Pers H1 H → ds[i]? = some d → J.yld i H x H' → Pers H H' ∧ (∀ F S σ, Rel K F S σ H → Rel K F S σ H') ∧ Pd K H' x d
def rdI (K : Fg) (F : Fx) (f : FS → Res (List D)) : TI := fun σ H R => ∃ S, Rel K F S σ H ∧ match f S with
  | .ok ds S1 => ∀ J H1, Pers H H1 → Rel K F S1 σ H1 → Yields K J H1 ds → R J H1
  | .exn e S1 => ∀ c dx H1, Pers H H1 → Rel K F S1 σ H1 → ExR K H1 e c dx → F.E c dx H1
  | .bad => False
abbrev EI (X : Cx) (F : Fx) (tg iter : Expr) (f : FS → Res (List D)) : Prop := PI X tg iter (rdI X.K F f)
def forF (g : D → FS → Option FS) (b : FS → SRes) : List D → FS → SRes
  | [], S => .nx S
  | d :: ds, S => match g d S with
    | some S1 => (match b S1 with
      | .nx S2 => forF g b ds S2
      | .ct S2 => forF g b ds S2
      | .bk S2 => .nx S2
      | r => r)
    | none => .bad
def fFor (it : FS → Res (List D)) (g : D → FS → Option FS) (b : FS → SRes) : FS → SRes := bndS it fun ds => forF g b ds
section
variable {X : Cx} {F : Fx} {pos : Pos}
theorem s_for {tg iter : Expr} {ts : List Nat} {body : List Stmt} {it : FS → Res (List D)} {g : D → FS → Option FS} {b : FS → SRes} (hp : PassesOwn (model X.prog X.w) X.A X.env X.xe) (hc : X.calm = true) (hi : EI X F tg iter it) (hg : EG X F tg ts g) (hb : EB X F body b)
    (hs : ∀ x, foldedSetIterable iter X.env x = pure x := by intro _; rfl) : ES X F (.For tg iter body [] pos) (fFor it g b) :=
  (ps_for hp hc hi hg hb hs).via fun D σ H ⟨S, r, p⟩ => by
    refine ⟨S, r, ?_⟩
    unfold fFor bndS at p
    cases e : it S with
    | exn e2 S1 => rw [e] at p; exact fun c dx H1 p1 r1 v => p c dx σ H1 p1 r1 v
    | bad => rw [e] at p; exact p
    | ok ds S1 =>
      rw [e] at p
      intro J H1 p1 r1 y
      refine ⟨fun i m σ H => ∃ S, Rel X.K F S σ H ∧ Pers H1 H ∧ m = ds.length - i ∧ i ≤ ds.length ∧ postS X.K F (forF g b (ds.drop i) S) D H, ⟨ds.length, S1, r1, .refl H1, rfl, Nat.zero_le _, postS.later p1 p⟩, ?_⟩
      rintro i m σ H ⟨S, r, pH, rfl, hi, p⟩
      by_cases hl : i < ds.length
      · refine .inr ⟨y.go i H pH hl, fun σ' H' => ∃ S, Rel X.K F S σ' H' ∧ Pers H1 H' ∧ postS X.K F (forF g b (ds.drop (i + 1)) S) D H', fun σ' H' ⟨S2, r2, p2, q2⟩ => ⟨ds.length - (i + 1), by omega, S2, r2, p2, rfl, hl, q2⟩, fun x H' hy => ?_⟩
        obtain ⟨p2, k2, v2⟩ := y.yld i H x H' ds[i] pH (List.getElem?_eq_getElem hl) hy
        rw [List.drop_eq_getElem_cons hl] at p
        simp only [forF] at p
        refine ⟨S, ds[i], k2 F S σ r, v2, ?_⟩
        cases e2 : g ds[i] S with
        | none => rw [e2] at p; exact p
        | some S1 =>
          rw [e2] at p
          simp only at p
          intro σ3 H3 p3 r3 _
          refine ⟨S1, r3, ?_⟩
          have p13 : Pers H1 H3 := (pH.trans p2).trans p3
          have p03 : Pers H H3 := p2.trans p3
          cases e3 : b S1 with
          | nx S2 => rw [e3] at p; exact fun σ4 H4 p4 r4 => ⟨S2, r4, p13.trans p4, p.later (p03.trans p4)⟩
          | ct S2 => rw [e3] at p; exact fun σ4 H4 p4 r4 => ⟨S2, r4, p13.trans p4, p.later (p03.trans p4)⟩
          | bk S2 => rw [e3] at p; exact postS.later p03 p
          | rt v S2 => rw [e3] at p; exact postS.later p03 p
          | exn v S2 => rw [e3] at p; exact postS.later p03 p
          | bad => rw [e3] at p; exact p
      · have e : i = ds.length := by omega
        subst e
        rw [List.drop_length] at p
        exact .inl ⟨y.stop H pH, p σ H (.refl H) r⟩
/-- a list, a tuple walked -/
theorem yields_list {K : Fg} {H1 : Hp} {a : Addr} {vs : List V} {ds : List D} (h : FrzL K H1 a vs) (r : PdAll K H1 vs ds) : Yields K (Itl K a) H1 ds where
  go := fun i H p hi => by
    obtain ⟨x, h1, _⟩ := r.get (List.getElem?_eq_getElem hi)
    exact ⟨vs, x, (h.mono p).sq, h1⟩
  stop := fun H p => ⟨vs, (h.mono p).sq, by rw [r.length]; exact Nat.le_refl _⟩
  yld := fun i H x H' d p hd ⟨e, q⟩ => by
    subst e
    have h1 := q vs (h.mono p).sq
    obtain ⟨y, h2, h3⟩ := r.get hd
    rw [h1] at h2; cases h2
    exact ⟨.refl _, fun _ _ _ r => r, h3.mono p⟩
theorem yields_tup {K : Fg} {H1 : Hp} {a : Addr} {vs : List V} {ds : List D} (h : SqT K H1 a vs) (r : PdAll K H1 vs ds) : Yields K (Itt K a) H1 ds where
  go := fun i H p hi => by
    obtain ⟨x, h1, _⟩ := r.get (List.getElem?_eq_getElem hi)
    exact ⟨vs, x, sqT_mono p h, h1⟩
  stop := fun H p => ⟨vs, sqT_mono p h, by rw [r.length]; exact Nat.le_refl _⟩
  yld := fun i H x H' d p hd ⟨e, q⟩ => by
    subst e
    have h1 := q vs (sqT_mono p h)
    obtain ⟨y, h2, h3⟩ := r.get hd
    rw [h1] at h2; cases h2
    exact ⟨.refl _, fun _ _ _ r => r, h3.mono p⟩
def fItems (f : FS → Res D) : FS → Res (List D) := bnd f fun d S => match d with
  | .list ds => .ok ds S
  | .tuple ds => .ok ds S
  | _ => .bad
theorem i_seq {tg l : Expr} {f : FS → Res D} (h : ED X F l f) : EI X F tg l (fItems f) := by
  refine ⟨fun pins s σ H R I ⟨S, r, p⟩ => ?_⟩
  unfold fItems bnd at p
  cases e : f S with
  | exn e2 S1 =>
    rw [e] at p
    refine (pi_list (tl := rdG X.K F PR f) h).run pins s σ H R I ⟨S, r, ?_⟩
    rw [e]; exact p
  | bad => rw [e] at p; exact p.elim
  | ok d S1 =>
    rw [e] at p
    cases d with
    | list ds =>
      refine (pi_list (tl := rdG X.K F PR f) h).run pins s σ H R I ⟨S, r, ?_⟩
      rw [e]
      intro x H1 p1 r1 v
      cases v with
      | lst h2 r2 => exact ⟨_, rfl, ⟨_, h2.sq⟩, p _ H1 p1 r1 (yields_list h2 r2)⟩
    | tuple ds =>
      refine (pi_tup (tl := rdG X.K F PR f) h).run pins s σ H R I ⟨S, r, ?_⟩
      rw [e]
      intro x H1 p1 r1 v
      cases v with
      | tup h2 r2 => exact ⟨_, rfl, ⟨_, h2⟩, p _ H1 p1 r1 (yields_tup h2 r2)⟩
    | _ => exact p.elim
def rngD (lo : Int) (n : Nat) : List D := (List.range n).map fun i => .int (lo + (i : Nat))
theorem yields_rng {K : Fg} {H1 : Hp} {lo : Int} {n : Nat} : Yields K (Itr lo n) H1 (rngD lo n) where
  go := fun i H p hi => by
    have e : (rngD lo n).length = n := by simp [rngD]
    rw [e] at hi; exact hi
  stop := fun H p => by show n ≤ _; simp [rngD]
  yld := fun i H x H' d p hd ⟨e, q⟩ => by
    subst e q
    unfold rngD at hd
    rw [List.getElem?_map] at hd
    obtain ⟨j, h1, rfl⟩ := Option.map_eq_some_iff.mp hd
    have h2 : j = i := by
      obtain ⟨hl, e⟩ := List.getElem?_eq_some_iff.mp h1
      rw [List.getElem_range] at e; exact e.symm
    subst h2
    exact ⟨.refl _, fun _ _ _ r => r, .int _⟩
def inR (j : Int) : Prop := -(2 ^ 62) ≤ j ∧ j < 2 ^ 62
noncomputable instance (j : Int) : Decidable (inR j) := Classical.propDecidable _
noncomputable def fRange1 (f : FS → Res D) : FS → Res (List D) := bnd f fun d S => match d with
  | .int j => if inR j then .ok (rngD 0 j.toNat) S else .bad
  | _ => .bad
theorem i_range1 {tg a : Expr} {f : FS → Res D} {p : Pos} (hg : Gl X "range") (hm : X.mg "range" = none) (ha : ED X F a f) (hsa : starEach [a] X.env = (false, eval a X.env) :: starEach [] X.env := by rfl) (hs : starEach [a] X.env = [(false, eval a X.env)] := by rfl) : EI X F tg (.Call (.Name "range" p) [a] [] pos) (fRange1 f) := by
  refine ⟨fun pins s σ H R I ⟨S, r, q⟩ => ?_⟩
  refine (pi_range1 hg hm (pa_cons ha pa_nil hsa) hs).run pins s σ H R I ⟨S, r, ?_⟩
  unfold fRange1 bnd at q
  cases e : f S with
  | exn e2 S1 => rw [e] at q; exact q
  | bad => rw [e] at q; exact q
  | ok d S1 =>
    rw [e] at q
    intro x H1 p1 r1 v
    cases d with
    | int j =>
      cases v
      simp only [Res.bind_ok] at q
      by_cases hj : inR j
      · rw [if_pos hj] at q
        exact ⟨j, rfl, hj.1, hj.2, q _ H1 p1 r1 yields_rng⟩
      · rw [if_neg hj] at q; exact q.elim
    | _ => exact q.elim
end
/-! ### the list of a slot -/
def lstAt (S : FS) (i : Nat) : Option (List D) := match S[i]? with
  | some (some (.own (.lst ds))) => some ds
  | some (some (.pin (.lst ds))) => some ds
  | _ => none
def putLst (S : FS) (i : Nat) (ds : List D) : FS := match S[i]? with
  | some (some (.pin _)) => S.set i (some (.pin (.lst ds)))
  | _ => S.set i (some (.own (.lst ds)))
theorem Rel.lst {K : Fg} {F : Fx} {S : FS} {σ : Sl} {H : Hp} {i : Nat} {ds : List D} (r : Rel K F S σ H) (h : lstAt S i = some ds) : ∃ a vs, σ[i]? = some (some (.ref a)) ∧ H a = some (.lst vs) ∧ PdAll K H vs ds ∧
    ∀ vs' ds', PdAll K H vs' ds' → Rel K F (putLst S i ds') σ (upd H a (.lst vs')) ∧ Pers H (upd H a (.lst vs')) := by
  have main : ∀ (sv : SV) (mk : List D → SV), sv = mk ds → (∀ z, putLst S i z = S.set i (some (mk z))) → S[i]? = some (some sv) → (∀ z, mk z = .own (.lst z)) ∨ (∀ z, mk z = .pin (.lst z)) → ∃ a vs, σ[i]? = some (some (.ref a)) ∧ H a = some (.lst vs) ∧ PdAll K H vs ds ∧
      ∀ vs' ds', PdAll K H vs' ds' → Rel K F (putLst S i ds') σ (upd H a (.lst vs')) ∧ Pers H (upd H a (.lst vs')) := by
    intro sv mk es ep hs hm
    have ow : S[i]? = some (some (.own (.lst ds))) ∨ S[i]? = some (some (.pin (.lst ds))) := by
      rcases hm with hm | hm
      · exact .inl (by rw [hs, es, hm])
      · exact .inr (by rw [hs, es, hm])
    obtain ⟨a, ea, ⟨vs, hH, hv⟩, h0⟩ := r.obj ow
    refine ⟨a, vs, ea, hH, hv, fun vs' ds' hv' => ?_⟩
    have hmu : Mut (H a) := by rw [hH]; trivial
    have pp : Pers H (upd H a (.lst vs')) := Pers.put (.inl hmu)
    have hl : i < S.length := (List.getElem?_eq_some_iff.mp hs).1
    have oi : Owned S i := ⟨_, ow⟩
    refine ⟨?_, pp⟩
    rw [ep ds']
    refine r.put (.inl hmu) h0 (fun p hp e' => (r.held p hp).2.2 i oi (e' ▸ ea)) (List.length_set ..) (fun j sv2 ej => ?_) fun j ⟨ob, hj⟩ => ?_
    · by_cases hj : j = i
      · subst hj
        rw [List.getElem?_set_self hl] at ej
        cases ej
        refine .inr ⟨_, ea, ?_⟩
        obtain ⟨x, ex, sr⟩ := r.slot j _ hs
        rw [ea] at ex; cases ex
        rcases hm with hm | hm
        · rw [es, hm] at sr
          rw [hm]
          obtain ⟨b, eb, _, n⟩ := sr
          cases eb
          exact ⟨a, rfl, ⟨vs', upd_same, hv'.mono pp⟩, n⟩
        · rw [es, hm] at sr
          rw [hm]
          obtain ⟨b, eb, _, n⟩ := sr
          cases eb
          exact ⟨a, rfl, ⟨vs', upd_same, hv'.mono pp⟩, n⟩
      · rw [List.getElem?_set_ne (Ne.symm hj)] at ej
        exact .inl ⟨ej, fun oj => r.apart i j a (Ne.symm hj) oi oj ea⟩
    · by_cases hj2 : j = i
      · subst hj2; exact oi
      · rw [List.getElem?_set_ne (Ne.symm hj2)] at hj; exact ⟨ob, hj⟩
  unfold lstAt at h
  split at h
  · rename_i d hd
    cases h
    exact main _ (fun z => .own (.lst z)) rfl (fun z => by unfold putLst; rw [hd]) hd (.inl fun _ => rfl)
  · rename_i d hd
    cases h
    exact main _ (fun z => .pin (.lst z)) rfl (fun z => by unfold putLst; rw [hd]) hd (.inr fun _ => rfl)
  · cases h
section
variable {X : Cx} {F : Fx} {pos : Pos}
/-- a look at the list of a slot -/
def wLst (i : Nat) (k : List D → FS → SRes) : FS → SRes := fun S => match lstAt S i with
  | some ds => k ds S
  | none => .bad
theorem wLst_in {K : Fg} {S : FS} {i : Nat} {k : List D → FS → SRes} {D' : Ends} {H : Hp} (p : postS K F (wLst i k S) D' H) : ∃ ds, lstAt S i = some ds ∧ postS K F (k ds S) D' H := by
  unfold wLst at p
  cases e : lstAt S i with
  | none => rw [e] at p; exact p.elim
  | some ds => rw [e] at p; exact ⟨ds, rfl, p⟩
/-- x.append(e) -/
def fAppend (i : Nat) (f : FS → Res D) : FS → SRes := wLst i fun _ => bndS f fun d => wLst i fun ds S => if ds.length < sizeLine then .nx (putLst S i (ds ++ [d])) else .bad
theorem s_append {i : Nat} {o e : Expr} {f : FS → Res D} {apos cpos : Pos} (ho : PE X o (tVar i)) (he : ED X F e f) (hs : swapsWith (.Call (.Attribute o "append" apos) [e] [] cpos) none pos.line X.env = pure false := by rfl)
    (hb : PE X (.Call (.Attribute o "append" apos) [e] [] cpos) (tBM X.K "list" rAppend (tVar i) (tCons (rdG X.K F PR f) tNil))) : ES X F (.Expr (.Call (.Attribute o "append" apos) [e] [] cpos) pos) (fAppend i f) :=
  (ps_expr hb hs).via fun D σ H ⟨S, r, p⟩ => by
    obtain ⟨ds0, e0, p⟩ := wLst_in p
    obtain ⟨a, vs0, ea, hH0, _, _⟩ := r.lst e0
    refine ⟨_, ea, .inl ⟨rfl, _, .inl (.inl hH0)⟩, ?_⟩
    refine (rdG.bindS (k := fun d => wLst i fun ds S => if ds.length < sizeLine then .nx (putLst S i (ds ++ [d])) else .bad) ⟨S, r, p⟩).imp fun y H1 ⟨d, S1, r1, v1, p1, q1⟩ => ?_
    obtain ⟨ds, e1, q1⟩ := wLst_in q1
    obtain ⟨b, vs, eb, hH, hv, put⟩ := r1.lst e1
    rw [ea] at eb; cases eb
    by_cases hl : ds.length < sizeLine
    · rw [if_pos hl] at q1
      obtain ⟨r2, p2⟩ := put (vs ++ [y]) (ds ++ [d]) (hv.append (.cons v1 .nil))
      exact ⟨a, vs, y, rfl, rfl, hH, by rw [hv.length]; exact hl, q1 _ _ p2 r2⟩
    · rw [if_neg hl] at q1; exact q1.elim
/-- x.extend(e), e a new list -/
def fExtend (i : Nat) (f : FS → Res SV) : FS → SRes := wLst i fun _ => bndS f fun v => match v with
  | .own (.lst es) => wLst i fun ds S => if ds.length + es.length ≤ sizeLine then .nx (putLst S i (ds ++ es)) else .bad
  | _ => fun _ => .bad
theorem s_extend {i : Nat} {o e : Expr} {f : FS → Res SV} {apos cpos : Pos} (ho : PE X o (tVar i)) (he : EV X F e f) (hs : swapsWith (.Call (.Attribute o "extend" apos) [e] [] cpos) none pos.line X.env = pure false := by rfl)
    (hb : PE X (.Call (.Attribute o "extend" apos) [e] [] cpos) (tBM X.K "list" rExtend (tVar i) (tCons (rdG X.K F VR f) tNil))) : ES X F (.Expr (.Call (.Attribute o "extend" apos) [e] [] cpos) pos) (fExtend i f) :=
  (ps_expr hb hs).via fun D σ H ⟨S, r, p⟩ => by
    obtain ⟨ds0, e0, p⟩ := wLst_in p
    obtain ⟨a, vs0, ea, hH0, _, _⟩ := r.lst e0
    refine ⟨_, ea, .inl ⟨rfl, _, .inl (.inl hH0)⟩, ?_⟩
    refine (rdG.bindS (R := VR) ⟨S, r, p⟩).imp fun y H1 ⟨d, S1, r1, v1, p1, q1⟩ => ?_
    cases d with
    | own ob =>
      cases ob with
      | lst es =>
        obtain ⟨c, rfl, ⟨ws, hC, hw⟩, n, nu, nh⟩ := v1
        obtain ⟨ds, e1, q1⟩ := wLst_in q1
        obtain ⟨b, vs, eb, hH, hv, put⟩ := r1.lst e1
        rw [ea] at eb; cases eb
        by_cases hl : ds.length + es.length ≤ sizeLine
        · rw [if_pos hl] at q1
          obtain ⟨r2, p2⟩ := put (vs ++ ws) (ds ++ es) (hv.append hw)
          exact ⟨a, c, vs, ws, rfl, rfl, hH, hC, by rw [hv.length, hw.length]; exact hl, q1 _ _ p2 r2⟩
        · rw [if_neg hl] at q1; exact q1.elim
      | dic _ => exact q1.elim
    | _ => exact q1.elim
/-- x[k] = e -/
def fSetIx (i : Nat) (fe fk : FS → Res D) : FS → SRes := bndS fe fun d => bndS (fPeek i) fun _ => bndS fk fun k => wLst i fun ds S => match k with
  | .int j => (match ixN ds.length j with
    | some m => .nx (putLst S i (ds.set m d))
    | none => .bad)
  | _ => .bad
theorem s_setIx {i : Nat} {o k e : Expr} {fe fk : FS → Res D} {p1 : Pos} (ho : PE X o (tVar i)) (he : ED X F e fe) (hk : ED X F k fk)
    (ha : ∀ v, assign (.Subscript o k p1) X.env v = (do
      let ov ← holding [v] (eval o X.env)
      let iv ← holding [v, ov] (eval k X.env)
      standAt p1
      holding [v, ov, iv] (setItem ov iv v)
      release [v, ov, iv] []) := by intro _; rfl)
    (hs : swapsWithSole [.Subscript o k p1] e pos.line X.env = pure false := by rfl) (hw : swappedStores [.Subscript o k p1] e X.env = pure none := by rfl)
    (h1 : (assignEach [.Subscript o k p1] X.env).map (·.2) = [assign (.Subscript o k p1) X.env] := by rfl) : ES X F (.Assign [.Subscript o k p1] e pos) (fSetIx i fe fk) :=
  (ps_asg he (pg_sub ho hk set_list ha) hs hw h1).via fun D σ H ⟨S, r, p⟩ => by
    refine (rdG.bindS (R := PR) ⟨S, r, p⟩).imp fun y H1 ⟨d, S1, r1, v1, p1, q1⟩ => ?_
    obtain ⟨x, d0, ex, _, q1⟩ := peek_inS r1 q1
    refine ⟨x, ex, (rdG.bindS (R := PR) ⟨S1, r1, q1⟩).imp fun z H2 ⟨kd, S2, r2, v2, p2, q2⟩ => ?_⟩
    obtain ⟨ds, e2, q2⟩ := wLst_in q2
    obtain ⟨a, vs, ea, hH, hv, put⟩ := r2.lst e2
    rw [ex] at ea; cases ea
    cases kd with
    | int j =>
      cases v2
      cases em : ixN ds.length j with
      | none => simp only [em] at q2; exact q2.elim
      | some m =>
        simp only [em] at q2
        have hy : Pd X.K H2 y d := Pd.mono p2 v1
        obtain ⟨r3, p3⟩ := put (vs.set m y) (ds.set m d) (hv.set hy m)
        exact ⟨a, vs, j, m, rfl, rfl, hH, by rw [hv.length]; exact em, q2 _ _ p3 r3⟩
    | _ => exact q2.elim
end
end Fz
end

section
set_option Elab.async false
set_option linter.all false
set_option maxRecDepth 100000
set_option maxHeartbeats 4000000
/-! F6: list comprehensions. -/
namespace Fz
open PySem PySem.Spec PyProof.Rows L2
/-- the slots vs stored anew -/
def setAll {β : Type} (S : List β) : List Nat → (Nat → β) → List β
  | [], _ => S
  | v :: vs, f => (setAll S vs f).set v (f v)
theorem setAll_length {β : Type} (S : List β) (f : Nat → β) : ∀ vs, (setAll S vs f).length = S.length
  | [] => rfl
  | v :: vs => by unfold setAll; rw [List.length_set, setAll_length S f vs]
theorem setAll_in {β : Type} {S : List β} {f : Nat → β} {j : Nat} : ∀ {vs : List Nat}, j ∈ vs → j < S.length → (setAll S vs f)[j]? = some (f j)
  | v :: vs, h, hl => by
    unfold setAll
    by_cases e : v = j
    · subst e
      exact List.getElem?_set_self (by rw [setAll_length]; exact hl)
    · rw [List.getElem?_set_ne e]
      exact setAll_in ((List.mem_cons.mp h).resolve_left (Ne.symm e)) hl
theorem setAll_out {β : Type} {S : List β} {f : Nat → β} {j : Nat} : ∀ {vs : List Nat}, j ∉ vs → (setAll S vs f)[j]? = S[j]?
  | [], _ => rfl
  | v :: vs, h => by
    unfold setAll
    rw [List.getElem?_set_ne (fun e => h (by simp [e]))]
    exact setAll_out fun z => h (List.mem_cons_of_mem _ z)
theorem wipe_eq (σ : Sl) : ∀ vs, wipe σ vs = setAll σ vs fun _ => none
  | [] => rfl
  | v :: vs => by unfold wipe setAll; rw [wipe_eq σ vs]
def wipeS (S : FS) (vs : List Nat) : FS := setAll S vs fun _ => none
def keepD : Option SV → Option SV
  | some (.d d) => some (.d d)
  | _ => none
/-- behind the block: its own slots as they stood ahead of it (data alone) -/
def restS (S S2 : FS) (vs : List Nat) : FS := setAll S2 vs fun v => keepD (S.getD v none)
theorem keepD_some {o : Option SV} {sv : SV} (h : keepD o = some sv) : ∃ d, sv = .d d ∧ o = some (.d d) := by
  unfold keepD at h
  split at h
  · cases h; exact ⟨_, rfl, rfl⟩
  · cases h
/-- the frame within a block: D holds what is made so far, nothing may leave -/
def Fx.blk (F : Fx) (D : Addr) (acc : List V) : Fx := { F with held := (D, .lst acc) :: F.held, E := fun _ _ _ => False }
theorem setAll_some {S : FS} {vs : List Nat} {f : Nat → Option SV} {j : Nat} {sv : SV} (h : (setAll S vs f)[j]? = some (some sv)) : (j ∉ vs ∧ S[j]? = some (some sv)) ∨ (j ∈ vs ∧ j < S.length ∧ f j = some sv) := by
  by_cases hj : j ∈ vs
  · by_cases hl : j < S.length
    · rw [setAll_in hj hl] at h
      exact .inr ⟨hj, hl, Option.some.inj h⟩
    · rw [List.getElem?_eq_none (by rw [setAll_length]; omega)] at h; cases h
  · rw [setAll_out hj] at h; exact .inl ⟨hj, h⟩
section
variable {K : Fg} {F : Fx} {S S2 : FS} {σ σ2 : Sl} {H H2 : Hp} {vs : List Nat}
theorem Rel.wiped (r : Rel K F S σ H) : Rel K F (wipeS S vs) (wipe σ vs) H := by
  rw [wipe_eq]
  have down : ∀ j sv, (wipeS S vs)[j]? = some (some sv) → j ∉ vs ∧ S[j]? = some (some sv) := fun j sv h => by
    rcases setAll_some h with h | ⟨_, _, h⟩
    · exact h
    · cases h
  have ow : ∀ j, Owned (wipeS S vs) j → j ∉ vs ∧ Owned S j := fun j ⟨ob, h⟩ => by
    rcases h with h | h
    · exact ⟨(down j _ h).1, ob, .inl (down j _ h).2⟩
    · exact ⟨(down j _ h).1, ob, .inr (down j _ h).2⟩
  refine ⟨by unfold wipeS; rw [setAll_length, setAll_length]; exact r.len, fun j sv h => ?_, fun i j a ne hi hj => ?_, r.keep, r.there, r.tabs, r.self, fun p hp => ⟨(r.held p hp).1, (r.held p hp).2.1, fun i hi => ?_⟩⟩
  · obtain ⟨h1, h2⟩ := down j sv h
    rw [setAll_out h1]; exact r.slot j sv h2
  · obtain ⟨h1, h2⟩ := ow i hi
    obtain ⟨h3, h4⟩ := ow j hj
    rw [setAll_out h1, setAll_out h3]; exact r.apart i j a ne h2 h4
  · obtain ⟨h1, h2⟩ := ow i hi
    rw [setAll_out h1]; exact (r.held p hp).2.2 i h2
theorem Rel.hold (r : Rel K F S σ H) {D : Addr} {acc : List V} (h : H D = some (.lst acc)) (h0 : F.H0 D = none) (hu : ∀ i, Owned S i → σ[i]? ≠ some (some (.ref D))) : Rel K (F.blk D acc) S σ H := by
  refine ⟨r.len, r.slot, r.apart, r.keep, r.there, r.tabs, r.self, fun p hp => ?_⟩
  rcases List.mem_cons.mp hp with e | hp
  · subst e; exact ⟨⟨h, trivial⟩, h0, hu⟩
  · exact r.held p hp
theorem Rel.unhold {D : Addr} {acc : List V} (r : Rel K (F.blk D acc) S σ H) : Rel K F S σ H :=
  ⟨r.len, r.slot, r.apart, r.keep, r.there, r.tabs, r.self, fun p hp => r.held p (List.mem_cons_of_mem _ hp)⟩
/-- behind a block -/
theorem Rel.rest (r0 : Rel K F S σ H) (r : Rel K F S2 σ2 H2) (p : Pers H H2) (hw : wipe σ2 vs = wipe σ vs) : Rel K F (restS S S2 vs) σ H2 := by
  have len : σ2.length = σ.length := by
    have := congrArg List.length hw
    rw [wipe_length, wipe_length] at this; exact this
  have out : ∀ j, j ∉ vs → σ2[j]? = σ[j]? := fun j hj => by
    have := congrArg (fun l : Sl => l[j]?) hw
    simp only [wipe_eq] at this
    rw [setAll_out hj, setAll_out hj] at this; exact this
  have ow : ∀ j, Owned (restS S S2 vs) j → j ∉ vs ∧ Owned S2 j := fun j ⟨ob, h⟩ => by
    rcases h with h | h
    · rcases setAll_some h with ⟨h1, h2⟩ | ⟨_, _, h2⟩
      · exact ⟨h1, ob, .inl h2⟩
      · obtain ⟨d, e, _⟩ := keepD_some h2; cases e
    · rcases setAll_some h with ⟨h1, h2⟩ | ⟨_, _, h2⟩
      · exact ⟨h1, ob, .inr h2⟩
      · obtain ⟨d, e, _⟩ := keepD_some h2; cases e
  refine ⟨by unfold restS; rw [setAll_length, r.len, len], fun j sv h => ?_, fun i j a ne hi hj => ?_, r.keep, r.there, r.tabs, r.self, fun q hq => ⟨(r.held q hq).1, (r.held q hq).2.1, fun i hi => ?_⟩⟩
  · rcases setAll_some h with ⟨h1, h2⟩ | ⟨h1, hl, h2⟩
    · rw [← out j h1]; exact r.slot j sv h2
    · obtain ⟨d, rfl, e⟩ := keepD_some h2
      have e2 : S[j]? = some (some (.d d)) := by
        rw [List.getD_eq_getElem?_getD] at e
        cases q : S[j]? with
        | none => rw [q] at e; cases e
        | some o => rw [q] at e; simp only [Option.getD_some] at e; rw [e]
      obtain ⟨x, ex, v⟩ := r0.slot j _ e2
      exact ⟨x, ex, Pd.mono p v⟩
  · obtain ⟨h1, h2⟩ := ow i hi
    obtain ⟨h3, h4⟩ := ow j hj
    rw [← out i h1, ← out j h3]; exact r.apart i j a ne h2 h4
  · obtain ⟨h1, h2⟩ := ow i hi
    rw [← out i h1]; exact (r.held q hq).2.2 i h2
end
/-- tests of a comprehension -/
abbrev ETs (X : Cx) (F : Fx) (ifs : List Expr) (f : FS → Res Bool) : Prop := PTs X ifs (rdT X.K F f)
theorem ts_nil {X : Cx} {F : Fx} : ETs X F [] (fC true) := ⟨fun pins s σ H Q I ⟨S, r, p⟩ => pts_nil.run pins s σ H Q I (p.ok r)⟩
theorem ts_one {X : Cx} {F : Fx} {c : Expr} {f : FS → Res Bool} (h : ET X F c f) : ETs X F [c] f := pts_one h
/-- the turns -/
def lcF (g : D → FS → Option FS) (t : FS → Res Bool) (fe : FS → Res D) (vs : List Nat) : List D → FS → List D → Res SV
  | [], S, acc => .ok (.own (.lst acc)) S
  | d :: ds, S, acc => match g d (wipeS S vs) with
    | none => .bad
    | some S1 => match t S1 with
      | .ok false S2 => lcF g t fe vs ds (restS S S2 vs) acc
      | .ok true S2 => (match fe S2 with
        | .ok y S3 => if acc.length < sizeLine then lcF g t fe vs ds (restS S S3 vs) (acc ++ [y]) else .bad
        | _ => .bad)
      | _ => .bad
def fLc (it : FS → Res (List D)) (g : D → FS → Option FS) (t : FS → Res Bool) (fe : FS → Res D) (vs : List Nat) : FS → Res SV := bnd it fun ds S => lcF g t fe vs ds S []
section
variable {X : Cx} {F : Fx} {elt tg iter : Expr} {ifs : List Expr} {scope : Scope} {own : List (Str × Nat)} {pos : Pos} {it : FS → Res (List D)} {g : D → FS → Option FS} {t : FS → Res Bool} {fe : FS → Res D} {ts : List Nat}
/-- the parts by their readings for every held list: joined -/
def jTG (K : Fg) (F : Fx) (ts : List Nat) (g : D → FS → Option FS) : TG := fun v σ H Q => ∃ D acc, rdTG K (F.blk D acc) ts g v σ H Q
def jT (K : Fg) (F : Fx) (t : FS → Res Bool) : TT := fun σ H Q => ∃ D acc, rdT K (F.blk D acc) t σ H Q
def jE (K : Fg) (F : Fx) (f : FS → Res D) : TE := fun σ H Q => ∃ D acc, rdG K (F.blk D acc) PR f σ H Q
theorem jG_ok {X : Cx} {e : Expr} (h : ∀ D acc, EG X (F.blk D acc) e ts g) : PG X e (jTG X.K F ts g) := ⟨fun pins s σ H v u Q I r ⟨D, acc, q⟩ => (h D acc).run pins s σ H v u Q I r q⟩
theorem jT_ok {X : Cx} {e : List Expr} (h : ∀ D acc, ETs X (F.blk D acc) e t) : PTs X e (jT X.K F t) := ⟨fun pins s σ H Q I ⟨D, acc, q⟩ => (h D acc).run pins s σ H Q I q⟩
theorem jE_ok {X : Cx} {e : Expr} (h : ∀ D acc, ED X (F.blk D acc) e fe) : PE X e (jE X.K F fe) := ⟨fun pins s σ H Q I ⟨D, acc, q⟩ => (h D acc).run pins s σ H Q I q⟩
theorem lc_read {vs : List Nat} (hts : ∀ j, j ∈ ts → j ∈ vs) {σ : Sl} {H : Hp} {Q : VK} (h : rdG X.K F VR (fLc it g t fe vs) σ H Q) : tLc (rdI X.K F it) (jTG X.K F ts g) (jT X.K F t) (jE X.K F fe) vs σ H Q := by
  obtain ⟨S, r, p⟩ := h
  refine ⟨S, r, ?_⟩
  unfold fLc bnd at p
  cases e : it S with
  | exn e2 S1 => rw [e] at p; exact p
  | bad => rw [e] at p; exact p
  | ok ds S1 =>
    rw [e] at p
    simp only [Res.bind_ok] at p
    intro J H1 p1 r1 y D hD
    have d0 : F.H0 D = none := r1.none0 hD
    have nh : ∀ q ∈ F.held, q.1 ≠ D := fun q hq e => by obtain ⟨⟨z, _⟩, _⟩ := r1.held q hq; rw [e, hD] at z; cases z
    refine ⟨fun i m H => ∃ S vsA acc, Rel X.K F S σ H ∧ Pers H1 H ∧ m = ds.length - i ∧ i ≤ ds.length ∧ H D = some (.lst vsA) ∧ PdAll X.K H vsA acc ∧ (∀ i, Owned S i → σ[i]? ≠ some (some (.ref D))) ∧ postG X.K F VR (lcF g t fe vs (ds.drop i) S acc) σ H Q,
      ⟨ds.length, S1, [], [], r1.new hD, Pers.new hD, rfl, Nat.zero_le _, upd_same, .nil, fun j hj => r1.unslot hD hj, postG.later (p1.trans (Pers.new hD)) p⟩, ?_⟩
    rintro i m H ⟨S, vsA, acc, r, pH, rfl, hi, hDl, hA, hu, p⟩
    by_cases hl : i < ds.length
    · refine .inr ⟨y.go i H pH hl, fun H' => ∃ S vsA acc, Rel X.K F S σ H' ∧ Pers H1 H' ∧ H' D = some (.lst vsA) ∧ PdAll X.K H' vsA acc ∧ (∀ i, Owned S i → σ[i]? ≠ some (some (.ref D))) ∧ postG X.K F VR (lcF g t fe vs (ds.drop (i + 1)) S acc) σ H' Q,
        fun H' ⟨S, vsA, acc, a1, a2, a3, a4, a5, a6⟩ => ⟨ds.length - (i + 1), by omega, S, vsA, acc, a1, a2, rfl, hl, a3, a4, a5, a6⟩, fun x H' hy => ?_⟩
      obtain ⟨p2, k2, v2⟩ := y.yld i H x H' ds[i] pH (List.getElem?_eq_getElem hl) hy
      rw [List.drop_eq_getElem_cons hl] at p
      simp only [lcF] at p
      have rb : Rel X.K (F.blk D vsA) S σ H := r.hold hDl d0 hu
      have rb2 : Rel X.K (F.blk D vsA) S σ H' := k2 _ _ _ rb
      have rw2 := rb2.wiped (vs := vs)
      refine ⟨D, vsA, wipeS S vs, ds[i], rw2, v2, ?_⟩
      cases e2 : g ds[i] (wipeS S vs) with
      | none => rw [e2] at p; exact p
      | some S1 =>
        rw [e2] at p
        simp only at p
        intro σ3 H3 p3 r3 b3
        have hw3 : wipe σ3 vs = wipe σ vs := by
          apply List.ext_getElem?
          intro j
          by_cases hj : j ∈ vs
          · have l1 : (wipe σ3 vs).length = (wipe σ vs).length := by rw [wipe_length, b3.1]
            by_cases hl2 : j < σ.length
            · rw [wipe_eq, wipe_eq, setAll_in hj (by rw [b3.1, wipe_length]; exact hl2), setAll_in hj hl2]
            · rw [List.getElem?_eq_none (by rw [l1, wipe_length]; omega), List.getElem?_eq_none (by rw [wipe_length]; omega)]
          · rw [wipe_eq, setAll_out hj, b3.2 j (fun z => hj (hts j z)), wipe_eq]
        refine ⟨hw3, D, vsA, S1, r3, ?_⟩
        have pH3 : Pers H1 H3 := (pH.trans p2).trans p3
        cases e3 : t S1 with
        | exn e4 S2 => rw [e3] at p; exact p.elim
        | bad => rw [e3] at p; exact p
        | ok k S2 =>
          rw [e3] at p
          intro H4 p4 r4
          have pH4 := pH3.trans p4
          have pp4 : Pers H H4 := (p2.trans p3).trans p4
          cases k with
          | false =>
            rw [if_neg Bool.false_ne_true]
            have rr := r.rest r4.unhold pp4 hw3
            have h4 := r4.held (D, .lst vsA) (List.mem_cons_self ..)
            refine ⟨_, vsA, acc, rr, pH4, h4.1.1, hA.mono pp4, fun j hj => ?_, postG.later pp4 p⟩
            obtain ⟨ob, hj⟩ := hj
            have : j ∉ vs ∧ Owned S2 j := by
              rcases hj with h | h
              · rcases setAll_some h with ⟨h1, h2⟩ | ⟨_, _, h2⟩
                · exact ⟨h1, ob, .inl h2⟩
                · obtain ⟨d, e, _⟩ := keepD_some h2; cases e
              · rcases setAll_some h with ⟨h1, h2⟩ | ⟨_, _, h2⟩
                · exact ⟨h1, ob, .inr h2⟩
                · obtain ⟨d, e, _⟩ := keepD_some h2; cases e
            have q := h4.2.2 j this.2
            have out : σ3[j]? = σ[j]? := by rw [b3.2 j (fun z => this.1 (hts j z)), wipe_eq, setAll_out this.1]
            rw [← out]; exact q
          | true =>
            rw [if_pos rfl]
            refine ⟨D, vsA, S2, r4, ?_⟩
            simp only at p
            cases e5 : fe S2 with
            | exn e6 S3 => rw [e5] at p; exact p.elim
            | bad => rw [e5] at p; exact p
            | ok yd S3 =>
              rw [e5] at p
              simp only at p
              intro yv H5 p5 r5 v5
              have pp5 : Pers H H5 := pp4.trans p5
              have h5 := r5.held (D, .lst vsA) (List.mem_cons_self ..)
              have rr := r.rest r5.unhold pp5 hw3
              have hu5 : ∀ j, Owned (restS S S3 vs) j → σ[j]? ≠ some (some (.ref D)) := fun j hj => by
                obtain ⟨ob, hj⟩ := hj
                have : j ∉ vs ∧ Owned S3 j := by
                  rcases hj with h | h
                  · rcases setAll_some h with ⟨h1, h2⟩ | ⟨_, _, h2⟩
                    · exact ⟨h1, ob, .inl h2⟩
                    · obtain ⟨d, e, _⟩ := keepD_some h2; cases e
                  · rcases setAll_some h with ⟨h1, h2⟩ | ⟨_, _, h2⟩
                    · exact ⟨h1, ob, .inr h2⟩
                    · obtain ⟨d, e, _⟩ := keepD_some h2; cases e
                have q := h5.2.2 j this.2
                have out : σ3[j]? = σ[j]? := by rw [b3.2 j (fun z => this.1 (hts j z)), wipe_eq, setAll_out this.1]
                rw [← out]; exact q
              by_cases hz : acc.length < sizeLine
              · rw [if_pos hz] at p
                have hm : Mut (H5 D) := by rw [h5.1.1]; trivial
                have p6 : Pers H5 (upd H5 D (.lst (vsA ++ [yv]))) := Pers.put (.inl hm)
                have r6 : Rel X.K F (restS S S3 vs) σ (upd H5 D (.lst (vsA ++ [yv]))) := rr.put (.inl hm) (.inl d0) nh rfl (fun j sv e => .inl ⟨e, hu5 j⟩) fun j h => h
                exact ⟨vsA, h5.1.1, by rw [hA.length]; exact hz, _, _, acc ++ [yd], r6, (pH4.trans p5).trans p6, upd_same, ((hA.mono pp5).mono p6).append (.cons (Pd.mono p6 v5) .nil), hu5, postG.later (pp5.trans p6) p⟩
              · rw [if_neg hz] at p; exact p.elim
    · have e : i = ds.length := by omega
      subst e
      rw [List.drop_length] at p
      exact .inl ⟨y.stop H pH, p _ H (.refl H) r ⟨D, rfl, ⟨vsA, hDl, hA⟩, d0, hu, nh⟩⟩
theorem e_lc (hc : X.calm = true) (hN : X.N.Nodup) (hi : EI X F tg iter it) (ok : BlkOk X.N X.env.scope scope own) (hts : ∀ j, j ∈ ts → j ∈ own.map (·.2))
    (hg : ∀ (s : Shared) (H : Hp) (C : Addr) (cl : List (Str × Addr)) (fp : List Addr) (D : Addr) (acc : List V), EG (X.blk s H scope (compEnvC scope cl C X.env) fp) (F.blk D acc) tg ts g)
    (ht : ∀ (s : Shared) (H : Hp) (C : Addr) (cl : List (Str × Addr)) (fp : List Addr) (D : Addr) (acc : List V), ETs (X.blk s H scope (compEnvC scope cl C X.env) fp) (F.blk D acc) ifs t)
    (he : ∀ (s : Shared) (H : Hp) (C : Addr) (cl : List (Str × Addr)) (fp : List Addr) (D : Addr) (acc : List V), ED (X.blk s H scope (compEnvC scope cl C X.env) fp) (F.blk D acc) elt fe)
    (hs : ∀ x, foldedSetIterable iter X.env x = pure x := by intro _; rfl) : EV X F (.ListComp elt [⟨tg, iter, ifs, 0⟩] scope pos) (fLc it g t fe (own.map (·.2))) :=
  (pe_lc hc hN hi ok (fun s H C cl fp => jG_ok (F := F) (hg s H C cl fp)) (fun s H C cl fp => jT_ok (F := F) (ht s H C cl fp)) (fun s H C cl fp => jE_ok (F := F) (he s H C cl fp)) hs).via fun σ H Q h => lc_read hts h
theorem s_setLc {i : Nat} {y : Str} {py spos : Pos} (hc : X.calm = true) (hN : X.N.Nodup) (hy : X.N[i]? = some y) (hyl : X.env.scope.names.lookup y = some .local)
    (hsw : swapsWith (.ListComp elt [⟨tg, iter, ifs, 0⟩] scope pos) (some (.Name y py)) spos.line X.env = pure true) (hi : EI X F tg iter it) (ok : BlkOk X.N X.env.scope scope own) (hts : ∀ j, j ∈ ts → j ∈ own.map (·.2))
    (hg : ∀ (s : Shared) (H : Hp) (C : Addr) (cl : List (Str × Addr)) (fp : List Addr) (D : Addr) (acc : List V), EG (X.blk s H scope (compEnvC scope cl C X.env) fp) (F.blk D acc) tg ts g)
    (ht : ∀ (s : Shared) (H : Hp) (C : Addr) (cl : List (Str × Addr)) (fp : List Addr) (D : Addr) (acc : List V), ETs (X.blk s H scope (compEnvC scope cl C X.env) fp) (F.blk D acc) ifs t)
    (he : ∀ (s : Shared) (H : Hp) (C : Addr) (cl : List (Str × Addr)) (fp : List Addr) (D : Addr) (acc : List V), ED (X.blk s H scope (compEnvC scope cl C X.env) fp) (F.blk D acc) elt fe)
    (hs : ∀ x, foldedSetIterable iter X.env x = pure x := by intro _; rfl) : ES X F (.Assign [.Name y py] (.ListComp elt [⟨tg, iter, ifs, 0⟩] scope pos) spos) (fSet i (fLc it g t fe (own.map (·.2)))) :=
  (ps_setLc hc hN hy hyl hsw hi ok (fun s H C cl fp => jG_ok (F := F) (hg s H C cl fp)) (fun s H C cl fp => jT_ok (F := F) (ht s H C cl fp)) (fun s H C cl fp => jE_ok (F := F) (he s H C cl fp)) hs).via fun D σ H h =>
    lc_read hts ((rdG.bindS h).imp fun x H1 ⟨d, S1, r, v, p, q⟩ => q _ H1 (.refl H1) (r.setV v))
end
end Fz
end

section
set_option Elab.async false
set_option linter.all false
set_option maxRecDepth 100000
set_option maxHeartbeats 4000000
/-! F7: defs and their calls. -/
namespace Fz
open PySem PySem.Spec PyProof.Rows L2
inductive CRes where
  | ok (v : SV) (args : List SV)
  | exn (e : Exn) (args : List SV)
  | bad
abbrev Den := List SV → CRes
/-- room, and no object is being shown -/
structure RoomG (k : Nat) (A : Around) : Prop where
  rm : Room k A
  gd : A.guards = some []
theorem RoomG.mono {j k : Nat} {A : Around} (r : RoomG k A) (h : j ≤ k) : RoomG j A := ⟨r.rm.mono h, r.gd⟩
theorem RoomG.deeper {k : Nat} {A : Around} (r : RoomG (k + 1) A) (env : Env) : RoomG k (A.deeper env) := ⟨r.rm.deeper env, r.gd⟩
/-- x is a function that keeps all and answers g, from now on, in each frame below -/
def CloOk (P : Program) (w : World) (K : Fg) (mg : Str → Option Value) (base : Heap) (T : List Addr) (H : Hp) (x : V) (k : Nat) (g : FnD) : Prop :=
  ∃ (f : Addr) (oc : Value) (od : Option Addr) (fd : FuncData) (sl : Array (Option Value)) (u : HO), x = .ref f ∧ H f = some (.frz ⟨oc, od, .func fd, sl⟩ u) ∧
    ∀ H1, Pers H H1 → ∀ (A : Around) (outer : List Env) (s : Shared) (us : List Value) (vs : List V) (ds : List D) (d : D) (Q : VK) (E : XK), RoomG k A → Env0 P w K mg base A outer s H1 → (∀ P ∈ T, TabOk H1 P) → Vals vs us → PdAll K H1 vs ds → g ds = some d →
      (∀ y H2, Pers H1 H2 → (∀ a o, H1 a = some o → isTbl o = false → H2 a = some o) → (∀ a o, H1 a = some o → ∃ u, H2 a = some u) → (∀ P ∈ T, TabOk H2 P) → Pd K H2 y d → Q y H2) → codeAny (model P w) A (.call (.ref f) ⟨us, []⟩) (CR CX0 outer P w H1 s Q E) s
/-- the words of a function that a frame makes -/
structure FnT where
  name : Str
  params : Arguments
  body : FuncBody
  scope : Scope
/-- a function that a frame with these cells has made -/
def fnG (t : FnT) (qual : Str) (cl : List (Str × Addr)) (pm cdv ct doc : Value) : FuncData :=
  { name := t.name, qualname := qual, params := t.params, body := t.body, scope := t.scope, globals := mainGlobals, closure := cl, closureTuple := ct, code := cdv, builtins := builtinsNs, defaults := .none, kwdefaults := .none, annotations := none, pyModule := pm, doc := doc }
def FnMade (cells : List (Str × Addr)) (t : FnT) (H : Hp) (x : V) : Prop :=
  ∃ (f : Addr) (qual : Str) (pm cdv ct doc : Value) (u : HO), x = .ref f ∧ H f = some (.frz { cls := .type "function", data := .func (fnG t qual (cloFrom cells t.scope.names []) pm cdv ct doc) } u) ∧ CodeG H cdv ∧ ∀ xs, u ≠ .lst xs
theorem FnMade.later {cells : List (Str × Addr)} {t : FnT} {H H' : Hp} {x : V} (h : FnMade cells t H x) (p : Pers H H') : FnMade cells t H' x :=
  let ⟨f, qual, pm, cdv, ct, doc, u, h1, h2, h3, h4⟩ := h; ⟨f, qual, pm, cdv, ct, doc, u, h1, p.frz _ _ _ h2, h3.later p, h4⟩
/-- x is the j-th function of those that the frame with these cells makes -/
def LocOk (cells : List (Str × Addr)) (nfs : List FnT) (H : Hp) (x : V) (j : Nat) : Prop := ∃ t, nfs[j]? = some t ∧ FnMade cells t H x
def cloX (P : Program) (w : World) (K : Fg) (mg : Str → Option Value) (base : Heap) (T : List Addr) (cells : List (Str × Addr)) (nfs : List FnT) : ClX where
  clo := CloOk P w K mg base T
  cloM := fun p ⟨f, oc, od, fd, sl, u, h1, h2, h3⟩ => ⟨f, oc, od, fd, sl, u, h1, p.frz _ _ _ h2, fun H1 q => h3 H1 (p.trans q)⟩
  loc := LocOk cells nfs
  locM := fun p ⟨t, h1, h2⟩ => ⟨t, h1, h2.later p⟩
  self := fun _ => True
  selfM := fun _ _ => trivial
abbrev CloR := Hp → V → Nat → FnD → Prop
def ArgR (K : Fg) (w : World) (c : CloR) (H : Hp) (x : V) : SV → Prop
  | .d d => Pd K H x d
  | .pin ob => ∃ a, x = .ref a ∧ ObR K w H a ob
  | .own _ => False
  | .x (.fn k g) => c H x k g
  | .x _ => False
def PinIx (svs : List SV) (i : Nat) : Prop := ∃ ob, svs[i]? = some (.pin ob)
structure ArgsR (K : Fg) (w : World) (c : CloR) (H : Hp) (vs : List V) (svs : List SV) : Prop where
  len : vs.length = svs.length
  get : ∀ (i : Nat) (sv : SV), svs[i]? = some sv → ∃ x, vs[i]? = some x ∧ ArgR K w c H x sv
  apart : ∀ (i j : Nat) (a : Addr), i ≠ j → PinIx svs i → PinIx svs j → vs[i]? = some (.ref a) → vs[j]? ≠ some (.ref a)
def PinAd (vs : List V) (svs : List SV) (a : Addr) : Prop := ∃ i, PinIx svs i ∧ vs[i]? = some (.ref a)
/-- what a call leaves -/
structure Left (K : Fg) (w : World) (T : List Addr) (vs : List V) (svs svs' : List SV) (H H' : Hp) : Prop where
  pers : Pers H H'
  keep : ∀ a o, H a = some o → ¬ PinAd vs svs a → isTbl o = false → H' a = some o
  there : ∀ a o, H a = some o → ∃ u, H' a = some u
  tabs : ∀ P ∈ T, TabOk H' P
  args : ∀ (i : Nat) (ob : Ob) (a : Addr), svs'[i]? = some (.pin ob) → vs[i]? = some (.ref a) → ObR K w H' a ob
def RetR (K : Fg) (w : World) (H H' : Hp) (x : V) : SV → Prop
  | .d d => Pd K H' x d
  | .own ob => ∃ a, x = .ref a ∧ ObR K w H' a ob ∧ H a = none
  | .pin _ => False
  | .x _ => False
def spF (K : Fg) (w : World) (c : CloR) (T : List Addr) (n : Nat) (den : Den) : Sp := fun vs H Q E => ∃ svs, svs.length = n ∧ ArgsR K w c H vs svs ∧ (∀ P ∈ T, TabOk H P) ∧ match den svs with
  | .ok ret svs' => ∀ x H', Left K w T vs svs svs' H H' → RetR K w H H' x ret → Q x H'
  | .exn e svs' => ∀ c dx H', Left K w T vs svs svs' H H' → ExR K H' e c dx → E c dx H'
  | .bad => False
abbrev spG (P : Program) (w : World) (K : Fg) (mg : Str → Option Value) (base : Heap) (T : List Addr) (n : Nat) (den : Den) : Sp := spF K w (CloOk P w K mg base T) T n den
/-! ### a body's den as a def's -/
/-- the pinned arguments as they stand at the end -/
def pinsAt : List SV → FS → Option (List SV)
  | [], _ => some []
  | .pin _ :: r, some (.pin ob) :: S => (pinsAt r S).map (.pin ob :: ·)
  | .pin _ :: _, _ => none
  | sv :: r, _ :: S => (pinsAt r S).map (sv :: ·)
  | _ :: _, [] => none
def startS (n : Nat) (svs : List SV) : FS := svs.map some ++ List.replicate (n - svs.length) none
def denOf (n : Nat) (body : FS → SRes) : Den := fun svs => match body (startS n svs) with
  | .rt v S => (match pinsAt svs S with
    | some svs' => .ok v svs'
    | none => .bad)
  | .nx S => (match pinsAt svs S with
    | some svs' => .ok (.d .none) svs'
    | none => .bad)
  | .exn e S => (match pinsAt svs S with
    | some svs' => .exn e svs'
    | none => .bad)
  | _ => .bad
def pinL : Nat → List V → List SV → List (Nat × Addr)
  | i, .ref a :: vs, .pin _ :: svs => (i, a) :: pinL (i + 1) vs svs
  | i, _ :: vs, _ :: svs => pinL (i + 1) vs svs
  | _, _, _ => []
theorem mem_pinL {j : Nat} {a : Addr} : ∀ {i : Nat} {vs : List V} {svs : List SV}, (j, a) ∈ pinL i vs svs ↔ i ≤ j ∧ (∃ ob, svs[j - i]? = some (.pin ob)) ∧ vs[j - i]? = some (.ref a)
  | i, [], svs => by cases svs <;> simp [pinL]
  | i, v :: vs, [] => by cases v <;> simp [pinL]
  | i, v :: vs, sv :: svs => by
    have step : (j, a) ∈ pinL (i + 1) vs svs ↔ i + 1 ≤ j ∧ (∃ ob, (sv :: svs)[j - i]? = some (.pin ob)) ∧ (v :: vs)[j - i]? = some (.ref a) := by
      rw [mem_pinL (i := i + 1)]
      constructor
      · rintro ⟨h1, h2, h3⟩
        have e : j - i = (j - (i + 1)) + 1 := by omega
        exact ⟨h1, by rw [e]; simpa using h2, by rw [e]; simpa using h3⟩
      · rintro ⟨h1, h2, h3⟩
        have e : j - i = (j - (i + 1)) + 1 := by omega
        rw [e] at h2 h3
        exact ⟨h1, by simpa using h2, by simpa using h3⟩
    have here : ∀ {P : Prop}, (i ≤ j → i ≠ j → P) → (i + 1 ≤ j → P) := fun h q => h (by omega) (by omega)
    cases sv with
    | pin ob =>
      cases v with
      | ref b =>
        simp only [pinL, List.mem_cons, Prod.mk.injEq]
        constructor
        · rintro (⟨rfl, rfl⟩ | h)
          · exact ⟨Nat.le_refl _, ⟨ob, by simp⟩, by simp⟩
          · obtain ⟨h1, h2, h3⟩ := step.mp h
            exact ⟨by omega, h2, h3⟩
        · rintro ⟨h1, h2, h3⟩
          by_cases e : j = i
          · subst e
            simp at h3
            exact .inl ⟨rfl, h3.symm⟩
          · exact .inr (step.mpr ⟨by omega, h2, h3⟩)
      | _ =>
        simp only [pinL]
        rw [step]
        constructor
        · rintro ⟨h1, h2, h3⟩; exact ⟨by omega, h2, h3⟩
        · rintro ⟨h1, h2, h3⟩
          refine ⟨?_, h2, h3⟩
          by_cases e : j = i
          · subst e; simp at h3
          · omega
    | d x =>
      have e0 : pinL i (v :: vs) (.d x :: svs) = pinL (i + 1) vs svs := by cases v <;> rfl
      rw [e0, step]
      constructor
      · rintro ⟨h1, h2, h3⟩; exact ⟨by omega, h2, h3⟩
      · rintro ⟨h1, h2, h3⟩
        refine ⟨?_, h2, h3⟩
        by_cases e : j = i
        · subst e; simp at h2
        · omega
    | x x =>
      have e0 : pinL i (v :: vs) (.x x :: svs) = pinL (i + 1) vs svs := by cases v <;> rfl
      rw [e0, step]
      constructor
      · rintro ⟨h1, h2, h3⟩; exact ⟨by omega, h2, h3⟩
      · rintro ⟨h1, h2, h3⟩
        refine ⟨?_, h2, h3⟩
        by_cases e : j = i
        · subst e; simp at h2
        · omega
    | own x =>
      have e0 : pinL i (v :: vs) (.own x :: svs) = pinL (i + 1) vs svs := by cases v <;> rfl
      rw [e0, step]
      constructor
      · rintro ⟨h1, h2, h3⟩; exact ⟨by omega, h2, h3⟩
      · rintro ⟨h1, h2, h3⟩
        refine ⟨?_, h2, h3⟩
        by_cases e : j = i
        · subst e; simp at h2
        · omega
theorem pinsAt_get : ∀ {svs : List SV} {S : FS} {svs' : List SV} {i : Nat} {ob : Ob}, pinsAt svs S = some svs' → svs'[i]? = some (.pin ob) → S[i]? = some (some (.pin ob)) ∧ PinIx svs i
  | [], S, svs', i, ob, h, e => by simp [pinsAt] at h; subst h; simp at e
  | .pin o :: r, [], svs', i, ob, h, e => by simp [pinsAt] at h
  | .pin o :: r, none :: S, svs', i, ob, h, e => by simp [pinsAt] at h
  | .pin o :: r, some (.d d) :: S, svs', i, ob, h, e => by simp [pinsAt] at h
  | .pin o :: r, some (.own d) :: S, svs', i, ob, h, e => by simp [pinsAt] at h
  | .pin o :: r, some (.x d) :: S, svs', i, ob, h, e => by simp [pinsAt] at h
  | .pin o :: r, some (.pin o2) :: S, svs', i, ob, h, e => by
    simp only [pinsAt, Option.map_eq_some_iff] at h
    obtain ⟨t, h1, rfl⟩ := h
    cases i with
    | zero => simp at e; subst e; exact ⟨by simp, o, by simp⟩
    | succ i =>
      obtain ⟨h2, o3, h3⟩ := pinsAt_get (i := i) h1 (by simpa using e)
      exact ⟨by simpa using h2, o3, by simpa using h3⟩
  | .d d :: r, [], svs', i, ob, h, e => by simp [pinsAt] at h
  | .own d :: r, [], svs', i, ob, h, e => by simp [pinsAt] at h
  | .x d :: r, [], svs', i, ob, h, e => by simp [pinsAt] at h
  | .x d :: r, s0 :: S, svs', i, ob, h, e => by
    simp only [pinsAt, Option.map_eq_some_iff] at h
    obtain ⟨t, h1, rfl⟩ := h
    cases i with
    | zero => simp at e
    | succ i =>
      obtain ⟨h2, o3, h3⟩ := pinsAt_get (i := i) h1 (by simpa using e)
      exact ⟨by simpa using h2, o3, by simpa using h3⟩
  | .d d :: r, s0 :: S, svs', i, ob, h, e => by
    simp only [pinsAt, Option.map_eq_some_iff] at h
    obtain ⟨t, h1, rfl⟩ := h
    cases i with
    | zero => simp at e
    | succ i =>
      obtain ⟨h2, o3, h3⟩ := pinsAt_get (i := i) h1 (by simpa using e)
      exact ⟨by simpa using h2, o3, by simpa using h3⟩
  | .own d :: r, s0 :: S, svs', i, ob, h, e => by
    simp only [pinsAt, Option.map_eq_some_iff] at h
    obtain ⟨t, h1, rfl⟩ := h
    cases i with
    | zero => simp at e
    | succ i =>
      obtain ⟨h2, o3, h3⟩ := pinsAt_get (i := i) h1 (by simpa using e)
      exact ⟨by simpa using h2, o3, by simpa using h3⟩
section
variable {K : Fg} {w : World} {c : ClX} {T : List Addr} {N : List Str} {vs : List V} {svs : List SV} {H : Hp}
theorem startS_get {n i : Nat} {sv : SV} (h : (startS n svs)[i]? = some (some sv)) : svs[i]? = some sv := by
  unfold startS at h
  by_cases hi : i < svs.length
  · rw [List.getElem?_append_left (by simpa using hi), List.getElem?_map] at h
    cases e : svs[i]? with
    | none => rw [e] at h; cases h
    | some x => rw [e] at h; simpa using h
  · rw [List.getElem?_append_right (by simpa using hi)] at h
    rw [List.getElem?_replicate] at h
    split at h <;> cases h
theorem start_get {i : Nat} {x : V} (h : vs[i]? = some x) : (L2.start N vs)[i]? = some (some x) := by
  unfold L2.start
  have hi : i < vs.length := (List.getElem?_eq_some_iff.mp h).1
  rw [List.getElem?_append_left (by simpa using hi), List.getElem?_map, h]
  rfl
theorem rel_start (hl : svs.length ≤ N.length) (a : ArgsR K w c.clo H vs svs) (ht : ∀ P ∈ T, TabOk H P) (hself : c.self H) (E : XK) : Rel K ⟨H, pinL 0 vs svs, T, [], E, w, c⟩ (startS N.length svs) (L2.start N vs) H where
  len := by
    unfold startS L2.start
    simp only [List.length_append, List.length_map, List.length_replicate]
    rw [a.len]
  slot := fun i sv h => by
    have h2 := startS_get h
    obtain ⟨x, ex, ar⟩ := a.get i sv h2
    refine ⟨x, start_get ex, ?_⟩
    cases sv with
    | d d => exact ar
    | own ob => exact ar.elim
    | pin ob =>
      obtain ⟨b, rfl, q⟩ := ar
      exact ⟨b, rfl, q, mem_pinL.mpr ⟨Nat.zero_le _, ⟨ob, h2⟩, ex⟩⟩
    | x e =>
      cases e with
      | ro ob => exact ar.elim
      | fn k g => exact ar
      | loc j => exact ar.elim
  apart := fun i j b ne ⟨o1, h1⟩ ⟨o2, h2⟩ e1 e2 => by
    have k : ∀ {i o}, (startS N.length svs)[i]? = some (some (.own o)) ∨ (startS N.length svs)[i]? = some (some (.pin o)) → PinIx svs i := fun {i o} h => by
      rcases h with h | h
      · obtain ⟨x, _, ar⟩ := a.get i _ (startS_get h); exact ar.elim
      · exact ⟨o, startS_get h⟩
    have p1 := k h1
    have p2 := k h2
    have back : ∀ {i}, PinIx svs i → (L2.start N vs)[i]? = some (some (.ref b)) → vs[i]? = some (.ref b) := fun {i} ⟨o, h⟩ e => by
      obtain ⟨x, ex, _⟩ := a.get i _ h
      rw [start_get ex] at e
      cases e; exact ex
    exact a.apart i j b ne p1 p2 (back p1 e1) (back p2 e2)
  keep := fun _ _ e _ _ => e
  there := fun _ o e => ⟨o, e⟩
  tabs := ht
  self := hself
  held := fun _ h => nomatch h
/-- at a def's end -/
theorem left_of {E : XK} {S : FS} {σ : Sl} {H' : Hp} {svs' : List SV} (p : Pers H H') (r : Rel K ⟨H, pinL 0 vs svs, T, [], E, w, c⟩ S σ H') (e : pinsAt svs S = some svs') : Left K w T vs svs svs' H H' where
  pers := p
  keep := fun a o ho hn ht => r.keep a o ho (fun hm => by
    obtain ⟨⟨i, b⟩, h1, rfl⟩ := List.mem_map.mp hm
    obtain ⟨_, h2, h3⟩ := mem_pinL.mp h1
    exact hn ⟨i, h2, h3⟩) ht
  there := r.there
  tabs := r.tabs
  args := fun i ob a h1 h2 => by
    obtain ⟨h3, _⟩ := pinsAt_get e h1
    obtain ⟨x, ex, b, rfl, q, hp⟩ := r.slot i _ h3
    obtain ⟨_, _, h4⟩ := mem_pinL.mp hp
    have h5 : vs[i]? = some (.ref b) := h4
    rw [h2] at h5; cases h5; exact q
theorem ret_of {E : XK} {S : FS} {σ : Sl} {H' : Hp} {x : V} {v : SV} (h : VR K ⟨H, pinL 0 vs svs, T, [], E, w, c⟩ S σ H' x v) : RetR K w H H' x v := by
  cases v with
  | d d => exact h
  | own ob => obtain ⟨a, e, q, n, _⟩ := h; exact ⟨a, e, q, n⟩
  | pin ob => exact h.elim
  | x e => exact h.elim
end
/-- a function's promise, asked where no object is being shown -/
structure GOk (P : Program) (w : World) (K : Fg) (mg : Str → Option Value) (base : Heap) (k : Nat) (f : Addr) (fd : FuncData) (ps : List Str) (sp : Sp) : Prop where
  many : ∀ vs H Q E, sp vs H Q E → vs.length = ps.length
  go : ∀ (A : Around) (outer : List Env) (s : Shared) (H : Hp) (args : Args) (us : List Value) (vs : List V) (Q : VK) (E : XK), RoomG k A → Env0 P w K mg base A outer s H → BindsTo s fd args (ps.zip us) → Vals vs us → sp vs H Q E → codeAny (model P w) A (.call (.ref f) args) (CR CX0 outer P w H s Q E) s
/-- the body's den at the start, read -/
theorem den_read {K : Fg} {w : World} {c : ClX} {T : List Addr} {n : Nat} {fb : FS → SRes} {vs : List V} {svs : List SV} {H : Hp} {Q : VK} {E : XK} {N : List Str} (hn : N.length = n) (hl : svs.length ≤ N.length) (h2 : ArgsR K w c.clo H vs svs) (h3 : ∀ P ∈ T, TabOk H P) (hself : c.self H)
    (h4 : match denOf n fb svs with
      | .ok ret svs' => ∀ x H', Left K w T vs svs svs' H H' → RetR K w H H' x ret → Q x H'
      | .exn e svs' => ∀ c dx H', Left K w T vs svs svs' H H' → ExR K H' e c dx → E c dx H'
      | .bad => False) : rdS K ⟨H, pinL 0 vs svs, T, [], E, w, c⟩ fb { nx := fun _ H' => Q .non H', rt := Q } (L2.start N vs) H := by
  subst hn
  refine ⟨startS N.length svs, rel_start hl h2 h3 hself E, ?_⟩
  unfold denOf at h4
  cases e : fb (startS N.length svs) with
  | rt v S1 =>
    rw [e] at h4
    simp only at h4
    cases e2 : pinsAt svs S1 with
    | none => rw [e2] at h4; exact h4.elim
    | some svs' => rw [e2] at h4; exact fun x σ H' p r v => h4 x H' (left_of p r e2) (ret_of v)
  | nx S1 =>
    rw [e] at h4
    simp only at h4
    cases e2 : pinsAt svs S1 with
    | none => rw [e2] at h4; exact h4.elim
    | some svs' => rw [e2] at h4; exact fun σ H' p r => h4 .non H' (left_of p r e2) .non
  | exn e3 S1 =>
    rw [e] at h4
    simp only at h4
    cases e2 : pinsAt svs S1 with
    | none => rw [e2] at h4; exact h4.elim
    | some svs' => rw [e2] at h4; exact fun c dx σ H' p r v => h4 c dx H' (left_of p r e2) v
  | bk S1 => rw [e] at h4; exact h4.elim
  | ct S1 => rw [e] at h4; exact h4.elim
  | bad => rw [e] at h4; exact h4.elim
/-- THE RULE for a def: its body's den -/
theorem def_ok {P : Program} {w : World} {K : Fg} {mg : Str → Option Value} {base : Heap} {x qual : Str} {params : Arguments} {body : List Stmt} {scope : Scope} {f : Addr} {fd : FuncData} {N ps : List Str} {k : Nat} {T : List Addr} {fb : FS → SRes} {dvs : List V} {kws : List (Str × V)} {nfs : List FnT}
    (F : FunD K x qual params body scope dvs kws f fd) (S : FnScope N ps scope) (hl : ps.length ≤ N.length)
    (hb : ∀ (A : Around) (outer : List Env) (s : Shared) (H : Hp) (E1 : XK) (H0 : Hp) (pins : List (Nat × Addr)) (E : XK), RoomG k (A.deeper (envOfC qual scope s.heap.objs.size f fd.code)) → EB (cxOf CX0 P w K mg base N qual scope f fd.code A outer s H E1).nox ⟨H0, pins, T, [], E, w, cloX P w K mg base T (cxOf CX0 P w K mg base N qual scope f fd.code A outer s H E1).env.cells nfs⟩ body fb) :
    GOk P w K mg base (k + 1) f fd ps (spG P w K mg base T ps.length (denOf N.length fb)) := by
  obtain ⟨oc, od, dV, kV, doc, pm, an, cdv, ct, osl, rfl, lk, hcd, _, _⟩ := F.ex
  refine ⟨fun vs H Q E ⟨svs, h1, h2, _⟩ => h2.len.trans h1, fun A outer s H args us vs Q E hr e0 bt rv ⟨svs, h1, h2, h3, h4⟩ => ?_⟩
  have kin : K.In s.heap := e0.mod.kin.keeps fun a ob q => (e0.bs a ob q).1
  have nlim : s.heap.NoLimit := e0.mod.nolimit.keeps fun a ob q => (e0.bs a ob q).1
  -- the parameters are names of the def's own
  have names : ∀ y ∈ ps.zip us, scope.names.lookup y.1 = some .local ∨ (scope.names.lookup y.1 = some .cell ∧ ((cellsFrom (s.heap.objs.size + 1) scope.names []).lookup y.1).isSome = true) := fun y hy =>
    (S.par y.1 (List.of_mem_zip hy).1).imp id fun q => ⟨q, PySem.W.cellsFrom_some _ _ _ (.inl q)⟩
  refine codeAny_call_function hr.rm.depth (kin _ _ lk) rfl S.co S.gen rfl (PySem.W.codeRec_of kin hcd) (bt _ _ _ _ (wpAny_newFunctionEnv_cells S.kind names fun env he s1 x => ?_))
  subst he
  refine ⟨nlim.keeps x.toInCall.keep, codeAny_func ?_⟩
  have I := inv_start (CX := CX0) (E := E) S hr.rm.hd e0 (h2.len.trans h1) rv x
  have body_ := PSs.nox (hb A outer s H E H (pinL 0 vs svs) E (hr.deeper _))
  refine wpAny_mono (body_.run [] s1 _ H _ I (den_read rfl (by omega) h2 h3 trivial h4)) (fun fl s' q => ?_) fun _ _ q => q
  cases fl with
  | next => obtain ⟨σ2, H2, J, z⟩ := q; exact ⟨.non, H2, J.os, J.bare, J.base, J.hok, rfl, z⟩
  | ret u => obtain ⟨v, σ2, H2, J, rr, z⟩ := q; exact ⟨v, H2, J.os, J.bare, J.base, J.hok, rr, z⟩
  | brk => obtain ⟨_, _, _, z⟩ := q; exact z.elim
  | cont => obtain ⟨_, _, _, z⟩ := q; exact z.elim
/-! ### arguments: data, or a slot that is handed on -/
inductive AD where
  | d (x : D)
  | s (i : Nat)
def ADR (K : Fg) (H : Hp) (σ : Sl) (x : V) : AD → Prop
  | .d d => Pd K H x d
  | .s i => σ[i]? = some (some x)
def AS (K : Fg) (_ : Fx) (_ : FS) (σ : Sl) (H : Hp) (xs : List V) (as : List AD) : Prop := Paired (ADR K H σ) xs as
abbrev EAS (X : Cx) (F : Fx) (es : List Expr) (f : FS → Res (List AD)) : Prop := PA X es (rdG X.K F AS f)
abbrev EKS (X : Cx) (F : Fx) (es : List Keyword) (f : FS → Res (List AD)) : Prop := PK X es (rdG X.K F AS f)
theorem _root_.L2.PK.via {X : Cx} {e : List Keyword} {t t' : TA} (h : PK X e t) (hw : ∀ σ H Q, t' σ H Q → t σ H Q) : PK X e t' := ⟨fun p pins s σ H Q I q => h.run p pins s σ H Q I (hw σ H Q q)⟩
def fAD (f : FS → Res D) (g : FS → Res (List AD)) : FS → Res (List AD) := bnd f fun d => bnd g fun ds => fC (.d d :: ds)
def fAS (i : Nat) (g : FS → Res (List AD)) : FS → Res (List AD) := fun S => match S[i]? with
  | some (some _) => bnd g (fun ds => fC (.s i :: ds)) S
  | _ => .bad
section
variable {X : Cx} {F : Fx} {e : Expr} {es : List Expr} {f : FS → Res D} {g : FS → Res (List AD)} {pos kpos p : Pos} {kws : List Keyword} {nm : Option Str}
theorem as_nil : EAS X F [] (fC []) := pa_nil.via fun _ _ _ ⟨_, r, p⟩ => p.ok r .nil
theorem tConsD_of {t : TA} {σ : Sl} {H : Hp} {Q : List V → Hp → Prop} (ht : ∀ Q, rdG X.K F AS g σ H Q → t σ H Q) (h : rdG X.K F AS (fAD f g) σ H Q) : ∀ (hb : ∀ σ H Q, rdG X.K F AS g σ H Q → t σ H Q), tCons (rdG X.K F PR f) t σ H Q := fun hb =>
  (rdG.bind h).imp fun x H1 ⟨d, S1, r1, v1, p1, q1⟩ => hb _ _ _ ((rdG.bind (k := fun ds => fC (.d d :: ds)) (R' := AS) ⟨S1, r1, q1⟩).imp fun xs H2 ⟨ds, S2, r2, v2, p2, q2⟩ => q2.ok r2 (.cons (show ADR _ _ _ _ (.d d) from Pd.mono p2 v1) v2))
theorem tConsS_of {i : Nat} {t : TA} {σ : Sl} {H : Hp} {Q : List V → Hp → Prop} (h : rdG X.K F AS (fAS i g) σ H Q) (hb : ∀ σ H Q, rdG X.K F AS g σ H Q → t σ H Q) : tCons (tVar i) t σ H Q := by
  obtain ⟨S, r, p⟩ := h
  unfold fAS at p
  split at p
  · rename_i sv hs
    obtain ⟨x, ex, _⟩ := r.slot i _ hs
    exact ⟨x, ex, hb _ _ _ ((rdG.bind (k := fun ds => fC (.s i :: ds)) (R' := AS) ⟨S, r, p⟩).imp fun xs H2 ⟨ds, S2, r2, v2, p2, q2⟩ => q2.ok r2 (.cons (show ADR _ _ _ _ (.s i) from ex) v2))⟩
  · exact p.elim
theorem as_d (ha : ED X F e f) (hr : EAS X F es g) (hs : starEach (e :: es) X.env = (false, eval e X.env) :: starEach es X.env := by rfl) : EAS X F (e :: es) (fAD f g) :=
  (pa_cons ha hr hs).via fun σ H Q h => tConsD_of (fun _ h => h) h fun _ _ _ h => h
theorem as_s {i : Nat} (ha : PE X e (tVar i)) (hr : EAS X F es g) (hs : starEach (e :: es) X.env = (false, eval e X.env) :: starEach es X.env := by rfl) : EAS X F (e :: es) (fAS i g) :=
  (pa_cons ha hr hs).via fun σ H Q h => tConsS_of h fun _ _ _ h => h
theorem ks_nil : EKS X F [] (fC []) := pk_nil.via fun _ _ _ ⟨_, r, p⟩ => p.ok r .nil
theorem ks_d (ha : ED X F e f) (hr : EKS X F kws g) : EKS X F (⟨nm, e, kpos⟩ :: kws) (fAD f g) := (pk_cons ha hr).via fun σ H Q h => tConsD_of (fun _ h => h) h fun _ _ _ h => h
/-- the arguments as a callee takes them -/
def resolve (S : FS) : List AD → Option (List SV)
  | [] => some []
  | .d d :: r => (resolve S r).map (.d d :: ·)
  | .s i :: r => match S[i]? with
    | some (some (.own ob)) => (resolve S r).map (.pin ob :: ·)
    | some (some (.pin ob)) => (resolve S r).map (.pin ob :: ·)
    | _ => none
/-- the slots behind the call -/
def setOb (S : FS) (i : Nat) (ob : Ob) : FS := match S[i]? with
  | some (some (.pin _)) => S.set i (some (.pin ob))
  | _ => S.set i (some (.own ob))
def back : List AD → List SV → FS → Option FS
  | [], _, S => some S
  | .d _ :: r, _ :: svs, S => back r svs S
  | .s i :: r, .pin ob :: svs, S => back r svs (setOb S i ob)
  | _, _, _ => none
def slotsOf : List AD → List Nat
  | [] => []
  | .d _ :: r => slotsOf r
  | .s i :: r => i :: slotsOf r
/-- what a call does -/
def callD (den : Den) (as : List AD) : FS → Res SV := fun S => if (slotsOf as).Nodup then (match resolve S as with
  | some svs => (match den svs with
    | .ok ret svs' => (match back as svs' S with
      | some S' => .ok ret S'
      | none => .bad)
    | .exn e svs' => (match back as svs' S with
      | some S' => .exn e S'
      | none => .bad)
    | .bad => .bad)
  | none => .bad) else .bad
theorem setOb_length (S : FS) (i : Nat) (ob : Ob) : (setOb S i ob).length = S.length := by
  unfold setOb; split <;> exact List.length_set ..
theorem setOb_ne {S : FS} {i j : Nat} {ob : Ob} (h : j ≠ i) : (setOb S i ob)[j]? = S[j]? := by
  unfold setOb; split <;> exact List.getElem?_set_ne (Ne.symm h)
theorem setOb_get {S : FS} {i : Nat} {ob : Ob} (h : i < S.length) : (setOb S i ob)[i]? = some (some (match S[i]? with | some (some (.pin _)) => .pin ob | _ => .own ob)) := by
  unfold setOb
  split <;> rw [List.getElem?_set_self h]
theorem setOb_congr {S1 S2 : FS} {i : Nat} {ob : Ob} (hl : S1.length = S2.length) (h : S1[i]? = S2[i]?) : (setOb S1 i ob)[i]? = (setOb S2 i ob)[i]? := by
  by_cases hi : i < S1.length
  · rw [setOb_get hi, setOb_get (hl ▸ hi), h]
  · rw [List.getElem?_eq_none (by rw [setOb_length]; omega), List.getElem?_eq_none (by rw [setOb_length]; omega)]
theorem back_length : ∀ {as : List AD} {svs : List SV} {S S' : FS}, back as svs S = some S' → S'.length = S.length
  | [], _, S, S', h => by simp [back] at h; rw [h]
  | .d _ :: r, [], S, S', h => by simp [back] at h
  | .d _ :: r, _ :: svs, S, S', h => back_length (as := r) (by simpa [back] using h)
  | .s i :: r, [], S, S', h => by simp [back] at h
  | .s i :: r, .d _ :: svs, S, S', h => by simp [back] at h
  | .s i :: r, .own _ :: svs, S, S', h => by simp [back] at h
  | .s i :: r, .x _ :: svs, S, S', h => by simp [back] at h
  | .s i :: r, .pin ob :: svs, S, S', h => (back_length (as := r) (by simpa [back] using h)).trans (setOb_length ..)
theorem back_out {j : Nat} : ∀ {as : List AD} {svs : List SV} {S S' : FS}, back as svs S = some S' → j ∉ slotsOf as → S'[j]? = S[j]?
  | [], _, S, S', h, _ => by simp [back] at h; rw [h]
  | .d _ :: r, [], S, S', h, _ => by simp [back] at h
  | .d _ :: r, _ :: svs, S, S', h, hj => back_out (as := r) (by simpa [back] using h) hj
  | .s i :: r, [], S, S', h, _ => by simp [back] at h
  | .s i :: r, .d _ :: svs, S, S', h, _ => by simp [back] at h
  | .s i :: r, .own _ :: svs, S, S', h, _ => by simp [back] at h
  | .s i :: r, .x _ :: svs, S, S', h, _ => by simp [back] at h
  | .s i :: r, .pin ob :: svs, S, S', h, hj => by
    have h1 : j ≠ i := fun e => hj (by simp [slotsOf, e])
    have h2 : j ∉ slotsOf r := fun e => hj (by simp [slotsOf, e])
    exact (back_out (as := r) (by simpa [back] using h) h2).trans (setOb_ne h1)
theorem slots_mem {j : Nat} : ∀ {as : List AD}, j ∈ slotsOf as ↔ ∃ i : Nat, as[i]? = some (.s j)
  | [] => by simp [slotsOf]
  | .d x :: r => by
    rw [show slotsOf (.d x :: r) = slotsOf r from rfl, slots_mem (as := r)]
    constructor
    · rintro ⟨i, h⟩; exact ⟨i + 1, by simpa using h⟩
    · rintro ⟨i, h⟩
      cases i with
      | zero => simp at h
      | succ i => exact ⟨i, by simpa using h⟩
  | .s k :: r => by
    rw [show slotsOf (.s k :: r) = k :: slotsOf r from rfl, List.mem_cons, slots_mem (as := r)]
    constructor
    · rintro (rfl | ⟨i, h⟩)
      · exact ⟨0, rfl⟩
      · exact ⟨i + 1, by simpa using h⟩
    · rintro ⟨i, h⟩
      cases i with
      | zero => simp at h; exact .inl h.symm
      | succ i => exact .inr ⟨i, by simpa using h⟩
theorem slots_inj {j : Nat} : ∀ {as : List AD} {i i' : Nat}, (slotsOf as).Nodup → as[i]? = some (.s j) → as[i']? = some (.s j) → i = i'
  | [], i, i', _, h, _ => by simp at h
  | .d _ :: r, i, i', hn, h, h' => by
    cases i with
    | zero => simp at h
    | succ i =>
      cases i' with
      | zero => simp at h'
      | succ i' => exact congrArg Nat.succ (slots_inj (as := r) (i := i) (i' := i') (j := j) hn (by simpa using h) (by simpa using h'))
  | .s k :: r, i, i', hn, h, h' => by
    obtain ⟨n1, n2⟩ := List.nodup_cons.mp hn
    cases i with
    | zero =>
      cases i' with
      | zero => rfl
      | succ i' =>
        simp at h
        subst h
        exact absurd (slots_mem.mpr ⟨i', by simpa using h'⟩) n1
    | succ i =>
      cases i' with
      | zero =>
        simp at h'
        subst h'
        exact absurd (slots_mem.mpr ⟨i, by simpa using h⟩) n1
      | succ i' => exact congrArg Nat.succ (slots_inj (as := r) (i := i) (i' := i') (j := j) n2 (by simpa using h) (by simpa using h'))
theorem back_in {j : Nat} : ∀ {as : List AD} {svs : List SV} {S S' : FS} {i : Nat}, back as svs S = some S' → (slotsOf as).Nodup → as[i]? = some (.s j) →
    ∃ ob, svs[i]? = some (.pin ob) ∧ S'[j]? = (setOb S j ob)[j]?
  | [], _, S, S', i, h, _, e => by simp at e
  | .d _ :: r, [], S, S', i, h, _, _ => by simp [back] at h
  | .d _ :: r, _ :: svs, S, S', i, h, hn, e => by
    cases i with
    | zero => simp at e
    | succ i =>
      obtain ⟨ob, h1, h2⟩ := back_in (as := r) (i := i) (by simpa [back] using h) hn (by simpa using e)
      exact ⟨ob, by simpa using h1, h2⟩
  | .s k :: r, [], S, S', i, h, _, _ => by simp [back] at h
  | .s k :: r, .d _ :: svs, S, S', i, h, _, _ => by simp [back] at h
  | .s k :: r, .own _ :: svs, S, S', i, h, _, _ => by simp [back] at h
  | .s k :: r, .x _ :: svs, S, S', i, h, _, _ => by simp [back] at h
  | .s k :: r, .pin ob :: svs, S, S', i, h, hn, e => by
    obtain ⟨n1, n2⟩ := List.nodup_cons.mp hn
    have hb : back r svs (setOb S k ob) = some S' := by simpa [back] using h
    cases i with
    | zero =>
      simp at e
      subst e
      exact ⟨ob, by simp, back_out hb n1⟩
    | succ i =>
      have e' : r[i]? = some (.s j) := by simpa using e
      obtain ⟨ob2, h1, h2⟩ := back_in (as := r) (i := i) hb n2 e'
      have ne : j ≠ k := fun z => n1 (slots_mem.mpr ⟨i, by rw [← z]; exact e'⟩)
      exact ⟨ob2, by simpa using h1, h2.trans (setOb_congr (setOb_length ..) (setOb_ne ne))⟩
theorem res_get {S : FS} : ∀ {as : List AD} {svs : List SV}, resolve S as = some svs → svs.length = as.length ∧ ∀ (i : Nat) (sv : SV), svs[i]? = some sv → (∃ d, as[i]? = some (.d d) ∧ sv = .d d) ∨ ∃ j ob, as[i]? = some (.s j) ∧ sv = .pin ob ∧ (S[j]? = some (some (.own ob)) ∨ S[j]? = some (some (.pin ob)))
  | [], svs, h => by simp [resolve] at h; subst h; simp
  | .d x :: r, svs, h => by
    simp only [resolve, Option.map_eq_some_iff] at h
    obtain ⟨t, h1, rfl⟩ := h
    obtain ⟨l, g⟩ := res_get (as := r) h1
    refine ⟨by simp [l], fun i sv e => ?_⟩
    cases i with
    | zero => simp at e; subst e; exact .inl ⟨x, by simp, rfl⟩
    | succ i => simpa using g i sv (by simpa using e)
  | .s k :: r, svs, h => by
    simp only [resolve] at h
    have main : ∀ ob, (S[k]? = some (some (.own ob)) ∨ S[k]? = some (some (.pin ob))) → (resolve S r).map (SV.pin ob :: ·) = some svs → svs.length = (AD.s k :: r).length ∧ ∀ (i : Nat) (sv : SV), svs[i]? = some sv → (∃ d, (AD.s k :: r)[i]? = some (.d d) ∧ sv = .d d) ∨ ∃ j ob, (AD.s k :: r)[i]? = some (.s j) ∧ sv = .pin ob ∧ (S[j]? = some (some (.own ob)) ∨ S[j]? = some (some (.pin ob))) := by
      intro ob ho h
      simp only [Option.map_eq_some_iff] at h
      obtain ⟨t, h1, rfl⟩ := h
      obtain ⟨l, g⟩ := res_get (as := r) h1
      refine ⟨by simp [l], fun i sv e => ?_⟩
      cases i with
      | zero => simp at e; subst e; exact .inr ⟨k, ob, by simp, rfl, ho⟩
      | succ i => simpa using g i sv (by simpa using e)
    split at h
    · rename_i ob q; exact main ob (.inl q) h
    · rename_i ob q; exact main ob (.inr q) h
    · cases h
theorem paired_get {α β : Type} {R : α → β → Prop} : ∀ {xs : List α} {ys : List β} {i : Nat} {y : β}, Paired R xs ys → ys[i]? = some y → ∃ x, xs[i]? = some x ∧ R x y
  | _, _, _, _, .nil, e => by simp at e
  | _, _, 0, _, .cons h _, e => by simp at e; subst e; exact ⟨_, rfl, h⟩
  | _, _, i + 1, y, .cons _ r, e => by
    obtain ⟨x, h1, h2⟩ := paired_get (i := i) r (by simpa using e)
    exact ⟨x, by simpa using h1, h2⟩
theorem paired_len {α β : Type} {R : α → β → Prop} : ∀ {xs : List α} {ys : List β}, Paired R xs ys → xs.length = ys.length
  | _, _, .nil => rfl
  | _, _, .cons _ r => by rw [List.length_cons, List.length_cons, paired_len r]
section
variable {K : Fg} {F : Fx} {S S' : FS} {σ : Sl} {H H' : Hp} {vs : List V} {as : List AD} {svs svs' : List SV}
theorem args_of (r : Rel K F S σ H) (v : Paired (ADR K H σ) vs as) (hn : (slotsOf as).Nodup) (e : resolve S as = some svs) : ArgsR K F.w F.cl.clo H vs svs ∧
    ∀ i, PinIx svs i → ∃ j a, as[i]? = some (.s j) ∧ vs[i]? = some (.ref a) ∧ σ[j]? = some (some (.ref a)) ∧ Owned S j := by
  obtain ⟨l, g⟩ := res_get e
  have pin : ∀ i, PinIx svs i → ∃ j a, as[i]? = some (.s j) ∧ vs[i]? = some (.ref a) ∧ σ[j]? = some (some (.ref a)) ∧ Owned S j := fun i ⟨ob, h⟩ => by
    rcases g i _ h with ⟨d, _, z⟩ | ⟨j, ob2, h1, h2, h3⟩
    · cases z
    · cases h2
      obtain ⟨x, ex, hx⟩ := paired_get v h1
      obtain ⟨a, ea, _, _⟩ := r.obj h3
      have hx' : σ[j]? = some (some x) := hx
      rw [ea] at hx'; cases hx'
      exact ⟨j, a, h1, ex, ea, ob, h3⟩
  refine ⟨⟨(paired_len v).trans l.symm, fun i sv h => ?_, fun i j a ne hi hj e1 e2 => ?_⟩, pin⟩
  · rcases g i _ h with ⟨d, h1, rfl⟩ | ⟨j, ob, h1, rfl, h3⟩
    · obtain ⟨x, ex, hx⟩ := paired_get v h1
      exact ⟨x, ex, hx⟩
    · obtain ⟨x, ex, hx⟩ := paired_get v h1
      obtain ⟨a, ea, q, _⟩ := r.obj h3
      have hx' : σ[j]? = some (some x) := hx
      rw [ea] at hx'; cases hx'
      exact ⟨_, ex, a, rfl, q⟩
  · obtain ⟨j1, a1, h1, h2, h3, h4⟩ := pin i hi
    obtain ⟨j2, a2, k1, k2, k3, k4⟩ := pin j hj
    rw [e1] at h2; cases h2
    rw [e2] at k2; cases k2
    have nj : j1 ≠ j2 := fun z => ne (slots_inj hn h1 (z ▸ k1))
    exact r.apart j1 j2 a nj h4 k4 h3 k3
theorem rel_back (r : Rel K F S σ H) (v : Paired (ADR K H σ) vs as) (hn : (slotsOf as).Nodup) (e : resolve S as = some svs) (hl : Left K F.w F.tabs vs svs svs' H H') (hb : back as svs' S = some S') : Rel K F S' σ H' := by
  obtain ⟨ar, pin⟩ := args_of r v hn e
  obtain ⟨l, g⟩ := res_get e
  -- a pinned address stands in a handed slot
  have pinad : ∀ a, PinAd vs svs a → ∃ j, j ∈ slotsOf as ∧ σ[j]? = some (some (.ref a)) ∧ Owned S j := fun a ⟨i, hi, h⟩ => by
    obtain ⟨j, a1, h1, h2, h3, h4⟩ := pin i hi
    rw [h] at h2; cases h2
    exact ⟨j, slots_mem.mpr ⟨i, h1⟩, h3, h4⟩
  have own : ∀ j, Owned S' j → Owned S j := fun j ⟨ob, h⟩ => by
    by_cases hj : j ∈ slotsOf as
    · obtain ⟨i, hi⟩ := slots_mem.mp hj
      obtain ⟨x, ex, hx⟩ := paired_get v hi
      have hi2 : i < svs.length := by rw [l]; exact (List.getElem?_eq_some_iff.mp hi).1
      rcases g i _ (List.getElem?_eq_getElem hi2) with ⟨d, z, _⟩ | ⟨j2, ob2, z, _, h3⟩
      · rw [hi] at z; cases z
      · rw [hi] at z; cases z; exact ⟨ob2, h3⟩
    · rw [back_out hb hj] at h; exact ⟨ob, h⟩
  have kept : ∀ j b, j ∉ slotsOf as → Owned S j → σ[j]? = some (some (.ref b)) → H' b = H b := fun j b hj oj eb => by
    obtain ⟨ob, h⟩ := oj
    obtain ⟨b2, eb2, q, _⟩ := r.obj h
    rw [eb] at eb2; cases eb2
    obtain ⟨u, eu, _, nt⟩ := q.there
    rw [eu]
    refine hl.keep b u eu (fun hp => ?_) nt
    obtain ⟨j2, m2, e2, o2⟩ := pinad b hp
    exact r.apart j j2 b (fun z => hj (z ▸ m2)) ⟨ob, h⟩ o2 eb e2
  have kp : ∀ a o, F.H0 a = some o → a ∉ F.pins.map (·.2) → isTbl o = false → H' a = some o := fun a o ho hp ht => by
    have h1 := r.keep a o ho hp ht
    refine hl.keep a o h1 (fun hpa => ?_) ht
    obtain ⟨j, _, e2, ob, h2⟩ := pinad a hpa
    obtain ⟨b, eb, _, q⟩ := r.obj h2
    rw [e2] at eb; cases eb
    rcases q with q | q
    · rw [ho] at q; cases q
    · exact hp q
  refine ⟨(back_length hb).trans r.len, fun j sv h => ?_, fun i j a ne hi hj => r.apart i j a ne (own i hi) (own j hj), kp, fun a o ho => ?_, hl.tabs, F.cl.selfM hl.pers r.self, fun p hp => ?_⟩
  · by_cases hj : j ∈ slotsOf as
    · obtain ⟨i, hi⟩ := slots_mem.mp hj
      have hi2 : i < svs.length := by rw [l]; exact (List.getElem?_eq_some_iff.mp hi).1
      rcases g i _ (List.getElem?_eq_getElem hi2) with ⟨d, z, _⟩ | ⟨j2, ob2, z, ep, h3⟩
      · rw [hi] at z; cases z
      · rw [hi] at z; cases z
        obtain ⟨j3, a, q1, q2, q3, q4⟩ := pin i ⟨ob2, by rw [List.getElem?_eq_getElem hi2, ep]⟩
        rw [hi] at q1; cases q1
        obtain ⟨ob, h4, h5⟩ := back_in hb hn hi
        have ok := hl.args i ob a h4 q2
        have hjl : j < S.length := by rcases h3 with z | z <;> exact (List.getElem?_eq_some_iff.mp z).1
        rw [h5] at h
        refine ⟨_, q3, ?_⟩
        unfold setOb at h
        rcases h3 with h3 | h3
        · rw [h3] at h
          simp only at h
          rw [List.getElem?_set_self hjl] at h
          cases h
          obtain ⟨x, ex, b, eb, _, n⟩ := r.slot j _ h3
          rw [q3] at ex; cases ex; cases eb
          exact ⟨a, rfl, ok, n⟩
        · rw [h3] at h
          simp only at h
          rw [List.getElem?_set_self hjl] at h
          cases h
          obtain ⟨x, ex, b, eb, _, n⟩ := r.slot j _ h3
          rw [q3] at ex; cases ex; cases eb
          exact ⟨a, rfl, ok, n⟩
    · rw [back_out hb hj] at h
      obtain ⟨x, ex, w⟩ := r.slot j sv h
      refine ⟨x, ex, ?_⟩
      cases sv with
      | d d => exact Pd.mono hl.pers w
      | own ob =>
        obtain ⟨b, rfl, q, n⟩ := w
        exact ⟨b, rfl, q.later hl.pers (kept j b hj ⟨ob, .inl h⟩ ex), n⟩
      | pin ob =>
        obtain ⟨b, rfl, q, n⟩ := w
        exact ⟨b, rfl, q.later hl.pers (kept j b hj ⟨ob, .inr h⟩ ex), n⟩
      | x e => exact SxR.later w hl.pers r.keep kp
  · obtain ⟨u, hu⟩ := r.there a o ho
    exact hl.there a u hu
  · obtain ⟨⟨h1, em⟩, h2, h3⟩ := r.held p hp
    refine ⟨⟨hl.keep _ _ h1 (fun hpa => ?_) (mut_tbl em), em⟩, h2, fun i hi => h3 i (own i hi)⟩
    obtain ⟨j, _, e2, oj⟩ := pinad _ hpa
    exact h3 j oj e2
theorem vr_back (r : Rel K F S σ H) (r2 : Rel K F S' σ H') (how : ∀ j, Owned S' j → Owned S j) {x : V} {ret : SV} (h : RetR K F.w H H' x ret) : VR K F S' σ H' x ret := by
  cases ret with
  | d d => exact h
  | own ob =>
    obtain ⟨a, rfl, q, n⟩ := h
    exact ⟨a, rfl, q, r.none0 n, fun i hi => r.unslot n (how i hi), fun p hp e => by obtain ⟨⟨z, _⟩, _⟩ := r.held p hp; rw [e, n] at z; cases z⟩
  | pin ob => exact h.elim
  | x e => exact h.elim
theorem own_back (hn : (slotsOf as).Nodup) (e : resolve S as = some svs) (hb : back as svs' S = some S') : ∀ j, Owned S' j → Owned S j := fun j ⟨ob, h⟩ => by
  obtain ⟨l, g⟩ := res_get e
  by_cases hj : j ∈ slotsOf as
  · obtain ⟨i, hi⟩ := slots_mem.mp hj
    have hi2 : i < svs.length := by rw [l]; exact (List.getElem?_eq_some_iff.mp hi).1
    rcases g i _ (List.getElem?_eq_getElem hi2) with ⟨d, z, _⟩ | ⟨j2, ob2, z, _, h3⟩
    · rw [hi] at z; cases z
    · rw [hi] at z; cases z; exact ⟨ob2, h3⟩
  · rw [back_out hb hj] at h; exact ⟨ob, h⟩
/-- a call's reading: the callee's promise -/
theorem call_in {den : Den} {n : Nat} {Q : VK} (r : Rel K F S σ H) (v : Paired (ADR K H σ) vs as) (hl : as.length = n) (p : postG K F VR (callD den as S) σ H Q) : spF K F.w F.cl.clo F.tabs n den vs H Q F.E := by
  unfold callD at p
  by_cases hn : (slotsOf as).Nodup
  · rw [if_pos hn] at p
    cases e : resolve S as with
    | none => rw [e] at p; exact p.elim
    | some svs =>
      rw [e] at p
      simp only at p
      obtain ⟨ar, _⟩ := args_of r v hn e
      refine ⟨svs, (res_get e).1.trans hl, ar, r.tabs, ?_⟩
      cases e2 : den svs with
      | bad => rw [e2] at p; exact p
      | ok ret svs' =>
        rw [e2] at p
        simp only at p
        intro x H' lf rr
        cases e3 : back as svs' S with
        | none => rw [e3] at p; exact p.elim
        | some S' =>
          rw [e3] at p
          have r2 := rel_back r v hn e lf e3
          exact p x H' lf.pers r2 (vr_back r r2 (own_back hn e e3) rr)
      | exn ex svs' =>
        rw [e2] at p
        simp only at p
        intro c dx H' lf rr
        cases e3 : back as svs' S with
        | none => rw [e3] at p; exact p.elim
        | some S' =>
          rw [e3] at p
          exact p c dx H' lf.pers (rel_back r v hn e lf e3) rr
  · rw [if_neg hn] at p; exact p.elim
end
def fCallP (den : Den) (n : Nat) (f : FS → Res (List AD)) : FS → Res SV := bnd f fun as => if as.length = n then callD den as else fun _ => .bad
/-- how a def of the text is called: all that a call asks -/
structure Fn (P : Program) (w : World) (K : Fg) (mg : Str → Option Value) (base : Heap) (T : List Addr) (k : Nat) (x : Str) (ps : List Str) (n : Nat) (den : Den) : Prop where
  ex : ∃ f fd, GOk P w K mg base k f fd ps (spG P w K mg base T n den) ∧ mg x = some (.ref f) ∧ PySem.W.keepIn K (.ref f) = true ∧ Binds K fd ps []
theorem run_g {k : Nat} {f : Addr} {fd : FuncData} {ps : List Str} {sp : Sp} {pins : List (Addr × Obj)} {σ : L2.St} {H : Hp} {s : Shared} {Q : VK} {E : XK} {args : Args} {us : List Value} {vs : List V} (G : GOk X.prog X.w X.K X.mg X.base k f fd ps sp) (hr : RoomG k X.A)
    (I : Inv X pins σ H s) (hb : BindsTo s fd args (ps.zip us)) (r : Vals vs us) (h : sp vs H Q E) : codeAny (model X.prog X.w) X.A (.call (.ref f) args) (fun r s' => match r with
      | .ok (.ret u) => EP X pins σ Q u s'
      | .ok _ => False
      | .error e => X.xe e s') s :=
  codeAny_mono (G.go X.A X.stack s H args us vs Q E hr I.env0 hb r h) fun r s' q => match r, q with
    | .ok (.ret _), q => I.after q
theorem e_call {den : Den} {k j n : Nat} {x : Str} {ps : List Str} {g : FS → Res (List AD)} (G : Fn X.prog X.w X.K X.mg X.base F.tabs k x ps n den) (hr : RoomG j X.A) (hk : k ≤ j) (hg : Gl X x) (ha : EAS X F (e :: es) g)
    (hw : F.w = X.w := by rfl) (hcl : F.cl.clo = CloOk X.prog X.w X.K X.mg X.base F.tabs := by rfl) (hdb : (x == ("__debug__" : Str)) = false := by decide) (he : starEach (e :: es) X.env = (false, eval e X.env) :: starEach es X.env := by rfl) (hpl : (backTo pos (starEach es X.env)).any (·.1) = false := by rfl) :
    EV X F (.Call (.Name x p) (e :: es) [] pos) (fCallP den n g) := by
  obtain ⟨f, fd, F1, hm, kp, b⟩ := G.ex
  refine ⟨fun pins s σ H Q I h => wpAny_Call_Name_kw (ld_glob I hg hm ?_ hdb)⟩
  refine PySem.W.callWith_K (h₀ := X.base) I.ok.mod.kin kp (thn (ha.run pos pins s σ H _ I (rdG.bind h)) fun us s1 ⟨vs, H1, I1, rv, as, S1, r, v, p, q⟩ => ⟨I1.kIn, ?_⟩) he hpl
  split at q
  · rename_i hl
    have sp := call_in r v hl q
    rw [hw, hcl] at sp
    have hn : us.length = ps.length := rv.length.symm.trans (F1.many _ _ _ _ sp)
    have bd := b s1 us I1.kIn (by rw [List.append_nil]; exact hn)
    rw [List.append_nil] at bd
    exact wpAny_call (run_g F1 (hr.mono hk) I1 bd rv sp)
  · exact q.elim
end
end Fz
end

section
set_option Elab.async false
set_option linter.all false
set_option maxRecDepth 100000
set_option maxHeartbeats 4000000
/-! F8: several values at once, keywords, chains, is of bools. -/
namespace Fz
open PySem PySem.Spec PyProof.Rows L2
/-! ### x is True -/
theorem is_bool_gen {M : Model} {A : Around} {E : Value → Shared → Prop} {s : Shared} {Q : Value → Shared → Prop} {v : Value} {b : Bool} (hv : ∀ id, v ≠ .builtin id) (h : Q (.bool (v == .bool b)) s) : wpAny M A (compareOp .Is v (.bool b)) Q E s := by
  cases v <;> first | exact wpAny_pure h | exact absurd rfl (hv _)
theorem relV_nobuiltin {x : V} {v : Value} (r : RelV x v) : ∀ id, v ≠ .builtin id := fun id e => by
  subst e
  cases x with
  | int _ => obtain ⟨t, e⟩ := r; cases e
  | str _ => obtain ⟨t, e⟩ := r; cases e
  | byt _ => obtain ⟨t, e⟩ := r; cases e
  | flt _ => obtain ⟨t, e⟩ := r; cases e
  | _ => cases r
theorem relV_bool {x : V} {v : Value} {b : Bool} (r : RelV x v) : (v == Value.bool b) = decide (x = .bl b) := by
  cases x with
  | non => cases r; rfl
  | bl c =>
    cases r
    by_cases e : c = b
    · subst e; simp
    · rw [decide_eq_false (fun z => e (V.bl.inj z))]
      exact beq_eq_false_iff_ne.mpr fun z => e (Value.bool.inj z)
  | int _ => obtain ⟨t, rfl⟩ := r; rfl
  | str _ => obtain ⟨t, rfl⟩ := r; rfl
  | byt _ => obtain ⟨t, rfl⟩ := r; rfl
  | flt _ => obtain ⟨t, rfl⟩ := r; rfl
  | ref _ => cases r; rfl
  | ty _ => cases r; rfl
def dIsB (b : Bool) : D → Bool
  | .bool c => c == b
  | _ => false
theorem Qd.isBool {K : Fg} {H : Hp} {x : V} {d : D} {b : Bool} (h : Qd K H x d) : decide (x = .bl b) = dIsB b d := by
  rcases h with h | ⟨a, vs, ds, rfl, rfl, h, r⟩
  · cases h with
    | bl c => cases c <;> cases b <;> rfl
    | _ => rfl
  · rfl
def pIsB (d e : D) : FS → Res D := fun S => match e with
  | .bool b => .ok (.bool (dIsB b d)) S
  | .none => .ok (.bool (dNone d)) S
  | _ => .bad
section
variable {X : Cx} {F : Fx}
theorem op_isBF : OpF X F PR (compareOp .Is) pIsB := by
  intro pins s σ0 H x y v u Q I rx ry ⟨S, σ, d, e, r, hx, hy, p⟩
  cases e with
  | bool b =>
    cases hy.bl
    cases (show u = Value.bool b from ry)
    refine is_bool_gen (relV_nobuiltin rx) ?_
    rw [relV_bool rx, hx.isBool]
    exact ⟨.bl _, H, I, rfl, p.ok r (Pd.bl _)⟩
  | none => exact op_isN pins s σ0 H x y v u Q I rx ry ⟨hy.non, by rw [hx.isNone]; exact p.ok r (Pd.bl _)⟩
  | _ => exact p.elim
end
/-! ### several own values at once -/
inductive AVR (K : Fg) (F : Fx) (S : FS) (σ : Sl) (H : Hp) : List V → List SV → Prop
  | nil : AVR K F S σ H [] []
  | cons {x : V} {sv : SV} {xs : List V} {svs : List SV} (h : VR K F S σ H x sv) (n : ∀ (ob : Ob) (a : Addr), sv = .own ob → x = .ref a → ∀ (i : Nat) (ob' : Ob), svs[i]? = some (.own ob') → xs[i]? ≠ some (.ref a)) (r : AVR K F S σ H xs svs) : AVR K F S σ H (x :: xs) (sv :: svs)
abbrev EAV (X : Cx) (F : Fx) (es : List Expr) (f : FS → Res (List SV)) : Prop := PA X es (rdG X.K F AVR f)
def Fx.hold (F : Fx) (a : Addr) (u : HO) : Fx := { F with held := (a, u) :: F.held }
def fConsV (f : FS → Res SV) (g : FS → Res (List SV)) : FS → Res (List SV) := bnd f fun d => match d with
  | .d d => bnd g fun ds => fC (.d d :: ds)
  | .own ob => bnd g fun ds => fC (.own ob :: ds)
  | _ => fun _ => .bad
section
variable {X : Cx} {F : Fx} {e : Expr} {es : List Expr} {f : FS → Res SV} {g : FS → Res (List SV)} {pos : Pos}
theorem av_nil : EAV X F [] (fC []) := pa_nil.via fun _ _ _ ⟨_, r, p⟩ => p.ok r .nil
def jAV (K : Fg) (F : Fx) (g : FS → Res (List SV)) : TA := fun σ H Q => rdG K F AVR g σ H Q ∨ ∃ a vs, rdG K (F.hold a vs) AVR g σ H Q
theorem av_unhold {K : Fg} {F : Fx} {S : FS} {σ : Sl} {H : Hp} {a : Addr} {vs : HO} {xs : List V} {svs : List SV} (h : AVR K (F.hold a vs) S σ H xs svs) : AVR K F S σ H xs svs ∧ ∀ (i : Nat) (ob : Ob), svs[i]? = some (.own ob) → xs[i]? ≠ some (.ref a) := by
  induction h with
  | nil => exact ⟨.nil, fun i ob h => by simp at h⟩
  | @cons x sv xs svs h n r ih =>
    refine ⟨.cons ?_ n ih.1, fun i ob h1 h2 => ?_⟩
    · cases sv with
      | d d => exact h
      | own ob => obtain ⟨b, e, q, n0, nu, nh⟩ := h; exact ⟨b, e, q, n0, nu, fun p hp => nh p (List.mem_cons_of_mem _ hp)⟩
      | pin ob => exact h
      | x e => exact h
    · cases i with
      | zero =>
        simp at h1 h2
        subst h1
        obtain ⟨b2, e, q, n0, nu, nh⟩ := h
        rw [h2] at e; cases e
        exact nh (a, vs) (List.mem_cons_self ..) rfl
      | succ i => exact ih.2 i ob (by simpa using h1) (by simpa using h2)
theorem rel_hold {K : Fg} {F : Fx} {S : FS} {σ : Sl} {H : Hp} {a : Addr} {vs : HO} (r : Rel K F S σ H) (h : H a = some vs) (hm : Mut (some vs)) (h0 : F.H0 a = none) (hu : ∀ i, Owned S i → σ[i]? ≠ some (some (.ref a))) : Rel K (F.hold a vs) S σ H := by
  refine ⟨r.len, r.slot, r.apart, r.keep, r.there, r.tabs, r.self, fun p hp => ?_⟩
  rcases List.mem_cons.mp hp with e | hp
  · subst e; exact ⟨⟨h, hm⟩, h0, hu⟩
  · exact r.held p hp
theorem rel_unhold {K : Fg} {F : Fx} {S : FS} {σ : Sl} {H : Hp} {a : Addr} {vs : HO} (r : Rel K (F.hold a vs) S σ H) : Rel K F S σ H :=
  ⟨r.len, r.slot, r.apart, r.keep, r.there, r.tabs, r.self, fun p hp => r.held p (List.mem_cons_of_mem _ hp)⟩
theorem av_cons (ha : EV X F e f) (hr : EAV X F es g) (hr2 : ∀ a vs, EAV X (F.hold a vs) es g) (hs : starEach (e :: es) X.env = (false, eval e X.env) :: starEach es X.env := by rfl) : EAV X F (e :: es) (fConsV f g) := by
  have hj : PA X es (jAV X.K F g) := ⟨fun p pins s σ H Q I h => by
    rcases h with h | ⟨a, vs, h⟩
    · exact hr.run p pins s σ H Q I h
    · exact (hr2 a vs).run p pins s σ H Q I h⟩
  refine (pa_cons ha hj hs).via fun σ H Q h => (rdG.bind h).imp fun x H1 ⟨d, S1, r1, v1, p1, q1⟩ => ?_
  cases d with
  | d d =>
    exact .inl ((rdG.bind (k := fun ds => fC (.d d :: ds)) (R' := AVR) ⟨S1, r1, q1⟩).imp fun xs H2 ⟨ds, S2, r2, v2, p2, q2⟩ => q2.ok r2 (.cons (show VR _ _ _ _ _ _ (.d d) from Pd.mono p2 v1) (fun _ _ e => nomatch e) v2))
  | own ob =>
    obtain ⟨a, rfl, qo, n0, nu, nh⟩ := v1
    obtain ⟨u, hu, mu, _⟩ := qo.there
    have rh := rel_hold r1 hu mu n0 nu
    refine .inr ⟨a, u, ⟨S1, rh, ?_⟩⟩
    simp only [bnd] at q1
    cases e2 : g S1 with
    | bad => rw [e2] at q1; exact q1
    | exn e3 S2 => rw [e2] at q1; exact fun c dx H2 p2 r2 w => q1 c dx H2 p2 (rel_unhold r2) w
    | ok ds S2 =>
      rw [e2] at q1
      intro xs H2 p2 r2 v2
      have hh := r2.held (a, u) (List.mem_cons_self ..)
      obtain ⟨v3, ne⟩ := av_unhold v2
      exact q1 _ H2 p2 (rel_unhold r2) (.cons (show VR _ _ _ _ _ _ (.own ob) from ⟨a, rfl, qo.later p2 (hh.1.1.trans hu.symm), n0, hh.2.2, nh⟩) (fun _ _ _ e i ob' h1 => by cases e; exact ne i ob' h1) v3)
  | pin ob => exact v1.elim
  | x e => exact v1.elim
/-- a, b, c = x, y, z: all stored -/
def setsV : List Nat → List SV → FS → Option FS
  | [], [], S => some S
  | i :: is, v :: vs, S => setsV is vs (S.set i (some v))
  | _, _, _ => none
def setsX : List Nat → List V → Sl → Sl
  | i :: is, x :: xs, σ => setsX is xs (σ.set i (some x))
  | _, _, σ => σ
def fPars (is : List Nat) (f : FS → Res (List SV)) : FS → SRes := bndS f fun vs S => match setsV is vs S with
  | some S' => .nx S'
  | none => .bad
theorem vr_set {K : Fg} {F : Fx} {S : FS} {σ : Sl} {H : Hp} {i : Nat} {x y : V} {v w : SV} (hy : VR K F S σ H y w) (hx : VR K F S σ H x v) (n : ∀ (ob : Ob) (a : Addr), v = .own ob → x = .ref a → ∀ ob', w = .own ob' → y ≠ .ref a) : VR K F (S.set i (some v)) (σ.set i (some x)) H y w := by
  cases w with
  | d d => exact hy
  | pin ob => exact hy
  | x e => exact hy
  | own ob =>
    obtain ⟨b, e, q, n0, nu, nh⟩ := hy
    refine ⟨b, e, q, n0, fun j hj hs => ?_, nh⟩
    obtain ⟨ob2, hj⟩ := hj
    by_cases hji : j = i
    · subst hji
      by_cases hl : j < S.length
      · rw [List.getElem?_set_self hl] at hj
        have hl2 : j < σ.length := by
          by_cases hl2 : j < σ.length
          · exact hl2
          · rw [List.getElem?_eq_none (by rw [List.length_set]; omega)] at hs; cases hs
        rw [List.getElem?_set_self hl2] at hs
        cases hs
        rcases hj with hj | hj
        · cases hj; exact n ob2 b rfl rfl ob rfl e
        · cases hj; exact hx.elim
      · rw [List.getElem?_eq_none (by rw [List.length_set]; omega)] at hj
        rcases hj with hj | hj <;> cases hj
    · rw [List.getElem?_set_ne (Ne.symm hji)] at hj hs
      exact nu j ⟨ob2, hj⟩ hs
theorem sets_rel {K : Fg} {F : Fx} {H : Hp} : ∀ {is : List Nat} {xs : List V} {svs : List SV} {S S' : FS} {σ : Sl}, Rel K F S σ H → AVR K F S σ H xs svs → setsV is svs S = some S' → xs.length = is.length ∧ Rel K F S' (setsX is xs σ) H
  | [], [], [], S, S', σ, r, v, e => by simp [setsV] at e; subst e; exact ⟨rfl, r⟩
  | [], _, _ :: _, S, S', σ, r, v, e => by simp [setsV] at e
  | i :: is, _, [], S, S', σ, r, v, e => by simp [setsV] at e
  | i :: is, x :: xs, sv :: svs, S, S', σ, r, v, e => by
    cases v with
    | cons h n rr =>
      have key : ∀ {ys : List V} {ws : List SV}, AVR K F S σ H ys ws → (∀ (ob : Ob) (a : Addr), sv = .own ob → x = .ref a → ∀ (i : Nat) (ob' : Ob), ws[i]? = some (.own ob') → ys[i]? ≠ some (.ref a)) → AVR K F (S.set i (some sv)) (σ.set i (some x)) H ys ws := by
        intro ys ws hv
        induction hv with
        | nil => exact fun _ => .nil
        | cons h2 n2 r2 ih =>
          intro hn
          exact .cons (vr_set h2 h fun ob a e1 e2 ob' e3 e4 => hn ob a e1 e2 0 ob' (by simp [e3]) (by simp [e4])) n2 (ih fun ob a e1 e2 j ob' h1 => by
            have := hn ob a e1 e2 (j + 1) ob' (by simpa using h1)
            simpa using this)
      obtain ⟨l, q⟩ := sets_rel (is := is) (xs := xs) (svs := svs) (r.setV h) (key rr n) (by simpa [setsV] using e)
      exact ⟨by simp [l], q⟩
theorem s_par2 {i j : Nat} {x y : Str} {a b : Expr} {f : FS → Res (List SV)} {px py pt : Pos} {kt k2 : Nat} {pt2 : Pos} (hc : X.calm = true) (hN : X.N.Nodup) (hi : X.N[i]? = some x) (hj : X.N[j]? = some y) (hij : i ≠ j)
    (hx : X.env.scope.names.lookup x = some .local) (hy : X.env.scope.names.lookup y = some .local) (ha : EAV X F [a, b] f)
    (hw : swappedStores [.Tuple [.Name x px, .Name y py] kt pt] (.Tuple [a, b] k2 pt2) X.env = pure (some [x, y]))
    (hs : swapsWithSole [.Tuple [.Name x px, .Name y py] kt pt] (.Tuple [a, b] k2 pt2) pos.line X.env = pure false := by rfl) :
    ES X F (.Assign [.Tuple [.Name x px, .Name y py] kt pt] (.Tuple [a, b] k2 pt2) pos) (fPars [i, j] f) :=
  (ps_par hc hN hi hj hij hx hy ha hw hs).via fun D σ H h => (rdG.bindS h).imp fun xs H1 ⟨ds, S1, r, v, p, q⟩ => by
    cases e : setsV [i, j] ds S1 with
    | none => rw [e] at q; exact q.elim
    | some S2 =>
      rw [e] at q
      obtain ⟨l, r2⟩ := sets_rel r v e
      match xs, l with
      | [u, w], _ => exact ⟨u, w, rfl, q _ _ (.refl H1) r2⟩
theorem s_par3 {i j l : Nat} {x y z : Str} {a b c : Expr} {f : FS → Res (List SV)} {px py pz pt : Pos} {kt k2 : Nat} {pt2 : Pos} (hc : X.calm = true) (hN : X.N.Nodup) (hi : X.N[i]? = some x) (hj : X.N[j]? = some y) (hl : X.N[l]? = some z) (hij : i ≠ j) (hil : i ≠ l) (hjl : j ≠ l)
    (hx : X.env.scope.names.lookup x = some .local) (hy : X.env.scope.names.lookup y = some .local) (hz : X.env.scope.names.lookup z = some .local) (ha : EAV X F [a, b, c] f)
    (hw : swappedStores [.Tuple [.Name x px, .Name y py, .Name z pz] kt pt] (.Tuple [a, b, c] k2 pt2) X.env = pure (some [x, y, z]))
    (hs : swapsWithSole [.Tuple [.Name x px, .Name y py, .Name z pz] kt pt] (.Tuple [a, b, c] k2 pt2) pos.line X.env = pure false := by rfl) :
    ES X F (.Assign [.Tuple [.Name x px, .Name y py, .Name z pz] kt pt] (.Tuple [a, b, c] k2 pt2) pos) (fPars [i, j, l] f) :=
  (ps_par3 hc hN hi hj hl hij hil hjl hx hy hz ha hw hs).via fun D σ H h => (rdG.bindS h).imp fun xs H1 ⟨ds, S1, r, v, p, q⟩ => by
    cases e : setsV [i, j, l] ds S1 with
    | none => rw [e] at q; exact q.elim
    | some S2 =>
      rw [e] at q
      obtain ⟨l, r2⟩ := sets_rel r v e
      match xs, l with
      | [u, w, t], _ => exact ⟨u, w, t, rfl, q _ _ (.refl H1) r2⟩
/-- by a tuple that is laid and taken apart -/
def gNs : List Nat → TGs
  | [] => gNil
  | i :: is => gCons (gName i) (gNs is)
theorem gNs_of : ∀ {is : List Nat} {xs : List V} {σ : Sl} {H : Hp} {Q : L2.St → Hp → Prop}, xs.length = is.length → Q (setsX is xs σ) H → gNs is xs σ H Q
  | [], [], σ, H, Q, _, q => ⟨rfl, q⟩
  | i :: is, x :: xs, σ, H, Q, l, q => ⟨x, xs, rfl, gNs_of (is := is) (by simpa using l) q⟩
theorem s_pars {tgs vals : List Expr} {is : List Nat} {f : FS → Res (List SV)} {pt : Pos} {kt k2 : Nat} {pt2 : Pos} (hc : X.calm = true) (hn : is.length ≤ sizeLine) (ha : EAV X F vals f) (hg : PGs X tgs (gNs is)) (hk : (assignEach tgs X.env).length = is.length := by rfl) (hst : (assignEach tgs X.env).findIdx? (·.1) = none := by rfl)
    (hs : swapsWithSole [.Tuple tgs kt pt] (.Tuple vals k2 pt2) pos.line X.env = pure false := by rfl) (hw : swappedStores [.Tuple tgs kt pt] (.Tuple vals k2 pt2) X.env = pure none := by rfl)
    (h1 : (assignEach [.Tuple tgs kt pt] X.env).map (·.2) = [assign (.Tuple tgs kt pt) X.env] := by rfl) : ES X F (.Assign [.Tuple tgs kt pt] (.Tuple vals k2 pt2) pos) (fPars is f) :=
  (ps_asg (pe_tup ha) (pg_tup hc hg hk hst) hs hw h1).via fun D σ H h => (rdG.bindS h).imp fun xs H1 ⟨ds, S1, r, v, p, q⟩ => by
    cases e : setsV is ds S1 with
    | none => rw [e] at q; exact q.elim
    | some S2 =>
      rw [e] at q
      obtain ⟨l, r2⟩ := sets_rel r v e
      refine ⟨by rw [l]; exact hn, fun a ha => ⟨a, xs, rfl, .inl (.inl upd_same), l, gNs_of l ?_⟩⟩
      exact q _ _ (Pers.new ha) (r2.new ha)
end
end Fz
end

section
set_option Elab.async false
set_option linter.all false
set_option maxRecDepth 100000
set_option maxHeartbeats 4000000
/-! F9: keywords, chains. -/
namespace Fz
open PySem PySem.Spec PyProof.Rows L2
/-- the places of the parameters among the positional arguments and the keywords' values, as written -/
def permL {α : Type} (p : List Nat) (l : List α) : List α := p.filterMap fun i => l[i]?
theorem vals_perm {vs : List V} {us : List Value} (r : Vals vs us) : ∀ p : List Nat, Vals (permL p vs) (permL p us)
  | [] => .nil
  | i :: p => by
    have ih := vals_perm r p
    unfold permL
    cases e : vs[i]? with
    | none =>
      have e2 : us[i]? = none := r.none_of e
      rw [List.filterMap_cons_none e, List.filterMap_cons_none e2]
      exact ih
    | some x =>
      obtain ⟨u, e2, h⟩ := r.get e
      rw [List.filterMap_cons_some e, List.filterMap_cons_some e2]
      exact .cons h ih
theorem paired_perm {α β : Type} {R : α → β → Prop} {xs : List α} {ys : List β} (r : Paired R xs ys) : ∀ p : List Nat, Paired R (permL p xs) (permL p ys)
  | [] => .nil
  | i :: p => by
    have ih := paired_perm r p
    unfold permL
    have hl := paired_len r
    cases e : ys[i]? with
    | none =>
      have e2 : xs[i]? = none := List.getElem?_eq_none (by rw [hl]; exact List.getElem?_eq_none_iff.mp e)
      rw [List.filterMap_cons_none e, List.filterMap_cons_none e2]
      exact ih
    | some y =>
      obtain ⟨x, e2, h⟩ := paired_get r e
      rw [List.filterMap_cons_some e, List.filterMap_cons_some e2]
      exact .cons h ih
structure KwF (K : Fg) (fd : FuncData) (ps : List Str) (n : Nat) (ks : List Str) (perm : List Nat) : Prop where
  to : ∀ (s : Shared) (us ws : List Value), K.In s.heap → us.length = n → ws.length = ks.length → BindsTo s fd ⟨us, ks.zip ws⟩ (ps.zip (permL perm (us ++ ws)))
theorem kwF_of {K : Fg} {x qual : Str} {params : Arguments} {body : List Stmt} {scope : Scope} {kws : List (Str × V)} {f : Addr} {fd : FuncData} {ps : List Str} {n : Nat} {ks : List Str} {perm : List Nat} (F : FunD K x qual params body scope [] kws f fd)
    (h : ∀ (kV doc pm : Value) (an : Option Addr) (cdv ct : Value) (us ws : List Value), us.length = n → ws.length = ks.length → bindArgs (PySem.W.fnOf x qual params body scope .none kV doc pm an cdv ct) ⟨us, ks.zip ws⟩ = pure (ps.zip (permL perm (us ++ ws)))) : KwF K fd ps n ks perm := by
  obtain ⟨oc, od, dV, kV, doc, pm, an, cdv, ct, osl, rfl, lk, hcd, hD, hK⟩ := F.ex
  rcases hD with ⟨_, rfl⟩ | ⟨e, _⟩
  · exact ⟨fun s us ws _ l1 l2 => .of_eq (h kV doc pm an cdv ct us ws l1 l2)⟩
  · exact absurd rfl e
/-- a def of the text, called with keywords -/
structure FnK (P : Program) (w : World) (K : Fg) (mg : Str → Option Value) (base : Heap) (T : List Addr) (k : Nat) (x : Str) (ps : List Str) (n : Nat) (den : Den) (m : Nat) (ks : List Str) (perm : List Nat) : Prop where
  ex : ∃ f fd, GOk P w K mg base k f fd ps (spG P w K mg base T n den) ∧ mg x = some (.ref f) ∧ PySem.W.keepIn K (.ref f) = true ∧ KwF K fd ps m ks perm
def fCallK (den : Den) (n m : Nat) (nk : Nat) (perm : List Nat) (f g : FS → Res (List AD)) : FS → Res SV := bnd f fun as => bnd g fun bs => if as.length = m ∧ bs.length = nk ∧ (permL perm (as ++ bs)).length = n then callD den (permL perm (as ++ bs)) else fun _ => .bad
theorem paired_append {α β : Type} {R : α → β → Prop} : ∀ {xs xs' : List α} {ys ys' : List β}, Paired R xs ys → Paired R xs' ys' → Paired R (xs ++ xs') (ys ++ ys')
  | _, _, _, _, .nil, h => h
  | _, _, _, _, .cons r t, h => .cons r (paired_append t h)
section
variable {X : Cx} {F : Fx} {e : Expr} {es : List Expr} {kws : List Keyword} {x : Str} {p pos : Pos} {den : Den} {k j n m : Nat} {ps ks : List Str} {perm : List Nat} {f g : FS → Res (List AD)}
theorem run_kw {pins : List (Addr × Obj)} {σ : L2.St} {H : Hp} {s : Shared} {Q : VK} {us ws : List Value} {vs zs : List V} {fa : Addr} {fd : FuncData} (F1 : GOk X.prog X.w X.K X.mg X.base k fa fd ps (spG X.prog X.w X.K X.mg X.base F.tabs n den)) (hr : RoomG k X.A) (hb : KwF X.K fd ps m ks perm)
    (I : Inv X pins σ H s) (r : Vals vs us) (rz : Vals zs ws) (l1 : vs.length = m) (l2 : zs.length = ks.length) (h : spG X.prog X.w X.K X.mg X.base F.tabs n den (permL perm (vs ++ zs)) H Q F.E) : wpAny (model X.prog X.w) X.A (call (.ref fa) us (ks.zip ws)) (EP X pins σ Q) X.xe s :=
  wpAny_call (run_g F1 hr I (hb.to s us ws I.kIn (r.length.symm.trans l1) (rz.length.symm.trans l2)) (vals_perm (r.append rz) perm) h)
theorem e_callK0 (G : FnK X.prog X.w X.K X.mg X.base F.tabs k x ps n den 0 ks perm) (hr : RoomG j X.A) (hk : k ≤ j) (hg : Gl X x) (hkw : EKS X F kws g) (hW : F.w = X.w := by rfl) (hcl : F.cl.clo = CloOk X.prog X.w X.K X.mg X.base F.tabs := by rfl)
    (hall : (backToKw pos (keywordEach kws X.env)).all (·.1.isSome) = true := by rfl) (hks : (backToKw pos (keywordEach kws X.env)).filterMap (·.1) = ks := by rfl)
    (hdb : (x == ("__debug__" : Str)) = false := by decide) (hpl : ((backTo pos (starEach [] X.env)).any (·.1) || (backToKw pos (keywordEach kws X.env)).any (·.1.isNone)) = false := by rfl) :
    EV X F (.Call (.Name x p) [] kws pos) (fCallK den n 0 ks.length perm (fC []) g) := by
  obtain ⟨fa, fd, F1, hm, kp, b⟩ := G.ex
  refine ⟨fun pins s σ H Q I ⟨S, r, hw⟩ => ?_⟩
  refine wpAny_Call_Name_kw (ld_glob I hg hm ?_ hdb)
  have hw2 : postG X.K F VR (bnd g (fun bs => if ([] : List AD).length = 0 ∧ bs.length = ks.length ∧ (permL perm ([] ++ bs)).length = n then callD den (permL perm ([] ++ bs)) else fun _ => .bad) S) σ H Q := hw
  refine PySem.W.callWith_KW0 (h₀ := X.base) I.ok.mod.kin kp hall (thn (hkw.run pos pins s σ H _ I (rdG.bind (R' := VR) ⟨S, r, hw2⟩)) fun ws s2 ⟨zs, H2, I2, rz, bs, S2, r2, v2, p2, q2⟩ => ⟨I2.kIn, ?_⟩) hpl
  rw [hks]
  split at q2
  · rename_i hl
    exact run_kw (vs := []) F1 (hr.mono hk) b I2 .nil rz rfl ((paired_len v2).trans hl.2.1) (by have z := call_in r2 (paired_perm (paired_append (.nil (F := ADR X.K H2 σ)) v2) perm) hl.2.2 q2; rw [hW, hcl] at z; exact z)
  · exact q2.elim
end
/-! ### chains a < b < c -/
section
variable {X : Cx} {F : Fx} {a b c : Expr} {pos : Pos} {fa fb fc : FS → Res D} {g g' : D → D → FS → Res D}
def fChain (g g' : D → D → FS → Res D) (fa fb fc : FS → Res D) : FS → Res D := bnd fa fun d => bnd fb fun e => bnd (g d e) fun z => match z with
  | .bool true => bnd fc fun h => g' e h
  | .bool false => fC (.bool false)
  | _ => fun _ => .bad
theorem chain_of {op op' : CmpOp} {σ : Sl} {H : Hp} {Q : VK} (h : rdG X.K F PR (fChain g g' fa fb fc) σ H Q) :
    tChain (rOp X.K F PR g) (rOp X.K F PR g') (rdG X.K F PR fa) (rdG X.K F PR fb) (rdG X.K F QR fc) σ H Q := by
  refine (rdG.bind h).imp fun x H1 ⟨d, S1, r1, v1, p1, q1⟩ => ?_
  refine (rdG.bind (k := fun e => bnd (g d e) fun z => match z with | .bool true => bnd fc fun h => g' e h | .bool false => fC (.bool false) | _ => fun _ => .bad) (R' := PR) ⟨S1, r1, q1⟩).imp fun y H2 ⟨e, S2, r2, v2, p2, q2⟩ => ?_
  have q3 : rdG X.K F PR (bnd (g d e) fun z => match z with | .bool true => bnd fc fun h => g' e h | .bool false => fC (.bool false) | _ => fun _ => .bad) σ H2 Q := ⟨S2, r2, q2⟩
  refine ⟨S2, σ, d, e, r2, .inl (Pd.mono p2 v1), .inl v2, ?_⟩
  unfold bnd at q2
  cases eg : g d e S2 with
  | bad => rw [eg] at q2; exact q2
  | exn e3 S3 => rw [eg] at q2; exact q2
  | ok z S3 =>
    rw [eg] at q2
    intro z' H3 p3 r3 v3
    cases z with
    | bool k =>
      cases v3
      refine ⟨k, rfl, ?_⟩
      cases k with
      | true =>
        refine (rdG.bind (k := fun h => g' e h) (R' := PR) ⟨S3, r3, postG.later p3 q2⟩).imp fun w H4 ⟨h, S4, r4, v4, p4, q4⟩ => ?_
        exact ⟨S4, σ, e, h, r4, .inl (Pd.mono (p3.trans p4) v2), v4, q4⟩
      | false => exact q2 _ _ p3 r3 (Pd.bl _)
    | _ => exact q2.elim
theorem e_chain {op op' : CmpOp} (ho : OpF X F PR (compareOp op) g) (ho' : OpF X F PR (compareOp op') g') (ha : ED X F a fa) (hb : ED X F b fb) (hc : EQ X F c fc) (hm : lastMarks [op, op'] [b, c] = false := by with_unfolding_all rfl) : ED X F (.Compare a [op, op'] [b, c] pos) (fChain g g' fa fb fc) :=
  (pe_chain ho ho' ha hb hc (hm := hm)).via fun σ H Q h => chain_of (op := op) (op' := op') h
end
end Fz
end

section
set_option Elab.async false
set_option linter.all false
set_option maxRecDepth 100000
set_option maxHeartbeats 4000000
/-! F10: any, all of a generator expression. -/
namespace Fz
open PySem PySem.Spec PyProof.Rows L2 GenW
abbrev gbX (X : Cx) (A' : Around) (s : Shared) (H : Hp) (env' : Env) (fp : List Addr) (pn : List (Addr × Obj)) : Cx :=
  { X with A := A', s_0 := s, H_0 := H, env := env', outer := X.stack, stack := env' :: X.stack, ex := fp, fn := fun _ => false, pn := pn, xe := fun _ _ => False }
theorem inv_same {Y : Cx} {pins : List (Addr × Obj)} {σ : Sl} {H : Hp} {s s' : Shared} (I : Inv Y pins σ H s) (h : s'.heap = s.heap) (o : s'.os = s.os) (b : AllBare s'.gens) : Inv Y pins σ H s' :=
  ⟨I.ok, o.trans I.os, b, by rw [h]; exact I.base, by rw [h]; exact I.loc, by rw [h]; exact I.cell, I.free, I.freeC, by rw [h]; exact I.pin, by rw [h]; exact I.hok, I.len⟩
section
variable {X : Cx} {pins : List (Addr × Obj)} {σ : Sl} {H : Hp} {s : Shared}
theorem gen_start {scope : Scope} {own : List (Str × Nat)} {fp : List Addr} {A' : Around} {code : Value} {go : Obj} {gs : GenState} {h' : Heap} {tk : Nat} {m0 : Str → Option Value} (I : Inv X pins σ H s) (ok : BlkOk X.N X.env.scope scope own) (nc : ∀ y ∈ scope.names, y.2 ≠ .cell) (hN : X.N.Nodup)
    (hfp : ∀ b ∈ fp, FpOk X pins H b ∧ b < s.heap.objs.size) (hA : X.calm = true → A'.handled = none) (hfr : A'.frames = some (genEnv scope (cloFrom X.env.cells scope.names []) s.heap.objs.size code builtinsNs X.env :: X.stack))
    (hn : h'.Ns s.heap.objs.size m0) (kp : ∀ b o, s.heap.get? b = some o → h'.get? b = some o) (hg : ∀ v, go.data ≠ .cell v) (hp : (h'.push go).get? h'.objs.size = some go) (hgs : gs.bare = true) :
    Inv (gbX X A' s H (genEnv scope (cloFrom X.env.cells scope.names []) s.heap.objs.size code builtinsNs X.env) fp [(h'.objs.size, go)]) [] (wipe σ (own.map (·.2))) H { s with gens := s.gens.push gs, toks := tk, heap := h'.push go } := by
  have hfree : ∀ y ∈ scope.names, y.2 = .free → ∃ c, X.env.cells.lookup y.1 = some c := fun y hy e => by
    rcases ok.free y hy e with k | k
    · exact I.ok.has _ (.inl k)
    · exact I.ok.has _ (.inr k)
  generalize hcenv : genEnv scope (cloFrom X.env.cells scope.names []) s.heap.objs.size code builtinsNs X.env = cenv at hfr
  have kp2 : ∀ b o, s.heap.get? b = some o → (h'.push go).get? b = some o := fun b o e => Heap.get?_push_of_some _ (kp b o e)
  have hL : cenv.locals = s.heap.objs.size := by rw [← hcenv]; rfl
  have hcl : cenv.cells = cloFrom X.env.cells scope.names [] := by rw [← hcenv]; rfl
  have hsc : cenv.scope = scope := by rw [← hcenv]; rfl
  have hltC : s.heap.objs.size < h'.objs.size := hn.lt
  have cm : ∀ {y c}, (y, c) ∈ cloFrom X.env.cells scope.names [] → X.env.cells.lookup y = some c ∧ c < s.heap.objs.size := fun {y c} hm => by
    rcases cloFrom_mem hm with hm | ⟨h1, rfl⟩
    · cases hm
    · obtain ⟨c, hc⟩ := hfree _ h1 rfl
      rw [hc]
      obtain ⟨w, z⟩ := I.cell _ _ hc
      exact ⟨rfl, z.lt⟩
  have mem : ∀ {y c}, cenv.cells.lookup y = some c → X.env.cells.lookup y = some c ∧ c < s.heap.objs.size := fun {y c} e => by
    rw [hcl] at e
    exact cm (PySem.mem_of_lookup e)
  have look : ∀ {y}, scope.names.lookup y = some .free → ∃ c, cenv.cells.lookup y = some c ∧ X.env.cells.lookup y = some c := fun {y} hl => by
    have hy : (y, NameKind.free) ∈ scope.names := PySem.mem_of_lookup hl
    obtain ⟨c', e'⟩ := mem_lookup (cloFrom_has (cells := X.env.cells) (acc := []) hy)
    rw [← hcl] at e'
    exact ⟨c', e', (mem e').1⟩
  have okB : (gbX X A' s H cenv fp [(h'.objs.size, go)]).Ok := by
    refine ⟨I.ok.mod, by show cenv.scope.kind = _; rw [hsc]; exact ok.kind, by show cenv.globals = _; rw [← hcenv]; exact I.ok.glob, by show cenv.builtins = _; rw [← hcenv]; rfl, by show s.heap.objs.size ≤ cenv.locals; rw [hL]; exact Nat.le_refl _,
      fun y z c e1 e2 => I.ok.inj y z c (mem e1).1 (mem e2).1, fun y hy => ?_, fun y c z e => (Bool.false_ne_true z).elim, hA, hfr, .inr ⟨rfl, by show cenv.frame = some cenv.locals; rw [← hcenv]; rfl⟩, fun b hb => ⟨?_, fun y c e z => ?_⟩, I.bs, Nat.le_trans I.ok.bsz I.sz, fun b o e hb => ?_, fun b hb z => ?_, I.stack, I.stkFree⟩
    · show ∃ c, cenv.cells.lookup y = some c
      have hy : cenv.scope.names.lookup y = some .cell ∨ cenv.scope.names.lookup y = some .free := hy
      rw [hsc] at hy
      rcases hy with hy | hy
      · exact absurd rfl (nc _ (PySem.mem_of_lookup hy))
      · obtain ⟨c, h1, _⟩ := look hy
        exact ⟨c, h1⟩
    · show b ≠ cenv.locals
      rw [hL]; exact Nat.ne_of_lt (hfp b hb).2
    · exact (hfp b hb).1.2.2.2.2.1 y c (mem e).1 z
    · rcases (hfp b hb).1.2.2.2.1 with z | z
      · exact I.ok.noex b o e z
      · exact absurd (Nat.lt_of_lt_of_le (Heap.lt_size e) (Nat.le_trans I.ok.bsz z)) (Nat.lt_irrefl _)
    · rcases List.mem_cons.mp (I.stkSub b z) with z | z
      · exact (hfp b hb).1.2.1 z
      · exact (hfp b hb).1.2.2.1 z
  refine ⟨okB, rfl, AllBare.push I.bare hgs, Un.kept kp2, ⟨m0, ?_, fun i y av e1 e2 e3 => ?_⟩, fun y c e => ?_, ?_, fun y c e => ?_, fun p hp2 => ?_, I.hok.kept kp2, by rw [wipe_length]; exact I.len⟩
  · show Heap.Ns _ cenv.locals _
    rw [hL]
    exact hn.push _
  · obtain ⟨e2, hne⟩ := wipe_some e2
    have e3 : Vis cenv.scope y := e3
    rw [hsc] at e3
    have no : ∀ k, scope.names.lookup y = some k → ¬ (k = .local ∨ k = .cell) := fun k e hh => by
      rcases ok.own _ (PySem.mem_of_lookup e) hh with e' | e'
      · obtain ⟨p, hp, hpy⟩ := List.mem_map.mp e'
        have e3 := ok.ix p hp
        have : p.1 = y := hpy
        rw [this] at e3
        exact hne (List.mem_map.mpr ⟨p, hp, nodup_ix hN e3 e1⟩)
      · exact e' (List.mem_of_getElem? e1)
    have hfr2 : scope.names.lookup y = some .free := by
      rcases e3 with e3 | e3 | e3
      · exact absurd (.inl rfl) (no _ e3)
      · exact absurd (.inr rfl) (no _ e3)
      · exact e3
    obtain ⟨m, hn2, hl⟩ := I.loc
    have hvis : Vis X.env.scope y := (ok.free _ (PySem.mem_of_lookup hfr2) rfl).elim (fun k => .inr (.inl k)) (fun k => .inr (.inr k))
    obtain ⟨w, r, q⟩ := hl i y av e1 e2 hvis
    refine ⟨w, r, .inr ⟨.inr (by show cenv.scope.names.lookup y = _; rw [hsc]; exact hfr2), ?_⟩⟩
    obtain ⟨c, h1, h2⟩ := look hfr2
    rcases q with ⟨k, _⟩ | ⟨_, c', e', z⟩
    · have k : X.env.scope.names.lookup y = some .local := k
      rcases ok.free _ (PySem.mem_of_lookup hfr2) rfl with k' | k' <;> rw [show X.env.scope.names.lookup y = _ from k'] at k <;> cases k
    · rw [h2] at e'; cases e'
      exact ⟨c, h1, z.keeps kp2⟩
  · obtain ⟨w, z⟩ := I.cell y c (mem (show cenv.cells.lookup y = some c from e)).1
    exact ⟨w, z.keeps kp2⟩
  · show H cenv.locals = none
    rw [hL]; exact I.hok.fresh (Nat.le_refl _)
  · exact I.freeC y c (mem (show cenv.cells.lookup y = some c from e)).1
  · have hp2 : p ∈ [(h'.objs.size, go)] := by simpa using hp2
    rw [List.mem_singleton.mp hp2]
    refine ⟨hp, I.hok.fresh (Nat.le_of_lt hltC), ?_, fun z => ?_, hg⟩
    · show h'.objs.size ≠ cenv.locals
      rw [hL]; exact Nat.ne_of_gt hltC
    · rcases List.mem_cons.mp (I.stkSub _ z) with z | z
      · have q : h'.objs.size < s.heap.objs.size := by
          have e : h'.objs.size = X.env.locals := z
          rw [e]; exact I.lt
        exact absurd (Nat.lt_trans hltC q) (Nat.lt_irrefl _)
      · exact I.nofs (Nat.le_of_lt hltC) z
end
/-! ### the generator's turns -/
def anyF (stop : Bool) (g : D → FS → Option FS) (t : FS → Res Bool) (fe : FS → Res D) (vs : List Nat) : List D → FS → Res Bool
  | [], S => .ok (!stop) S
  | d :: ds, S => match g d (wipeS S vs) with
    | none => .bad
    | some S1 => match t S1 with
      | .ok false S2 => anyF stop g t fe vs ds (restS S S2 vs)
      | .ok true S2 => (match fe S2 with
        | .ok (.bool b) S3 => if b = stop then .ok stop (restS S S3 vs) else anyF stop g t fe vs ds (restS S S3 vs)
        | _ => .bad)
      | _ => .bad
structure Woken (s s' : Shared) : Prop where
  heap : s'.heap = s.heap
  os : s'.os = s.os
  bare : AllBare s'.gens
def GYp (Y : Cx) (stop : Bool) (Q : Bool → Hp → Prop) : Protocol := fun n s₀ v s kap => ∃ b H' σ pins, v = .bool b ∧ Inv Y pins σ H' s ∧ (b = stop → Q stop H') ∧ (b ≠ stop → ∀ s', Woken s s' → kap (.send .none) s')
def GRp (Y : Cx) (stop : Bool) (Q : Bool → Hp → Prop) : Nat → Shared → Shared → Prop := fun n s₀ s => ∃ H' σ pins, Inv Y pins σ H' s ∧ Q (!stop) H'
abbrev GRr (Y : Cx) (stop : Bool) (Q : Bool → Hp → Prop) : GenEnd := fun n s₀ r s₁ => r = .ok .next ∧ GRp Y stop Q n s₀ s₁
section
variable {Y : Cx} {F : Fx} {elt tg iter : Expr} {ifs : List Expr} {scope : Scope} {pos : Pos} {g : D → FS → Option FS} {t : FS → Res Bool} {fe : FS → Res D} {ts vs : List Nat} {stop : Bool} {Q : Bool → Hp → Prop}
  {A : Around} {it : Addr} {fp : List Addr} {tn : Nat → Heap → Prop} {J : It} {H1 : Hp} {ds : List D} {σ : Sl}
theorem thnY {α : Type} {m : Sem α} {P P' : α → Shared → Prop} {M : Model} {E : Value → Shared → Prop} {s : Shared} (hx : ∀ e s, Y.xe e s → False) (h : wpAny M A m P Y.xe s) (hQ : ∀ a s, P a s → P' a s) : wpAny M A m P' E s := wpAny_mono h hQ fun _ _ z => (hx _ _ z).elim
theorem gen_loop (hc : Y.calm = true) (hx : ∀ e s, Y.xe e s → False) (hA : A.over (.compLoop (.GeneratorExp elt [⟨tg, iter, ifs, 0⟩] scope pos) 0 (.ref it) .none Y.env) [] = Y.A) (hco : Y.env.scope.isCoroutine = false)
    (T : Turn Y.prog Y.w Y.K tg J fp it tn) (stat : ∀ (σ' : Sl) (H' : Hp) (s' : Shared), Inv Y [] σ' H' s' → (∀ b ∈ fp, H' b = none) → ∀ b ∈ fp, FpOk Y [] H' b) (y : Yields Y.K J H1 ds)
    (pg : EG Y F tg ts g) (pt : ETs Y F ifs t) (pe : ED Y F elt fe) (hts : ∀ j, j ∈ ts → j ∈ vs) :
    ∀ (k i n : Nat) (s₀ s : Shared) (S : FS) (H : Hp), ds.length - i = k → i ≤ ds.length → k ≤ n → Inv Y [] (wipe σ vs) H s → tn i s.heap → (∀ b ∈ fp, H b = none) → Pers H1 H → Rel Y.K F S σ H → postT Y.K F (anyF stop g t fe vs (ds.drop i) S) σ H Q →
      Seg (model Y.prog Y.w) A (GRr Y stop Q) (GYp Y stop Q) n s₀ (.compLoop (.GeneratorExp elt [⟨tg, iter, ifs, 0⟩] scope pos) 0 (.ref it) .none Y.env)
        ((model Y.prog Y.w).den (.compLoop (.GeneratorExp elt [⟨tg, iter, ifs, 0⟩] scope pos) 0 (.ref it) .none Y.env)) [] s := by
  intro k
  induction k with
  | zero =>
    intro i n s₀ s S H hk hi hkn I st nf pH r p
    have e : i = ds.length := by omega
    subst e
    rw [List.drop_length] at p
    show Seg _ A _ _ n s₀ _ ((compTurn (.GeneratorExp elt [⟨tg, iter, ifs, 0⟩] scope pos) 0 (.ref it) .none Y.env).onRaise (leaving Y.env)) [] s
    rw [compTurn_gen, Sem.onRaise_eq_wrap]
    refine seg_bind_wrap (wpAny_standAt ?_)
    refine seg_bind_wrap ?_
    rw [hA]
    have td := T.done Y rfl rfl rfl hc ds.length [] s _ H (fun _ _ => False) I (stat _ _ _ I nf) st (y.stop H pH)
    refine thnF td fun rr s6 ⟨hr, I6⟩ => ?_
    subst hr
    exact seg_end (.ok .next) ⟨rfl, H, _, _, I6, p.ok r⟩
  | succ k ih =>
    intro i n s₀ s S H hk hi hkn I st nf pH r p
    have hl : i < ds.length := by omega
    show Seg _ A _ _ n s₀ _ ((compTurn (.GeneratorExp elt [⟨tg, iter, ifs, 0⟩] scope pos) 0 (.ref it) .none Y.env).onRaise (leaving Y.env)) [] s
    rw [compTurn_gen, Sem.onRaise_eq_wrap]
    refine seg_bind_wrap (wpAny_standAt ?_)
    refine seg_bind_wrap ?_
    rw [hA]
    have ti := T.item Y rfl rfl rfl hc i [] s _ H (fun _ _ => False) I (stat _ _ _ I nf) st (y.go i H pH hl)
    refine thnF ti fun rr s6 ⟨u, hr, h6⟩ => ?_
    subst hr
    refine seg_bind_wrap ?_
    rw [hA]
    refine thnF h6 fun _ s7 ⟨x, H7, I7, r7, y7, st7, n7⟩ => ?_
    obtain ⟨p2, k2, v2⟩ := y.yld i H x H7 ds[i] pH (List.getElem?_eq_getElem hl) y7
    rw [List.drop_eq_getElem_cons hl] at p
    simp only [anyF] at p
    have rb2 : Rel Y.K F S σ H7 := k2 _ _ _ r
    have rw2 := rb2.wiped (vs := vs)
    have I7' := I7.pinned (stat _ _ _ I7 n7) (T.obj _ _ st7)
    refine seg_bind_wrap ?_
    rw [hA]
    cases e2 : g ds[i] (wipeS S vs) with
    | none => rw [e2] at p; exact p.elim
    | some S1 =>
      rw [e2] at p
      simp only at p
      refine thnY hx (pg.run _ s7 _ H7 x u (fun σ8 H8 => wipe σ8 vs = wipe σ vs ∧ Pers H7 H8 ∧ Rel Y.K F S1 σ8 H8) I7' r7 ⟨wipeS S vs, ds[i], rw2, v2, ?_⟩) fun _ s8 ⟨σ8, H8, I8, hw8, p8, r8⟩ => ?_
      · rw [e2]
        intro σ3 H3 p3 r3 b3
        refine ⟨?_, p3, r3⟩
        apply List.ext_getElem?
        intro j
        by_cases hj : j ∈ vs
        · have l1 : (wipe σ3 vs).length = (wipe σ vs).length := by rw [wipe_length, b3.1]
          by_cases hl2 : j < σ.length
          · rw [wipe_eq, wipe_eq, setAll_in hj (by rw [b3.1, wipe_length]; exact hl2), setAll_in hj hl2]
          · rw [List.getElem?_eq_none (by rw [l1, wipe_length]; omega), List.getElem?_eq_none (by rw [wipe_length]; omega)]
        · rw [wipe_eq, setAll_out hj, b3.2 j (fun z => hj (hts j z)), wipe_eq]
      refine seg_bind_wrap ?_
      rw [hA]
      have pH8 : Pers H1 H8 := (pH.trans p2).trans p8
      -- the turn's end
      have fin : ∀ {n' : Nat} {s0' s' : Shared} {H' : Hp} {S' : FS}, k ≤ n' → Inv Y ([] ++ L2.pinsAt fp s7.heap) σ8 H' s' → Pers H8 H' → Rel Y.K F (restS S S' vs) σ H' → postT Y.K F (anyF stop g t fe vs (ds.drop (i + 1)) (restS S S' vs)) σ H' Q →
          Seg (model Y.prog Y.w) A (GRr Y stop Q) (GYp Y stop Q) n' s0' (.compLoop (.GeneratorExp elt [⟨tg, iter, ifs, 0⟩] scope pos) 0 (.ref it) .none Y.env)
            ((model Y.prog Y.w).den (.compLoop (.GeneratorExp elt [⟨tg, iter, ifs, 0⟩] scope pos) 0 (.ref it) .none Y.env)) [] s' := fun {n' s0' s' H' S'} hn' I' pp rr qq => by
        have pin' : ∀ b ∈ fp, ∀ o, s7.heap.get? b = some o → s'.heap.get? b = some o ∧ H' b = none := fun b hb o e =>
          let z := I'.pin (b, o) (List.mem_append_right _ (List.mem_append_right _ (mem_pinsAt hb e)))
          ⟨z.1, z.2.1⟩
        have hl3 : (wipe σ vs).length = σ8.length := by rw [← hw8, wipe_length]
        refine ih (i + 1) n' s0' s' _ H' (by omega) hl hn' ((I'.unpinned (pins := [])).weak hl3 (fun j v e => ?_)) (T.keep _ _ _ st7 fun b hb o e => (pin' b hb o e).1) (fun b hb => ?_) (pH8.trans pp) rr qq
        · rw [← hw8] at e
          exact (wipe_some e).1
        · obtain ⟨o, e, _⟩ := T.obj _ _ st7 b hb
          exact (pin' b hb o e).2
      cases e3 : t S1 with
      | exn e4 S2 => rw [e3] at p; exact p.elim
      | bad => rw [e3] at p; exact p.elim
      | ok kk S2 =>
        rw [e3] at p
        refine thnY hx (pt.run _ s8 σ8 H8 (fun b H9 => b = kk ∧ Pers H8 H9 ∧ Rel Y.K F S2 σ8 H9) I8 ⟨S1, r8, ?_⟩) fun b s9 ⟨H9, I9, eb, p9, r9⟩ => ?_
        · rw [e3]
          exact fun H4 p4 r4 => ⟨rfl, p4, r4⟩
        subst eb
        have pp9 : Pers H H9 := (p2.trans p8).trans p9
        cases b with
        | false =>
          simp only [Bool.false_eq_true, if_false]
          refine seg_again rfl ?_
          exact fin (n' := n) (by omega) I9 p9 (r.rest r9 pp9 hw8) (p.later pp9)
        | true =>
          simp only at p
          simp only [if_true]
          cases e5 : fe S2 with
          | exn e6 S3 => rw [e5] at p; exact p.elim
          | bad => rw [e5] at p; exact p.elim
          | ok yd S3 =>
            rw [e5] at p
            cases yd with
            | bool b =>
              simp only at p
              have hy : ∀ v, yieldOut Y.env v = yieldValue v := fun v => by simp only [yieldOut, hco, Bool.false_eq_true, if_false]
              simp only [hy]
              obtain ⟨n, rfl⟩ : ∃ m, n = m + 1 := ⟨n - 1, by omega⟩
              rw [Sem.bind_eq_wrap', Sem.bind_eq_wrap', Sem.wrap_wrap, Sem.wrap_wrap]
              refine seg_wrap ?_
              rw [hA]
              refine thnY hx (pe.run _ s9 σ8 H9 (fun z H10 => z = .bl b ∧ Pers H9 H10 ∧ Rel Y.K F S3 σ8 H10) I9 ⟨S2, r9, ?_⟩) fun z s10 ⟨yv, H10, I10, r10, ev, p10, q10⟩ => ?_
              · rw [e5]
                intro z H5 p5 r5 v5
                cases v5
                exact ⟨rfl, p5, r5⟩
              subst ev
              obtain rfl : z = Value.bool b := r10
              have pp10 : Pers H H10 := pp9.trans p10
              have rr := r.rest q10 pp10 hw8
              refine seg_at (seg_yield rfl rfl rfl ⟨b, H10, σ8, _, rfl, I10, fun hb => ?_, fun hb s'' wk => ?_⟩)
              · rw [if_pos hb] at p
                exact p H10 pp10 rr
              · rw [if_neg hb] at p
                refine seg_again rfl ?_
                exact fin (n' := n) (by omega) (inv_same I10 wk.heap wk.os wk.bare) (p9.trans p10) rr (p.later pp10)
            | _ => exact p.elim
end
end Fz
end

section
set_option Elab.async false
set_option linter.all false
set_option maxRecDepth 100000
set_option maxHeartbeats 4000000
/-! F11: any, all of a generator expression: the consumer, the rule. -/
namespace Fz
open PySem PySem.Spec PyProof.Rows L2 GenW
section
variable {Y : Cx} {F : Fx} {elt tg iter : Expr} {ifs : List Expr} {scope : Scope} {pos : Pos} {stop : Bool} {Q : Bool → Hp → Prop}
  {A : Around} {it : Addr} {σ : Sl}
theorem gen_begin {n : Nat} {s₀ s : Shared} {fp : List Addr} {tn : Nat → Heap → Prop} {J : It} {R : GenEnd} {Yp : Protocol} (T : Turn Y.prog Y.w Y.K tg J fp it tn) (st : tn 0 s.heap)
    (loop : Seg (model Y.prog Y.w) A R Yp n s₀ (.compLoop (.GeneratorExp elt [⟨tg, iter, ifs, 0⟩] scope pos) 0 (.ref it) .none Y.env)
        ((model Y.prog Y.w).den (.compLoop (.GeneratorExp elt [⟨tg, iter, ifs, 0⟩] scope pos) 0 (.ref it) .none Y.env)) [] s) :
    Seg (model Y.prog Y.w) A R Yp n s₀ (.compStart (.GeneratorExp elt [⟨tg, iter, ifs, 0⟩] scope pos) 0 (.ref it) .none Y.env)
        ((model Y.prog Y.w).den (.compStart (.GeneratorExp elt [⟨tg, iter, ifs, 0⟩] scope pos) 0 (.ref it) .none Y.env)) [] s := by
  show Seg _ A _ _ _ s₀ _ ((compStart (.GeneratorExp elt [⟨tg, iter, ifs, 0⟩] scope pos) 0 (.ref it) .none Y.env).onRaise (leaving Y.env)) [] s
  unfold compStart
  rw [Sem.onRaise_eq_wrap]
  show Seg _ A _ _ _ s₀ _ ((ask >>= _).wrap _ _ _ _) [] s
  refine seg_bind_wrap (wpAny_askSetting ?_)
  split
  · exact seg_again rfl loop
  · first
      | exact seg_bind_wrap (wpAny_rule (seg_bind_wrap (wpAny_standAt (seg_bind_wrap (T.self _ 0 s _ _ st (seg_again rfl loop))))))
      | (refine seg_bind_wrap (wpAny_rule ?_); show Seg _ A _ _ _ s₀ _ ((standAt iter.pos >>= _).wrap _ _ _ _) [] s; exact seg_bind_wrap (wpAny_standAt (seg_bind_wrap (T.self _ 0 s _ _ st (seg_again rfl loop)))))
/-- the builtin's loop -/
def loopId (stop : Bool) : String := if stop then "any.loop" else "all.loop"
theorem use_gen {a : Addr} {gi : Nat} {go : Obj} {RR : Result → Shared → Prop} (hh : A.handled = none) (hd : A.depth < recursionLimit) (hpn : Y.pn = [(a, go)]) (hgo : ∀ h : Heap, h.get? a = some go → h.IsGen a gi)
    (hlim : ∀ σ pins H s, Inv Y pins σ H s → s.heap.NoLimit)
    (fin : ∀ b H' σ pins s', Inv Y pins σ H' s' → Q b H' → RR (.ok (.ret (.bool b))) s') :
    ∀ (n : Nat) (gs : GenState) (s : Shared), s.heap.IsGen a gi → s.heap.NoLimit → s.gens[gi]? = some gs → gs.Goes (model Y.prog Y.w) A.in1.in1 (GRr Y stop Q) (GYp Y stop Q) n (.send .none) (s.setGen gi .running) →
      codeAny (model Y.prog Y.w) A (.builtin (loopId stop) ⟨[.ref a], []⟩) RR s := by
  intro n
  induction n with
  | zero =>
    intro gs s hg hl hgs hgoes
    have key : wpAny (model Y.prog Y.w) A.in1 (pyNext (.ref a)) (fun o s1 => match o with
        | none => RR (.ok (.ret (.bool (!stop)))) s1
        | some v => v = .bool stop ∧ RR (.ok (.ret (.bool stop))) s1) (fun e s' => RR (.error e) s') s := by
      refine wpAny_pyNext_genexpQ (P := GRp Y stop Q) hh hl hd hg hgs hgoes (fun v s₁ gs' hb hv => ?_) (fun s₁ hp h' hk => ?_)
      · obtain ⟨b, H', σ, pins, rfl, I, h1, h2⟩ := hv
        by_cases e : b = stop
        · subst e
          exact ⟨rfl, fin _ H' σ pins _ (inv_same I rfl rfl (allBare_setGen I.bare hb)) (h1 rfl)⟩
        · exact (h2 e s₁ ⟨rfl, rfl, I.bare⟩).elim
      · obtain ⟨H', σ, pins, I, q⟩ := hp
        have I2 : Inv Y pins σ H' (s₁.setGen gi .finished) := inv_same I rfl rfl (allBare_setGen I.bare rfl)
        exact fin _ H' σ pins _ (I2.kept (t' := _) hk) q
    cases stop with
    | true =>
      show codeAny _ A (.builtin "any.loop" ⟨[.ref a], []⟩) RR s
      refine codeAny_builtin F.entry_any_loop ?_
      rw [Around.under_plainId F.plain_any_loop _]
      show wpAny _ A.in1 (pyNext (.ref a) >>= _) _ _ s
      refine wpAny_bind (wpAny_mono key (fun o s1 h1 => ?_) fun _ _ e => e)
      cases o with
      | none => exact wpAny_bind (wpAny_rule (wpAny_pure h1))
      | some v =>
        obtain ⟨rfl, h1⟩ := h1
        refine wpAny_bind (wpAny_holding (wpAny_truthy_bool ?_))
        refine wpAny_bind (wpAny_letGo ?_)
        simp only [if_true]
        exact wpAny_bind (wpAny_rule (wpAny_pure h1))
    | false =>
      show codeAny _ A (.builtin "all.loop" ⟨[.ref a], []⟩) RR s
      refine codeAny_builtin F.entry_all_loop ?_
      rw [Around.under_plainId F.plain_all_loop _]
      show wpAny _ A.in1 (pyNext (.ref a) >>= _) _ _ s
      refine wpAny_bind (wpAny_mono key (fun o s1 h1 => ?_) fun _ _ e => e)
      cases o with
      | none => exact wpAny_bind (wpAny_rule (wpAny_pure h1))
      | some v =>
        obtain ⟨rfl, h1⟩ := h1
        refine wpAny_bind (wpAny_holding (wpAny_truthy_bool ?_))
        refine wpAny_bind (wpAny_letGo ?_)
        simp only [Bool.false_eq_true, if_false]
        exact wpAny_bind (wpAny_rule (wpAny_pure h1))
  | succ n ih =>
    intro gs s hg hl hgs hgoes
    have hlt : gi < s.gens.size := by
      rcases Nat.lt_or_ge gi s.gens.size with h | h
      · exact h
      · rw [Array.getElem?_eq_none h] at hgs; cases hgs
    have key : wpAny (model Y.prog Y.w) A.in1 (pyNext (.ref a)) (fun o s1 => match o with
        | none => RR (.ok (.ret (.bool (!stop)))) s1
        | some v => (v = .bool stop ∧ RR (.ok (.ret (.bool stop))) s1) ∨ (v = .bool (!stop) ∧ codeAny (model Y.prog Y.w) A (.builtin (loopId stop) ⟨[.ref a], []⟩) RR s1)) (fun e s' => RR (.error e) s') s := by
      refine wpAny_gsz (n := gi + 1) hlt ?_
      refine wpAny_mono (E := fun e s' => gi + 1 ≤ s'.gens.size → RR (.error e) s') ?_ (fun a s h => h) (fun _ _ h => h)
      refine wpAny_pyNext_genexpQ (P := GRp Y stop Q) hh hl hd hg hgs hgoes (fun v s₁ gs' hb hv => ?_) (fun s₁ hp h' hk => ?_)
      · intro hsz
        obtain ⟨b, H', σ, pins, rfl, I, h1, h2⟩ := hv
        have I2 : Inv Y pins σ H' (s₁.setGen gi gs') := inv_same I rfl rfl (allBare_setGen I.bare hb)
        by_cases e : b = stop
        · subst e
          exact .inl ⟨rfl, fin _ H' σ pins _ I2 (h1 rfl)⟩
        · refine .inr ⟨by cases b <;> cases stop <;> simp_all, ?_⟩
          have hsz' : gi < s₁.gens.size := by rw [← setGen_size s₁ gi gs']; exact hsz
          have hat : (s₁.setGen gi gs').gens[gi]? = some gs' := setGen_at hsz'
          have pin := (I2.pin (a, go) (List.mem_append_left _ (by rw [hpn]; exact List.mem_singleton.mpr rfl))).1
          exact ih gs' _ (hgo _ pin) (hlim _ _ _ _ I2) hat (h2 e _ ⟨rfl, rfl, allBare_setGen I2.bare rfl⟩)
      · intro _
        obtain ⟨H', σ, pins, I, q⟩ := hp
        have I2 : Inv Y pins σ H' (s₁.setGen gi .finished) := inv_same I rfl rfl (allBare_setGen I.bare rfl)
        exact fin _ H' σ pins _ (I2.kept (t' := _) hk) q
    cases stop with
    | true =>
      show codeAny _ A (.builtin "any.loop" ⟨[.ref a], []⟩) RR s
      refine codeAny_builtin F.entry_any_loop ?_
      rw [Around.under_plainId F.plain_any_loop _]
      show wpAny _ A.in1 (pyNext (.ref a) >>= _) _ _ s
      refine wpAny_bind (wpAny_mono key (fun o s1 h1 => ?_) fun _ _ e => e)
      cases o with
      | none => exact wpAny_bind (wpAny_rule (wpAny_pure h1))
      | some v =>
        rcases h1 with ⟨rfl, h1⟩ | ⟨rfl, h1⟩
        · refine wpAny_bind (wpAny_holding (wpAny_truthy_bool ?_))
          refine wpAny_bind (wpAny_letGo ?_)
          simp only [if_true]
          exact wpAny_bind (wpAny_rule (wpAny_pure h1))
        · refine wpAny_bind (wpAny_holding (wpAny_truthy_bool ?_))
          refine wpAny_bind (wpAny_letGo ?_)
          simp only [Bool.not_true, Bool.false_eq_true, if_false]
          exact wpAny_pure ⟨plainId_quiet F.plain_any_loop _, h1⟩
    | false =>
      show codeAny _ A (.builtin "all.loop" ⟨[.ref a], []⟩) RR s
      refine codeAny_builtin F.entry_all_loop ?_
      rw [Around.under_plainId F.plain_all_loop _]
      show wpAny _ A.in1 (pyNext (.ref a) >>= _) _ _ s
      refine wpAny_bind (wpAny_mono key (fun o s1 h1 => ?_) fun _ _ e => e)
      cases o with
      | none => exact wpAny_bind (wpAny_rule (wpAny_pure h1))
      | some v =>
        rcases h1 with ⟨rfl, h1⟩ | ⟨rfl, h1⟩
        · refine wpAny_bind (wpAny_holding (wpAny_truthy_bool ?_))
          refine wpAny_bind (wpAny_letGo ?_)
          simp only [Bool.false_eq_true, if_false]
          exact wpAny_bind (wpAny_rule (wpAny_pure h1))
        · refine wpAny_bind (wpAny_holding (wpAny_truthy_bool ?_))
          refine wpAny_bind (wpAny_letGo ?_)
          simp only [Bool.not_false, if_true]
          exact wpAny_pure ⟨plainId_quiet F.plain_all_loop _, h1⟩
end
end Fz
end

section
set_option Elab.async false
set_option linter.all false
set_option maxRecDepth 100000
set_option maxHeartbeats 4000000
/-! F12: any, all of a generator expression: the rule. -/
namespace Fz
open PySem PySem.Spec PyProof.Rows L2 GenW
theorem pers_grow {H : Hp} {P : Addr} {ps ps' : Array Value} (h : H P = some (.tbl ps)) (ht : TriplesOk ps'.toList) : Pers H (upd H P (.tbl ps')) := by
  have k : ∀ a u, H a = some u → (∀ q, u ≠ .tbl q) → upd H P (.tbl ps') a = some u := fun a u e n => by
    rw [upd_ne]
    · exact e
    · intro z
      rw [z, h] at e
      exact n _ (Option.some.inj e).symm
  exact ⟨fun a xs e => k a _ e (fun q z => nomatch z), fun a o u e => k a _ e (fun q z => nomatch z), fun a ⟨q, e, t⟩ => by
    by_cases z : a = P
    · subst z; exact ⟨ps', upd_same, ht⟩
    · exact ⟨q, by rw [upd_ne z]; exact e, t⟩⟩
theorem Rel.grow {K : Fg} {F : Fx} {S : FS} {σ : Sl} {H : Hp} {P : Addr} {ps ps' : Array Value} (r : Rel K F S σ H) (h : H P = some (.tbl ps)) (ht : TriplesOk ps'.toList) (hc : P ∈ F.tabs → ∀ pos cv, codeAmong pos ps'.toList = some cv → CodeG H cv) : Rel K F S σ (upd H P (.tbl ps')) := by
  have p : Pers H (upd H P (.tbl ps')) := pers_grow h ht
  have later : ∀ {a ob}, ObR K F.w H a ob → ObR K F.w (upd H P (.tbl ps')) a ob := fun {a ob} q => by
    refine q.later p (upd_ne fun z => ?_)
    obtain ⟨u, eu, _, nt⟩ := q.there
    rw [z, h] at eu; cases eu; cases nt
  have kp : ∀ a o, F.H0 a = some o → a ∉ F.pins.map (·.2) → isTbl o = false → upd H P (.tbl ps') a = some o := fun a o ho hp ht2 => by
    have e := r.keep a o ho hp ht2
    rw [upd_ne]; exact e
    intro z; rw [z, h] at e; cases e; cases ht2
  refine ⟨r.len, fun i sv e => ?_, r.apart, kp, fun a o ho => ?_, fun P2 hP2 => ?_, F.cl.selfM p r.self, fun q hq => ?_⟩
  · obtain ⟨x, ex, w⟩ := r.slot i sv e
    refine ⟨x, ex, ?_⟩
    cases sv with
    | d d => exact Pd.mono p w
    | own ob => obtain ⟨a, rfl, q, n⟩ := w; exact ⟨a, rfl, later q, n⟩
    | pin ob => obtain ⟨a, rfl, q, n⟩ := w; exact ⟨a, rfl, later q, n⟩
    | x e => exact SxR.later w p r.keep kp
  · by_cases z : a = P
    · subst z; exact ⟨_, upd_same⟩
    · obtain ⟨u, e⟩ := r.there a o ho
      exact ⟨u, by rw [upd_ne z]; exact e⟩
  · by_cases z : P2 = P
    · subst z; exact ⟨_, upd_same, ht, fun pos cv z => (hc hP2 pos cv z).later p⟩
    · obtain ⟨q, e, t, c⟩ := r.tabs P2 hP2
      exact ⟨q, by rw [upd_ne z]; exact e, t, fun pos cv z => (c pos cv z).later p⟩
  · obtain ⟨⟨e, em⟩, h0, hu⟩ := r.held q hq
    refine ⟨⟨?_, em⟩, h0, hu⟩
    rw [upd_ne]; exact e
    intro z; rw [z, h] at e; have e := Option.some.inj e; rw [← e] at em; exact em
/-- an object that no one knew, new since the frame began, is known from now on -/
theorem inv_track {X : Cx} {pins : List (Addr × Obj)} {σ : Sl} {H : Hp} {s : Shared} {a : Addr} {o : HO} (I : Inv X pins σ H s) (hn : H a = none) (h0 : X.s_0.heap.objs.size ≤ a) (hL : a ≠ X.env.locals) (hC : ∀ x c, X.env.cells.lookup x = some c → c ≠ a) (hp : ∀ p ∈ X.pn ++ pins, p.1 ≠ a)
    (new : ObjOk X.prog X.w (upd H a o) s.heap a o) : Inv X pins σ (upd H a o) s := by
  refine ⟨I.ok, I.os, I.bare, ⟨I.base.keep, I.base.slot, fun b u q n hx => ?_, I.base.there, fun b xs q => ?_, fun b ob u q => ?_, fun b ps q => ?_⟩, I.loc, I.cell, ?_, fun x c e => ?_, fun p hp2 => ?_, fun b u e => ?_, I.len⟩
  · rw [upd_ne (Nat.ne_of_lt (Nat.lt_of_lt_of_le (Heap.lt_size q) h0))]
    exact I.base.free b u q n hx
  · have z := I.base.tups b xs q
    rw [upd_ne (ne_of_none z hn)]; exact z
  · have z := I.base.frzs b ob u q
    rw [upd_ne (ne_of_none z hn)]; exact z
  · obtain ⟨m, z⟩ := I.base.tbls b ps q
    exact ⟨m, by rw [upd_ne (ne_of_none z hn)]; exact z⟩
  · rw [upd_ne (Ne.symm hL)]; exact I.free
  · rw [upd_ne (hC x c e)]; exact I.freeC x c e
  · obtain ⟨z1, z2, z3⟩ := I.pin p hp2
    exact ⟨z1, by rw [upd_ne (hp p hp2)]; exact z2, z3⟩
  · by_cases hb : b = a
    · subst hb; rw [upd_same] at e; cases e; exact new
    · rw [upd_ne hb] at e
      exact (I.hok b u e).stay (fun c v _ q => q) (fun c q => by rw [upd_ne (ne_of_none q hn)]; exact q) fun c xs q => by rw [upd_ne (ne_of_none q hn)]; exact q
theorem upd_comm {H : Hp} {a b : Addr} {o u : HO} (h : a ≠ b) : upd (upd H a o) b u = upd (upd H b u) a o := by
  funext c
  unfold upd
  by_cases h1 : c = b
  · subst h1; simp [Ne.symm h]
  · simp [h1]
theorem among_last {pos p' : Pos} {c cv : Value} (l : List Value) (h : TriplesOk l) (hc : codeAmong p' (l ++ [rawInt pos.line, rawInt pos.col, c]) = some cv) : codeAmong p' l = some cv ∨ cv = c := by
  fun_induction TriplesOk l with
  | case1 =>
    simp only [List.nil_append, rawInt, codeAmong] at hc
    split at hc
    · exact .inr (Option.some.inj hc).symm
    · cases hc
  | case2 a t b u x rest ih =>
    simp only [List.cons_append, codeAmong] at hc ⊢
    split at hc
    · rename_i q
      rw [if_pos q]
      exact .inl hc
    · rename_i q
      rw [if_neg q]
      exact ih h hc
  | case3 l h1 h2 => exact h.elim
/-- a code object and its table are new, the maker's table tells it: all known from now on -/
theorem code_new {X : Cx} {F : Fx} {pins : List (Addr × Obj)} {S : FS} {σ : Sl} {H : Hp} {s : Shared} {P c' : Addr} {ps : Array Value} {h3 : Heap} {tk : Nat} {q : Str} {pos : Pos} (I : Inv X pins σ H s) (r : Rel X.K F S σ H) (hPt : H P = some (.tbl ps)) (htr : TriplesOk ps.toList)
    (hx : Heap.ExtBut P s.heap h3) (hge : s.heap.objs.size ≤ c') (rec : h3.CodeRec (.ref c') q) (hP3 : h3.get? P = some { cls := .none, data := .fields (ps ++ #[rawInt pos.line, rawInt pos.col, .ref c']) })
    (hnew : ∃ P', s.heap.objs.size ≤ P' ∧ h3.IsCode c' P' #[] ∧ h3.TableAt c' P' #[]) :
    ∃ H3, Inv X pins σ H3 { s with heap := h3, toks := tk } ∧ Rel X.K F S σ H3 ∧ Pers H H3 ∧ (∀ b, b ≠ P → b < s.heap.objs.size → H3 b = H b) ∧ CodeG H3 (.ref c') ∧ (∀ b u, H b = some u → isTbl u = false → H3 b = some u) := by
  obtain ⟨P', hge2, ic, tb⟩ := hnew
  obtain ⟨⟨oc, vs, e1, e2, e3, e4⟩, tP'⟩ := tb
  obtain ⟨oc2, vs2, file, tf, fl, tg, inF, tx, tt, op, d1, d2, d3, d4, d5, d6, d7, d8, d9, d10, d11⟩ := ic
  rw [e1] at d1; cases d1
  rw [e3] at d2; cases d2
  obtain ⟨c0, oc0, vs0, t0, g1, g2, g3, g4⟩ := rec
  cases g1
  rw [e1] at g2; cases g2
  rw [e3] at g3; cases g3
  have n1 : H c' = none := I.hok.fresh hge
  have n2 : H P' = none := I.hok.fresh hge2
  have sz : X.s_0.heap.objs.size ≤ s.heap.objs.size := I.sz
  have nP1 : P ≠ c' := ne_of_none hPt n1
  have nP2 : P ≠ P' := ne_of_none hPt n2
  have I1 := GxR.inv_tab (more := #[rawInt pos.line, rawInt pos.col, .ref c']) (h' := h3) (g' := s.gens) (d' := s.drawn) (t' := tk) I hPt (fun b o hb e => hx b o hb e) hP3 I.bare
  have lt : ∀ {a}, s.heap.objs.size ≤ a → a ≠ X.env.locals ∧ (∀ x c, X.env.cells.lookup x = some c → c ≠ a) ∧ ∀ p ∈ X.pn ++ pins, p.1 ≠ a := fun {a} ha =>
    ⟨fun z => Nat.lt_irrefl _ (Nat.lt_of_lt_of_le (z ▸ I.lt) ha), fun x c e z => by obtain ⟨w, z2⟩ := I.cell x c e; exact Nat.lt_irrefl _ (Nat.lt_of_lt_of_le (z ▸ z2.lt) ha), fun p hp z => Nat.lt_irrefl _ (Nat.lt_of_lt_of_le (z ▸ Heap.lt_size (I.pin p hp).1) ha)⟩
  have I2 := inv_track (a := c') (o := .frz oc (.own c')) I1 (by rw [upd_ne (Ne.symm nP1)]; exact n1) (Nat.le_trans sz hge) (lt hge).1 (lt hge).2.1 (lt hge).2.2 ⟨e1, _, e1⟩
  have I3 := inv_track (a := P') (o := .tbl #[]) I2 (by rw [upd_ne (Ne.symm d11), upd_ne (Ne.symm nP2)]; exact n2) (Nat.le_trans sz hge2) (lt hge2).1 (lt hge2).2.1 (lt hge2).2.2 (show h3.get? P' = _ from tP')
  have eH : upd (upd (upd H P (.tbl (ps ++ #[rawInt pos.line, rawInt pos.col, .ref c']))) c' (.frz oc (.own c'))) P' (.tbl #[]) = upd (upd (upd H c' (.frz oc (.own c'))) P' (.tbl #[])) P (.tbl (ps ++ #[rawInt pos.line, rawInt pos.col, .ref c'])) := by
    rw [upd_comm nP1, upd_comm nP2]
  rw [eH] at I3
  have r1 : Rel X.K F S σ (upd H c' (.frz oc (.own c'))) := r.new n1
  have n2' : upd H c' (.frz oc (.own c')) P' = none := by rw [upd_ne (Ne.symm d11)]; exact n2
  have r2 : Rel X.K F S σ (upd (upd H c' (.frz oc (.own c'))) P' (.tbl #[])) := r1.new n2'
  have p1 : Pers H (upd H c' (.frz oc (.own c'))) := Pers.new n1
  have p2 := p1.trans (Pers.new (o := .tbl #[]) n2')
  have hP2 : upd (upd H c' (.frz oc (.own c'))) P' (.tbl #[]) P = some (.tbl ps) := by rw [upd_ne nP2, upd_ne nP1]; exact hPt
  have eL : (ps ++ #[rawInt pos.line, rawInt pos.col, .ref c']).toList = ps.toList ++ [rawInt pos.line, rawInt pos.col, .ref c'] := by simp
  have ht3 : TriplesOk (ps ++ #[rawInt pos.line, rawInt pos.col, .ref c']).toList := by rw [eL]; exact PySem.TriplesOk_snoc _ _ _ _ htr
  have cg : CodeG (upd (upd H c' (.frz oc (.own c'))) P' (.tbl #[])) (.ref c') :=
    ⟨c', oc, .own c', vs, q, t0, P', rfl, by rw [upd_ne d11]; exact upd_same, e2, e3, g4, e4, ⟨file, tf, fl, tg, inF, tx, tt, d3, d4, d5, d6, d7⟩, d11, ⟨_, upd_same, trivial⟩, _, rfl⟩
  have hc3 : P ∈ F.tabs → ∀ p cv, codeAmong p (ps ++ #[rawInt pos.line, rawInt pos.col, .ref c']).toList = some cv → CodeG (upd (upd H c' (.frz oc (.own c'))) P' (.tbl #[])) cv := fun hPF p cv hcv => by
    obtain ⟨ps2, e2', _, hold⟩ := r.tabs P hPF
    rw [hPt] at e2'; cases e2'
    rw [eL] at hcv
    rcases among_last _ htr hcv with z | z
    · exact (hold p cv z).later p2
    · subst z; exact cg
  have p3 : Pers _ (upd (upd (upd H c' (.frz oc (.own c'))) P' (.tbl #[])) P (.tbl (ps ++ #[rawInt pos.line, rawInt pos.col, .ref c']))) := pers_grow hP2 ht3
  refine ⟨_, I3, r2.grow hP2 ht3 hc3, p2.trans p3, fun b hb hl => ?_, cg.later p3, fun b u e ht => ?_⟩
  · rw [upd_ne hb, upd_ne (Nat.ne_of_lt (Nat.lt_of_lt_of_le hl hge2)), upd_ne (Nat.ne_of_lt (Nat.lt_of_lt_of_le hl hge))]
  · rw [upd_ne (fun z => by subst z; rw [hPt] at e; cases e; cases ht), upd_ne (ne_of_none e n2), upd_ne (ne_of_none e n1)]; exact e
/-- the running frame's code object and its table -/
def TabH (X : Cx) (F : Fx) : Prop := ∀ {pins : List (Addr × Obj)} {σ : Sl} {H : Hp} {s : Shared} {S : FS}, Inv X pins σ H s → Rel X.K F S σ H → ∃ (c P : Addr) (ps : Array Value), X.env.code = .ref c ∧ H P = some (.tbl ps) ∧ TriplesOk ps.toList ∧ PySem.W.CodeHd s.heap c P ∧ s.heap.BuiltinsAt X.mg P ∧ mainGlobals ≠ P
theorem tabH_of {X : Cx} {F : Fx} {c P : Addr} (TB : GxR.TabB X.base X.mg c P) (hcode : X.env.code = .ref c) (hP : P ∈ F.tabs) : TabH X F := fun I r =>
  let ⟨ps, e, t, _⟩ := r.tabs P hP
  ⟨c, P, ps, hcode, e, t, TB.code.keeps fun b u e => I.bk b u e, TB.bm.keeps I.bk, TB.gP⟩
structure GenSc (scope : Scope) : Prop where
  co : scope.isCoroutine = false
  nc : ∀ y ∈ scope.names, y.2 ≠ .cell
  dot : scope.names.lookup (".0" : Str) = some NameKind.local
def anyNm (stop : Bool) : Str := if stop then "any" else "all"
def fAny (stop : Bool) (it : FS → Res (List D)) (g : D → FS → Option FS) (t : FS → Res Bool) (fe : FS → Res D) (vs : List Nat) : FS → Res D := bnd it fun ds S => match anyF stop g t fe vs ds S with
  | .ok b S => .ok (.bool b) S
  | _ => .bad
theorem boot_anyNm : ∀ stop, bootBuiltins (anyNm stop) = some (.builtin (if stop then "any" else "all"))
  | true => boot_any
  | false => by first | rfl | decide | kernel_rfl
theorem over_gen {A : Around} {elt tg iter : Expr} {ifs : List Expr} {scope : Scope} {pos : Pos} {it acc : Value} {env : Env} : A.over (.compLoop (.GeneratorExp elt [⟨tg, iter, ifs, 0⟩] scope pos) 0 it acc env) [] = A.deeper env := by
  first
    | rfl
    | (obtain ⟨hd, d, fr, gs, u⟩ := A; simp [Around.over, Around.deeper, marksOver, frameCount, unitsOf, envsOf, guardsOf, pushEnvs, pushGuards, Code.envs, Code.env?, Code.isFrame, Code.guards, Code.isGuard, Code.weight, Code.frames, Code.isCreation, Code.isCaller, Code.cUnits])
section
variable {X : Cx} {F : Fx} {elt tg iter : Expr} {ifs : List Expr} {scope : Scope} {own : List (Str × Nat)} {gpos : Pos} {it : FS → Res (List D)} {g : D → FS → Option FS} {t : FS → Res Bool} {fe : FS → Res D} {ts : List Nat}
theorem eval_gen {stop : Bool} {k : Nat} {Q0 : Value → Shared → Prop} {pins : List (Addr × Obj)} {s : Shared} {σ : Sl} {H : Hp} {Q : VK}
    (hr : RoomG (k + 1) X.A) (hc : X.calm = true) (hN : X.N.Nodup) (TH : TabH X F) (hi : EI X F tg iter it) (ok : BlkOk X.N X.env.scope scope own) (G : GenSc scope) (hts : ∀ j, j ∈ ts → j ∈ own.map (·.2))
    (hg : ∀ (A' : Around) (s : Shared) (H : Hp) (C : Addr) (cl : List (Str × Addr)) (code : Value) (fp : List Addr) (pn : List (Addr × Obj)), RoomG k A' → EG (gbX X A' s H (genEnv scope cl C code builtinsNs X.env) fp pn) F tg ts g)
    (ht : ∀ (A' : Around) (s : Shared) (H : Hp) (C : Addr) (cl : List (Str × Addr)) (code : Value) (fp : List Addr) (pn : List (Addr × Obj)), RoomG k A' → ETs (gbX X A' s H (genEnv scope cl C code builtinsNs X.env) fp pn) F ifs t)
    (he : ∀ (A' : Around) (s : Shared) (H : Hp) (C : Addr) (cl : List (Str × Addr)) (code : Value) (fp : List Addr) (pn : List (Addr × Obj)), RoomG k A' → ED (gbX X A' s H (genEnv scope cl C code builtinsNs X.env) fp pn) F elt fe)
    (hs : ∀ x, genFold iter X.env x = pure x) (I : Inv X pins σ H s) (h : rdG X.K F PR (fAny stop it g t fe (own.map (·.2))) σ H Q)
    (hQ : ∀ (a : Addr) (gi : Nat) (go : Obj) (gs : GenState) (s5 : Shared) (Y : Cx) (n : Nat), s5.heap.IsGen a gi → s5.heap.NoLimit → s5.gens[gi]? = some gs → Y.prog = X.prog → Y.w = X.w → Y.pn = [(a, go)] → (∀ h : Heap, h.get? a = some go → h.IsGen a gi) →
      gs.Goes (model X.prog X.w) X.A.in1.in1 (GRr Y stop fun b H' => Q (.bl b) H') (GYp Y stop fun b H' => Q (.bl b) H') n (.send .none) (s5.setGen gi .running) → (∀ H' σ' pins' s', Inv Y pins' σ' H' s' → Inv X pins σ H' s') → Q0 (.ref a) s5) :
    wpAny (model X.prog X.w) X.A (eval (.GeneratorExp elt [⟨tg, iter, ifs, 0⟩] scope gpos) X.env) Q0 X.xe s := by
  obtain ⟨S, r, p⟩ := h
  have hfree : ∀ y ∈ scope.names, y.2 = .free → ∃ c, X.env.cells.lookup y.1 = some c := fun y hy e => by
    rcases ok.free y hy e with k | k
    · exact I.ok.has _ (.inl k)
    · exact I.ok.has _ (.inr k)
  unfold fAny bnd at p
  have hit : rdI X.K F it σ H fun J H1 => ∃ S1 ds, Rel X.K F S1 σ H1 ∧ Pers H H1 ∧ Yields X.K J H1 ds ∧ postT X.K F (anyF stop g t fe (own.map (·.2)) ds S1) σ H1 fun b H' => Q (.bl b) H' := by
    refine ⟨S, r, ?_⟩
    cases e : it S with
    | exn e2 S1 => rw [e] at p; exact p
    | bad => rw [e] at p; exact p
    | ok ds S1 =>
      rw [e] at p
      intro J H1 p1 r1 y
      refine ⟨S1, ds, r1, p1, y, ?_⟩
      simp only [Res.bind_ok] at p
      cases e2 : anyF stop g t fe (own.map (·.2)) ds S1 with
      | ok b S2 => rw [e2] at p; exact fun H' p2 r2 => p (.bl b) H' (p1.trans p2) r2 (.bl b)
      | exn e3 S2 => rw [e2] at p; exact p.elim
      | bad => rw [e2] at p; exact p
  refine wpAny_GeneratorExp_make G.co (closure_ok hfree) G.nc G.dot ok.kind hr.rm.depth ?_ hs
  refine thn (hi.run pins s σ H _ I hit) fun xv s1 hx => thn hx fun itv s2 h2 => ?_
  obtain ⟨it, fp, tn, J, H2, e, I2, T, st2, f2, S1, ds, r2, p2, y2, q⟩ := h2
  subst e
  obtain ⟨c, P, ps, hcode, hPt, htr, cd, tbm, gP⟩ := TH I2 r2
  have hPs : s2.heap.get? P = some { cls := .none, data := .fields ps } := I2.hok P _ hPt
  have nP : ∀ b ∈ fp, b ≠ P := fun b hb z => by
    have := (f2 b hb).1
    rw [z, hPt] at this; cases this
  have szb : ∀ b ∈ fp, ∃ o, s2.heap.get? b = some o := fun b hb => let ⟨o, e, _⟩ := T.obj _ _ st2 b hb; ⟨o, e⟩
  have cont : ∀ (code : Value) (h3 : Heap) (tk : Nat) (H3 : Hp), Heap.ExtBut P s2.heap h3 → Inv X pins σ H3 { s2 with heap := h3, toks := tk } → Rel X.K F S1 σ H3 → Pers H2 H3 → (∀ b ∈ fp, H3 b = none) →
      wpAny (model X.prog X.w) X.A (builtinsFor X.env.globals X.env.builtins) (fun bi s₄ => ∀ h', h'.Ns s₄.heap.objs.size (fun y => if y = ".0" then some (.ref it) else none) → Heap.SameBut s₄.heap.objs.size (s₄.heap.push { cls := .type "frame", data := .dict #[] }) h' →
          Q0 (.ref h'.objs.size) { s₄ with
            gens := s₄.gens.push (.fresh (.compStart (.GeneratorExp elt [⟨tg, iter, ifs, 0⟩] scope gpos) 0 (.ref it) .none (genEnv scope (cloFrom X.env.cells scope.names []) s₄.heap.objs.size code bi X.env))),
            toks := s₄.toks + 1 + 1 + 1,
            heap := h'.push { cls := .type "generator", data := .fields #[.int s₄.gens.size 0, .str "<genexpr>" (s₄.toks + 1), .str (X.env.qual ++ "<genexpr>") (s₄.toks + 1 + 1)] } }) X.xe { s2 with heap := h3, toks := tk } := by
    intro code h3 tk H3 hx I3 r3 pp3 n3
    generalize hs3 : ({ s2 with heap := h3, toks := tk } : Shared) = s3 at *
    have hh3 : s3.heap = h3 := by rw [← hs3]
    have f3 : ∀ b ∈ fp, FpOk X pins H3 b ∧ b < s3.heap.objs.size := fun b hb => by
      obtain ⟨o, e⟩ := szb b hb
      exact ⟨⟨n3 b hb, (f2 b hb).2⟩, by rw [hh3]; exact Heap.lt_size (hx b o (nP b hb) e)⟩
    have st3 : tn 0 s3.heap := T.keep _ _ _ st2 fun b hb o e => by rw [hh3]; exact hx b o (nP b hb) e
    obtain ⟨bm, ob, e1, e2, e3, e4, e5, e6, e7, e8⟩ := tbm
    refine wpAny_builtinsFor (m := X.mg) (by rw [I3.ok.glob]; exact I3.mod.glob.keeps I3.bk) e1 e2 (by rw [hh3]; exact hx bm ob e4 e5) e6 e7 e8 ?_
    intro h' hn' hs'
    have keep' : ∀ b o, s3.heap.get? b = some o → h'.get? b = some o := fun b o e => hs'.extBut b o (Nat.ne_of_lt (Heap.lt_size e)) (Heap.get?_push_of_some _ e)
    generalize hgo : ({ cls := .type "generator", data := .fields #[.int s3.gens.size 0, .str "<genexpr>" (s3.toks + 1), .str (X.env.qual ++ "<genexpr>") (s3.toks + 1 + 1)] } : Obj) = go
    have hpush : (h'.push go).get? h'.objs.size = some go := by rw [← hgo]; exact Heap.get?_push_size _ rfl
    have isG : ∀ h : Heap, h.get? h'.objs.size = some go → h.IsGen h'.objs.size s3.gens.size := fun h e => ⟨go, _, _, e, by rw [← hgo], by rw [← hgo], by rw [← hgo]⟩
    have hgc : ∀ v, go.data ≠ .cell v := fun v z => by rw [← hgo] at z; cases z
    let genv := genEnv scope (cloFrom X.env.cells scope.names []) s3.heap.objs.size code builtinsNs X.env
    let A' := X.A.in1.in1.deeper genv
    have hr' : RoomG k A' := ⟨⟨hr.rm.hd, by have := hr.rm.dp; show X.A.depth + 1 + 3 * k + 5 < _; omega, by have := hr.rm.un; show X.A.units + 1 + 1 + 3 + 16 * k + 200 < _; omega⟩, hr.gd⟩
    have hfr : A'.frames = some (genv :: X.stack) := Around.frames_deeper (show X.A.in1.in1.frames = some X.stack from I3.ok.frames)
    have I4 := gen_start (A' := A') (code := code) (go := go) (gs := .fresh (.compStart (.GeneratorExp elt [⟨tg, iter, ifs, 0⟩] scope gpos) 0 (.ref it) .none genv)) (tk := s3.toks + 1 + 1 + 1) I3 ok G.nc hN f3 (fun _ => hr.rm.hd) hfr hn' keep' hgc hpush rfl
    have stat : ∀ (σ' : Sl) (H' : Hp) (s' : Shared), Inv (gbX X A' s3 H3 genv fp [(h'.objs.size, go)]) [] σ' H' s' → (∀ b ∈ fp, H' b = none) → ∀ b ∈ fp, FpOk (gbX X A' s3 H3 genv fp [(h'.objs.size, go)]) [] H' b := fun σ' H' s' I' hn b hb =>
      ⟨hn b hb, (I'.ok.exf b hb).1, I'.ok.exfs b hb, .inl hb, fun x c e => (I'.ok.exf b hb).2 x c e, fun p hp => by
        have hp2 : p ∈ [(h'.objs.size, go)] := by simpa using hp
        rw [List.mem_singleton.mp hp2]
        exact Nat.ne_of_gt (Nat.lt_trans (f3 b hb).2 hn'.lt)⟩
    have loop := fun (s₀ s' : Shared) (w : Woken { s3 with gens := s3.gens.push (.fresh (.compStart (.GeneratorExp elt [⟨tg, iter, ifs, 0⟩] scope gpos) 0 (.ref it) .none genv)), toks := s3.toks + 1 + 1 + 1, heap := h'.push go } s') =>
      gen_loop (Y := gbX X A' s3 H3 genv fp [(h'.objs.size, go)]) (F := F) (A := X.A.in1.in1) (stop := stop) (Q := fun b H' => Q (.bl b) H') (elt := elt) (iter := iter) (pos := gpos) (scope := scope) (vs := own.map (·.2)) (σ := σ) (H1 := H2) (ds := ds) hc (fun _ _ z => z) over_gen G.co T stat y2
        (hg A' s3 H3 _ _ code fp _ hr') (ht A' s3 H3 _ _ code fp _ hr') (he A' s3 H3 _ _ code fp _ hr') hts ds.length 0 ds.length s₀ s' S1 H3 (Nat.sub_zero _) (Nat.zero_le _) (Nat.le_refl _) (inv_same I4 w.heap w.os w.bare)
        (T.keep _ _ _ st3 fun b _ o e => by rw [w.heap]; exact Heap.get?_push_of_some _ (keep' b o e)) n3 pp3 r3 (by rw [List.drop_zero]; exact postT.later pp3 q)
    refine hQ _ s3.gens.size go _ _ (gbX X A' s3 H3 genv fp [(h'.objs.size, go)]) ds.length (isG _ hpush) I4.nolimit (Array.getElem?_push_size ..) rfl rfl rfl isG ?_ fun H' σ' pins' s' I' => ?_
    · refine ⟨rfl, ?_⟩
      have wk : Woken { s3 with gens := s3.gens.push (.fresh (.compStart (.GeneratorExp elt [⟨tg, iter, ifs, 0⟩] scope gpos) 0 (.ref it) .none genv)), toks := s3.toks + 1 + 1 + 1, heap := h'.push go }
          (({ s3 with gens := s3.gens.push (.fresh (.compStart (.GeneratorExp elt [⟨tg, iter, ifs, 0⟩] scope gpos) 0 (.ref it) .none genv)), toks := s3.toks + 1 + 1 + 1, heap := h'.push go } : Shared).setGen s3.gens.size .running) := ⟨rfl, rfl, allBare_setGen I4.bare rfl⟩
      exact gen_begin (Y := gbX X A' s3 H3 genv fp [(h'.objs.size, go)]) T (T.keep _ _ _ st3 fun b _ o e => Heap.get?_push_of_some _ (keep' b o e)) (loop _ _ wk)
    · exact I3.call' (ch := fp) I'.os I'.base I'.hok I'.bare fun b hb => ⟨(f3 b hb).1.2.2.2.1, (f3 b hb).1.2.1, (f3 b hb).1.2.2.2.2.1, (f3 b hb).1.2.2.2.2.2⟩
  refine ⟨I2.nolimit, ?_⟩
  cases hf : codeAmong gpos ps.toList with
  | none =>
    refine wpAny_genexprCodeX hcode (cd.code hPs htr) (cd.tab hPs) hf fun c' h' tk hx hge hlt hco' hrec htab' hnew => ?_
    obtain ⟨H3, I3, r3, pp3, same, _, _⟩ := code_new (tk := tk) I2 r2 hPt htr hx hge hrec htab'.2 hnew
    exact cont _ h' tk H3 hx I3 r3 pp3 fun b hb => by
      obtain ⟨o, e⟩ := szb b hb
      rw [same b (nP b hb) (Heap.lt_size e)]; exact (f2 b hb).1
  | some cv =>
    refine wpAny_genexprCode_hit hcode (cd.code hPs htr) hf ?_
    exact cont cv s2.heap s2.toks H2 (Heap.ExtBut.refl _ _) I2 r2 (.refl _) fun b hb => (f2 b hb).1
end
end Fz
namespace Fz
open PySem PySem.Spec PyProof.Rows L2 GenW
section
variable {X : Cx} {F : Fx} {elt tg iter : Expr} {ifs : List Expr} {scope : Scope} {own : List (Str × Nat)} {gpos : Pos} {it : FS → Res (List D)} {g : D → FS → Option FS} {t : FS → Res Bool} {fe : FS → Res D} {ts : List Nat}
theorem e_anyH (stop : Bool) {k : Nat} {p pos : Pos}
    (hr : RoomG (k + 1) X.A) (hc : X.calm = true) (hN : X.N.Nodup) (hgl : Gl X (anyNm stop)) (hm : X.mg (anyNm stop) = none) (TH : TabH X F) (hi : EI X F tg iter it) (ok : BlkOk X.N X.env.scope scope own) (G : GenSc scope) (hts : ∀ j, j ∈ ts → j ∈ own.map (·.2))
    (hg : ∀ (A' : Around) (s : Shared) (H : Hp) (C : Addr) (cl : List (Str × Addr)) (code : Value) (fp : List Addr) (pn : List (Addr × Obj)), RoomG k A' → EG (gbX X A' s H (genEnv scope cl C code builtinsNs X.env) fp pn) F tg ts g)
    (ht : ∀ (A' : Around) (s : Shared) (H : Hp) (C : Addr) (cl : List (Str × Addr)) (code : Value) (fp : List Addr) (pn : List (Addr × Obj)), RoomG k A' → ETs (gbX X A' s H (genEnv scope cl C code builtinsNs X.env) fp pn) F ifs t)
    (he : ∀ (A' : Around) (s : Shared) (H : Hp) (C : Addr) (cl : List (Str × Addr)) (code : Value) (fp : List Addr) (pn : List (Addr × Obj)), RoomG k A' → ED (gbX X A' s H (genEnv scope cl C code builtinsNs X.env) fp pn) F elt fe)
    (hs : ∀ x, genFold iter X.env x = pure x := by intro _; rfl)
    (hea : starEach [.GeneratorExp elt [⟨tg, iter, ifs, 0⟩] scope gpos] X.env = (false, eval (.GeneratorExp elt [⟨tg, iter, ifs, 0⟩] scope gpos) X.env) :: starEach [] X.env := by rfl) :
    ED X F (.Call (.Name (anyNm stop) p) [.GeneratorExp elt [⟨tg, iter, ifs, 0⟩] scope gpos] [] pos) (fAny stop it g t fe (own.map (·.2))) := by
  refine ⟨fun pins s σ H Q I h => ?_⟩
  refine wpAny_Call_Name_kw (ld_blt I hgl hm (boot_anyNm stop) ?_ (by cases stop <;> decide) (by cases stop <;> decide))
  refine PyProof.Rows.callWith_builtin1 ?_ hea (by rfl)
  rw [hea]
  show wpAny _ _ (spliced ((false, eval (.GeneratorExp elt [⟨tg, iter, ifs, 0⟩] scope gpos) X.env) :: backTo pos (starEach [] X.env))) _ _ s
  refine Calls.spliced_cons (eval_gen (stop := stop) hr hc hN TH hi ok G hts hg ht he hs I h fun a gi go gs s5 Y n hG hl hgs hp hw hpn hgo hgoes hback => ?_)
  refine Calls.spliced_nil ?_
  have fin : ∀ (b : Bool) (H' : Hp) (σ' : List (Option V)) (pins' : List (Addr × Obj)) (s' : Shared), Inv Y pins' σ' H' s' → Q (.bl b) H' → EP X pins σ Q (.bool b) s' := fun b H' σ' pins' s' I' q => ⟨.bl b, H', hback _ _ _ _ I', rfl, q⟩
  have U := use_gen (Y := Y) (A := X.A) (stop := stop) (Q := fun b H' => Q (.bl b) H') (RR := fun r s' => match r with | .ok (.ret v) => EP X pins σ Q v s' | .ok _ => False | .error e => X.xe e s') hr.rm.hd hr.rm.depth hpn hgo (fun σ pins H s I => I.nolimit) (fun b H' σ' pins' s' I' q => fin b H' σ' pins' s' I' q) n gs s5 hG hl hgs (by rw [hp, hw]; exact hgoes)
  rw [hp, hw] at U
  cases stop with
  | true =>
    refine call_function_tree PySem.F.kind_any PySem.F.plain_any PySem.F.entry_any (PySem.F.args_any1 _) ?_
    unfold Builtin.«any»
    refine wpAny_bind (m := oneArg "any" _) (wpAny_pure ?_)
    refine wpAny_bind (wpAny_pyIter_gen hG ?_)
    exact wpAny_pure ⟨plainId_quiet PySem.F.plain_any_loop _, U⟩
  | false =>
    refine call_function_tree PySem.F.kind_all PySem.F.plain_all PySem.F.entry_all (PySem.F.args_all1 _) ?_
    unfold Builtin.«all»
    refine wpAny_bind (m := oneArg "all" _) (wpAny_pure ?_)
    refine wpAny_bind (wpAny_pyIter_gen hG ?_)
    exact wpAny_pure ⟨plainId_quiet PySem.F.plain_all_loop _, U⟩
theorem e_any (stop : Bool) {k : Nat} {c P : Addr} {p pos : Pos}
    (hr : RoomG (k + 1) X.A) (hc : X.calm = true) (hN : X.N.Nodup) (hgl : Gl X (anyNm stop)) (hm : X.mg (anyNm stop) = none) (TB : GxR.TabB X.base X.mg c P) (hcode : X.env.code = .ref c) (hP : P ∈ F.tabs) (hi : EI X F tg iter it) (ok : BlkOk X.N X.env.scope scope own) (G : GenSc scope) (hts : ∀ j, j ∈ ts → j ∈ own.map (·.2))
    (hg : ∀ (A' : Around) (s : Shared) (H : Hp) (C : Addr) (cl : List (Str × Addr)) (code : Value) (fp : List Addr) (pn : List (Addr × Obj)), RoomG k A' → EG (gbX X A' s H (genEnv scope cl C code builtinsNs X.env) fp pn) F tg ts g)
    (ht : ∀ (A' : Around) (s : Shared) (H : Hp) (C : Addr) (cl : List (Str × Addr)) (code : Value) (fp : List Addr) (pn : List (Addr × Obj)), RoomG k A' → ETs (gbX X A' s H (genEnv scope cl C code builtinsNs X.env) fp pn) F ifs t)
    (he : ∀ (A' : Around) (s : Shared) (H : Hp) (C : Addr) (cl : List (Str × Addr)) (code : Value) (fp : List Addr) (pn : List (Addr × Obj)), RoomG k A' → ED (gbX X A' s H (genEnv scope cl C code builtinsNs X.env) fp pn) F elt fe)
    (hs : ∀ x, genFold iter X.env x = pure x := by intro _; rfl)
    (hea : starEach [.GeneratorExp elt [⟨tg, iter, ifs, 0⟩] scope gpos] X.env = (false, eval (.GeneratorExp elt [⟨tg, iter, ifs, 0⟩] scope gpos) X.env) :: starEach [] X.env := by rfl) :
    ED X F (.Call (.Name (anyNm stop) p) [.GeneratorExp elt [⟨tg, iter, ifs, 0⟩] scope gpos] [] pos) (fAny stop it g t fe (own.map (·.2))) :=  e_anyH stop hr hc hN hgl hm (tabH_of TB hcode hP) hi ok G hts hg ht he hs hea
end
end Fz
end

section
set_option Elab.async false
set_option linter.all false
set_option maxRecDepth 100000
set_option maxHeartbeats 4000000
/-! F13: the head with code objects' tables; a def whose code object is known. -/
namespace Fz
open PySem PySem.Spec PyProof.Rows L2
/-- the def's code object, the code object's table -/
def codeA (K : Fg) (p : Str × Option Str) : Addr := match K.lookup (He.fAd K p) with
  | some ⟨_, _, .func fd, _⟩ => (match fd.code with
    | .ref c => c
    | _ => 0)
  | _ => 0
def tabA (K : Fg) (c : Addr) : Addr := match K.lookup c with
  | some ⟨_, _, .fields vs, _⟩ => (match (vs[11]? : Option Value) with
    | some (.ref P) => P
    | _ => 0)
  | _ => 0
def tabOf (K : Fg) (p : Str × Option Str) : Addr := tabA K (codeA K p)
def isRefC (K : Fg) (p : Str × Option Str) : Bool := match K.lookup (He.fAd K p) with
  | some ⟨_, _, .func fd, _⟩ => (match fd.code with
    | .ref _ => true
    | _ => false)
  | _ => false
def emptyT : Option Obj → Bool
  | some ⟨.none, none, .fields vs, sl⟩ => vs.isEmpty && sl.isEmpty
  | _ => false
theorem emptyT_ok {o : Option Obj} (h : emptyT o = true) : o = some { cls := .none, data := .fields #[] } := by
  unfold emptyT at h
  split at h
  · rename_i vs sl
    obtain ⟨h1, h2⟩ := He.ba h
    have e1 : vs = #[] := Array.isEmpty_iff.mp h1
    have e2 : sl = #[] := Array.isEmpty_iff.mp h2
    subst e1 e2; rfl
  · cases h
abbrev DP := Str × Option Str
/-- the part of the heap that is looked at: without the tables -/
def kOf (n : Nat) (ts : List DP) (g : Addr → Option Obj) : Fg := let as := He.asD g n; let K0 := He.frG g as; let tb := ts.map (tabOf K0); He.frG g (as.filter fun a => !(tb.contains a))
def tabB (g : Addr → Option Obj) (K : Fg) (p : DP) : Bool := isRefC K p && (PySem.W.codeHdIn K (codeA K p) (tabOf K p) && (emptyT (g (tabOf K p)) && (K.lookup (tabOf K p)).isNone))
abbrev AlC : Type := He.AlD × Bool
def obsC (n : Nat) (fa : List He.Fa) (fn : List He.DefD) (ts : List DP) (g : Addr → Option Obj) : AlC := let K := kOf n ts g; (He.obsD fa fn K, ts.all (tabB g K))
structure TabS (K : Fg) (h : Heap) (p : DP) : Prop where
  ref : isRefC K p = true
  hd : PySem.W.codeHdIn K (codeA K p) (tabOf K p) = true
  at_ : h.get? (tabOf K p) = some { cls := .none, data := .fields #[] }
  no : K.lookup (tabOf K p) = none
theorem tabB_ok {h : Heap} {K : Fg} {p : DP} (e : tabB h.get? K p = true) : TabS K h p := by
  obtain ⟨e1, e2⟩ := He.ba e
  obtain ⟨e3, e4⟩ := He.ba e2
  obtain ⟨e5, e6⟩ := He.ba e4
  exact ⟨e1, e3, emptyT_ok e5, by simpa using e6⟩
def hookC (n : Nat) (fa : List He.Fa) (fn : List He.DefD) (ts : List DP) : PySem.W.Hook where
  α := AlC
  obs := fun s => obsC n fa fn ts s.heap.get?
  val := fun _ => (He.valD fn, true)
  says := fun _ h => ∃ K : PySem.W.Frag, K.In h ∧ He.SaysD fa fn K ∧ ∀ p ∈ ts, TabS K h p
  of := fun _ s e => ⟨kOf n ts s.heap.get?, He.frG_in, congrArg (fun z : AlC => z.1) e, fun p hp => tabB_ok (List.all_eq_true.mp (congrArg (fun z : AlC => z.2) e) p hp)⟩
  keeps := fun _ _ _ ⟨K, hK, c, t⟩ k => ⟨K, PySem.W.Frag.In.keeps hK k, c, fun p hp => let ⟨a, b, d, e⟩ := t p hp; ⟨a, b, k _ _ d, e⟩⟩
theorem obsC_eq {n : Nat} {fa : List He.Fa} {fn : List He.DefD} {ts : List DP} {g : Addr → Option Obj} {s : Shared} (h : ∀ a, g a = s.heap.get? a) : obsC n fa fn ts g = (hookC n fa fn ts).obs s := by
  have e : g = s.heap.get? := funext h
  rw [e] <;> rfl
theorem code_of {K : Fg} {p : DP} {x qual : Str} {params : Arguments} {body : List Stmt} {scope : Scope} {dvs : List V} {kws : List (Str × V)} {fd : FuncData} (F : FunD K x qual params body scope dvs kws (He.fAd K p) fd) (h : isRefC K p = true) : fd.code = .ref (codeA K p) := by
  obtain ⟨oc, od, dV, kV, doc, pm, an, cdv, ct, osl, e, lk, _⟩ := F.ex
  unfold isRefC at h
  unfold codeA
  rw [lk] at h ⊢
  simp only at h ⊢
  split at h
  · rename_i c hc
    rw [hc]
  · cases h
end Fz
end

section
set_option Elab.async false
set_option linter.all false
set_option maxRecDepth 100000
set_option maxHeartbeats 4000000
/-! F14: the law's def at the head's end: the script as data, the tables. -/
namespace Fz
open PySem PySem.Spec PyProof.Rows L2
def scriptD (ns : List Int) : D := .list (ns.map .int)
theorem pdInts {K : Fg} {H : Hp} : ∀ ns : List Int, PdAll K H (ns.map V.int) (ns.map .int)
  | [] => .nil
  | i :: r => .cons (.int i) (pdInts r)
theorem spF_script {K : Fg} {w : World} {c : CloR} {T : List Addr} {den : Den} {a : Addr} {ns : List Int} {l : List SV} {H : Hp} {Q : VK} {E : XK} (h : FrzL K H a (ns.map V.int)) (hT : ∀ P ∈ T, TabOk H P) (hd : den [.d (scriptD ns)] = .ok (.d (.bool true)) l) (q : ∀ H', Q (.bl true) H') : spF K w c T 1 den [.ref a] H Q E := by
  refine ⟨[.d (scriptD ns)], rfl, ⟨rfl, fun i sv e => ?_, fun i j b ne ⟨ob, hi⟩ => ?_⟩, hT, ?_⟩
  · cases i with
    | zero => simp at e; subst e; exact ⟨_, rfl, .lst h (pdInts ns)⟩
    | succ i => simp at e
  · cases i with
    | zero => simp at hi
    | succ i => simp at hi
  · rw [hd]
    intro x H' _ r
    cases r
    exact q H'
/-- what is tracked when the law is called: its code's tables, the script -/
def lawH (ex : Bool) (a : Addr) (o : Obj) (xs : List V) (tb : List Addr) : Hp := fun b => if b ∈ tb then some (.tbl #[]) else if ex = true ∧ b = a then some (.frz o (.lst xs)) else none
section
variable {ex : Bool} {a : Addr} {o : Obj} {xs : List V} {tb : List Addr} {b : Addr}
theorem lawH_tab (h : b ∈ tb) : lawH ex a o xs tb b = some (.tbl #[]) := if_pos h
theorem lawH_script (h : a ∉ tb) : lawH true a o xs tb a = some (.frz o (.lst xs)) := by unfold lawH; rw [if_neg h, if_pos ⟨rfl, rfl⟩]
theorem lawH_off (h : b ∉ tb) (n : ¬ (ex = true ∧ b = a)) : lawH ex a o xs tb b = none := by unfold lawH; rw [if_neg h, if_neg n]
theorem lawH_cases {u : HO} (e : lawH ex a o xs tb b = some u) : (b ∈ tb ∧ u = .tbl #[]) ∨ (ex = true ∧ b = a ∧ u = .frz o (.lst xs)) := by
  by_cases h : b ∈ tb
  · rw [lawH_tab h] at e; cases e; exact .inl ⟨h, rfl⟩
  · by_cases n : ex = true ∧ b = a
    · unfold lawH at e
      rw [if_neg h, if_pos n] at e
      cases e
      exact .inr ⟨n.1, n.2, rfl⟩
    · rw [lawH_off h n] at e; cases e
end
theorem law_end {P : Program} {w : World} {K : Fg} {mg mb : Str → Option Value} {k : Nat} {fa a : Addr} {cs : List (Addr × Addr)} {fd : FuncData} {x : Str} {s : Shared} {vs : List Value} {ns : List Int} {den : Den} {l : List SV}
    (kin : K.In s.heap) (gns : s.heap.Ns mainGlobals mg) (bns : s.heap.Ns builtinsNs mb) (bbt : ∀ x : Str, x ≠ "__name__" → mb x = bootBuiltins x) (nlim : s.heap.NoLimit) (ng : s.gens = #[])
    (tabs : ∀ p ∈ cs, s.heap.get? p.2 = some { cls := .none, data := .fields #[] }) (tK : ∀ p ∈ cs, K.lookup p.2 = none) (cds : ∀ p ∈ cs, PySem.W.CodeHd s.heap p.1 p.2)
    (bmod : ∃ (bm : Addr) (ob : Obj), mg "__builtins__" = some (.ref bm) ∧ bm ≠ builtinsNs ∧ s.heap.get? bm = some ob ∧ ob.cls = .type "module" ∧ ob.dict = some builtinsNs ∧ ob.data = .plain)
    (hobj : s.heap.get? a = some { cls := .type "list", data := .seq vs.toArray }) (hints : IntsAre vs ns) (hlen : ns.length ≤ sizeLine) (room : RoomG k callerA)
    (hF : ∀ base : Heap, K.In base → base.Ns mainGlobals mg → (∀ p ∈ cs, GxR.TabB base mg p.1 p.2) → GOk P w K mg base k fa fd [x] (spG P w K mg base (cs.map (·.2)) 1 den)) (bd : ∀ (s : Shared) (u : Value), BindsTo s fd ⟨[u], []⟩ [(x, u)])
    (hd : den [.d (scriptD ns)] = .ok (.d (.bool true)) l) :
    codeAny (model P w) callerA (.call (.ref fa) ⟨[.ref a], []⟩) (fun r s' => r = .ok (.ret (.bool true)) ∧ OldK s.heap s'.heap ∧ s'.os = s.os ∧ AllBare s'.gens) s := by
  have rv := vals_ints hints
  let tb := cs.map (·.2)
  let o : Obj := { cls := .type "list", data := .seq vs.toArray }
  have tabAt : ∀ b ∈ tb, s.heap.get? b = some { cls := .none, data := .fields #[] } := fun b hb => by
    obtain ⟨p, hp, rfl⟩ := List.mem_map.mp hb
    exact tabs p hp
  have aOff : a ∉ tb := fun z => by
    have q := (tabAt a z).symm.trans hobj
    cases q
  let ex := (K.lookup a).isNone
  let H : Hp := lawH ex a o (ns.map V.int) tb
  have hok : HOk P w H s.heap := fun b u e => by
    rcases lawH_cases e with ⟨hb, rfl⟩ | ⟨_, rfl, rfl⟩
    · exact tabAt b hb
    · exact ⟨hobj, by rw [List.length_map]; exact hlen, vs, _, rv, hobj⟩
  -- what is neither a list like the script's nor a table is not tracked
  have off : ∀ {b : Addr} {ob : Obj}, s.heap.get? b = some ob → ob.data ≠ .fields #[] → (∀ its n, ob.data ≠ .seq its n) → H b = none := fun {b ob} e n1 n2 => by
    cases q : H b with
    | none => rfl
    | some u =>
      rcases lawH_cases q with ⟨hb, _⟩ | ⟨_, hb, _⟩
      · have := e.symm.trans (tabAt b hb)
        cases this
        exact (n1 rfl).elim
      · rw [hb] at e
        have := e.symm.trans hobj
        cases this
        exact (n2 _ _ rfl).elim
  have seen : ∀ {b : Addr} {ob : Obj}, s.heap.get? b = some ob → ob.data ≠ .fields #[] → (∀ its n, ob.data ≠ .seq its n) → (hidT s.heap H).get? b = some ob := fun e n1 n2 => hidT_get e (off e n1 n2)
  have nsH : ∀ {b : Addr} {m : Str → Option Value}, s.heap.Ns b m → (hidT s.heap H).Ns b m := fun ⟨ob, es, ep, e, d, r⟩ => ⟨ob, es, ep, seen e (fun z => by rw [d] at z; cases z) (fun its n z => by rw [d] at z; cases z), d, r⟩
  have kinH : K.In (hidT s.heap H) := fun b ob e => hidT_get (kin b ob e) (by
    cases q : H b with
    | none => rfl
    | some u =>
      rcases lawH_cases q with ⟨hb, _⟩ | ⟨hx, hb, _⟩
      · obtain ⟨p, hp, rfl⟩ := List.mem_map.mp hb
        rw [tK p hp] at e; cases e
      · have hx' : (K.lookup a).isNone = true := hx
        rw [hb] at e
        rw [e] at hx'; cases hx')
  have nGT : ∀ p ∈ cs, mainGlobals ≠ p.2 := fun p hp z => by
    obtain ⟨ob, es, ep, e, d, _⟩ := gns
    rw [z, tabs p hp] at e
    cases e; cases d
  have tbB : ∀ p ∈ cs, GxR.TabB (hidT s.heap H) mg p.1 p.2 := fun p hp => by
    refine ⟨?_, ?_, nGT p hp⟩
    · obtain ⟨ob, us, file, tf, flags, tg, inF, text, tt, e1, r1, r2, r3, rest⟩ := cds p hp
      refine ⟨ob, us, file, tf, flags, tg, inF, text, tt, seen e1 (fun z => ?_) (fun its n z => ?_), r1, r2, r3, rest⟩
      · rw [r2] at z; cases z; simp at r3
      · rw [r2] at z; cases z
    · obtain ⟨bm, ob, b1, b2, b3, b4, b5, b6⟩ := bmod
      refine ⟨bm, ob, b1, b2, fun z => ?_, fun z => ?_, seen b3 (fun y => by rw [b6] at y; cases y) (fun its n y => by rw [b6] at y; cases y), b4, b5, b6⟩
      · obtain ⟨o2, es, ep, e, d, _⟩ := gns
        rw [← z, b3] at e
        cases e
        rw [b6] at d; cases d
      · rw [z, tabs p hp] at b3
        cases b3; cases b6
  have e0 : Env0 P w K mg (hidT s.heap H) callerA [] s H := ⟨rfl, ⟨kinH, nsH gns, ⟨mb, nsH bns, bbt⟩, let ⟨mc, h1, h2⟩ := nlim; ⟨mc, nsH h1, h2⟩⟩, fun b ob e => of_hidT e, Nat.le_of_eq (hidT_size _ _), trivial, fun b hb => (List.not_mem_nil hb).elim, hok, .of_eq ng⟩
  have fz : FrzL K H a (ns.map V.int) := by
    cases q : K.lookup a with
    | none =>
      have hx : ex = true := by show (K.lookup a).isNone = true; rw [q]; rfl
      refine .inl ⟨o, ?_⟩
      show lawH ex a o (ns.map V.int) tb a = _
      rw [hx]; exact lawH_script aOff
    | some ob =>
      have e := (kin a ob q).symm.trans hobj
      cases e
      exact .inr (.inr ⟨_, vs.toArray, _, q, rfl, rfl, rfl, by rw [List.size_toArray, ← rv.length, List.length_map]; exact hlen, by simpa using rv⟩)
  refine codeAny_mono ((hF _ kinH (nsH gns) tbB).go callerA [] s H ⟨[.ref a], []⟩ [.ref a] [.ref a] (fun v _ => v = .bl true) (fun _ _ _ => False) room e0 (bd s (.ref a)) (.cons rfl .nil) (spF_script fz (fun Pt hP => ⟨#[], lawH_tab hP, trivial, fun pos cv z => by simp [codeAmong] at z⟩) hd fun _ => rfl)) fun r s' h => ?_
  match r, h with
  | .ok (.ret u), ⟨v, H', os, bare, un, hok', rr, ev⟩ =>
    have ev : v = .bl true := ev
    subst ev
    obtain rfl : u = Value.bool true := rr
    have grown : ∀ p ∈ cs, ∃ more : Array Value, s'.heap.get? p.2 = some { cls := .none, data := .fields more } := fun p hp => by
      obtain ⟨more, z⟩ := un.tbls p.2 #[] (lawH_tab (List.mem_map_of_mem hp))
      exact ⟨_, hok' p.2 _ z⟩
    have same : ∀ b ob, b ∉ tb → s.heap.get? b = some ob → s'.heap.get? b = some ob := fun b ob nb e => by
      cases q : H b with
      | none => exact un.keep b ob e q (List.not_mem_nil) (List.not_mem_nil)
      | some u =>
        rcases lawH_cases q with ⟨hb, _⟩ | ⟨_, hb, eu⟩
        · exact (nb hb).elim
        · subst eu
          have z := hok' b _ (un.frzs b o _ q)
          rw [hb] at e
          have := e.symm.trans hobj
          cases this
          exact z.1
    refine ⟨rfl, ⟨fun b ob e => ?_, fun b ob e => ?_⟩, os, bare⟩
    · by_cases hb : b ∈ tb
      · obtain ⟨p, hp, rfl⟩ := List.mem_map.mp hb
        obtain ⟨more, hm⟩ := grown p hp
        have := e.symm.trans (tabs p hp)
        cases this
        exact .inr (.inl ⟨((cds p hp).tab (tabs p hp)).isCodeTable, rfl, #[], more, rfl, by rw [Array.empty_append]; exact hm⟩)
      · exact .inl (same b ob hb e)
    · by_cases hb : b ∈ tb
      · obtain ⟨p, hp, rfl⟩ := List.mem_map.mp hb
        obtain ⟨more, hm⟩ := grown p hp
        exact ⟨_, hm⟩
      · exact ⟨ob, same b ob hb e⟩
/-- the walk: what the head says of the law's def -/
theorem walk_F {lw : PySem.W.OpenLaw} {n k : Nat} {q : Program} {loose : List Str} {XP : (Str → Option Value) → Heap → Prop} {YP : World → Heap → Prop} {d : DefRec} {x : Str} (hn : lw.most = some n) (hn2 : n ≤ sizeLine) (hdf : d.params.defaults = []) (room : RoomG k callerA)
    (hF : ∀ (w : World) (mg : Str → Option Value) (fa : Addr) (h : Heap), YP w h → h.Ns mainGlobals mg → mg d.name = some (.ref fa) → ∃ (K : PySem.W.Frag) (cs : List (Addr × Addr)) (fd : FuncData) (den : Den), K.In h ∧
      (∀ p ∈ cs, h.get? p.2 = some { cls := .none, data := .fields #[] }) ∧ (∀ p ∈ cs, K.lookup p.2 = none) ∧ (∀ p ∈ cs, PySem.W.CodeHd h p.1 p.2) ∧ (∀ (s : Shared) (u : Value), BindsTo s fd ⟨[u], []⟩ [(x, u)]) ∧
      (∀ ns : List Int, ns.length ≤ n → (∀ z ∈ ns, Builtin.Int.intBits z ≤ 1048576) → ∃ l, den [.d (scriptD ns)] = .ok (.d (.bool true)) l) ∧
      ∀ base : Heap, K.In base → base.Ns mainGlobals mg → (∀ p ∈ cs, GxR.TabB base mg p.1 p.2) → GOk lw.prog w K mg base k fa fd [x] (spG lw.prog w K mg base (cs.map (·.2)) 1 den)) :
    PySem.W.WalkO q loose XP YP lw.row.toRowW d [] (fun f vs => PySem.call f vs) := by
  refine Att.attach_callB hn hdf fun w s₀ s mg mb fa o pm cd doc a vs ns G Y ho hd hcd hmg hobj hints hl hbits hg => ?_
  obtain ⟨K, cs, fd, den, kin, t1, t2, t3, bd, hlaw, hG⟩ := hF w mg fa _ Y G.T.g hmg
  obtain ⟨l, hden⟩ := hlaw ns hl hbits
  exact law_end kin G.T.g G.T.b G.T.builtins G.T.nolimit hg t1 t2 t3 G.T.bmain hobj hints (Nat.le_trans hl hn2) room hG bd hden
end Fz
end

section
set_option Elab.async false
set_option linter.all false
set_option maxRecDepth 100000
set_option maxHeartbeats 4000000
/-! F15: what the head tells, packed; defs by it. -/
namespace Fz
open PySem PySem.Spec PyProof.Rows L2
/-- all that the head tells -/
structure HeadC (fa : List He.Fa) (fn : List He.DefD) (ts : List DP) (K : Fg) (mg : Str → Option Value) (base : Heap) (T : List Addr) : Prop where
  says : He.SaysD fa fn K
  kin : K.In base
  gl : base.Ns mainGlobals mg
  rc : ∀ p ∈ ts, isRefC K p = true
  tb : ∀ p ∈ ts, GxR.TabB base mg (codeA K p) (tabOf K p)
  tT : T = ts.map (tabOf K)
section
variable {fa : List He.Fa} {fn : List He.DefD} {ts : List DP} {K : Fg} {mg : Str → Option Value} {base : Heap} {T : List Addr} {P : Program} {w : World}
theorem HeadC.free (C : HeadC fa fn ts K mg base T) (i : Nat) {x : Str} (h : fa[i]? = some (.free x) := by rfl) : mg x = none := He.free_ok C.kin C.gl (C.says.fact i h)
theorem HeadC.glo (C : HeadC fa fn ts K mg base T) (i : Nat) {x : Str} (h : fa[i]? = some (.glo x) := by rfl) : mg x = some (.ref (He.ga K x)) := He.glo_ok C.kin C.gl (C.says.fact i h)
theorem HeadC.int (C : HeadC fa fn ts K mg base T) (i : Nat) {x : Str} {z : Int} (h : fa[i]? = some (.int x z) := by rfl) : ∃ t, mg x = some (.int z t) := He.int_ok C.kin C.gl (C.says.fact i h)
theorem HeadC.tab (C : HeadC fa fn ts K mg base T) (i : Nat) {p : DP} (h : ts[i]? = some p := by rfl) : GxR.TabB base mg (codeA K p) (tabOf K p) ∧ tabOf K p ∈ T := by
  have hm := List.mem_of_getElem? h
  refine ⟨C.tb p hm, ?_⟩
  rw [C.tT]; exact List.mem_map_of_mem hm
theorem e_gint {X : Cx} {F : Fx} {x : Str} {z : Int} {pos : Pos} (hg : Gl X x) (hm : ∃ t, X.mg x = some (.int z t)) (hd : (x == ("__debug__" : Str)) = false := by decide) : ED X F (.Name x pos) (fC (.int z)) := by
  obtain ⟨t, hm⟩ := hm
  exact (pe_glob (v := .int z) hg hm ⟨t, rfl⟩ hd).via fun σ H Q ⟨S, r, p⟩ => p.ok r (.int z)
/-- the context of a def's body -/
abbrev bX (P : Program) (w : World) (K : Fg) (mg : Str → Option Value) (base : Heap) (N : List Str) (qual : Str) (scope : Scope) (f : Addr) (cdv : Value) (A : Around) (outer : List Env) (s : Shared) (H : Hp) (E1 : XK) : Cx := (cxOf CX0 P w K mg base N qual scope f cdv A outer s H E1).nox
/-- a def of the text keeps its promise -/
structure FnF (P : Program) (w : World) (K : Fg) (mg : Str → Option Value) (base : Heap) (T : List Addr) (k : Nat) (d : He.DefD) (x : Str) (ps : List Str) (n : Nat) (den : Den) : Prop where
  ex : ∃ fd, FunD K d.name d.qual d.params d.body d.scope [] (d.kws K) (He.fAd K d.at_) fd ∧ GOk P w K mg base k (He.fAd K d.at_) fd ps (spG P w K mg base T n den) ∧ mg x = some (.ref (He.fAd K d.at_))
theorem FnF.toFn {k n : Nat} {d : He.DefD} {x : Str} {ps : List Str} {den : Den} (G : FnF P w K mg base T k d x ps n den)
    (ha : ∀ (kV doc pm : Value) (an : Option Addr) (cdv ct : Value) (us : List Value), us.length = ps.length → bindArgs (PySem.W.fnOf d.name d.qual d.params d.body d.scope .none kV doc pm an cdv ct) ⟨us, []⟩ = pure (ps.zip us)) : Fn P w K mg base T k x ps n den := by
  obtain ⟨fd, FD, F1, hg⟩ := G.ex
  exact ⟨_, fd, F1, hg, FD.kp, FD.bindsN ha⟩
theorem FnF.toFnK {k n m : Nat} {d : He.DefD} {x : Str} {ps ks : List Str} {perm : List Nat} {den : Den} (G : FnF P w K mg base T k d x ps n den)
    (h : ∀ (kV doc pm : Value) (an : Option Addr) (cdv ct : Value) (us ws : List Value), us.length = m → ws.length = ks.length → bindArgs (PySem.W.fnOf d.name d.qual d.params d.body d.scope .none kV doc pm an cdv ct) ⟨us, ks.zip ws⟩ = pure (ps.zip (permL perm (us ++ ws)))) : FnK P w K mg base T k x ps n den m ks perm := by
  obtain ⟨fd, FD, F1, hg⟩ := G.ex
  exact ⟨_, fd, F1, hg, FD.kp, kwF_of FD h⟩
/-- a def with generator expressions -/
theorem fn_mkCL (nfs : List FnT) {k n : Nat} {d : He.DefD} {x : Str} {N ps : List Str} {fb : FS → SRes} (C : HeadC fa fn ts K mg base T) (i j l : Nat) (S : FnScope N ps d.scope)
    (hb : ∀ (A : Around) (outer : List Env) (s : Shared) (H : Hp) (E1 : XK) (H0 : Hp) (pins : List (Nat × Addr)) (E : XK), RoomG k (A.deeper (envOfC d.qual d.scope s.heap.objs.size (He.fAd K d.at_) (.ref (codeA K d.at_)))) → EB (bX P w K mg base N d.qual d.scope (He.fAd K d.at_) (.ref (codeA K d.at_)) A outer s H E1) ⟨H0, pins, T, [], E, w, cloX P w K mg base T (bX P w K mg base N d.qual d.scope (He.fAd K d.at_) (.ref (codeA K d.at_)) A outer s H E1).env.cells nfs⟩ d.body fb)
    (hn : N.length = n := by rfl) (hl : ps.length ≤ N.length := by decide) (hi : fn[i]? = some d := by rfl) (hj : fa[j]? = some (.glo x) := by rfl) (ht : ts[l]? = some d.at_ := by rfl) (hat : d.at_ = (x, none) := by rfl) (hd : d.dfl = [] := by rfl) : FnF P w K mg base T (k + 1) d x ps ps.length (denOf n fb) := by
  obtain ⟨fd, FD⟩ := C.says.def_ i hi
  have FD' : FunD K d.name d.qual d.params d.body d.scope [] (d.kws K) (He.fAd K d.at_) fd := by
    have e : d.dvs K = [] := by unfold He.DefD.dvs; rw [hd]; rfl
    rw [← e]; exact FD
  have hg : mg x = some (.ref (He.fAd K d.at_)) := by
    rw [hat]; exact C.glo j hj
  subst hn
  have ec := code_of FD' (C.rc _ (List.mem_of_getElem? ht))
  exact ⟨fd, FD', def_ok FD' S hl (by rw [ec]; exact hb), hg⟩
/-- a def by its body -/
theorem fn_mk {k n : Nat} {d : He.DefD} {x : Str} {N ps : List Str} {fb : FS → SRes} (C : HeadC fa fn ts K mg base T) (i j : Nat) (S : FnScope N ps d.scope)
    (hb : ∀ (cdv : Value) (A : Around) (outer : List Env) (s : Shared) (H : Hp) (E1 : XK) (H0 : Hp) (pins : List (Nat × Addr)) (E : XK), RoomG k (A.deeper (envOfC d.qual d.scope s.heap.objs.size (He.fAd K d.at_) cdv)) → EB (bX P w K mg base N d.qual d.scope (He.fAd K d.at_) cdv A outer s H E1) ⟨H0, pins, T, [], E, w, cloX P w K mg base T (bX P w K mg base N d.qual d.scope (He.fAd K d.at_) cdv A outer s H E1).env.cells []⟩ d.body fb)
    (hn : N.length = n := by rfl) (hl : ps.length ≤ N.length := by decide) (hi : fn[i]? = some d := by rfl) (hj : fa[j]? = some (.glo x) := by rfl) (hat : d.at_ = (x, none) := by rfl) (hd : d.dfl = [] := by rfl) : FnF P w K mg base T (k + 1) d x ps ps.length (denOf n fb) := by
  obtain ⟨fd, FD⟩ := C.says.def_ i hi
  have FD' : FunD K d.name d.qual d.params d.body d.scope [] (d.kws K) (He.fAd K d.at_) fd := by
    have e : d.dvs K = [] := by unfold He.DefD.dvs; rw [hd]; rfl
    rw [← e]; exact FD
  have hg : mg x = some (.ref (He.fAd K d.at_)) := by
    rw [hat]; exact C.glo j hj
  subst hn
  exact ⟨fd, FD', def_ok FD' S hl (hb fd.code), hg⟩
/-- a def with generator expressions -/
theorem fn_mkC {k n : Nat} {d : He.DefD} {x : Str} {N ps : List Str} {fb : FS → SRes} (C : HeadC fa fn ts K mg base T) (i j l : Nat) (S : FnScope N ps d.scope)
    (hb : ∀ (A : Around) (outer : List Env) (s : Shared) (H : Hp) (E1 : XK) (H0 : Hp) (pins : List (Nat × Addr)) (E : XK), RoomG k (A.deeper (envOfC d.qual d.scope s.heap.objs.size (He.fAd K d.at_) (.ref (codeA K d.at_)))) → EB (bX P w K mg base N d.qual d.scope (He.fAd K d.at_) (.ref (codeA K d.at_)) A outer s H E1) ⟨H0, pins, T, [], E, w, cloX P w K mg base T (bX P w K mg base N d.qual d.scope (He.fAd K d.at_) (.ref (codeA K d.at_)) A outer s H E1).env.cells []⟩ d.body fb)
    (hn : N.length = n := by rfl) (hl : ps.length ≤ N.length := by decide) (hi : fn[i]? = some d := by rfl) (hj : fa[j]? = some (.glo x) := by rfl) (ht : ts[l]? = some d.at_ := by rfl) (hat : d.at_ = (x, none) := by rfl) (hd : d.dfl = [] := by rfl) : FnF P w K mg base T (k + 1) d x ps ps.length (denOf n fb) := by
  obtain ⟨fd, FD⟩ := C.says.def_ i hi
  have FD' : FunD K d.name d.qual d.params d.body d.scope [] (d.kws K) (He.fAd K d.at_) fd := by
    have e : d.dvs K = [] := by unfold He.DefD.dvs; rw [hd]; rfl
    rw [← e]; exact FD
  have hg : mg x = some (.ref (He.fAd K d.at_)) := by
    rw [hat]; exact C.glo j hj
  subst hn
  have ec := code_of FD' (C.rc _ (List.mem_of_getElem? ht))
  exact ⟨fd, FD', def_ok FD' S hl (by rw [ec]; exact hb), hg⟩
/-- of a den that never answers nothing is asked -/
theorem fn_bad {k : Nat} {d : He.DefD} {x : Str} {ps : List Str} (C : HeadC fa fn ts K mg base T) (i j : Nat) (hi : fn[i]? = some d := by rfl) (hj : fa[j]? = some (.glo x) := by rfl) (hat : d.at_ = (x, none) := by rfl) (hd : d.dfl = [] := by rfl) : FnF P w K mg base T k d x ps ps.length (fun _ => .bad) := by
  obtain ⟨fd, FD⟩ := C.says.def_ i hi
  have FD' : FunD K d.name d.qual d.params d.body d.scope [] (d.kws K) (He.fAd K d.at_) fd := by
    have e : d.dvs K = [] := by unfold He.DefD.dvs; rw [hd]; rfl
    rw [← e]; exact FD
  have hg : mg x = some (.ref (He.fAd K d.at_)) := by
    rw [hat]; exact C.glo j hj
  exact ⟨fd, FD', ⟨fun vs H Q E ⟨svs, _, _, _, z⟩ => z.elim, fun A outer s H args us vs Q E _ _ _ _ ⟨svs, _, _, _, z⟩ => z.elim⟩, hg⟩
end
section
variable {X : Cx} {F : Fx} {i : Nat} {o e : Expr} {apos cpos pos : Pos}
theorem s_app {f : FS → Res D} (ho : PE X o (tVar i)) (he : ED X F e f) (hs : swapsWith (.Call (.Attribute o "append" apos) [e] [] cpos) none pos.line X.env = pure false := by rfl) (hbase : attributeBase o "append" X.env (eval o X.env) = eval o X.env := by rfl)
    (hfew : ((backTo cpos (starEach [e] X.env)).all (fun x => !x.1) && (backToKw cpos (keywordEach [] X.env)).all (fun x => x.1.isSome) && decide ([e].length + ([] : List Keyword).length + (if ([] : List Keyword).isEmpty then 0 else 1) < 30)) = true := by rfl)
    (hline : (apos.endLine == cpos.line) = true := by rfl) (hse : starEach [e] X.env = (false, eval e X.env) :: starEach [] X.env := by rfl) (hplain : (backTo cpos (starEach [] X.env)).any (·.1) = false := by rfl) :
    ES X F (.Expr (.Call (.Attribute o "append" apos) [e] [] cpos) pos) (fAppend i f) :=
  s_append ho he hs (pe_bm PySem.F.plainAttrs_list PySem.F.slot_list_append PySem.F.type_list_append mt_append ho (pa_cons he pa_nil hse) hbase hfew hline hse hplain)
theorem s_ext {f : FS → Res SV} (ho : PE X o (tVar i)) (he : EV X F e f) (hs : swapsWith (.Call (.Attribute o "extend" apos) [e] [] cpos) none pos.line X.env = pure false := by rfl) (hbase : attributeBase o "extend" X.env (eval o X.env) = eval o X.env := by rfl)
    (hfew : ((backTo cpos (starEach [e] X.env)).all (fun x => !x.1) && (backToKw cpos (keywordEach [] X.env)).all (fun x => x.1.isSome) && decide ([e].length + ([] : List Keyword).length + (if ([] : List Keyword).isEmpty then 0 else 1) < 30)) = true := by rfl)
    (hline : (apos.endLine == cpos.line) = true := by rfl) (hse : starEach [e] X.env = (false, eval e X.env) :: starEach [] X.env := by rfl) (hplain : (backTo cpos (starEach [] X.env)).any (·.1) = false := by rfl) :
    ES X F (.Expr (.Call (.Attribute o "extend" apos) [e] [] cpos) pos) (fExtend i f) :=
  s_extend ho he hs (pe_bm PySem.F.plainAttrs_list PySem.F.slot_list_extend PySem.F.type_list_extend mt_extend ho (pa_cons he pa_nil hse) hbase hfew hline hse hplain)
end
theorem t_bool {X : Cx} {F : Fx} {e : Expr} {f : FS → Res Bool} (h : EW X F e f) : ET X F e f := h.pt
/-- built-ins by name -/
theorem bt_bool : bootBuiltins "bool" = some (.type "bool") := by decide +kernel
theorem bt_str : bootBuiltins "str" = some (.type "str") := by decide +kernel
theorem bt_len : bootBuiltins "len" = some (.builtin "len") := by decide +kernel
theorem bt_abs : bootBuiltins "abs" = some (.builtin "abs") := by decide +kernel
theorem bt_max : bootBuiltins "max" = some (.builtin "max") := by decide +kernel
theorem bt_min : bootBuiltins "min" = some (.builtin "min") := by decide +kernel
theorem bt_all : bootBuiltins "all" = some (.builtin "all") := by decide +kernel
theorem bt_repr : bootBuiltins "repr" = some (.builtin "repr") := by decide +kernel
theorem bt_isinstance : bootBuiltins "isinstance" = some (.builtin "isinstance") := by decide +kernel
theorem bt_int : bootBuiltins "int" = some (.type "int") := by decide +kernel
theorem bt_tuple : bootBuiltins "tuple" = some (.type "tuple") := by decide +kernel
theorem bt_list : bootBuiltins "list" = some (.type "list") := by decide +kernel
end Fz
end

section
set_option Elab.async false
set_option linter.all false
set_option maxRecDepth 100000
set_option maxHeartbeats 4000000
/-! F16: repr of data; min of tuples of ints. -/
namespace Fz
open PySem PySem.Spec PyProof.Rows L2
/-! ### repr -/
def showOk (d : D) : Prop := d.showable = true ∧ d.hasDict = false ∧ d.shown.length ≤ sizeLine ∧ d.depth ≤ 60
noncomputable instance (d : D) : Decidable (showOk d) := Classical.propDecidable _
noncomputable def pRepr (d : D) : FS → Res D := fun S => match d with
  | .list ds => if showOk (.list ds) then .ok (.str (PyData.shown (.list ds))) S else .bad
  | .tuple ds => if showOk (.tuple ds) then .ok (.str (PyData.shown (.tuple ds))) S else .bad
  | _ => .bad
def rReprD (K : Fg) : List V → Hp → VK → Prop := fun xs H Q => ∃ a d, xs = [.ref a] ∧ Dp K H (.ref a) d ∧ showOk d ∧ Q (.str d.shown) H
section
variable {X : Cx} {F : Fx}
theorem cr_reprD {k : Nat} (hr : RoomG k X.A) : CallR X (.builtin "repr") (rReprD X.K) := by
  intro pins s σ H xs us Q I rx ⟨a, d, ex, hd, ⟨h1, h2, h3, h4⟩, q⟩
  subst ex
  rw [Vals.ref1 rx]
  obtain ⟨as, r⟩ := Dp.reads I d (.ref a) (.ref a) hd rfl
  exact repr_of_reads' r h1 (PyData.noDict_hsm h2) hr.gd (by have := hr.rm.units; omega) (fun _ _ e => e) (fun h' u tk hk => ⟨.str d.shown, H, I.kept hk, ⟨u, rfl⟩, q⟩) h3
theorem c_repr {k : Nat} (hr : RoomG k X.A) : CallF X F PR (.builtin "repr") (one pRepr) := callF_one fun d => by
  cases d with
  | list ds =>
    by_cases h : showOk (.list ds)
    · exact .inl ⟨_, cr_reprD hr, fun S σ H x Q r hx p => by
        simp only [pRepr, if_pos h] at p
        obtain ⟨a, vs, rfl, _, _⟩ := hx.list
        exact ⟨a, _, rfl, hx.dp, h, p.ok r (.str _)⟩⟩
    · exact .inr fun _ => by simp only [pRepr, if_neg h]
  | tuple ds =>
    by_cases h : showOk (.tuple ds)
    · exact .inl ⟨_, cr_reprD hr, fun S σ H x Q r hx p => by
        simp only [pRepr, if_pos h] at p
        obtain ⟨a, vs, rfl, _, _⟩ := hx.tuple
        exact ⟨a, _, rfl, hx.dp, h, p.ok r (.str _)⟩⟩
    · exact .inr fun _ => by simp only [pRepr, if_neg h]
  | _ => exact .inr fun _ => rfl
end
/-! ### min of a list of tuples of ints -/
section
variable {P : Program} {w : World} {A : Around} {R : Result → Shared → Prop} {I S l : Addr} {items : Array Value} {nss : List (List Int)} {h₀ : Heap}
end
end Fz
namespace Fz
open PySem PySem.Spec PyProof.Rows L2
section
variable {X : Cx} {F : Fx}
end
end Fz
end

section
set_option Elab.async false
set_option linter.all false
set_option maxRecDepth 100000
set_option maxHeartbeats 4000000
/-! F17: the head's end, closed. -/
namespace Fz
open PySem PySem.Spec PyProof.Rows L2
theorem funD_eq {K : Fg} {x qual : Str} {params : Arguments} {body : List Stmt} {scope : Scope} {dvs dvs2 : List V} {kws kws2 : List (Str × V)} {f : Addr} {fd fd2 : FuncData} (a : FunD K x qual params body scope dvs kws f fd) (b : FunD K x qual params body scope dvs2 kws2 f fd2) : fd = fd2 := by
  obtain ⟨_, _, _, _, _, _, _, _, _, _, _, h1, _⟩ := a.ex
  obtain ⟨_, _, _, _, _, _, _, _, _, _, _, h2, _⟩ := b.ex
  rw [h1] at h2
  injection h2 with h2
  injection h2 with _ _ h2 _
  injection h2
theorem head_close {P : Program} {w : World} {fa : List He.Fa} {fn : List He.DefD} {ts : List DP} {K : Fg} {h : Heap} {mg : Str → Option Value} {k n i j : Nat} {d : He.DefD} {x y : Str} {den : Den} (KX : K.In h) (G : h.Ns mainGlobals mg) (c : He.SaysD fa fn K) (tb : ∀ p ∈ ts, TabS K h p)
    (hF : ∀ base : Heap, HeadC fa fn ts K mg base (ts.map (tabOf K)) → FnF P w K mg base (ts.map (tabOf K)) k d y [x] 1 den)
    (hspec : ∀ ns : List Int, ns.length ≤ n → (∀ z ∈ ns, Builtin.Int.intBits z ≤ 1048576) → ∃ l, den [.d (scriptD ns)] = .ok (.d (.bool true)) l)
    (ha : ∀ (kV doc pm : Value) (an : Option Addr) (cdv ct : Value) (us : List Value), us.length = [x].length → bindArgs (PySem.W.fnOf d.name d.qual d.params d.body d.scope .none kV doc pm an cdv ct) ⟨us, []⟩ = pure ([x].zip us))
    {f : Addr} (hf : mg y = some (.ref f)) (hi : fn[i]? = some d := by rfl) (hj : fa[j]? = some (.glo y) := by rfl) (hat : d.at_ = (y, none) := by rfl) (hd : d.dfl = [] := by rfl) :
    ∃ (K : PySem.W.Frag) (cs : List (Addr × Addr)) (fd : FuncData) (den : Den), K.In h ∧
      (∀ p ∈ cs, h.get? p.2 = some { cls := .none, data := .fields #[] }) ∧ (∀ p ∈ cs, K.lookup p.2 = none) ∧ (∀ p ∈ cs, PySem.W.CodeHd h p.1 p.2) ∧ (∀ (s : Shared) (u : Value), BindsTo s fd ⟨[u], []⟩ [(x, u)]) ∧
      (∀ ns : List Int, ns.length ≤ n → (∀ z ∈ ns, Builtin.Int.intBits z ≤ 1048576) → ∃ l, den [.d (scriptD ns)] = .ok (.d (.bool true)) l) ∧
      ∀ base : Heap, K.In base → base.Ns mainGlobals mg → (∀ p ∈ cs, GxR.TabB base mg p.1 p.2) → GOk P w K mg base k f fd [x] (spG P w K mg base (cs.map (·.2)) 1 den) := by
  obtain ⟨fd, FD⟩ := c.def_ i hi
  have e0 : d.dvs K = [] := by unfold He.DefD.dvs; rw [hd]; rfl
  rw [e0] at FD
  have hg := He.glo_ok KX G (c.fact j hj)
  have ef : f = He.fAd K d.at_ := by
    rw [hf] at hg
    cases hg
    rw [hat]; rfl
  have back : ∀ {p : Addr × Addr}, p ∈ ts.map (fun p => (codeA K p, tabOf K p)) → ∃ q ∈ ts, p = (codeA K q, tabOf K q) := fun hp => by
    obtain ⟨q, hq, e⟩ := List.mem_map.mp hp
    exact ⟨q, hq, e.symm⟩
  refine ⟨K, ts.map (fun p => (codeA K p, tabOf K p)), fd, den, KX, fun p hp => ?_, fun p hp => ?_, fun p hp => ?_, fun s u => FunD.bindsA (ps := [x]) FD ha s [u] rfl, hspec, fun base kb gb tbb => ?_⟩
  · obtain ⟨q, hq, rfl⟩ := back hp; exact (tb q hq).at_
  · obtain ⟨q, hq, rfl⟩ := back hp; exact (tb q hq).no
  · obtain ⟨q, hq, rfl⟩ := back hp; exact PySem.W.codeHd_of_K KX (tb q hq).hd
  · have eT : (ts.map (fun p => (codeA K p, tabOf K p))).map (·.2) = ts.map (tabOf K) := by rw [List.map_map]; rfl
    rw [eT, ef]
    obtain ⟨fd2, FD2, go, _⟩ := (hF base ⟨c, kb, gb, fun p hp => (tb p hp).ref, fun p hp => tbb (codeA K p, tabOf K p) (List.mem_map_of_mem hp), rfl⟩).ex
    rw [funD_eq FD FD2]
    exact go
end Fz
end

section
set_option Elab.async false
set_option linter.all false
set_option maxRecDepth 100000
set_option maxHeartbeats 4000000
/-! F18: what dens promise: weakest preconditions of dens, by simp. No program in sight. -/
namespace Fz
open PySem L2
def wE {α : Type} (r : Res α) (Q : α → FS → Prop) : Prop := match r with
  | .ok a S => Q a S
  | _ => False
def wS (r : SRes) (N : FS → Prop) (R : SV → FS → Prop) (B C : FS → Prop) : Prop := match r with
  | .nx S => N S
  | .rt v S => R v S
  | .bk S => B S
  | .ct S => C S
  | _ => False
def wC (r : CRes) (Q : SV → List SV → Prop) : Prop := match r with
  | .ok v svs => Q v svs
  | _ => False
def wO {α : Type} (o : Option α) (k : α → Prop) : Prop := match o with
  | some a => k a
  | none => False
def wFrz : SV → (D → Prop) → Prop
  | .d d, k => k d
  | .own (.lst ds), k => k (.list ds)
  | _, _ => False
def wInt : D → (Int → Prop) → Prop
  | .int i, k => k i
  | _, _ => False
def wBool : D → (Bool → Prop) → Prop
  | .bool i, k => k i
  | _, _ => False
def wItems : D → (List D → Prop) → Prop
  | .list ds, k => k ds
  | .tuple ds, k => k ds
  | _, _ => False
section
variable {α β : Type} {Q : α → FS → Prop} {S : FS} {N : FS → Prop} {R : SV → FS → Prop} {B C : FS → Prop}
@[simp] theorem wE_ok {a : α} : wE (.ok a S) Q = Q a S := rfl
@[simp] theorem wE_bad : wE (.bad : Res α) Q = False := rfl
@[simp] theorem wE_exn {e : Exn} : wE (.exn e S : Res α) Q = False := rfl
@[simp] theorem wS_nx : wS (.nx S) N R B C = N S := rfl
@[simp] theorem wS_rt {v : SV} : wS (.rt v S) N R B C = R v S := rfl
@[simp] theorem wS_bk : wS (.bk S) N R B C = B S := rfl
@[simp] theorem wS_ct : wS (.ct S) N R B C = C S := rfl
@[simp] theorem wS_bad : wS .bad N R B C = False := rfl
@[simp] theorem wO_some {a : α} {k : α → Prop} : wO (some a) k = k a := rfl
@[simp] theorem wO_none {k : α → Prop} : wO none k = False := rfl
@[simp] theorem wFrz_d {d : D} {k : D → Prop} : wFrz (.d d) k = k d := rfl
@[simp] theorem wFrz_own {ds : List D} {k : D → Prop} : wFrz (.own (.lst ds)) k = k (.list ds) := rfl
@[simp] theorem wInt_int {i : Int} {k : Int → Prop} : wInt (.int i) k = k i := rfl
@[simp] theorem wBool_bool {i : Bool} {k : Bool → Prop} : wBool (.bool i) k = k i := rfl
@[simp] theorem wItems_list {ds : List D} {k : List D → Prop} : wItems (.list ds) k = k ds := rfl
@[simp] theorem wItems_tuple {ds : List D} {k : List D → Prop} : wItems (.tuple ds) k = k ds := rfl
theorem wE_bnd {f : FS → Res β} {k : β → FS → Res α} : wE (bnd f k S) Q = wE (f S) fun a S1 => wE (k a S1) Q := by
  unfold bnd; cases f S <;> rfl
@[simp] theorem wE_fC {a : α} : wE (fC a S) Q = Q a S := rfl
end
section
variable {Q : D → FS → Prop} {QV : SV → FS → Prop} {QB : Bool → FS → Prop} {QL : List D → FS → Prop} {QO : Option Int → FS → Prop} {S : FS} {f g fa fb : FS → Res D} {fv : FS → Res SV} {t u : FS → Res Bool} {gl : FS → Res (List D)} {d e : D}
def wVar (i : Nat) (o : Option (Option SV)) (S : FS) (Q : D → FS → Prop) : Prop := match o with
  | some (some (.d d)) => Q d S
  | some (some (.own (.lst ds))) => Q (.list ds) (S.set i (some (.d (.list ds))))
  | _ => False
def wPeek (o : Option (Option SV)) (Q : D → Prop) : Prop := match o with
  | some (some (.d d)) => Q d
  | some (some (.own (.lst ds))) => Q (.list ds)
  | some (some (.pin (.lst ds))) => Q (.list ds)
  | some (some (.x (.ro (.lst ds)))) => Q (.list ds)
  | _ => False
@[simp] theorem wPeek_ro {Q : D → Prop} {ds : List D} : wPeek (some (some (.x (.ro (.lst ds))))) Q = Q (.list ds) := rfl
@[simp] theorem wVar_d {i : Nat} : wVar i (some (some (.d d))) S Q = Q d S := rfl
@[simp] theorem wVar_own {i : Nat} {ds : List D} : wVar i (some (some (.own (.lst ds)))) S Q = Q (.list ds) (S.set i (some (.d (.list ds)))) := rfl
@[simp] theorem wPeek_d {Q : D → Prop} : wPeek (some (some (.d d))) Q = Q d := rfl
@[simp] theorem wPeek_own {Q : D → Prop} {ds : List D} : wPeek (some (some (.own (.lst ds)))) Q = Q (.list ds) := rfl
@[simp] theorem wPeek_pin {Q : D → Prop} {ds : List D} : wPeek (some (some (.pin (.lst ds)))) Q = Q (.list ds) := rfl
@[simp] theorem wE_fVar {i : Nat} : wE (fVar i S) Q = wVar i S[i]? S Q := by
  unfold fVar wVar
  split <;> simp_all
@[simp] theorem wE_fPeek {i : Nat} : wE (fPeek i S) Q = wPeek S[i]? fun d => Q d S := by
  unfold fPeek wPeek
  split <;> simp_all
@[simp] theorem wE_fV : wE (fV f S) QV = wE (f S) fun d S1 => QV (.d d) S1 := wE_bnd
@[simp] theorem wE_fFrz : wE (fFrz fv S) Q = wE (fv S) fun v S1 => wFrz v fun d => Q d S1 := by
  unfold fFrz; rw [wE_bnd]; congr; funext v S1
  cases v with
  | own o => cases o <;> rfl
  | _ => rfl
@[simp] theorem wE_fOp {α : Type} {Q : α → FS → Prop} {p : D → D → FS → Res α} : wE (fOp p fa fb S) Q = wE (fa S) fun d S1 => wE (fb S1) fun e S2 => wE (p d e S2) Q := by
  unfold fOp; rw [wE_bnd]; congr; funext d S1; rw [wE_bnd]
@[simp] theorem wE_fOpN {α : Type} {Q : α → FS → Prop} {p : D → D → FS → Res α} {i : Nat} : wE (fOpN p i fb S) Q = wPeek S[i]? fun _ => wE (fb S) fun e S2 => wPeek S2[i]? fun d => wE (p d e S2) Q := by
  unfold fOpN; rw [wE_bnd, wE_fPeek]; congr; funext d; rw [wE_bnd]; congr; funext e S2; rw [wE_bnd, wE_fPeek]
@[simp] theorem wE_fT : wE (fT f S) QB = wE (f S) fun d S1 => wBool d fun b => QB b S1 := by
  unfold fT; rw [wE_bnd]; congr; funext d S1; cases d <;> rfl
@[simp] theorem wE_fTru : wE (fTru f S) QB = wE (f S) fun d S1 => wO (dTru d) fun b => QB b S1 := by
  unfold fTru; rw [wE_bnd]; congr; funext d S1; cases h : dTru d <;> simp [h]
@[simp] theorem wE_fOrT : wE (fOrT t u S) QB = wE (t S) fun b S1 => (b = true → QB true S1) ∧ (b = false → wE (u S1) QB) := by
  unfold fOrT; rw [wE_bnd]; congr; funext b S1; cases b <;> simp
@[simp] theorem wE_fNotT : wE (fNotT t S) QB = wE (t S) fun b S1 => QB (!b) S1 := wE_bnd
@[simp] theorem wE_fIte {α : Type} {Q : α → FS → Prop} {x y : FS → Res α} : wE (fIte t x y S) Q = wE (t S) fun b S1 => (b = true → wE (x S1) Q) ∧ (b = false → wE (y S1) Q) := by
  unfold fIte; rw [wE_bnd]; congr; funext b S1; cases b <;> simp
@[simp] theorem wE_fAndV : wE (fAndV f g S) Q = wE (f S) fun d S1 => wBool d fun b => (b = true → wE (g S1) Q) ∧ (b = false → Q (.bool false) S1) := by
  unfold fAndV; rw [wE_bnd]; congr; funext d S1
  cases d with
  | bool b => cases b <;> simp
  | _ => rfl
@[simp] theorem wE_fOrV : wE (fOrV f g S) Q = wE (f S) fun d S1 => wBool d fun b => (b = true → Q (.bool true) S1) ∧ (b = false → wE (g S1) Q) := by
  unfold fOrV; rw [wE_bnd]; congr; funext d S1
  cases d with
  | bool b => cases b <;> simp
  | _ => rfl
@[simp] theorem wE_fNotV : wE (fNotV f S) Q = wE (f S) fun d S1 => wO (dTru d) fun b => Q (.bool (!b)) S1 := by
  unfold fNotV; rw [wE_bnd, wE_fTru]; rfl
@[simp] theorem wE_fCons : wE (fCons f gl S) QL = wE (f S) fun d S1 => wE (gl S1) fun ds S2 => QL (d :: ds) S2 := by
  unfold fCons; rw [wE_bnd]; congr; funext d S1; rw [wE_bnd]; rfl
@[simp] theorem wE_fTup : wE (fTup gl S) Q = wE (gl S) fun ds S1 => ds.length ≤ sizeLine ∧ Q (.tuple ds) S1 := by
  unfold fTup; rw [wE_bnd]; congr; funext d S1; split <;> simp [*]
@[simp] theorem wE_fLst : wE (fLst gl S) QV = wE (gl S) fun ds S1 => ds.length ≤ sizeLine ∧ QV (.own (.lst ds)) S1 := by
  unfold fLst; rw [wE_bnd]; congr; funext d S1; split <;> simp [*]
@[simp] theorem wE_fPart : wE (fPart f S) QO = wE (f S) fun d S1 => wInt d fun i => QO (some i) S1 := by
  unfold fPart; rw [wE_bnd]; congr; funext d S1; cases d <;> rfl
@[simp] theorem wE_fSlN {lo hi : FS → Res (Option Int)} {i : Nat} : wE (fSlN i lo hi S) QV = wPeek S[i]? fun _ => wE (lo S) fun a S2 => wE (hi S2) fun b S3 => wPeek S3[i]? fun d => wE (pSl d a b S3) QV := by
  unfold fSlN; rw [wE_bnd, wE_fPeek]; congr; funext d; rw [wE_bnd]; congr; funext a S2; rw [wE_bnd]; congr; funext b S3; rw [wE_bnd, wE_fPeek]
@[simp] theorem wE_pSl_t {ds : List D} {a b : Option Int} : wE (pSl (.tuple ds) a b S) QV = QV (.d (.tuple (cutL ds a b))) S := rfl
@[simp] theorem wE_pSl_l {ds : List D} {a b : Option Int} : wE (pSl (.list ds) a b S) QV = QV (.own (.lst (cutL ds a b))) S := rfl
@[simp] theorem wE_fCall {α : Type} {Q : α → FS → Prop} {p : List D → FS → Res α} : wE (fCall p gl S) Q = wE (gl S) fun ds S1 => wE (p ds S1) Q := wE_bnd
@[simp] theorem wE_one {α : Type} {Q : α → FS → Prop} {p : D → FS → Res α} : wE (one p [d] S) Q = wE (p d S) Q := rfl
@[simp] theorem wE_two {α : Type} {Q : α → FS → Prop} {p : D → D → FS → Res α} : wE (two p [d, e] S) Q = wE (p d e S) Q := rfl
@[simp] theorem wE_pLen_t {ds : List D} : wE (pLen (.tuple ds) S) Q = Q (.int ds.length) S := rfl
@[simp] theorem wE_pLen_l {ds : List D} : wE (pLen (.list ds) S) Q = Q (.int ds.length) S := rfl
@[simp] theorem wE_pToInt {i : Int} : wE (pToInt (.int i) S) Q = Q (.int i) S := rfl
@[simp] theorem wE_pAbs {i : Int} : wE (pAbs (.int i) S) Q = Q (.int (if i < 0 then -i else i)) S := rfl
@[simp] theorem wE_pMax2 {i j : Int} : wE (pMax2 (.int i) (.int j) S) Q = Q (.int (if j > i then j else i)) S := rfl
@[simp] theorem wE_pMin2 {i j : Int} : wE (pMin2 (.int i) (.int j) S) Q = Q (.int (if j < i then j else i)) S := rfl
@[simp] theorem wE_pTuple_t {ds : List D} : wE (pTuple (.tuple ds) S) Q = Q (.tuple ds) S := rfl
@[simp] theorem wE_pTuple_l {ds : List D} : wE (pTuple (.list ds) S) Q = Q (.tuple ds) S := rfl
@[simp] theorem wE_pList_t {ds : List D} : wE (pList (.tuple ds) S) QV = QV (.own (.lst ds)) S := rfl
@[simp] theorem wE_pList_l {ds : List D} : wE (pList (.list ds) S) QV = QV (.own (.lst ds)) S := rfl
@[simp] theorem wE_pAll {ds : List D} : wE (pAll (.list ds) S) Q = wO (bls ds) fun bs => Q (.bool (bs.all id)) S := by
  unfold pAll; cases h : bls ds <;> simp [h]
@[simp] theorem wE_pRepr_l {ds : List D} : wE (pRepr (.list ds) S) Q = (showOk (.list ds) ∧ Q (.str (PyData.shown (.list ds))) S) := by
  unfold pRepr; simp only; split <;> simp [*]
@[simp] theorem wE_pRepr_t {ds : List D} : wE (pRepr (.tuple ds) S) Q = (showOk (.tuple ds) ∧ Q (.str (PyData.shown (.tuple ds))) S) := by
  unfold pRepr; simp only; split <;> simp [*]
@[simp] theorem wE_fIsi {T : String} : wE (fIsi T f S) Q = wE (f S) fun d S1 => Q (.bool (isT (dTyp d) T)) S1 := wE_bnd
-- operators
@[simp] theorem wE_pSub : wE (pSub d e S) Q = wInt d fun i => wInt e fun j => Q (.int (i - j)) S := by cases d <;> cases e <;> rfl
@[simp] theorem wE_pMul : wE (pMul d e S) Q = wInt d fun i => wInt e fun j => CMulW i j ∧ Q (.int (i * j)) S := by
  cases d <;> cases e <;> simp [pMul, pInt, wInt]
  split <;> simp_all
@[simp] theorem wE_pDiv : wE (pDiv d e S) Q = wInt d fun i => wInt e fun j => CDivW i j ∧ Q (.int (i / j)) S := by
  cases d <;> cases e <;> simp [pDiv, pInt, wInt]
  split <;> simp_all
@[simp] theorem wE_pMod : wE (pMod d e S) Q = wInt d fun i => wInt e fun j => 0 < j ∧ Q (.int (i % j)) S := by
  cases d <;> cases e <;> simp only [pMod, pInt, wInt, wE_bad]
  rename_i i j
  by_cases h : 0 < j
  · simp [h]
  · simp [h]
@[simp] theorem wE_pPow : wE (pPow d e S) Q = wInt d fun i => wInt e fun j => CPow i j ∧ Q (.int (i ^ j.toNat)) S := by
  cases d <;> cases e <;> simp [pPow, pInt, wInt]
  split <;> simp_all
@[simp] theorem wE_pCmp {g : Int → Int → Bool} : wE (pCmp g d e S) Q = wInt d fun i => wInt e fun j => Q (.bool (g i j)) S := by cases d <;> cases e <;> rfl
@[simp] theorem wE_pEq : wE (pEq d e S) Q = (eqOk d e = true ∧ Q (.bool (PyData.eqv d e)) S) := by
  unfold pEq; split <;> simp [*]
@[simp] theorem wE_pNe : wE (pNe d e S) Q = (eqOk d e = true ∧ Q (.bool (!PyData.eqv d e)) S) := by
  unfold pNe; split <;> simp [*]
@[simp] theorem wE_pIsB_b {b : Bool} : wE (pIsB d (.bool b) S) Q = Q (.bool (dIsB b d)) S := rfl
@[simp] theorem wE_pIsB_n : wE (pIsB d .none S) Q = Q (.bool (dNone d)) S := rfl
@[simp] theorem wE_pAdd_i {i j : Int} : wE (pAdd (.int i) (.int j) S) QV = QV (.d (.int (i + j))) S := rfl
@[simp] theorem wE_pAdd_t {xs ys : List D} : wE (pAdd (.tuple xs) (.tuple ys) S) QV = (xs.length + ys.length ≤ sizeLine ∧ QV (.d (.tuple (xs ++ ys))) S) := by
  unfold pAdd; simp only; split <;> simp [*]
@[simp] theorem wE_pAdd_l {xs ys : List D} : wE (pAdd (.list xs) (.list ys) S) QV = (xs.length + ys.length ≤ sizeLine ∧ QV (.own (.lst (xs ++ ys))) S) := by
  unfold pAdd; simp only; split <;> simp [*]
@[simp] theorem wE_pIx_t {xs : List D} {i : Int} : wE (pIx (.tuple xs) (.int i) S) Q = wO (atI xs i) fun d => Q d S := by
  unfold pIx; simp only; cases h : atI xs i <;> simp [h]
@[simp] theorem wE_pIx_l {xs : List D} {i : Int} : wE (pIx (.list xs) (.int i) S) Q = wO (atI xs i) fun d => Q d S := by
  unfold pIx; simp only; cases h : atI xs i <;> simp [h]
-- iterables
@[simp] theorem wE_fItems : wE (fItems f S) QL = wE (f S) fun d S1 => wItems d fun ds => QL ds S1 := by
  unfold fItems; rw [wE_bnd]; congr; funext d S1; cases d <;> rfl
@[simp] theorem wE_fRange1 : wE (fRange1 f S) QL = wE (f S) fun d S1 => wInt d fun j => inR j ∧ QL (rngD 0 j.toNat) S1 := by
  unfold fRange1; rw [wE_bnd]; congr; funext d S1
  cases d <;> simp [wInt]
  split <;> simp [*]
-- chains
@[simp] theorem wE_fChain {p p' : D → D → FS → Res D} : wE (fChain p p' f fa fb S) Q = wE (f S) fun d S1 => wE (fa S1) fun e S2 => wE (p d e S2) fun z S3 => wBool z fun b => (b = true → wE (fb S3) fun h S4 => wE (p' e h S4) Q) ∧ (b = false → Q (.bool false) S3) := by
  unfold fChain; rw [wE_bnd]; congr; funext d S1; rw [wE_bnd]; congr; funext e S2; rw [wE_bnd]; congr; funext z S3
  cases z with
  | bool b => cases b <;> simp [wE_bnd]
  | _ => rfl
end

/-! statements, calls -/
section
variable {Q : D → FS → Prop} {QV : SV → FS → Prop} {QA : List AD → FS → Prop} {QS : List SV → FS → Prop} {S : FS} {f fk : FS → Res D} {fv : FS → Res SV} {t : FS → Res Bool} {N : FS → Prop} {R : SV → FS → Prop} {B C : FS → Prop} {x y : FS → SRes}
theorem wS_bndS {α : Type} {f : FS → Res α} {k : α → FS → SRes} : wS (bndS f k S) N R B C = wE (f S) fun a S1 => wS (k a S1) N R B C := by
  unfold bndS; cases f S <;> rfl
@[simp] theorem wS_fSeq : wS (fSeq x y S) N R B C = wS (x S) (fun S1 => wS (y S1) N R B C) R B C := by
  unfold fSeq; cases x S <;> rfl
@[simp] theorem wS_fRet : wS (fRet fv S) N R B C = wE (fv S) fun v S1 => R v S1 := wS_bndS
@[simp] theorem wS_fRetD : wS (fRetD f S) N R B C = wE (f S) fun v S1 => R (.d v) S1 := wS_bndS
@[simp] theorem wS_fDrop {α : Type} {f : FS → Res α} : wS (fDrop f S) N R B C = wE (f S) fun _ S1 => N S1 := wS_bndS
@[simp] theorem wS_fIf : wS (fIf t x y S) N R B C = wE (t S) fun b S1 => (b = true → wS (x S1) N R B C) ∧ (b = false → wS (y S1) N R B C) := by
  unfold fIf; rw [wS_bndS]; congr; funext b S1; cases b <;> simp
@[simp] theorem wS_fSet {i : Nat} : wS (fSet i fv S) N R B C = wE (fv S) fun v S1 => N (S1.set i (some v)) := wS_bndS
@[simp] theorem wS_fSetD {i : Nat} : wS (fSetD i f S) N R B C = wE (f S) fun v S1 => N (S1.set i (some (.d v))) := wS_bndS
@[simp] theorem wS_fAsg {g : D → FS → Option FS} : wS (fAsg g f S) N R B C = wE (f S) fun d S1 => wO (g d S1) N := by
  unfold fAsg; rw [wS_bndS]; congr; funext d S1; cases h : g d S1 <;> simp [h]
@[simp] theorem wS_fPars {is : List Nat} {fs : FS → Res (List SV)} : wS (fPars is fs S) N R B C = wE (fs S) fun vs S1 => wO (setsV is vs S1) N := by
  unfold fPars; rw [wS_bndS]; congr; funext d S1; cases h : setsV is d S1 <;> simp [h]
def wCons : SV → (SV → Prop) → Prop
  | .d d, k => k (.d d)
  | .own o, k => k (.own o)
  | _, _ => False
@[simp] theorem wCons_d {d : D} {k : SV → Prop} : wCons (.d d) k = k (.d d) := rfl
@[simp] theorem wCons_own {o : Ob} {k : SV → Prop} : wCons (.own o) k = k (.own o) := rfl
@[simp] theorem wE_fConsV {g : FS → Res (List SV)} : wE (fConsV fv g S) QS = wE (fv S) fun v S1 => wCons v fun v => wE (g S1) fun vs S2 => QS (v :: vs) S2 := by
  unfold fConsV; rw [wE_bnd]; congr; funext v S1
  cases v with
  | d d => simp [wE_bnd]
  | own o => simp [wE_bnd, wCons]
  | pin o => rfl
  | x e => rfl
theorem wLst_w {i : Nat} {k : List D → FS → SRes} : wS (wLst i k S) N R B C = wO (lstAt S i) fun ds => wS (k ds S) N R B C := by
  unfold wLst; cases h : lstAt S i <;> simp [h]
@[simp] theorem wS_fAppend {i : Nat} : wS (fAppend i f S) N R B C = wO (lstAt S i) fun _ => wE (f S) fun d S1 => wO (lstAt S1 i) fun ds => ds.length < sizeLine ∧ N (putLst S1 i (ds ++ [d])) := by
  unfold fAppend; rw [wLst_w]; congr; funext ds; rw [wS_bndS]; congr; funext d S1; rw [wLst_w]; congr; funext ds; split <;> simp [*]
def wLs' : SV → (List D → Prop) → Prop
  | .own (.lst es), k => k es
  | _, _ => False
@[simp] theorem wLs'_own {es : List D} {k : List D → Prop} : wLs' (.own (.lst es)) k = k es := rfl
@[simp] theorem wS_fExtend {i : Nat} : wS (fExtend i fv S) N R B C = wO (lstAt S i) fun _ => wE (fv S) fun v S1 => wLs' v fun es => wO (lstAt S1 i) fun ds => ds.length + es.length ≤ sizeLine ∧ N (putLst S1 i (ds ++ es)) := by
  unfold fExtend; rw [wLst_w]; congr; funext ds; rw [wS_bndS]; congr; funext v S1
  cases v with
  | own o =>
    cases o with
    | lst es => simp only [wLs'_own]; rw [wLst_w]; congr; funext ds; split <;> simp [*]
    | dic _ => rfl
  | _ => rfl
@[simp] theorem wS_fSetIx {i : Nat} : wS (fSetIx i f fk S) N R B C = wE (f S) fun d S1 => wPeek S1[i]? fun _ => wE (fk S1) fun k S2 => wO (lstAt S2 i) fun ds => wInt k fun j => wO (ixN ds.length j) fun m => N (putLst S2 i (ds.set m d)) := by
  unfold fSetIx; rw [wS_bndS]; congr; funext d S1; rw [wS_bndS, wE_fPeek]; congr; funext e; rw [wS_bndS]; congr; funext k S2; rw [wLst_w]; congr; funext ds
  cases k with
  | int j => cases h : ixN ds.length j <;> simp [h]
  | _ => rfl
@[simp] theorem wS_fFor {it : FS → Res (List D)} {g : D → FS → Option FS} {b : FS → SRes} : wS (fFor it g b S) N R B C = wE (it S) fun ds S1 => wS (forF g b ds S1) N R B C := wS_bndS
-- calls
@[simp] theorem wE_fAD {g : FS → Res (List AD)} : wE (fAD f g S) QA = wE (f S) fun d S1 => wE (g S1) fun as S2 => QA (.d d :: as) S2 := by
  unfold fAD; rw [wE_bnd]; congr; funext d S1; rw [wE_bnd]; rfl
def isSome2 : Option (Option SV) → Prop
  | some (some _) => True
  | _ => False
@[simp] theorem isSome2_some {v : SV} : isSome2 (some (some v)) = True := rfl
@[simp] theorem wE_fAS {i : Nat} {g : FS → Res (List AD)} : wE (fAS i g S) QA = (isSome2 S[i]? ∧ wE (g S) fun as S2 => QA (.s i :: as) S2) := by
  unfold fAS
  split
  · rename_i h; rw [h, wE_bnd]; simp
  · rename_i h
    cases e : S[i]? with
    | none => simp [isSome2]
    | some o =>
      cases o with
      | none => simp [isSome2]
      | some v => exact (h v e).elim
theorem wE_callD {den : Den} {as : List AD} : wE (callD den as S) QV = ((slotsOf as).Nodup ∧ wO (resolve S as) fun svs => wC (den svs) fun ret svs' => wO (back as svs' S) fun S' => QV ret S') := by
  unfold callD
  by_cases hn : (slotsOf as).Nodup
  · rw [if_pos hn]
    cases h : resolve S as with
    | none => simp [hn]
    | some svs =>
      cases h2 : den svs with
      | ok ret svs' =>
        cases h3 : back as svs' S with
        | none => simp [hn, h2, wC, h3]
        | some S' => simp [hn, h2, wC, h3]
      | exn e svs' =>
        cases h3 : back as svs' S <;> simp [hn, h2, wC, h3]
      | bad => simp [hn, h2, wC]
  · rw [if_neg hn]; simp [hn]
@[simp] theorem wE_fCallP {den : Den} {n : Nat} {f : FS → Res (List AD)} : wE (fCallP den n f S) QV = wE (f S) fun as S1 => as.length = n ∧ wE (callD den as S1) QV := by
  unfold fCallP; rw [wE_bnd]; congr; funext as S1; split <;> simp [*]
@[simp] theorem wE_fCallK {den : Den} {n m nk : Nat} {perm : List Nat} {f g : FS → Res (List AD)} : wE (fCallK den n m nk perm f g S) QV = wE (f S) fun as S1 => wE (g S1) fun bs S2 => (as.length = m ∧ bs.length = nk ∧ (permL perm (as ++ bs)).length = n) ∧ wE (callD den (permL perm (as ++ bs)) S2) QV := by
  unfold fCallK; rw [wE_bnd]; congr; funext as S1; rw [wE_bnd]; congr; funext bs S2; split <;> simp [*]
theorem wC_denOf {n : Nat} {b : FS → SRes} {svs : List SV} {Q : SV → List SV → Prop} : wC (denOf n b svs) Q = wS (b (startS n svs)) (fun S => wO (pinsAt svs S) fun l => Q (.d .none) l) (fun v S => wO (pinsAt svs S) fun l => Q v l) (fun _ => False) (fun _ => False) := by
  unfold denOf
  cases h : b (startS n svs) with
  | nx S1 => cases h2 : pinsAt svs S1 <;> simp [h2, wC]
  | rt v S1 => cases h2 : pinsAt svs S1 <;> simp [h2, wC]
  | exn e S1 => cases h2 : pinsAt svs S1 <;> simp [h2, wC, wS]
  | bk S1 => rfl
  | ct S1 => rfl
  | bad => rfl
theorem wC.ok {r : CRes} {Q : SV → List SV → Prop} (h : wC r Q) : ∃ v l, r = .ok v l ∧ Q v l := by
  cases r with
  | ok v l => exact ⟨v, l, rfl, h⟩
  | _ => exact h.elim
theorem wC.mono {r : CRes} {Q Q' : SV → List SV → Prop} (h : wC r Q) (k : ∀ v l, Q v l → Q' v l) : wC r Q' := by
  cases r with
  | ok v l => exact k v l h
  | _ => exact h.elim
theorem wE.mono {α : Type} {r : Res α} {Q Q' : α → FS → Prop} (h : wE r Q) (k : ∀ v l, Q v l → Q' v l) : wE r Q' := by
  cases r with
  | ok v l => exact k v l h
  | _ => exact h.elim
theorem wS.imp {r : SRes} {N' : FS → Prop} {R' : SV → FS → Prop} {B' C' : FS → Prop} (h : wS r N R B C) (k : ∀ S, N S → N' S) (k2 : ∀ v S, R v S → R' v S) (k3 : ∀ S, B S → B' S) (k4 : ∀ S, C S → C' S) : wS r N' R' B' C' := by
  cases r with
  | nx S => exact k S h
  | rt v S => exact k2 v S h
  | bk S => exact k3 S h
  | ct S => exact k4 S h
  | _ => exact h.elim
end
/-! loops -/
section
variable {S : FS} {N : FS → Prop} {R : SV → FS → Prop} {B C : FS → Prop}
theorem wS_forF {g : D → FS → Option FS} {b : FS → SRes} {ds : List D} (I : Nat → FS → Prop) (h0 : I 0 S) (step : ∀ i d S, ds[i]? = some d → I i S → wO (g d S) fun S1 => wS (b S1) (I (i + 1)) R N (I (i + 1))) (hN : ∀ S, I ds.length S → N S) : wS (forF g b ds S) N R B C := by
  have key : ∀ (es : List D) (i : Nat) (S : FS), ds.drop i = es → i ≤ ds.length → I i S → wS (forF g b es S) N R B C := by
    intro es
    induction es with
    | nil =>
      intro i S hd hi h
      have : i = ds.length := by
        have := congrArg List.length hd
        simp at this; omega
      subst this
      exact hN S h
    | cons d es ih =>
      intro i S hd hi h
      have hl : i < ds.length := by
        have := congrArg List.length hd
        simp at this; omega
      have hg : ds[i]? = some d := by
        have := congrArg (fun l => l[0]?) hd
        simpa using this
      have hd2 : ds.drop (i + 1) = es := by
        have := congrArg List.tail hd
        simpa using this
      have st := step i d S hg h
      cases e : g d S with
      | none => rw [e] at st; exact st.elim
      | some S1 =>
        rw [e] at st
        have st : wS (b S1) (I (i + 1)) R N (I (i + 1)) := st
        simp only [forF, e]
        cases e2 : b S1 with
        | nx S2 => rw [e2] at st; exact ih (i + 1) S2 hd2 hl st
        | ct S2 => rw [e2] at st; exact ih (i + 1) S2 hd2 hl st
        | bk S2 => rw [e2] at st; exact st
        | rt v S2 => rw [e2] at st; exact st
        | exn v S2 => rw [e2] at st; exact st.elim
        | bad => rw [e2] at st; exact st.elim
  exact key ds 0 S rfl (Nat.zero_le _) h0
theorem wS_while {c : FS → Res Bool} {b : FS → SRes} (I : Nat → FS → Prop) (m : Nat) (h0 : I m S) (step : ∀ m S, I m S → wE (c S) fun k S1 => (k = true → wS (b S1) (fun S2 => ∃ m', m' < m ∧ I m' S2) R N (fun S2 => ∃ m', m' < m ∧ I m' S2)) ∧ (k = false → N S1)) : wS (whileF c b S) N R B C := by
  have key : ∀ (m : Nat) (S : FS), I m S → wS (whileF c b S) N R B C := by
    intro m
    induction m using Nat.strongRecOn with
    | ind m ih =>
      intro S h
      have st := step m S h
      rw [whileF_eq]
      cases e : c S with
      | ok k S1 =>
        rw [e] at st
        cases k with
        | false => exact st.2 rfl
        | true =>
          have st := st.1 rfl
          simp only
          cases e2 : b S1 with
          | nx S2 => rw [e2] at st; obtain ⟨m', hm, h'⟩ := st; exact ih m' hm S2 h'
          | ct S2 => rw [e2] at st; obtain ⟨m', hm, h'⟩ := st; exact ih m' hm S2 h'
          | bk S2 => rw [e2] at st; exact st
          | rt v S2 => rw [e2] at st; exact st
          | exn v S2 => rw [e2] at st; exact st.elim
          | bad => rw [e2] at st; exact st.elim
      | exn e2 S1 => rw [e] at st; exact st.elim
      | bad => rw [e] at st; exact st.elim
  exact key m S h0
@[simp] theorem wE_fLc {it : FS → Res (List D)} {g : D → FS → Option FS} {t : FS → Res Bool} {fe : FS → Res D} {vs : List Nat} {Q : SV → FS → Prop} : wE (fLc it g t fe vs S) Q = wE (it S) fun ds S1 => wE (lcF g t fe vs ds S1 []) Q := wE_bnd
theorem wE_lcF {g : D → FS → Option FS} {t : FS → Res Bool} {fe : FS → Res D} {vs : List Nat} {ds : List D} {Q : SV → FS → Prop} (I : Nat → List D → FS → Prop) (h0 : I 0 [] S)
    (step : ∀ i d acc S, ds[i]? = some d → I i acc S → wO (g d (wipeS S vs)) fun S1 => wE (t S1) fun k S2 => (k = false → I (i + 1) acc (restS S S2 vs)) ∧ (k = true → wE (fe S2) fun y S3 => acc.length < sizeLine ∧ I (i + 1) (acc ++ [y]) (restS S S3 vs)))
    (hQ : ∀ acc S, I ds.length acc S → Q (.own (.lst acc)) S) : wE (lcF g t fe vs ds S []) Q := by
  have key : ∀ (es : List D) (i : Nat) (acc : List D) (S : FS), ds.drop i = es → i ≤ ds.length → I i acc S → wE (lcF g t fe vs es S acc) Q := by
    intro es
    induction es with
    | nil =>
      intro i acc S hd hi h
      have : i = ds.length := by
        have := congrArg List.length hd
        simp at this; omega
      subst this
      exact hQ acc S h
    | cons d es ih =>
      intro i acc S hd hi h
      have hl : i < ds.length := by
        have := congrArg List.length hd
        simp at this; omega
      have hg : ds[i]? = some d := by
        have := congrArg (fun l => l[0]?) hd
        simpa using this
      have hd2 : ds.drop (i + 1) = es := by
        have := congrArg List.tail hd
        simpa using this
      have st := step i d acc S hg h
      cases e : g d (wipeS S vs) with
      | none => rw [e] at st; exact st.elim
      | some S1 =>
        rw [e] at st
        have st : wE (t S1) _ := st
        simp only [lcF, e]
        cases e2 : t S1 with
        | exn v S2 => rw [e2] at st; exact st.elim
        | bad => rw [e2] at st; exact st.elim
        | ok k S2 =>
          rw [e2] at st
          cases k with
          | false => exact ih (i + 1) acc _ hd2 hl (st.1 rfl)
          | true =>
            have st := st.2 rfl
            simp only
            cases e3 : fe S2 with
            | exn v S3 => rw [e3] at st; exact st.elim
            | bad => rw [e3] at st; exact st.elim
            | ok y S3 =>
              rw [e3] at st
              obtain ⟨s1, s2⟩ := st
              simp only
              rw [if_pos s1]
              exact ih (i + 1) _ _ hd2 hl s2
  exact key ds 0 [] S rfl (Nat.zero_le _) h0
@[simp] theorem wE_fAny {stop : Bool} {it : FS → Res (List D)} {g : D → FS → Option FS} {t : FS → Res Bool} {fe : FS → Res D} {vs : List Nat} {Q : D → FS → Prop} : wE (fAny stop it g t fe vs S) Q = wE (it S) fun ds S1 => wE (anyF stop g t fe vs ds S1) fun b S2 => Q (.bool b) S2 := by
  unfold fAny; rw [wE_bnd]; congr; funext ds S1; cases h : anyF stop g t fe vs ds S1 <;> simp [h]
theorem wE_anyF {stop : Bool} {g : D → FS → Option FS} {t : FS → Res Bool} {fe : FS → Res D} {vs : List Nat} {ds : List D} {Q : Bool → FS → Prop} (I : Nat → FS → Prop) (h0 : I 0 S)
    (step : ∀ i d S, ds[i]? = some d → I i S → wO (g d (wipeS S vs)) fun S1 => wE (t S1) fun k S2 => (k = false → I (i + 1) (restS S S2 vs)) ∧ (k = true → wE (fe S2) fun y S3 => wBool y fun b => (b = stop → Q stop (restS S S3 vs)) ∧ (b ≠ stop → I (i + 1) (restS S S3 vs))))
    (hQ : ∀ S, I ds.length S → Q (!stop) S) : wE (anyF stop g t fe vs ds S) Q := by
  have key : ∀ (es : List D) (i : Nat) (S : FS), ds.drop i = es → i ≤ ds.length → I i S → wE (anyF stop g t fe vs es S) Q := by
    intro es
    induction es with
    | nil =>
      intro i S hd hi h
      have : i = ds.length := by
        have := congrArg List.length hd
        simp at this; omega
      subst this
      exact hQ S h
    | cons d es ih =>
      intro i S hd hi h
      have hl : i < ds.length := by
        have := congrArg List.length hd
        simp at this; omega
      have hg : ds[i]? = some d := by
        have := congrArg (fun l => l[0]?) hd
        simpa using this
      have hd2 : ds.drop (i + 1) = es := by
        have := congrArg List.tail hd
        simpa using this
      have st := step i d S hg h
      cases e : g d (wipeS S vs) with
      | none => rw [e] at st; exact st.elim
      | some S1 =>
        rw [e] at st
        have st : wE (t S1) _ := st
        simp only [anyF, e]
        cases e2 : t S1 with
        | exn v S2 => rw [e2] at st; exact st.elim
        | bad => rw [e2] at st; exact st.elim
        | ok k S2 =>
          rw [e2] at st
          cases k with
          | false => exact ih (i + 1) _ hd2 hl (st.1 rfl)
          | true =>
            have st := st.2 rfl
            simp only
            cases e3 : fe S2 with
            | exn v S3 => rw [e3] at st; exact st.elim
            | bad => rw [e3] at st; exact st.elim
            | ok y S3 =>
              rw [e3] at st
              cases y with
              | bool k =>
                obtain ⟨s1, s2⟩ := st
                simp only
                by_cases hk : k = stop
                · rw [if_pos hk]; exact s1 hk
                · rw [if_neg hk]; exact ih (i + 1) _ hd2 hl (s2 hk)
              | _ => exact st.elim
  exact key ds 0 S rfl (Nat.zero_le _) h0
end

def lsO : Option (Option SV) → Option (List D)
  | some (some (.own (.lst ds))) => some ds
  | some (some (.pin (.lst ds))) => some ds
  | _ => none
@[simp] theorem lsO_own {ds : List D} : lsO (some (some (.own (.lst ds)))) = some ds := rfl
@[simp] theorem lsO_pin {ds : List D} : lsO (some (some (.pin (.lst ds)))) = some ds := rfl
@[simp] theorem lstAt_eq {S : FS} {i : Nat} : lstAt S i = lsO S[i]? := by
  unfold lstAt lsO; split <;> simp_all
def mkO : Option (Option SV) → Ob → SV
  | some (some (.pin _)), o => .pin o
  | _, o => .own o
@[simp] theorem mkO_own {o o' : Ob} : mkO (some (some (.own o))) o' = .own o' := rfl
@[simp] theorem mkO_pin {o o' : Ob} : mkO (some (some (.pin o))) o' = .pin o' := rfl
@[simp] theorem putLst_eq {S : FS} {i : Nat} {ds : List D} : putLst S i ds = S.set i (some (mkO S[i]? (.lst ds))) := by
  unfold putLst mkO; split <;> simp_all
@[simp] theorem setOb_eq {S : FS} {i : Nat} {o : Ob} : setOb S i o = S.set i (some (mkO S[i]? o)) := by
  unfold setOb mkO; split <;> simp_all
@[simp] theorem isT_e {a T : String} : isT a T = (a == T || (a == "bool" && T == "int")) := rfl
@[simp] theorem bls_e1 : bls [] = some [] := rfl
@[simp] theorem bls_e2 {b : Bool} {r : List D} : bls (.bool b :: r) = (bls r).map (b :: ·) := rfl
@[simp] theorem gN_e {i : Nat} {d : D} {S : FS} : gN i d S = some (S.set i (some (.d d))) := rfl
@[simp] theorem gNl_e {S : FS} : gNl [] S = some S := rfl
@[simp] theorem gCs_e1 {g : D → FS → Option FS} {h : List D → FS → Option FS} {d : D} {ds : List D} {S : FS} : gCs g h (d :: ds) S = (g d S).bind (h ds) := rfl
@[simp] theorem gCs_e2 {g : D → FS → Option FS} {h : List D → FS → Option FS} {S : FS} : gCs g h [] S = none := rfl
@[simp] theorem gTp_e {n : Nat} {g : List D → FS → Option FS} {ds : List D} {S : FS} : gTp n g (.tuple ds) S = if ds.length = n then g ds S else none := rfl
@[simp] theorem inR_e {j : Int} : inR j = (-4611686018427387904 ≤ j ∧ j < 4611686018427387904) := by
  unfold inR
  rw [show (2 : Int) ^ 62 = 4611686018427387904 from by decide]
@[simp] theorem keepD_e1 {d : D} : keepD (some (.d d)) = some (.d d) := rfl
@[simp] theorem keepD_e2 : keepD none = none := rfl
@[simp] theorem keepD_e3 {o : Ob} : keepD (some (.own o)) = none := rfl
@[simp] theorem keepD_e4 {o : Ob} : keepD (some (.pin o)) = none := rfl
@[simp] theorem wipeS_e {S : FS} {vs : List Nat} : wipeS S vs = setAll S vs fun _ => none := rfl
@[simp] theorem restS_e {S S2 : FS} {vs : List Nat} : restS S S2 vs = setAll S2 vs fun v => keepD (S.getD v none) := rfl
@[simp] theorem setAll_e1 {β : Type} {S : List β} {f : Nat → β} : setAll S [] f = S := rfl
@[simp] theorem setAll_e2 {β : Type} {S : List β} {f : Nat → β} {v : Nat} {vs : List Nat} : setAll S (v :: vs) f = (setAll S vs f).set v (f v) := rfl
@[simp] theorem resolve_e1 {S : FS} : resolve S [] = some [] := rfl
@[simp] theorem resolve_e2 {S : FS} {d : D} {r : List AD} : resolve S (.d d :: r) = (resolve S r).map (.d d :: ·) := rfl
@[simp] theorem resolve_e3 {S : FS} {i : Nat} {r : List AD} : resolve S (.s i :: r) = match S[i]? with
    | some (some (.own ob)) => (resolve S r).map (.pin ob :: ·)
    | some (some (.pin ob)) => (resolve S r).map (.pin ob :: ·)
    | _ => none := rfl
@[simp] theorem back_e1 {S : FS} {l : List SV} : back [] l S = some S := rfl
@[simp] theorem back_e2 {S : FS} {l : List SV} {d : D} {v : SV} {r : List AD} : back (.d d :: r) (v :: l) S = back r l S := rfl
@[simp] theorem back_e3 {S : FS} {l : List SV} {i : Nat} {ob : Ob} {r : List AD} : back (.s i :: r) (.pin ob :: l) S = back r l (setOb S i ob) := rfl
@[simp] theorem slotsOf_e1 : slotsOf [] = [] := rfl
@[simp] theorem slotsOf_e2 {d : D} {r : List AD} : slotsOf (.d d :: r) = slotsOf r := rfl
@[simp] theorem slotsOf_e3 {i : Nat} {r : List AD} : slotsOf (.s i :: r) = i :: slotsOf r := rfl
@[simp] theorem pinsAt_e1 {S : FS} : Fz.pinsAt [] S = some [] := rfl
@[simp] theorem pinsAt_e2 {S : FS} {ob ob' : Ob} {r : List SV} : Fz.pinsAt (.pin ob :: r) (some (.pin ob') :: S) = (Fz.pinsAt r S).map (.pin ob' :: ·) := rfl
@[simp] theorem pinsAt_e3 {S : FS} {d : D} {c : Option SV} {r : List SV} : Fz.pinsAt (.d d :: r) (c :: S) = (Fz.pinsAt r S).map (.d d :: ·) := rfl
@[simp] theorem pinsAt_e4 {S : FS} {o : Ob} {c : Option SV} {r : List SV} : Fz.pinsAt (.own o :: r) (c :: S) = (Fz.pinsAt r S).map (.own o :: ·) := rfl
@[simp] theorem startS_e {n : Nat} {svs : List SV} : startS n svs = svs.map some ++ List.replicate (n - svs.length) none := rfl
@[simp] theorem setsV_e1 {S : FS} : setsV [] [] S = some S := rfl
@[simp] theorem setsV_e2 {S : FS} {i : Nat} {is : List Nat} {v : SV} {vs : List SV} : setsV (i :: is) (v :: vs) S = setsV is vs (S.set i (some v)) := rfl
@[simp] theorem permL_e {α : Type} {p : List Nat} {l : List α} : permL p l = p.filterMap fun i => l[i]? := rfl
@[simp] theorem dTyp_none : dTyp .none = "NoneType" := rfl
@[simp] theorem dTyp_bool {b : Bool} : dTyp (.bool b) = "bool" := rfl
@[simp] theorem dTyp_int {i : Int} : dTyp (.int i) = "int" := rfl
@[simp] theorem dTyp_str {x : Str} : dTyp (.str x) = "str" := rfl
@[simp] theorem dTyp_tuple {ds : List D} : dTyp (.tuple ds) = "tuple" := rfl
@[simp] theorem dTyp_list {ds : List D} : dTyp (.list ds) = "list" := rfl
@[simp] theorem dIsB_bool {b c : Bool} : dIsB b (.bool c) = (c == b) := rfl
@[simp] theorem dIsB_none {b : Bool} : dIsB b .none = false := rfl
@[simp] theorem dIsB_int {b : Bool} {i : Int} : dIsB b (.int i) = false := rfl
@[simp] theorem dNone_none : dNone .none = true := rfl
@[simp] theorem dNone_bool {b : Bool} : dNone (.bool b) = false := rfl
@[simp] theorem dNone_int {i : Int} : dNone (.int i) = false := rfl
@[simp] theorem dNone_str {x : Str} : dNone (.str x) = false := rfl
@[simp] theorem dNone_tuple {ds : List D} : dNone (.tuple ds) = false := rfl
@[simp] theorem dNone_list {ds : List D} : dNone (.list ds) = false := rfl
@[simp] theorem dTru_none : dTru .none = some false := rfl
@[simp] theorem dTru_bool {b : Bool} : dTru (.bool b) = some b := rfl
@[simp] theorem dTru_int {i : Int} : dTru (.int i) = some (i != 0) := rfl
@[simp] theorem dTru_tuple {ds : List D} : dTru (.tuple ds) = some (!ds.isEmpty) := rfl
@[simp] theorem dTru_list {ds : List D} : dTru (.list ds) = some (!ds.isEmpty) := rfl
section
variable {α : Type} {xs : List α}
theorem atI_nat (xs : List α) (k : Nat) : atI xs (k : Int) = xs[k]? := by
  unfold atI ixN
  by_cases h : k < xs.length
  · simp [h]
  · simp [h]
@[simp] theorem atI_cast {k : Nat} : atI xs (k : Int) = xs[k]? := atI_nat xs k
@[simp] theorem atI_0 : atI xs 0 = xs[0]? := atI_nat xs 0
@[simp] theorem atI_1 : atI xs 1 = xs[1]? := atI_nat xs 1
@[simp] theorem atI_2 : atI xs 2 = xs[2]? := atI_nat xs 2
@[simp] theorem atI_3 : atI xs 3 = xs[3]? := atI_nat xs 3
@[simp] theorem atI_4 : atI xs 4 = xs[4]? := atI_nat xs 4
@[simp] theorem atI_5 : atI xs 5 = xs[5]? := atI_nat xs 5
@[simp] theorem atI_6 : atI xs 6 = xs[6]? := atI_nat xs 6
@[simp] theorem atI_7 : atI xs 7 = xs[7]? := atI_nat xs 7
@[simp] theorem atI_8 : atI xs 8 = xs[8]? := atI_nat xs 8
@[simp] theorem atI_9 : atI xs 9 = xs[9]? := atI_nat xs 9
theorem atI_int {i : Int} (h : 0 ≤ i) : atI xs i = xs[i.toNat]? := by
  have e := atI_nat xs i.toNat
  rw [Int.toNat_of_nonneg h] at e
  exact e
theorem atI_last (h : xs ≠ []) : atI xs (-1) = some (xs.getLast h) := by
  unfold atI ixN
  have hl : 0 < xs.length := List.length_pos_iff.mpr h
  have e1 : (-(xs.length : Int) ≤ -1) := by omega
  have e2 : ((-1 : Int) + (xs.length : Int)).toNat = xs.length - 1 := by omega
  simp [e1, e2, List.getLast_eq_getElem]
theorem ixN_nat {n k : Nat} (h : k < n) : ixN n (k : Int) = some k := by unfold ixN; simp [h]
@[simp] theorem ixN_0 {n : Nat} : ixN (n + 1) 0 = some 0 := ixN_nat (k := 0) (Nat.succ_pos n)
@[simp] theorem ixN_1 {n : Nat} : ixN (n + 2) 1 = some 1 := ixN_nat (k := 1) (Nat.lt_add_left n (by decide))
end
theorem szL {n : Nat} (h : n ≤ 16000000) : n ≤ sizeLine := Nat.le_trans h (by decide)
theorem szS {n : Nat} (h : n ≤ 16000000) : n < sizeLine := Nat.lt_of_le_of_lt h (by decide)
end Fz
end

section
set_option Elab.async false
set_option linter.all false
set_option maxRecDepth 100000
set_option maxHeartbeats 4000000
/-! F19: small data; words; arithmetic of the laws' wells. -/
namespace Fz
open PySem L2
theorem log2_small {n k : Nat} (h : n < 2 ^ k) (hk : 0 < k) : n.log2 < k := by
  by_cases h0 : n = 0
  · subst h0; simpa using hk
  · exact (Nat.log2_lt h0).mpr h
theorem mulW {i j : Int} (hi : i.natAbs < 2 ^ 200) (hj : j.natAbs < 2 ^ 200) : CMulW i j := by
  have a := log2_small hi (by decide)
  have b := log2_small hj (by decide)
  unfold CMulW; omega
theorem mulWp {i j : Int} (h0 : 0 ≤ i) (hi : i < 2 ^ 200) (g0 : 0 ≤ j) (hj : j < 2 ^ 200) : CMulW i j := mulW (by omega) (by omega)
theorem divW {i j : Int} (h0 : 0 < j) (hj : j < 2 ^ 200) : CDivW i j := by
  have b := log2_small (n := j.natAbs) (k := 200) (by omega) (by decide)
  exact ⟨h0, by omega⟩
theorem powW {i : Int} {k : Int} (h : 0 ≤ k := by decide) (h2 : k ≤ 1000000 := by decide) (h3 : i.natAbs < 2 ^ 64 := by decide) : CPow i k := ⟨h, h2, h3⟩
theorem emodW {x m : Int} (h : 0 < m) : 0 ≤ x % m ∧ x % m < m := ⟨Int.emod_nonneg _ (by omega), Int.emod_lt_of_pos _ h⟩
theorem cutL_take {α : Type} (xs : List α) (k : Nat) : cutL xs none (some (k : Int)) = xs.take k := by
  unfold cutL
  rw [HT.sIx_none, HT.sIx_nat, List.drop_zero, Nat.sub_zero]
  by_cases h : k ≤ xs.length
  · rw [Nat.min_eq_left h]
  · rw [Nat.min_eq_right (by omega), List.take_of_length_le (Nat.le_refl _), List.take_of_length_le (by omega)]
theorem cutL_drop {α : Type} (xs : List α) (k : Nat) : cutL xs (some (k : Int)) none = xs.drop k := by
  unfold cutL
  rw [HT.sIx_none, HT.sIx_nat]
  by_cases h : k ≤ xs.length
  · rw [Nat.min_eq_left h, List.take_of_length_le (by simp)]
  · rw [Nat.min_eq_right (by omega), List.drop_of_length_le (Nat.le_refl _), List.drop_of_length_le (by omega)]; simp
abbrev WM : Int := 10000000000000000000000000331
/-- a well -/
def Wl (o : Ob) : Prop := ∃ a b : Int, o = .lst [.int a, .int b] ∧ 0 ≤ a ∧ 0 ≤ b ∧ b < WM
mutual
/-- small data without dicts, nested at most k deep -/
inductive Smal : Nat → D → Prop
  | non {k : Nat} : Smal k .none
  | bl {k : Nat} {b : Bool} : Smal k (.bool b)
  | int {k : Nat} {i : Int} : Smal k (.int i)
  | str {k : Nat} {x : Str} (h : PyData.strOk x = true) : Smal k (.str x)
  | tup {k : Nat} {ds : List D} (l : ds.length ≤ 10000000) (h : SmalL k ds) : Smal (k + 1) (.tuple ds)
  | lst {k : Nat} {ds : List D} (l : ds.length ≤ 10000000) (h : SmalL k ds) : Smal (k + 1) (.list ds)
inductive SmalL : Nat → List D → Prop
  | nil {k : Nat} : SmalL k []
  | cons {k : Nat} {d : D} {ds : List D} (h : Smal k d) (r : SmalL k ds) : SmalL k (d :: ds)
end
theorem SmalL.mem {k : Nat} : ∀ {ds : List D}, SmalL k ds → ∀ d ∈ ds, Smal k d
  | _, .cons h r, d, hm => by
    rcases List.mem_cons.mp hm with e | hm
    · rw [e]; exact h
    · exact SmalL.mem r d hm
theorem SmalL.of {k : Nat} : ∀ {ds : List D}, (∀ d ∈ ds, Smal k d) → SmalL k ds
  | [], _ => .nil
  | d :: ds, h => .cons (h d (List.mem_cons_self ..)) (SmalL.of fun e he => h e (List.mem_cons_of_mem _ he))
mutual
theorem Smal.up {k j : Nat} (hj : k ≤ j) : ∀ {d : D}, Smal k d → Smal j d
  | _, .non => .non
  | _, .bl => .bl
  | _, .int => .int
  | _, .str h => .str h
  | _, .tup l h => by
    obtain ⟨j, rfl⟩ : ∃ i, j = i + 1 := ⟨j - 1, by omega⟩
    exact .tup l (SmalL.up (by omega) h)
  | _, .lst l h => by
    obtain ⟨j, rfl⟩ : ∃ i, j = i + 1 := ⟨j - 1, by omega⟩
    exact .lst l (SmalL.up (by omega) h)
theorem SmalL.up {k j : Nat} (hj : k ≤ j) : ∀ {ds : List D}, SmalL k ds → SmalL j ds
  | _, .nil => .nil
  | _, .cons h r => .cons (Smal.up hj h) (SmalL.up hj r)
end
mutual
theorem Smal.lay {k : Nat} : ∀ {d : D}, Smal k d → d.canLay0 = true ∧ d.depth ≤ k
  | _, .non => ⟨rfl, by simp [PyData.depth]⟩
  | _, .bl => ⟨rfl, by simp [PyData.depth]⟩
  | _, .int => ⟨rfl, by simp [PyData.depth]⟩
  | _, .str h => ⟨by simpa [PyData.canLay0] using h, by simp [PyData.depth]⟩
  | _, .tup _ h => by
    obtain ⟨a, b⟩ := SmalL.lay h
    exact ⟨by simpa [PyData.canLay0] using a, by simp only [PyData.depth]; omega⟩
  | _, .lst _ h => by
    obtain ⟨a, b⟩ := SmalL.lay h
    exact ⟨by simpa [PyData.canLay0] using a, by simp only [PyData.depth]; omega⟩
theorem SmalL.lay {k : Nat} : ∀ {ds : List D}, SmalL k ds → PyData.canLayAll0 ds = true ∧ PyData.depthAll ds ≤ k
  | _, .nil => ⟨by simp [PyData.canLayAll0], by simp [PyData.depthAll]⟩
  | _, .cons h r => by
    obtain ⟨a, b⟩ := Smal.lay h
    obtain ⟨a2, b2⟩ := SmalL.lay r
    exact ⟨by simp [PyData.canLayAll0, a, a2], by simp only [PyData.depthAll]; omega⟩
end
theorem Smal.shaped {k : Nat} {d : D} (h : Smal k d) (hk : k ≤ 60) : SeqAt.shaped d = true := by
  obtain ⟨a, b⟩ := h.lay
  unfold SeqAt.shaped
  rw [a, Bool.true_and]
  exact decide_eq_true (by omega)
@[simp] theorem shaped_none : SeqAt.shaped .none = true := Smal.shaped (k := 0) .non (by decide)
@[simp] theorem shaped_bool {b : Bool} : SeqAt.shaped (.bool b) = true := Smal.shaped (k := 0) .bl (by decide)
@[simp] theorem shaped_int {b : Int} : SeqAt.shaped (.int b) = true := Smal.shaped (k := 0) .int (by decide)
@[simp] theorem eqv_none : PyData.eqv .none .none = true := rfl
@[simp] theorem eqv_int {i j : Int} : PyData.eqv (.int i) (.int j) = decide (i = j) := by
  simp only [PyData.eqv]; by_cases h : i = j <;> simp [h]
@[simp] theorem eqv_bool {i j : Bool} : PyData.eqv (.bool i) (.bool j) = (i == j) := by simp only [PyData.eqv]
@[simp] theorem eqv_str {i j : Str} : PyData.eqv (.str i) (.str j) = (i == j) := by simp only [PyData.eqv]
@[simp] theorem eqOk_str {a b : Str} : eqOk (.str a) (.str b) = true := rfl
theorem eqOk_of {d e : D} (h : SeqAt.shaped d = true) (g : SeqAt.shaped e = true) : eqOk d e = true := by unfold eqOk; rw [h, g]; simp
@[simp] theorem eqOk_int {i j : Int} : eqOk (.int i) (.int j) = true := eqOk_of shaped_int shaped_int
@[simp] theorem eqOk_bool {i j : Bool} : eqOk (.bool i) (.bool j) = true := eqOk_of shaped_bool shaped_bool
/-- a word -/
def W (xs : List Int) : D := .tuple (xs.map .int)
/-- a list of ints -/
def LI (xs : List Int) : D := .list (xs.map .int)
theorem eqvAll_ints : ∀ {xs ys : List Int}, PyData.eqvAll (xs.map .int) (ys.map .int) = decide (xs = ys)
  | [], [] => by simp [PyData.eqvAll]
  | [], _ :: _ => by simp [PyData.eqvAll]
  | _ :: _, [] => by simp [PyData.eqvAll]
  | x :: xs, y :: ys => by
    simp only [List.map_cons, PyData.eqvAll, eqv_int, eqvAll_ints (xs := xs) (ys := ys), List.cons.injEq]
    by_cases h : x = y <;> by_cases g : xs = ys <;> simp [h, g]
@[simp] theorem eqv_W {xs ys : List Int} : PyData.eqv (W xs) (W ys) = decide (xs = ys) := by
  unfold W; simp only [PyData.eqv]; exact eqvAll_ints
@[simp] theorem eqv_LI {xs ys : List Int} : PyData.eqv (LI xs) (LI ys) = decide (xs = ys) := by
  unfold LI; simp only [PyData.eqv]; exact eqvAll_ints
theorem smalInts {k : Nat} {xs : List Int} : SmalL k (xs.map .int) := SmalL.of fun d hd => by
  obtain ⟨i, _, rfl⟩ := List.mem_map.mp hd
  exact .int
theorem smalW {k : Nat} {xs : List Int} (h : xs.length ≤ 10000000) : Smal (k + 1) (W xs) := .tup (by simpa using h) smalInts
theorem shaped_of_tup {k : Nat} {ds : List D} (h : SmalL k ds) (hk : k ≤ 59) : SeqAt.shaped (.tuple ds) = true := by
  obtain ⟨a, b⟩ := h.lay
  unfold SeqAt.shaped
  have : (PyData.tuple ds).canLay0 = true := by simpa [PyData.canLay0] using a
  rw [this, Bool.true_and]
  exact decide_eq_true (by simp only [PyData.depth]; omega)
theorem shaped_of_lst {k : Nat} {ds : List D} (h : SmalL k ds) (hk : k ≤ 59) : SeqAt.shaped (.list ds) = true := by
  obtain ⟨a, b⟩ := h.lay
  unfold SeqAt.shaped
  have : (PyData.list ds).canLay0 = true := by simpa [PyData.canLay0] using a
  rw [this, Bool.true_and]
  exact decide_eq_true (by simp only [PyData.depth]; omega)
@[simp] theorem shapedW {xs : List Int} : SeqAt.shaped (W xs) = true := shaped_of_tup (smalInts (k := 0)) (by decide)
@[simp] theorem shapedLI {xs : List Int} : SeqAt.shaped (LI xs) = true := shaped_of_lst (smalInts (k := 0)) (by decide)
@[simp] theorem shapedL {xs : List Int} : SeqAt.shaped (.list (xs.map .int)) = true := shapedLI
@[simp] theorem shapedL0 : SeqAt.shaped (.list []) = true := shapedLI (xs := [])
@[simp] theorem shapedW0 : SeqAt.shaped (.tuple []) = true := shapedW (xs := [])
@[simp] theorem eqOk_WW {xs ys : List Int} : eqOk (W xs) (W ys) = true := eqOk_of shapedW shapedW
@[simp] theorem eqOk_W0 {xs : List Int} : eqOk (W xs) (.tuple []) = true := eqOk_of shapedW shapedW0
@[simp] theorem eqOk_LL {xs ys : List Int} : eqOk (.list (xs.map .int)) (.list (ys.map .int)) = true := eqOk_of shapedL shapedL
@[simp] theorem eqOk_L0 {xs : List Int} : eqOk (.list (xs.map .int)) (.list []) = true := eqOk_of shapedL shapedL0
@[simp] theorem eqv_list0 {ds : List D} : PyData.eqv (.list ds) (.list []) = ds.isEmpty := by
  simp only [PyData.eqv]; cases ds <;> simp [PyData.eqvAll]
@[simp] theorem eqv_W0 {xs : List Int} : PyData.eqv (W xs) (.tuple []) = xs.isEmpty := by
  unfold W; simp only [PyData.eqv]; cases xs <;> simp [PyData.eqvAll]
theorem rngD_get {lo : Int} {n i : Nat} {d : D} (h : (rngD lo n)[i]? = some d) : i < n ∧ d = .int (lo + (i : Nat)) := by
  unfold rngD at h
  rw [List.getElem?_map, Option.map_eq_some_iff] at h
  obtain ⟨j, h1, rfl⟩ := h
  obtain ⟨h2, h3⟩ := List.getElem?_eq_some_iff.mp h1
  simp at h2 h3
  subst h3
  exact ⟨h2, rfl⟩
@[simp] theorem rngD_len {lo : Int} {n : Nat} : (rngD lo n).length = n := by simp [rngD]
theorem bls_rep {n : Nat} : Fz.bls (List.replicate n (.bool true)) = some (List.replicate n true) := by
  induction n with
  | zero => rfl
  | succ n ih => simp [List.replicate_succ, Fz.bls, ih]

section
variable {Q : D → FS → Prop} {QV : SV → FS → Prop} {S : FS} {xs ys : List Int} {i : Int}
@[simp] theorem tuple_W : PyData.tuple (List.map PyData.int xs) = W xs := rfl
@[simp] theorem wItems_W {k : List D → Prop} : wItems (W xs) k = k (xs.map .int) := rfl
@[simp] theorem dTyp_W : dTyp (W xs) = "tuple" := rfl
@[simp] theorem dTru_W : dTru (W xs) = some (!xs.isEmpty) := by unfold W; cases xs <;> rfl
@[simp] theorem dNone_W : dNone (W xs) = false := rfl
@[simp] theorem wE_pLen_W : wE (pLen (W xs) S) Q = Q (.int xs.length) S := by unfold W; rw [wE_pLen_t, List.length_map]
@[simp] theorem wE_pTuple_W : wE (pTuple (W xs) S) Q = Q (W xs) S := rfl
@[simp] theorem wE_pList_W : wE (pList (W xs) S) QV = QV (.own (.lst (xs.map .int))) S := rfl
theorem atI_map : atI (xs.map PyData.int) i = (atI xs i).map .int := by
  unfold atI
  rw [List.length_map]
  cases ixN xs.length i <;> simp
@[simp] theorem wE_pIx_W : wE (pIx (W xs) (.int i) S) Q = wO (atI xs i) fun d => Q (.int d) S := by
  unfold W
  rw [wE_pIx_t, atI_map]
  cases atI xs i <;> rfl
theorem cutL_map {α β : Type} (f : α → β) (xs : List α) (a b : Option Int) : cutL (xs.map f) a b = (cutL xs a b).map f := by
  unfold cutL; simp
@[simp] theorem wE_pSl_W {a b : Option Int} : wE (pSl (W xs) a b S) QV = QV (.d (W (cutL xs a b))) S := by
  unfold W; rw [wE_pSl_t, cutL_map]
@[simp] theorem wE_pAdd_W : wE (pAdd (W xs) (W ys) S) QV = (xs.length + ys.length ≤ sizeLine ∧ QV (.d (W (xs ++ ys))) S) := by
  unfold W; rw [wE_pAdd_t]; simp only [List.length_map, List.length_cons, List.length_nil, W, List.map_append, List.map_cons, List.map_nil]
@[simp] theorem wE_pAdd_W1 : wE (pAdd (W xs) (.tuple [.int i]) S) QV = (xs.length + 1 ≤ sizeLine ∧ QV (.d (W (xs ++ [i]))) S) := by
  unfold W; rw [wE_pAdd_t]; simp only [List.length_map, List.length_cons, List.length_nil, W, List.map_append, List.map_cons, List.map_nil]
end
end Fz
end

section
set_option Elab.async false
set_option linter.all false
set_option maxRecDepth 100000
set_option maxHeartbeats 4000000
/-! F20: in, not in; zip. -/
namespace Fz
open PySem PySem.Spec PyProof.Rows L2 RZ
section
variable {X : Cx} {F : Fx} {pos : Pos}
theorem room65 {k : Nat} {A : Around} (r : Room k A) : A.units + 65 < cLine := by have := r.un; omega
def rInT (K : Fg) : R2 := fun x y H Q => ∃ d ds, Dp K H x d ∧ Dp K H y (.tuple ds) ∧ SeqAt.shaped d = true ∧ SeqAt.shaped (.tuple ds) = true ∧ Q (.bl (ds.any fun z => PyData.eqv z d)) H
theorem op_inT (hu : X.A.units + 65 < cLine) : OpR X (compareOp .In) (rInT X.K) := by
  intro pins s σ H x y v u Q I rx ry h
  obtain ⟨d, ds, hd, he, sd, se, q⟩ := h
  obtain ⟨as, r1⟩ := Dp.reads I d x v hd rx
  obtain ⟨bs, r2⟩ := Dp.reads I (.tuple ds) y u he ry
  exact SeqAt.in_tuple_reads r2 r1 (SeqAt.canLay_of_shaped se) (SeqAt.canLay_of_shaped sd) (room_in_shaped sd hu) ⟨.bl _, H, I, rfl, q⟩
def inOk (d : D) : D → Option (List D)
  | .list ds => if SeqAt.shaped d && SeqAt.shaped (.list ds) then some ds else none
  | .tuple ds => if SeqAt.shaped d && SeqAt.shaped (.tuple ds) then some ds else none
  | _ => none
def hasD (d : D) (ds : List D) : Bool := ds.any fun z => PyData.eqv z d
def pIn (d e : D) : FS → Res D := fun S => match inOk d e with
  | some ds => .ok (.bool (hasD d ds)) S
  | none => .bad
theorem inOk_some {d e : D} {ds : List D} (h : inOk d e = some ds) : (e = .list ds ∨ e = .tuple ds) ∧ SeqAt.shaped d = true ∧ SeqAt.shaped e = true := by
  cases e with
  | list es =>
    simp only [inOk] at h
    split at h
    · rename_i hc
      cases h
      have h2 := Bool.and_eq_true_iff.mp hc
      exact ⟨.inl rfl, h2.1, h2.2⟩
    · cases h
  | tuple es =>
    simp only [inOk] at h
    split at h
    · rename_i hc
      cases h
      have h2 := Bool.and_eq_true_iff.mp hc
      exact ⟨.inr rfl, h2.1, h2.2⟩
    · cases h
  | _ => cases h
theorem op_inF (hu : X.A.units + 65 < cLine) : OpF X F PR (compareOp .In) pIn := opF_by fun S σ d e H => by
  cases hc : inOk d e with
  | none => exact .inr (by unfold pIn; rw [hc])
  | some ds =>
    obtain ⟨h1, h2, h3⟩ := inOk_some hc
    rcases h1 with rfl | rfl
    · refine .inl ⟨_, op_inD hu, fun x y Q r hx hy p => ⟨d, ds, hx.dp, hy.dp, h2, h3, ?_⟩⟩
      unfold pIn at p; rw [hc] at p
      exact p.ok r (Pd.bl _)
    · refine .inl ⟨_, op_inT hu, fun x y Q r hx hy p => ⟨d, ds, hx.dp, hy.dp, h2, h3, ?_⟩⟩
      unfold pIn at p; rw [hc] at p
      exact p.ok r (Pd.bl _)
/-! ### zip -/
def zipD (ds es : List D) : List D := (ds.zip es).map fun p => .tuple [p.1, p.2]
theorem zipD_get {ds es : List D} {i : Nat} {d : D} (h : (zipD ds es)[i]? = some d) : ∃ x y, d = .tuple [x, y] ∧ ds[i]? = some x ∧ es[i]? = some y := by
  unfold zipD at h
  rw [List.getElem?_map] at h
  obtain ⟨p, h1, rfl⟩ := Option.map_eq_some_iff.mp h
  have h2 := List.getElem?_zip_eq_some.mp h1
  exact ⟨_, _, rfl, h2.1, h2.2⟩
end
end Fz
end

section
set_option Elab.async false
set_option linter.all false
set_option maxRecDepth 100000
set_option maxHeartbeats 4000000
/-! F21: weakest preconditions of in, zip. -/
namespace Fz
open PySem PySem.Spec PyProof.Rows L2
section
variable {S : FS} {d e : D} {Q : D → FS → Prop} {QL : List D → FS → Prop} {f g : FS → Res D}
@[simp] theorem wE_pIn : wE (pIn d e S) Q = wO (inOk d e) fun ds => Q (.bool (hasD d ds)) S := by
  unfold pIn; cases inOk d e <;> rfl
theorem inOk_t {d : D} {ds : List D} (h : SeqAt.shaped d = true) (g : SeqAt.shaped (.tuple ds) = true) : inOk d (.tuple ds) = some ds := by
  show (if (SeqAt.shaped d && SeqAt.shaped (.tuple ds)) = true then some ds else none) = some ds
  rw [h, g]; rfl
theorem inOk_l {d : D} {ds : List D} (h : SeqAt.shaped d = true) (g : SeqAt.shaped (.list ds) = true) : inOk d (.list ds) = some ds := by
  show (if (SeqAt.shaped d && SeqAt.shaped (.list ds)) = true then some ds else none) = some ds
  rw [h, g]; rfl
@[simp] theorem inOk_W {i : Int} {xs : List Int} : inOk (.int i) (W xs) = some (xs.map .int) := inOk_t shaped_int shapedW
@[simp] theorem inOk_LI {i : Int} {xs : List Int} : inOk (.int i) (LI xs) = some (xs.map .int) := inOk_l shaped_int shapedLI
@[simp] theorem inOk_LI' {i : Int} {xs : List Int} : inOk (.int i) (.list (xs.map .int)) = some (xs.map .int) := inOk_LI
@[simp] theorem inOk_L1 {i j : Int} : inOk (.int i) (.list [.int j]) = some [.int j] := inOk_LI (xs := [j])
@[simp] theorem hasD_ints {i : Int} : ∀ {xs : List Int}, hasD (.int i) (xs.map .int) = decide (i ∈ xs)
  | [] => rfl
  | x :: xs => by
    have ih := hasD_ints (i := i) (xs := xs)
    unfold hasD at ih ⊢
    rw [List.map_cons, List.any_cons, ih, eqv_int]
    by_cases h : x = i
    · subst h; simp
    · have h2 : ¬ i = x := fun q => h q.symm
      simp [h, h2]
end
end Fz
end

section
set_option Elab.async false
set_option linter.all false
set_option maxRecDepth 100000
set_option maxHeartbeats 4000000
/-! F22: list * int. -/
namespace Fz
open PySem PySem.Spec PyProof.Rows L2
section
variable {X : Cx} {F : Fx}
end
end Fz
end

section
set_option Elab.async false
set_option linter.all false
set_option maxRecDepth 100000
set_option maxHeartbeats 4000000
/-! F24: * of any two of int, list, tuple; += of data. -/
namespace Fz
open PySem PySem.Spec PyProof.Rows L2
section
variable {X : Cx} {F : Fx}
/-! ### tuple * int -/
end
end Fz
end

section
set_option Elab.async false
set_option linter.all false
set_option maxRecDepth 100000
set_option maxHeartbeats 4000000
/-! dens, new with k01 -/
namespace DL
open PySem L2 Fz
/-- slots: 0 told, 1 due, 2 at -/
noncomputable def b__law_same (r : Den) : FS → SRes :=
 fSeq (fIf (fT (fOpN pIsB 1 (fC .none))) (fRetD (fOpN pIsB 0 (fC .none))) (fun S => .nx S))
        (fSeq (fIf (fTru (fIsi "bool" (fPeek 1))) (fRetD (fIte (fTru (fPeek 1)) (fOpN pIsB 0 (fC (.bool true))) (fOpN pIsB 0 (fC (.bool false))))) (fun S => .nx S))
        (fSeq (fIf (fTru (fIsi "int" (fPeek 1))) (fRetD (fAndV (fIsi "int" (fPeek 0)) (fAndV (fNotV (fIsi "bool" (fPeek 0))) (fOpN pEq 0 (fPeek 1))))) (fun S => .nx S))
        (fSeq (fIf (fTru (fIsi "str" (fPeek 1))) (fRetD (fAndV (fIsi "str" (fPeek 0)) (fOpN pEq 0 (fPeek 1)))) (fun S => .nx S))
        (fSeq (fIf (fOrT (fT (fOp pNe (fIsi "tuple" (fPeek 1)) (fIsi "tuple" (fPeek 0)))) (fT (fOp pNe (fIsi "list" (fPeek 1)) (fIsi "list" (fPeek 0))))) (fRetD (fC (.bool false))) (fun S => .nx S))
        (fRetD (fAndV (fOp pEq (fCall (one pLen) (fCons (fPeek 0) (fC []))) (fCall (one pLen) (fCons (fPeek 1) (fC [])))) (fCall (one pAll) (fCons (fFrz (fLc (fRange1 (fCall (one pLen) (fCons (fPeek 1) (fC [])))) (gN 2) (fC true) (fFrz (fCallP (r) 2 (fAD (fOpN pIx 0 (fVar 2)) (fAD (fOpN pIx 1 (fVar 2)) (fC []))))) [2])) (fC [])))))))))
noncomputable def r__law_same : Nat → Den
  | 0 => fun _ => .bad
  | k + 1 => denOf 3 (b__law_same (r__law_same k))
@[irreducible] noncomputable def d__law_same (k : Nat) : Den := r__law_same k
theorem d__law_same_0 : d__law_same 0 = fun _ => .bad := by unfold d__law_same; rfl
theorem d__law_same_s (k : Nat) : d__law_same (k + 1) = denOf 3 (b__law_same (d__law_same k)) := by unfold d__law_same; rfl
/-- slots: 0 well, 1 many, 2 found, 3 mixed -/
noncomputable def b__law_take : FS → SRes :=
 fSeq (fIf (fT (fOp pGt (fOpN pIx 0 (fC (.int 0))) (fC (.int 0)))) (fSeq (fSetD 2 (fOp pMod (fCall (one pToInt) (fCons (fOpN pIx 0 (fC (.int 0))) (fC []))) (fPeek 1)))
        (fSeq (fSetIx 0 (fOp pDiv (fOpN pIx 0 (fC (.int 0))) (fPeek 1)) (fC (.int 0)))
        (fRetD (fVar 2)))) (fun S => .nx S))
        (fSeq (fSetIx 0 (fOp pMod (fCall (one pToInt) (fCons (fFrz (fOp pAdd (fOp pMul (fOpN pIx 0 (fC (.int 1))) (fC (.int 6364136223846793005))) (fC (.int 1442695040888963407)))) (fC []))) (fFrz (fOp pAdd (fOp pPow (fC (.int 10)) (fC (.int 28))) (fC (.int 331))))) (fC (.int 1)))
        (fSeq (fSetD 3 (fOp pMod (fCall (one pToInt) (fCons (fFrz (fOp pAdd (fOp pDiv (fOp pMul (fOpN pIx 0 (fC (.int 1))) (fOpN pIx 0 (fC (.int 1)))) (fC (.int 1000003))) (fOpN pIx 0 (fC (.int 1))))) (fC []))) (fC (.int 9007199254740881))))
        (fRetD (fOp pMod (fCall (one pToInt) (fCons (fOpN pDiv 3 (fC (.int 13))) (fC []))) (fPeek 1)))))
@[irreducible] noncomputable def d__law_take : Den := denOf 4 b__law_take
/-- slots: 0 value -/
noncomputable def b_is_integer : FS → SRes :=
 fRetD (fAndV (fIsi "int" (fPeek 0)) (fNotV (fIsi "bool" (fPeek 0))))
@[irreducible] noncomputable def d_is_integer : Den := denOf 1 b_is_integer
/-- slots: 0 value -/
noncomputable def b_is_natural : FS → SRes :=
 fRetD (fAndV (fFrz (fCallP d_is_integer 1 (fAD (fVar 0) (fC [])))) (fOpN pGe 0 (fC (.int 0))))
@[irreducible] noncomputable def d_is_natural : Den := denOf 1 b_is_natural
/-- slots: 0 value, 1 many -/
noncomputable def b_is_below : FS → SRes :=
 fRetD (fAndV (fFrz (fCallP d_is_natural 1 (fAD (fVar 0) (fC [])))) (fOpN pLt 0 (fPeek 1)))
@[irreducible] noncomputable def d_is_below : Den := denOf 2 b_is_below
/-- slots: 0 script, 1 at, 2 mixed, 3 cell, 4 digits -/
noncomputable def b__law_well : FS → SRes :=
 fSeq (fSet 2 (fOp pAdd (fC (.int 7)) (fCall (one pLen) (fCons (fFrz (fSlN 0 (fC none) (fPart (fC (.int 63))))) (fC [])))))
        (fSeq (fFor (fItems (fFrz (fSlN 0 (fC none) (fPart (fC (.int 63)))))) (gN 3) (fSetD 2 (fOp pMod (fCall (one pToInt) (fCons (fFrz (fOp pAdd (fFrz (fOp pAdd (fOpN pMul 2 (fC (.int 1103515245))) (fOp pMod (fCall (one pToInt) (fCons (fPeek 3) (fC []))) (fFrz (fOp pAdd (fOp pPow (fC (.int 10)) (fC (.int 24))) (fC (.int 7))))))) (fC (.int 5)))) (fC []))) (fFrz (fOp pAdd (fOp pPow (fC (.int 10)) (fC (.int 28))) (fC (.int 331)))))))
        (fSeq (fSetD 2 (fOp pMod (fCall (one pToInt) (fCons (fFrz (fOp pAdd (fFrz (fOp pAdd (fOpN pMul 2 (fC (.int 131))) (fOpN pMul 1 (fC (.int 104729))))) (fC (.int 29)))) (fC []))) (fFrz (fOp pAdd (fOp pPow (fC (.int 10)) (fC (.int 28))) (fC (.int 331))))))
        (fSeq (fSetD 4 (fC (.int 0)))
        (fSeq (fIf (fT (fOpN pLt 1 (fCall (one pLen) (fCons (fPeek 0) (fC []))))) (fSetD 4 (fCall (two pMax2) (fCons (fC (.int 0)) (fCons (fOp pSub (fCall (one pAbs) (fCons (fCall (one pToInt) (fCons (fOpN pIx 0 (fVar 1)) (fC []))) (fC []))) (fOp pPow (fC (.int 10)) (fC (.int 18)))) (fC []))))) (fun S => .nx S))
        (fRet (fLst (fCons (fVar 4) (fCons (fVar 2) (fC [])))))))))
@[irreducible] noncomputable def d__law_well : Den := denOf 5 b__law_well
end DL
end

section
set_option Elab.async false
set_option linter.all false
set_option maxRecDepth 100000
set_option maxHeartbeats 4000000
/-! S0: wells, same, words, strewn. -/
namespace DL
open PySem L2 Fz
theorem take_w {o : Ob} {m : Int} (ho : Wl o) (hm : 0 < m) (hm2 : m ≤ 1000000) {Q : SV → List SV → Prop} (h : ∀ o' r, Wl o' → 0 ≤ r → r < m → Q (.d (.int r)) [.pin o', .d (.int m)]) : wC (d__law_take [.pin o, .d (.int m)]) Q := by
  obtain ⟨a, b, rfl, ha, hb, hb2⟩ := ho
  unfold d__law_take
  rw [wC_denOf]
  simp [b__law_take]
  have hc' := emodW (x := b * 6364136223846793005 + 1442695040888963407) (m := 10000000000000000000000000331) (by decide)
  generalize hc : (b * 6364136223846793005 + 1442695040888963407) % 10000000000000000000000000331 = c
  rw [hc] at hc'
  refine ⟨fun h1 => ⟨hm, divW hm (by omega), h _ _ ⟨a / m, b, rfl, Int.ediv_nonneg ha (by omega), hb, hb2⟩ (Int.emod_nonneg _ (by omega)) (Int.emod_lt_of_pos _ hm)⟩, fun h1 => ?_⟩
  refine ⟨mulWp hb (by unfold WM at hb2; omega) (by decide) (by decide), powW, mulWp hc'.1 (by omega) hc'.1 (by omega), divW (by decide) (by decide), divW (by decide) (by decide), hm, h _ _ ⟨a, c, rfl, ha, hc'.1, hc'.2⟩ (Int.emod_nonneg _ (by omega)) (Int.emod_lt_of_pos _ hm)⟩
theorem well_w {ns : List Int} {at_ : Int} (h0 : 0 ≤ at_) (h1 : at_ < 1000) (hl : ns.length ≤ 63) {Q : SV → List SV → Prop} (h : ∀ o, Wl o → Q (.own o) [.d (scriptD ns), .d (.int at_)]) : wC (d__law_well [.d (scriptD ns), .d (.int at_)]) Q := by
  unfold d__law_well
  rw [wC_denOf]
  simp [b__law_well, scriptD]
  have hcut : ∀ {α : Type} (xs : List α), xs.length ≤ 63 → cutL xs none (some 63) = xs := fun xs hx => by
    rw [show (63 : Int) = ((63 : Nat) : Int) from rfl, cutL_take, List.take_of_length_le hx]
  rw [hcut _ (by simpa using hl)]
  refine wS_forF (fun _ S => ∃ (v : Int) (c : Option SV), 0 ≤ v ∧ v < WM ∧ S = [some (.d (.list (ns.map .int))), some (.d (.int at_)), some (.d (.int v)), c, none]) ?_ ?_ ?_
  · exact ⟨7 + ns.length, none, by omega, by unfold WM; omega, by simp⟩
  · rintro i d S hd ⟨v, c, hv, hv2, rfl⟩
    obtain ⟨z, hz, rfl⟩ := List.mem_map.mp (List.mem_of_getElem? hd)
    simp
    refine ⟨mulWp hv (by unfold WM at hv2; omega) (by decide) (by decide), powW, powW, ?_⟩
    exact emodW (by decide)
  · rintro S ⟨v, c, hv, hv2, rfl⟩
    simp
    have hM := emodW (x := v * 131 + at_ * 104729 + 29) (m := WM) (by decide)
    refine ⟨mulWp hv (by unfold WM at hv2; omega) (by decide) (by decide), mulWp h0 (by omega) (by decide) (by decide), powW, fun hlt => ?_, fun hge => ?_⟩
    · have e : ns[at_.toNat]? = some ns[at_.toNat] := List.getElem?_eq_getElem (by omega)
      rw [atI_int h0]
      simp [e]
      refine ⟨powW, szL (by decide), h _ ⟨_, _, rfl, ?_, hM.1, hM.2⟩⟩
      split <;> omega
    · exact ⟨szL (by decide), h _ ⟨_, _, rfl, by decide, hM.1, hM.2⟩⟩
theorem same_seq {k : Nat} {ds : List D} {x : D} {Q : D → FS → Prop} (hx : x = .list ds ∨ x = .tuple ds) (hl : ds.length ≤ 10000000) (hs : SmalL k ds)
    (ih : ∀ (d : D), Smal k d → ∀ {Q : SV → List SV → Prop}, Q (.d (.bool true)) [.d d, .d d] → wC (d__law_same (k + 1) [.d d, .d d]) Q)
    (h : Q (.list (List.replicate ds.length (.bool true))) [some (.d x), some (.d x), none]) :
    Fz.wE (lcF (gN 2) (fC true) (fFrz (fCallP (d__law_same (k + 1)) 2 (fAD (fOpN pIx 0 (fVar 2)) (fAD (fOpN pIx 1 (fVar 2)) (fC []))))) [2] (rngD 0 ds.length) [some (.d x), some (.d x), none] []) (fun v S1 => wFrz v fun d => Q d S1) := by
  refine wE_lcF (fun i acc S => acc = List.replicate i (.bool true) ∧ i ≤ ds.length ∧ S = [some (.d x), some (.d x), none]) ⟨rfl, Nat.zero_le _, rfl⟩ ?_ ?_
  · rintro i d acc S hd ⟨rfl, hi, rfl⟩
    obtain ⟨h1, rfl⟩ := rngD_get hd
    have e : ds[i]? = some ds[i] := List.getElem?_eq_getElem h1
    have go : wC (d__law_same (k + 1) [.d ds[i], .d ds[i]]) fun v l => v = .d (.bool true) ∧ l = [.d ds[i], .d ds[i]] := ih _ (hs.mem _ (List.getElem_mem h1)) ⟨rfl, rfl⟩
    rcases hx with rfl | rfl
    · simp [e, wE_callD]
      refine go.mono ?_
      rintro v l ⟨rfl, rfl⟩
      simp
      exact ⟨szS (by omega), by rw [List.replicate_succ'], by omega⟩
    · simp [e, wE_callD]
      refine go.mono ?_
      rintro v l ⟨rfl, rfl⟩
      simp
      exact ⟨szS (by omega), by rw [List.replicate_succ'], by omega⟩
  · rintro acc S ⟨rfl, hi, rfl⟩
    simpa using h
theorem same_refl : ∀ (k : Nat) (d : D), Smal k d → ∀ {Q : SV → List SV → Prop}, Q (.d (.bool true)) [.d d, .d d] → wC (d__law_same (k + 1) [.d d, .d d]) Q := by
  intro k
  induction k with
  | zero =>
    intro d hd Q h
    rw [d__law_same_s, wC_denOf]
    cases hd <;> simp [b__law_same]
    all_goals first | simpa using h | (rename_i b; cases b <;> simpa using h)
  | succ k ih =>
    intro d hd Q h
    rw [d__law_same_s, wC_denOf]
    cases hd
    case tup ds hl hs =>
      simp [b__law_same]
      refine ⟨by omega, same_seq (.inr rfl) hl hs ih ?_⟩
      simpa [bls_rep] using h
    case lst ds hl hs =>
      simp [b__law_same]
      refine ⟨by omega, same_seq (.inl rfl) hl hs ih ?_⟩
      simpa [bls_rep] using h
    all_goals (simp [b__law_same]; first | simpa using h | (rename_i b; cases b <;> simpa using h))
theorem same_w {k : Nat} {d : D} (hd : Smal k d) (hk : k ≤ 23) {Q : SV → List SV → Prop} (h : Q (.d (.bool true)) [.d d, .d d]) : wC (d__law_same 24 [.d d, .d d]) Q := same_refl 23 d (hd.up hk) h
def IsW (k : Int) (xs : List Int) : Prop := ∀ x ∈ xs, 0 ≤ x ∧ x < k
theorem is_integer_w {x : Int} {Q : SV → List SV → Prop} (h : Q (.d (.bool true)) [.d (.int x)]) : wC (d_is_integer [.d (.int x)]) Q := by
  unfold d_is_integer
  rw [wC_denOf]
  simp [b_is_integer]
  simpa using h
theorem is_natural_w {x : Int} (h0 : 0 ≤ x) {Q : SV → List SV → Prop} (h : Q (.d (.bool true)) [.d (.int x)]) : wC (d_is_natural [.d (.int x)]) Q := by
  unfold d_is_natural
  rw [wC_denOf]
  simp [b_is_natural, wE_callD]
  refine is_integer_w ?_
  simpa [h0] using h
theorem is_below_w {x k : Int} (h0 : 0 ≤ x) (h1 : x < k) {Q : SV → List SV → Prop} (h : Q (.d (.bool true)) [.d (.int x), .d (.int k)]) : wC (d_is_below [.d (.int x), .d (.int k)]) Q := by
  unfold d_is_below
  rw [wC_denOf]
  simp [b_is_below, wE_callD]
  refine is_natural_w h0 ?_
  simpa [h1] using h

/-! found_in -/
/-! the texts' defs -/

/-! words drawn -/
end DL
end

section
set_option Elab.async false
set_option linter.all false
set_option maxRecDepth 100000
set_option maxHeartbeats 4000000
/-! F25: xs[::-1] of lists and tuples. -/
namespace Fz
open PySem PySem.Spec PyProof.Rows L2 HT
section
variable {prog : Program} {w : World} {A : Around} {E : Value → Shared → Prop} {s : Shared}
theorem pick_rev (xs : List Value) : ((List.range xs.length).filterMap fun (k : Nat) => xs.toArray[(((xs.length : Int) - 1) + (k : Int) * (-1)).toNat]?) = xs.reverse := by
  have e : ∀ n, n ≤ xs.length → ((List.range n).filterMap fun (k : Nat) => xs.toArray[(((xs.length : Int) - 1) + (k : Int) * (-1)).toNat]?) = xs.reverse.take n := by
    intro n
    induction n with
    | zero => intro _; rfl
    | succ n ih =>
      intro h
      rw [List.range_succ, List.filterMap_append, ih (by omega)]
      have e1 : (((xs.length : Int) - 1) + (n : Int) * (-1)).toNat = xs.length - 1 - n := by omega
      have hl : xs.length - 1 - n < xs.length := by omega
      have hr : n < xs.reverse.length := by rw [List.length_reverse]; omega
      simp only [List.filterMap_cons, List.filterMap_nil, e1]
      rw [List.getElem?_toArray, List.getElem?_eq_getElem hl, List.take_add_one, List.getElem?_eq_getElem hr, List.getElem_reverse]
      rfl
  rw [e _ (Nat.le_refl _), ← List.length_reverse, List.take_length]
theorem sliceApplied_rev {sl : Addr} {vs : Value} {n : Nat} {Q : Int × Int × Nat → Shared → Prop} (hs : s.heap.IsSliceOf sl .none .none vs) (ps : IsPart vs (some (-1)))
    (h : Q ((n : Int) - 1, -1, n) s) : wpAny (model prog w) A (Builtin.Slice.sliceApplied (.ref sl) (pure (n : Int))) Q E s := by
  obtain ⟨os, hos, hcs, hds⟩ := id hs
  unfold Builtin.Slice.sliceApplied Builtin.Slice.sliceFields
  refine wpAny_bind (wpAny_bind (wpAny_field hos hds (x := .none) rfl (wpAny_bind (wpAny_field hos hds (x := .none) rfl (wpAny_bind (wpAny_field hos hds (x := vs) rfl (wpAny_pure ?_)))))))
  refine wpAny_bind (slicePart_ ps ?_)
  show wpAny _ _ (if ((-1 : Int) == 0) = true then _ else _) _ _ s
  rw [if_neg (by decide)]
  refine wpAny_bind (slicePart_ .none (wpAny_bind (slicePart_ .none (wpAny_bind (wpAny_pure ?_)))))
  show wpAny _ _ (pure ((n : Int) - 1, (-1 : Int), Builtin.Slice.slicePlaces ((n : Int) - 1) (-1) (-1))) _ _ s
  have : Builtin.Slice.slicePlaces ((n : Int) - 1) (-1) (-1) = n := by
    unfold Builtin.Slice.slicePlaces
    have h1 : ¬ (-1 : Int) > 0 := by omega
    simp only [h1, if_false, Int.neg_neg, Int.ediv_one]
    split <;> omega
  rw [this]
  exact wpAny_pure h
theorem getItem_tuple_rev {t sl : Addr} {its : List Value} {vs : Value} {Q : Value → Shared → Prop} (ht : IsTup s.heap t its.toArray) (hs : s.heap.IsSliceOf sl .none .none vs) (ps : IsPart vs (some (-1)))
    (h : Q (.ref s.heap.objs.size) { s with heap := s.heap.push { cls := .type "tuple", data := .seq its.reverse.toArray } }) (hsz : its.length ≤ sizeLine) : wpAny (model prog w) A (getItem (.ref t) (.ref sl)) Q E s := by
  obtain ⟨os, hos, hcs, hds⟩ := id hs
  have hTs : s.TypeIs (.ref sl) "slice" := ⟨os, hos, hcs⟩
  unfold getItem
  try with_reducible refine wpAny_holding ?_
  first | refine wpAny_bind (wpAny_pure ?_) | skip
  refine wpAny_bind (wpAny_sequenceKey ht.typeIs (by decide) ?_)
  refine wpAny_bind (wpAny_callSpecial?_slot (name := Str.ofString "__getitem__") ht.typeIs PyProof.Rows.slot_tuple_getitem
    (wpAny_call_entry PyProof.Rows.slot_tuple_getitem ht.typeIs entry_tuple_getitem ?_ (args_tuple_getitem _ _)))
  show wpAny _ _ (Builtin.Tuple.tupleItemsOf (.ref t) >>= _) _ _ s
  refine wpAny_bind (tupleItemsOf_ ht ?_)
  refine wpAny_bind (wpAny_typeOf hTs ?_)
  rw [if_pos (by decide)]
  refine wpAny_bind (sliceApplied_rev (n := its.toArray.size) hs ps ?_)
  have hno : ((((its.toArray.size : Nat) : Int) - 1) == 0 && (-1 : Int) == 1 && its.toArray.size == its.toArray.size) = false := by simp
  show wpAny _ _ (if ((((its.toArray.size : Nat) : Int) - 1) == 0 && (-1 : Int) == 1 && its.toArray.size == its.toArray.size) = true then _ else _) _ _ s
  rw [hno, if_neg Bool.false_ne_true]
  have e := pick_rev its
  rw [List.size_toArray, e]
  have htake : sizeOk (.seq its.reverse.toArray) := by
    show its.reverse.toArray.size ≤ sizeLine
    rw [List.size_toArray, List.length_reverse]; exact hsz
  first
    | exact wpAny_bind (m := Builtin.Tuple.tupleExact _) (wpAny_newObj_type (wpAny_pure ⟨_, rfl, wpAny_pure h⟩) htake)
    | exact wpAny_bind (m := Builtin.Tuple.tupleExact _) (wpAny_newObj_type (wpAny_bind (wpAny_pure (wpAny_pure ⟨_, rfl, wpAny_pure h⟩))) htake)
    | exact wpAny_bind (wpAny_bind (m := Builtin.Tuple.tupleExact _) (wpAny_newObj_type (wpAny_pure (wpAny_pure ⟨_, rfl, wpAny_pure h⟩)) htake))
    | exact wpAny_bind (wpAny_bind (m := Builtin.Tuple.tupleExact _) (wpAny_newObj_type (wpAny_pure ⟨_, rfl, wpAny_pure h⟩) htake))
end
def tRevD (K : Fg) (te : TE) : TE := fun σ H Q => te σ H fun x H1 => (∃ a xs, x = .ref a ∧ SqL K H1 a xs ∧ ∀ p, H1 p = none → Q (.ref p) (upd H1 p (.lst xs.reverse))) ∨ (∃ a xs, x = .ref a ∧ SqT K H1 a xs ∧ ∀ p, H1 p = none → Q (.ref p) (upd H1 p (.tup xs.reverse)))
section
variable {X : Cx} {F : Fx} {pos : Pos}
theorem pe_revD {e : Expr} {te : TE} {k : Nat} {p1 p2 p3 pos : Pos} (he : PE X e te) : PE X (.Subscript e (.Slice none none (some (.UnaryOp .USub (.Constant (.int 1) k p1) p2)) p3) pos) (tRevD X.K te) := by
  refine ⟨fun pins s σ H Q I h => ?_⟩
  refine Subscript_ (thn (he.run pins s σ H _ I h) fun v s1 ⟨x, H1, I1, r1, q1⟩ => ?_)
  obtain ⟨a, ex⟩ : ∃ a, x = .ref a := by
    rcases q1 with ⟨a, _, ex, _⟩ | ⟨a, _, ex, _⟩ <;> exact ⟨a, ex⟩
  subst ex
  cases r1
  have hst : PO X (some (.UnaryOp .USub (.Constant (.int 1) k p1) p2)) (tPart (tUn (rU fun i => .int (-i)) (tC (.int 1)))) := po_some (pe_un un_neg pe_int)
  refine wpAny_Slice (thn (po_none.run pins s1 σ H1 (fun o H2 => o = none ∧ H2 = H1) I1 ⟨rfl, rfl⟩) fun vl s2 ⟨l, H2, I2, pl, el, e2⟩ => ?_)
  subst el e2
  refine thn (po_none.run pins s2 σ H2 (fun o H3 => o = none ∧ H3 = H2) I2 ⟨rfl, rfl⟩) fun vu s3 ⟨u, H3, I3, pu, eu, e3⟩ => ?_
  subst eu e3
  refine thn (hst.run pins s3 σ H3 (fun o H4 => o = some (-1) ∧ H4 = H3) I3 ⟨1, rfl, -1, rfl, rfl, rfl⟩) fun vs s4 ⟨o, H4, I4, ps, eo, e4⟩ => ?_
  subst eo e4
  have I5 : Inv X pins σ H4 { s4 with heap := s4.heap.push { cls := .type "slice", data := .fields #[vl, vu, vs] } } := I4.kept (t' := s4.toks) fun b ob q => Heap.get?_push_of_some _ q
  rcases q1 with ⟨a', xs, ea, hx, q⟩ | ⟨a', xs, ea, hx, q⟩ <;> cases ea
  · obtain ⟨its, r, ht, hz⟩ := I5.list hx
    have hlen := r.length
    show wpAny (model X.prog X.w) X.A (subscriptTail e (.Slice none none (some (.UnaryOp .USub (.Constant (.int 1) k p1) p2)) p3) (.ref a) (.ref s4.heap.objs.size)) (EP X pins σ Q) X.xe { s4 with heap := s4.heap.push { cls := .type "slice", data := .fields #[vl, vu, vs] } }
    refine tail_any (ops := [.ref a, .ref s4.heap.objs.size]) ht.isList.typeIs (PySem.slot_list_getitem.lookup) ?_ (by with_unfolding_all rfl)
    refine wpAny_getItem_list_slice ht.isList (Heap.IsSliceOf.new _ vl vu vs) pl pu ps (by decide) ?_ (by rw [List.size_toArray]; omega)
    rw [PySem.W.krv_pick]
    refine ⟨.ref _, _, I5.laid (t' := s4.toks) (o := .lst xs.reverse) (fun b ob q => Heap.get?_push_of_some _ q) (Nat.le_refl _) ?_, rfl, q _ (I5.hok.fresh (Nat.le_refl _))⟩
    exact ⟨by rw [List.length_reverse]; exact hz, _, 0, r.reverse, Heap.get?_push_size _ rfl⟩
  · obtain ⟨its, r, ht, hz⟩ := I5.tuple hx
    have hlen := r.length
    cases pl
    cases pu
    show wpAny (model X.prog X.w) X.A (subscriptTail e (.Slice none none (some (.UnaryOp .USub (.Constant (.int 1) k p1) p2)) p3) (.ref a) (.ref s4.heap.objs.size)) (EP X pins σ Q) X.xe _
    refine tail_any (ops := [.ref a, .ref s4.heap.objs.size]) ht.typeIs (PyProof.Rows.slot_tuple_getitem.lookup) ?_ (by with_unfolding_all rfl)
    refine getItem_tuple_rev ht (Heap.IsSliceOf.new _ .none .none vs) ps ?_ (by omega)
    refine ⟨.ref _, _, I5.laid (t' := s4.toks) (o := .tup xs.reverse) (fun b ob q => Heap.get?_push_of_some _ q) (Nat.le_refl _) ?_, rfl, q _ (I5.hok.fresh (Nat.le_refl _))⟩
    exact ⟨by rw [List.length_reverse]; exact hz, _, r.reverse, IsTup.new _ _⟩
def pRev (d : D) : FS → Res SV := fun S => match d with
  | .list ds => .ok (.own (.lst ds.reverse)) S
  | .tuple ds => .ok (.d (.tuple ds.reverse)) S
  | _ => .bad
def fRev (fa : FS → Res D) : FS → Res SV := bnd fa pRev
theorem e_rev {a : Expr} {fa : FS → Res D} {k : Nat} {p1 p2 p3 : Pos} (ha : EQ X F a fa) : EV X F (.Subscript a (.Slice none none (some (.UnaryOp .USub (.Constant (.int 1) k p1) p2)) p3) pos) (fRev fa) :=
  (pe_revD ha).via fun σ H Q h => (rdG.bind h).imp fun x H1 ⟨d, S1, r1, v1, p1, q1⟩ => by
    cases d with
    | list ds =>
      obtain ⟨a, vs, rfl, hl, hv⟩ := v1.list
      exact .inl ⟨a, vs, rfl, hl, fun p hp => newList r1 hv.reverse hp q1⟩
    | tuple ds =>
      obtain ⟨a, vs, rfl, hl, hv⟩ := v1.tuple
      refine .inr ⟨a, vs, rfl, hl, fun p hp => ?_⟩
      obtain ⟨p1, r3, v⟩ := newTup r1 hv.reverse hp
      exact q1 _ _ p1 r3 v
    | _ => exact q1.elim
end
end Fz
end

section
set_option Elab.async false
set_option linter.all false
set_option maxRecDepth 100000
set_option maxHeartbeats 4000000
/-! F26: the order of data: ints, texts, tuples of such at any depth. -/
namespace Fz
open PySem PySem.Spec PyProof.Rows L2
section
open PySem.SeqAt
open PySem.AutoSeq1 (wpAny_loadPart')
open PySem.MeetsSeq PySem.MeetsSeq2 PySem.MeetsSeq3
end
section
open PySem.SeqAt
end
end Fz
end

section
set_option Elab.async false
set_option linter.all false
set_option maxRecDepth 100000
set_option maxHeartbeats 4000000
/-! F27: the order of plain data as an order of codes; sorting as a function. -/
namespace Fz
open PySem L2
/-! codes and equality -/
/-! ### sorting as a function -/
end Fz
end

section
set_option Elab.async false
set_option linter.all false
set_option maxRecDepth 100000
set_option maxHeartbeats 4000000
/-! F28: sorted(list of plain data). -/
namespace Fz
open PySem PySem.Spec PyProof.Rows L2 SrtO Srt
section
variable {prog : Program} {w : World} {A : Around} {E : Value → Shared → Prop} {s : Shared}
end
section
variable {prog : Program} {w : World} {A : Around} {E : Value → Shared → Prop} {s : Shared}
end
end Fz
end

section
set_option Elab.async false
set_option linter.all false
set_option maxRecDepth 100000
set_option maxHeartbeats 4000000
/-! F29: sorted(list): the rule. -/
namespace Fz
open PySem PySem.Spec PyProof.Rows L2 SrtO Srt
section
variable {prog : Program} {w : World} {A : Around} {E : Value → Shared → Prop} {s : Shared}
end
/-! as a rule of the layer -/
section
variable {X : Cx} {F : Fx}
end
theorem room70 {k : Nat} {A : Around} (r : Room k A) : A.units + 70 < cLine := by have := r.un; omega
end Fz
end

section
set_option Elab.async false
set_option linter.all false
set_option maxRecDepth 100000
set_option maxHeartbeats 4000000
/-! F30: dicts: their reading, their writing, at the machine. -/
namespace Fz
open PySem PySem.Spec PyProof.Rows L2
/-! ### plain -/
def dAt (kvs : List (D × D)) (k : D) : Option D := (kvs.find? fun p => decide (nk p.1 = nk k)).map (·.2)
def dHas (kvs : List (D × D)) (k : D) : Bool := (dAt kvs k).isSome
def dPutF (k v : D) (p : D × D) : D × D := if nk p.1 = nk k then (p.1, v) else p
def dPut (kvs : List (D × D)) (k v : D) : List (D × D) := if dHas kvs k then kvs.map (dPutF k v) else kvs ++ [(k, v)]
/-- k may be asked for in kvs: all keys flat, or all tuples -/
def kOk (kvs : List (D × D)) (k : D) : Bool := ((fk k).isSome && kvs.all fun p => (fk p.1).isSome) || ((tk k).isSome && kvs.all fun p => (tk p.1).isSome)
theorem fk_nk {d : D} {k : Key} (h : fk d = some k) : (∃ i, d = .int i ∧ k = .inl i) ∨ ∃ x, d = .str x ∧ k = .inr x := by
  cases d with
  | int i => cases h; exact .inl ⟨i, rfl, rfl⟩
  | str x => cases h; exact .inr ⟨x, rfl, rfl⟩
  | _ => cases h
theorem fk_eq {d e : D} {k j : Key} (h : fk d = some k) (g : fk e = some j) : nk d = nk e ↔ k = j := by
  rcases fk_nk h with ⟨i, rfl, rfl⟩ | ⟨x, rfl, rfl⟩ <;> rcases fk_nk g with ⟨l, rfl, rfl⟩ | ⟨y, rfl, rfl⟩ <;> simp [nk]
theorem tk_eq {d e : D} {k j : NestedKey} (h : tk d = some k) (g : tk e = some j) : nk d = nk e ↔ k = j := by
  rw [(tk_nk h).1, (tk_nk g).1, Option.some.injEq]
theorem fk_tk {d : D} {k : Key} {j : NestedKey} (h : fk d = some k) (g : tk d = some j) : False := by
  rcases fk_nk h with ⟨i, rfl, rfl⟩ | ⟨x, rfl, rfl⟩ <;> cases g
theorem fk_pd {K : Fg} {H : Hp} {y : V} {d : D} {k : Key} (p : Pd K H y d) (h : fk d = some k) : y = kV k := by
  rcases fk_nk h with ⟨i, rfl, rfl⟩ | ⟨x, rfl, rfl⟩ <;> cases p <;> rfl
section
variable {X : Cx} {pins : List (Addr × Obj)} {σ : L2.St} {H : Hp} {s : Shared}
mutual
theorem nested_is (I : Inv X pins σ H s) : ∀ {y : V} {d : D} {k : NestedKey} {u : Value}, Pd X.K H y d → nk d = some k → RelV y u → NestedIs s.heap k u
  | _, _, _, _, .non, h, r => by cases h; cases r; exact .none
  | _, _, _, _, .int i, h, r => by cases h; obtain ⟨t, rfl⟩ := r; exact .int _ _
  | _, _, _, _, .str x, h, r => by cases h; obtain ⟨t, rfl⟩ := r; exact .text _ _
  | _, _, _, _, .bl b, h, _ => by simp [nk] at h
  | _, _, _, _, .lst _ _, h, _ => by simp [nk] at h
  | _, _, _, u, .tup (a := a) h2 r, h, ru => by
    simp only [nk, Option.map_eq_some_iff] at h
    obtain ⟨ks, h1, rfl⟩ := h
    obtain rfl : u = Value.ref a := ru
    obtain ⟨its, rv, ⟨o, e, hc, n, hd⟩, _⟩ := I.tuple h2
    exact .tup e hc hd (by simpa using nested_all I r h1 rv)
theorem nested_all (I : Inv X pins σ H s) : ∀ {ys : List V} {ds : List D} {ks : List NestedKey} {us : List Value}, PdAll X.K H ys ds → nks ds = some ks → Vals ys us → NestedAll s.heap ks us
  | _, _, _, _, .nil, h, r => by cases h; cases r; exact .nil
  | _, d :: ds, ks, _, .cons p q, h, r => by
    cases r with
    | cons r1 r2 =>
      simp only [nks] at h
      cases e1 : nk d with
      | none => simp [e1] at h
      | some k1 =>
        cases e2 : nks ds with
        | none => simp [e1, e2] at h
        | some k2 =>
          simp only [e1, e2, Option.some.injEq] at h
          subst h
          exact .cons (nested_is I p e1 r1) (nested_all I q e2 r2)
end
theorem nested_key (I : Inv X pins σ H s) {b : Addr} {d : D} {k : NestedKey} (p : Pd X.K H (.ref b) d) (h : tk d = some k) : (nestedKind X.prog X.w).is s.heap k b :=
  ⟨nested_is I p (tk_nk h).1 rfl, (tk_nk h).2.1⟩
theorem tk_ref {y : V} {d : D} {k : NestedKey} (p : Pd X.K H y d) (h : tk d = some k) : ∃ b, y = .ref b := by
  obtain ⟨_, _, ds, rfl⟩ := tk_nk h
  cases p with
  | tup _ _ => exact ⟨_, rfl⟩
end
/-- the entries of a dict with tuples as keys: the data, what stands in the heap -/
def E3 (K : Fg) (H : Hp) (q : D × D) (x : NestedKey × Addr × Value) : Prop := tk q.1 = some x.1 ∧ Pd K H (.ref x.2.1) q.1 ∧ ∃ v, Pd K H v q.2 ∧ RelV v x.2.2
theorem e3_split {K : Fg} {H : Hp} : ∀ {kvs : List (D × D)} {xs : List (NestedKey × Addr × Value)}, Paired (E3 K H) kvs xs → ∃ raw : List (NestedKey × Addr × V),
    Paired (fun (p : NestedKey × Addr × V) (q : D × D) => tk q.1 = some p.1 ∧ Pd K H (.ref p.2.1) q.1 ∧ Pd K H p.2.2 q.2) raw kvs ∧ Paired (fun (p : NestedKey × Addr × V) (q : NestedKey × Addr × Value) => p.1 = q.1 ∧ p.2.1 = q.2.1 ∧ RelV p.2.2 q.2.2) raw xs
  | _, _, .nil => ⟨[], .nil, .nil⟩
  | _, _, .cons (b := x) ⟨h1, h2, v, h3, h4⟩ r =>
    let ⟨raw, a, b⟩ := e3_split r
    ⟨(x.1, x.2.1, v) :: raw, .cons ⟨h1, h2, h3⟩ a, .cons ⟨rfl, rfl, h4⟩ b⟩
theorem e3_join {K : Fg} {H : Hp} : ∀ {raw : List (NestedKey × Addr × V)} {kvs : List (D × D)} {xs : List (NestedKey × Addr × Value)},
    Paired (fun (p : NestedKey × Addr × V) (q : D × D) => tk q.1 = some p.1 ∧ Pd K H (.ref p.2.1) q.1 ∧ Pd K H p.2.2 q.2) raw kvs → Paired (fun (p : NestedKey × Addr × V) (q : NestedKey × Addr × Value) => p.1 = q.1 ∧ p.2.1 = q.2.1 ∧ RelV p.2.2 q.2.2) raw xs → Paired (E3 K H) kvs xs
  | _, _, _, .nil, .nil => .nil
  | _, _, _, .cons h r, .cons g t => .cons ⟨h.1.trans (congrArg some g.1), g.2.1 ▸ h.2.1, _, h.2.2, g.2.2⟩ (e3_join r t)
/-- a value looked up -/
theorem e3_at {K : Fg} {H : Hp} {k : D} {j : NestedKey} (hk : tk k = some j) : ∀ {kvs : List (D × D)} {xs : List (NestedKey × Addr × Value)}, Paired (E3 K H) kvs xs →
    (dAt kvs k = none ∧ atKey xs j = none) ∨ ∃ d p v, dAt kvs k = some d ∧ atKey xs j = some p ∧ Pd K H v d ∧ RelV v p.2
  | _, _, .nil => .inl ⟨rfl, rfl⟩
  | q :: kvs, x :: xs, .cons ⟨h1, h2, v, h3, h4⟩ r => by
    by_cases e : x.1 = j
    · refine .inr ⟨q.2, x.2, v, ?_, ?_, h3, h4⟩
      · simp [dAt, List.find?_cons, (tk_eq h1 hk).mpr e]
      · simp [atKey, List.find?_cons, e]
    · have e2 : ¬ nk q.1 = nk k := fun z => e ((tk_eq h1 hk).mp z)
      have a1 : dAt (q :: kvs) k = dAt kvs k := by simp [dAt, List.find?_cons, e2]
      have a2 : atKey (x :: xs) j = atKey xs j := by simp [atKey, List.find?_cons, e]
      rw [a1, a2]
      exact e3_at hk r
theorem e3_put {K : Fg} {H : Hp} {k v : D} {j : NestedKey} {b : Addr} {y : V} {u : Value} (hk : tk k = some j) (hb : Pd K H (.ref b) k) (hv : Pd K H y v) (hu : RelV y u) {kvs : List (D × D)} {xs : List (NestedKey × Addr × Value)} (h : Paired (E3 K H) kvs xs) :
    Paired (E3 K H) (dPut kvs k v) (storedH xs j b u) := by
  have mp : ∀ {kvs : List (D × D)} {xs : List (NestedKey × Addr × Value)}, Paired (E3 K H) kvs xs → Paired (E3 K H) (kvs.map (dPutF k v)) (xs.map (putAt j u)) := by
    intro kvs xs h
    induction h with
    | nil => exact .nil
    | @cons q x _ _ h1 _ ih =>
      refine .cons ?_ ih
      obtain ⟨h1, h2, v2, h3, h4⟩ := h1
      unfold dPutF putAt
      by_cases e : x.1 = j
      · rw [if_pos e, if_pos ((tk_eq h1 hk).mpr e)]; exact ⟨h1, h2, y, hv, hu⟩
      · rw [if_neg e, if_neg fun z => e ((tk_eq h1 hk).mp z)]; exact ⟨h1, h2, v2, h3, h4⟩
  unfold dPut storedH dHas
  rcases e3_at hk h with ⟨e1, e2⟩ | ⟨d, p, v2, e1, e2, _⟩
  · rw [e1, e2]
    simp only [Option.isSome_none, Bool.false_eq_true, if_false]
    have app : ∀ {kvs : List (D × D)} {xs : List (NestedKey × Addr × Value)}, Paired (E3 K H) kvs xs → Paired (E3 K H) (kvs ++ [(k, v)]) (xs ++ [(j, b, u)]) := by
      intro kvs xs h
      induction h with
      | nil => exact .cons ⟨hk, hb, y, hv, hu⟩ .nil
      | cons h _ ih => exact .cons h ih
    exact app h
  · rw [e1, e2]
    simp only [Option.isSome_some, if_true]
    exact mp h
theorem dPut_length (kvs : List (D × D)) (k v : D) : (dPut kvs k v).length ≤ kvs.length + 1 := by
  unfold dPut; split <;> simp
theorem dPut_ne (kvs : List (D × D)) (k v : D) : dPut kvs k v ≠ [] := by
  unfold dPut
  split
  · rename_i h
    intro z
    rw [List.map_eq_nil_iff] at z
    rw [z] at h
    cases h
  · simp
/-! ### the flat ones -/
abbrev F2 (K : Fg) (H : Hp) : List (Key × V) → List (D × D) → Prop := Paired fun (p : Key × V) (q : D × D) => fk q.1 = some p.1 ∧ Pd K H p.2 q.2
theorem f2_at {K : Fg} {H : Hp} {k : D} {j : Key} (hk : fk k = some j) : ∀ {raw : List (Key × V)} {kvs : List (D × D)}, F2 K H raw kvs →
    (dAt kvs k = none ∧ valV raw j = none) ∨ ∃ d v, dAt kvs k = some d ∧ valV raw j = some v ∧ Pd K H v d
  | _, _, .nil => .inl ⟨rfl, rfl⟩
  | p :: raw, q :: kvs, .cons ⟨h1, h2⟩ r => by
    by_cases e : p.1 = j
    · refine .inr ⟨q.2, p.2, ?_, valV_pos e, h2⟩
      simp [dAt, List.find?_cons, (fk_eq h1 hk).mpr e]
    · have e2 : ¬ nk q.1 = nk k := fun z => e ((fk_eq h1 hk).mp z)
      have a1 : dAt (q :: kvs) k = dAt kvs k := by simp [dAt, List.find?_cons, e2]
      rw [a1, valV_neg e]
      exact f2_at hk r
theorem f2_put {K : Fg} {H : Hp} {k v : D} {j : Key} {y : V} (hk : fk k = some j) (hv : Pd K H y v) {raw : List (Key × V)} {kvs : List (D × D)} (h : F2 K H raw kvs) : F2 K H (putK raw j y) (dPut kvs k v) := by
  have mp : ∀ {raw : List (Key × V)} {kvs : List (D × D)}, F2 K H raw kvs → F2 K H (raw.map fun kv => if kv.1 = j then (kv.1, y) else kv) (kvs.map (dPutF k v)) := by
    intro raw kvs h
    induction h with
    | nil => exact .nil
    | @cons p q _ _ h1 _ ih =>
      refine .cons ?_ ih
      unfold dPutF
      dsimp only
      by_cases e : p.1 = j
      · rw [if_pos e, if_pos ((fk_eq h1.1 hk).mpr e)]; exact ⟨h1.1, hv⟩
      · rw [if_neg e, if_neg fun z => e ((fk_eq h1.1 hk).mp z)]; exact h1
  unfold dPut dHas
  rcases f2_at hk h with ⟨e1, e2⟩ | ⟨d, v2, e1, e2, _⟩
  · rw [e1, putK_new y e2]
    simp only [Option.isSome_none, Bool.false_eq_true, if_false]
    have app : ∀ {raw : List (Key × V)} {kvs : List (D × D)}, F2 K H raw kvs → F2 K H (raw ++ [(j, y)]) (kvs ++ [(k, v)]) := by
      intro raw kvs h
      induction h with
      | nil => exact .cons ⟨hk, hv⟩ .nil
      | cons h _ ih => exact .cons h ih
    exact app h
  · rw [e1]
    simp only [Option.isSome_some, if_true]
    have q : putK raw j y = raw.map fun kv => if kv.1 = j then (kv.1, y) else kv := by
      unfold putK
      rw [valV_any, e2]
      rfl
    rw [q]
    exact mp h
end Fz
end

section
set_option Elab.async false
set_option linter.all false
set_option maxRecDepth 100000
set_option maxHeartbeats 4000000
/-! F31: dicts at the machine: d[k], in, d[k] = v, get, len, setdefault. -/
namespace Fz
open PySem PySem.Spec PyProof.Rows L2
section
variable {X : Cx} {pins : List (Addr × Obj)} {σ : L2.St} {H : Hp} {s : Shared} {a : Addr} {kvs : List (D × D)} {k v : D} {y z : V} {u r : Value} {A : Around} {E : Value → Shared → Prop}
theorem ext_rd {raw : List (NestedKey × Addr × V)} (I : Inv X pins σ H s) (e : Rd H a (DicT X.w a raw)) : DicP X.w a raw s.heap := (show ObjOk X.prog X.w H s.heap a (DicT X.w a raw) from e.ok I.hok).1
variable {T : HO → Prop}
/-- what stands there -/
theorem dic_raw (hT : ∀ u, T u → Rd H a u) (I : Inv X pins σ H s) (g : DicG X.K X.w H a T kvs) : kvs.length ≤ sizeLine ∧ (a == sysModules) = false ∧ ∃ o es ep, s.heap.get? a = some o ∧ o.ExactDict ∧ o.data = .dict es ep ∧ es.size = kvs.length := by
  rcases g with ⟨raw, e, f⟩ | ⟨raw, n, e, f⟩
  · obtain ⟨z, hd, vs, rel, o, es, ep, h1, h2, h3, h4, h5, h6⟩ := dk_rd I.hok (hT _ e)
    refine ⟨by rw [← paired_len f]; exact z, hd, o, es, ep, h1, h2, h3, ?_⟩
    have l1 : es.toList.length = vs.length := by
      first | exact (List.Forall₂.length_eq h5) | exact Paired.length h5 | exact h5.length | (have := congrArg List.length h5; simpa using this)
    rw [← paired_len f, rel.length, ← l1, Array.length_toList]
  · obtain ⟨z, hd, xs, f2, o, es, ep, h1, h2, h3, h4, _⟩ := ext_rd I (hT _ e)
    refine ⟨by rw [← paired_len f]; exact z, hd, o, es, ep, h1, h2, h3, ?_⟩
    rw [← paired_len f, paired_len f2, ← Array.length_toList, h4, List.length_map]
/-- the two sorts of dicts at a look with a key -/
theorem dic_cases (hT : ∀ u, T u → Rd H a u) (I : Inv X pins σ H s) (g : DicG X.K X.w H a T kvs) (ok : kOk kvs k = true) (pk : Pd X.K H y k) (ry : RelV y u) :
    (∃ raw j, T (.dK raw) ∧ F2 X.K H raw kvs ∧ fk k = some j ∧ y = kV j) ∨
    (∃ xs j b, s.heap.DictOfH (nestedKind X.prog X.w) a xs ∧ Paired (E3 X.K H) kvs xs ∧ xs.length ≤ sizeLine ∧ (a == sysModules) = false ∧ (∃ u, T u ∧ Mut (some u)) ∧ tk k = some j ∧ y = .ref b ∧ u = .ref b ∧ (nestedKind X.prog X.w).is s.heap j b) := by
  unfold kOk at ok
  rw [Bool.or_eq_true, Bool.and_eq_true, Bool.and_eq_true] at ok
  rcases ok with ⟨h1, h2⟩ | ⟨h1, h2⟩
  · obtain ⟨j, hj⟩ := Option.isSome_iff_exists.mp h1
    rcases g with ⟨raw, e, f⟩ | ⟨raw, n, e, f⟩
    · exact .inl ⟨raw, j, e, f, hj, fk_pd pk hj⟩
    · exfalso
      cases f with
      | nil => exact n rfl
      | cons h _ =>
        rw [List.all_cons, Bool.and_eq_true] at h2
        obtain ⟨j2, hj2⟩ := Option.isSome_iff_exists.mp h2.1
        exact fk_tk hj2 h.1
  · obtain ⟨j, hj⟩ := Option.isSome_iff_exists.mp h1
    obtain ⟨b, rfl⟩ := tk_ref pk hj
    have hu : u = Value.ref b := ry
    have hkey := nested_key I pk hj
    rcases g with ⟨raw, e, f⟩ | ⟨raw, n, e, f⟩
    · cases f with
      | cons h _ =>
        exfalso
        rw [List.all_cons, Bool.and_eq_true] at h2
        obtain ⟨j2, hj2⟩ := Option.isSome_iff_exists.mp h2.1
        exact fk_tk h.1 hj2
      | nil =>
        obtain ⟨z, hd, vs, rel, o, es, ep, h1, h2, h3, h4, h5, h6⟩ := dk_rd I.hok (hT _ e)
        cases rel
        have l1 : es.toList = [] := by
          generalize es.toList = l at h5
          cases h5
          rfl
        refine .inr ⟨[], j, b, ⟨o, es, ep, h1, h2, h3, by rw [l1]; rfl, fun _ hx => (nomatch hx), List.nodup_nil⟩, .nil, Nat.zero_le _, hd, ⟨_, e, trivial⟩, hj, rfl, hu, hkey⟩
    · obtain ⟨z, hd, xs, f2, o, es, ep, h1, h2, h3, h4, h5⟩ := ext_rd I (hT _ e)
      have e3 := e3_join f f2
      refine .inr ⟨xs, j, b, ⟨o, es, ep, h1, h2, h3, h4, fun x hx => ?_, h5⟩, e3, by rw [← paired_len f2]; exact z, hd, ⟨_, e, trivial⟩, hj, rfl, hu, hkey⟩
      obtain ⟨i, hi⟩ := List.getElem?_of_mem hx
      obtain ⟨q, _, q1, q2, _⟩ := paired_get e3 hi
      exact nested_key I q2 q1
theorem dget_rd {kvs : List (Key × V)} {k : Key} (e : Rd H a (.dK kvs)) : DGet H a (kV k) (valV kvs k) := .inl ⟨kvs, k, e, rfl, rfl⟩
/-- d[k], there -/
theorem dr_getItem {Q : Value → Shared → Prop} (hu : A.units + 70 < cLine) (hT : ∀ u, T u → Rd H a u) (I : Inv X pins σ H s) (g : DicG X.K X.w H a T kvs) (ok : kOk kvs k = true) (pk : Pd X.K H y k) (ry : RelV y u) (l : dAt kvs k = some v)
    (h : ∀ x w' s', Inv X pins σ H s' → Pd X.K H x v → RelV x w' → Q w' s') : wpAny (model X.prog X.w) A (getItem (.ref a) u) Q E s := by
  rcases dic_cases hT I g ok pk ry with ⟨raw, j, e, f, hj, rfl⟩ | ⟨xs, j, b, dd, f, z, hd, mu, hj, rfl, rfl, hkey⟩
  · rcases f2_at hj f with ⟨q1, _⟩ | ⟨d, x, q1, q2, q3⟩
    · rw [l] at q1; cases q1
    · rw [l] at q1; cases q1
      exact d_getItem (by omega) I (q2 ▸ dget_rd (hT _ e)) ry fun w' s' I' r => h x w' s' I' q3 r
  · rcases e3_at hj f with ⟨q1, _⟩ | ⟨d, p, x, q1, q2, q3, q4⟩
    · rw [l] at q1; cases q1
    · rw [l] at q1; cases q1
      exact wpAny_getItem_heap (by show _ + 8 < _; simp only [Around.in1]; omega) hkey dd q2 (h x p.2 _ (I.tok _) q3 q4)
theorem dr_has_f {raw : List (Key × V)} {j : Key} (hj : fk k = some j) (f : F2 X.K H raw kvs) : (valV raw j).isSome = dHas kvs k := by
  unfold dHas
  rcases f2_at hj f with ⟨q1, q2⟩ | ⟨d, x, q1, q2, q3⟩ <;> rw [q1, q2] <;> rfl
theorem dr_has_t {xs : List (NestedKey × Addr × Value)} {j : NestedKey} (hj : tk k = some j) (f : Paired (E3 X.K H) kvs xs) : (atKey xs j).isSome = dHas kvs k := by
  unfold dHas
  rcases e3_at hj f with ⟨q1, q2⟩ | ⟨d, x, v, q1, q2, q3⟩ <;> rw [q1, q2] <;> rfl
/-- k in d -/
theorem dr_in {Q : Value → Shared → Prop} (hu : A.units + 70 < cLine) (hT : ∀ u, T u → Rd H a u) (I : Inv X pins σ H s) (g : DicG X.K X.w H a T kvs) (ok : kOk kvs k = true) (pk : Pd X.K H y k) (ry : RelV y u)
    (h : ∀ s', Inv X pins σ H s' → Q (.bool (dHas kvs k)) s') : wpAny (model X.prog X.w) A (compareOp .In u (.ref a)) Q E s := by
  rcases dic_cases hT I g ok pk ry with ⟨raw, j, e, f, hj, rfl⟩ | ⟨xs, j, b, dd, f, z, hd, mu, hj, rfl, rfl, hkey⟩
  · refine d_in (by omega) I (dget_rd (hT _ e)) ry fun s' I' => ?_
    rw [dr_has_f hj f]; exact h s' I'
  · refine wpAny_in_heap (by show _ + 8 < _; simp only [Around.in1]; omega) hkey hd dd ?_
    rw [dr_has_t hj f]; exact h _ (I.tok _)
theorem dr_notIn {Q : Value → Shared → Prop} (hu : A.units + 70 < cLine) (hT : ∀ u, T u → Rd H a u) (I : Inv X pins σ H s) (g : DicG X.K X.w H a T kvs) (ok : kOk kvs k = true) (pk : Pd X.K H y k) (ry : RelV y u)
    (h : ∀ s', Inv X pins σ H s' → Q (.bool (!dHas kvs k)) s') : wpAny (model X.prog X.w) A (compareOp .NotIn u (.ref a)) Q E s := by
  rcases dic_cases hT I g ok pk ry with ⟨raw, j, e, f, hj, rfl⟩ | ⟨xs, j, b, dd, f, z, hd, mu, hj, rfl, rfl, hkey⟩
  · refine d_notIn (by omega) I (dget_rd (hT _ e)) ry fun s' I' => ?_
    rw [dr_has_f hj f]; exact h s' I'
  · refine notIn_keyed (by show _ + 8 < _; simp only [Around.in1]; omega) hkey hd ⟨xs, dd, rfl⟩ ?_
    rw [valueAt_pairsH, Option.isSome_map, dr_has_t hj f]; exact h _ (I.tok _)
/-- d[k] = v -/
theorem dr_setItem {Q : Unit → Shared → Prop} (hu : A.units + 70 < cLine) (I : Inv X pins σ H s) (g : DicR X.K X.w H a kvs) (ok : kOk kvs k = true) (hl : kvs.length < sizeLine) (pk : Pd X.K H y k) (ry : RelV y u) (pv : Pd X.K H z v) (rz : RelV z r)
    (h : ∀ ob s', Mut (H a) → Inv X pins σ (upd H a ob) s' → DicR X.K X.w (upd H a ob) a (dPut kvs k v) → Q () s') : wpAny (model X.prog X.w) A (setItem (.ref a) u r) Q E s := by
  rcases dic_cases (fun u h => Rd.of h) I g ok pk ry with ⟨raw, j, e, f, hj, rfl⟩ | ⟨xs, j, b, dd, f, zl, hd, ⟨u0, eu, mu0⟩, hj, rfl, rfl, hkey⟩
  · have mu : Mut (H a) := by rw [e]; trivial
    refine d_setItem (by omega) I (DPut.k e (by rw [paired_len f]; exact hl)) ry rz fun s' I' => h _ s' mu I' (.inl ⟨_, upd_same, ?_⟩)
    exact Paired.mapP (f2_put hj pv f) fun _ _ z => ⟨z.1, z.2.mono (Pers.put (.inl mu))⟩
  · have mu : Mut (H a) := by rw [show H a = some u0 from eu]; exact mu0
    refine wpAny_setItem_heap (hsz := zl) (by show _ + 8 < _; simp only [Around.in1]; omega) hkey dd fun h' dd' hs => ?_
    have f' : Paired (E3 X.K H) (dPut kvs k v) (storedH xs j b r) := e3_put hj pk pv rz f
    obtain ⟨raw, r1, r2⟩ := e3_split f'
    obtain ⟨o, es, ep, q1, q2, q3, q4, _, q5⟩ := dd'
    have hz : raw.length ≤ sizeLine := by
      have := dPut_length kvs k v
      rw [paired_len r1]; omega
    have new : DicP X.w a raw h' := ⟨hz, hd, storedH xs j b r, r2, o, es, ep, q1, q2, q3, q4, q5⟩
    refine h (DicT X.w a raw) _ mu (d_write I mu hs ⟨o, q1⟩ (DicT.ok new)) (.inr ⟨raw, dPut_ne kvs k v, upd_same, ?_⟩)
    exact Paired.mapP r1 fun _ _ z => ⟨z.1, z.2.1.mono (Pers.put (.inl mu)), z.2.2.mono (Pers.put (.inl mu))⟩
end
end Fz
end

section
set_option Elab.async false
set_option linter.all false
set_option maxRecDepth 100000
set_option maxHeartbeats 4000000
/-! F32: dicts of slots: d[k], in, d[k] = v, {}, moved out. -/
namespace Fz
open PySem PySem.Spec PyProof.Rows L2
def dicAt (S : FS) (i : Nat) : Option (List (D × D)) := match S[i]? with
  | some (some (.own (.dic kvs))) => some kvs
  | some (some (.pin (.dic kvs))) => some kvs
  | _ => none
theorem Rel.dic {K : Fg} {F : Fx} {S : FS} {σ : Sl} {H : Hp} {i : Nat} {kvs : List (D × D)} (r : Rel K F S σ H) (h : dicAt S i = some kvs) : ∃ a, σ[i]? = some (some (.ref a)) ∧ DicR K F.w H a kvs ∧
    ∀ ob kvs', Mut (H a) → DicR K F.w (upd H a ob) a kvs' → Rel K F (setOb S i (.dic kvs')) σ (upd H a ob) ∧ Pers H (upd H a ob) := by
  have main : ∀ (mk : Ob → SV), (∀ z, setOb S i z = S.set i (some (mk z))) → S[i]? = some (some (mk (.dic kvs))) → (∀ z, mk z = .own z) ∨ (∀ z, mk z = .pin z) → ∃ a, σ[i]? = some (some (.ref a)) ∧ DicR K F.w H a kvs ∧
      ∀ ob kvs', Mut (H a) → DicR K F.w (upd H a ob) a kvs' → Rel K F (setOb S i (.dic kvs')) σ (upd H a ob) ∧ Pers H (upd H a ob) := by
    intro mk ep hs hm
    have ow : S[i]? = some (some (.own (.dic kvs))) ∨ S[i]? = some (some (.pin (.dic kvs))) := by
      rcases hm with hm | hm
      · exact .inl (by rw [hs, hm])
      · exact .inr (by rw [hs, hm])
    obtain ⟨a, ea, hv, h0⟩ := r.obj ow
    refine ⟨a, ea, hv, fun ob kvs' hmu hv' => ?_⟩
    have pp : Pers H (upd H a ob) := Pers.put (.inl hmu)
    have hl : i < S.length := (List.getElem?_eq_some_iff.mp hs).1
    have oi : Owned S i := ⟨_, ow⟩
    refine ⟨?_, pp⟩
    rw [ep (.dic kvs')]
    refine r.put (.inl hmu) h0 (fun p hp e' => (r.held p hp).2.2 i oi (e' ▸ ea)) (List.length_set ..) (fun j sv2 ej => ?_) fun j ⟨ob, hj⟩ => ?_
    · by_cases hj : j = i
      · subst hj
        rw [List.getElem?_set_self hl] at ej
        cases ej
        refine .inr ⟨_, ea, ?_⟩
        obtain ⟨x, ex, sr⟩ := r.slot j _ hs
        rw [ea] at ex; cases ex
        rcases hm with hm | hm
        · rw [hm] at sr
          rw [hm]
          obtain ⟨b, eb, _, n⟩ := sr
          cases eb
          exact ⟨a, rfl, hv', n⟩
        · rw [hm] at sr
          rw [hm]
          obtain ⟨b, eb, _, n⟩ := sr
          cases eb
          exact ⟨a, rfl, hv', n⟩
      · rw [List.getElem?_set_ne (Ne.symm hj)] at ej
        exact .inl ⟨ej, fun oj => r.apart i j a (Ne.symm hj) oi oj ea⟩
    · by_cases hj2 : j = i
      · subst hj2; exact oi
      · rw [List.getElem?_set_ne (Ne.symm hj2)] at hj; exact ⟨ob, hj⟩
  unfold dicAt at h
  split at h
  · rename_i d hd
    cases h
    exact main (fun z => .own z) (fun z => by unfold setOb; rw [hd]) hd (.inl fun _ => rfl)
  · rename_i d hd
    cases h
    exact main (fun z => .pin z) (fun z => by unfold setOb; rw [hd]) hd (.inr fun _ => rfl)
  · cases h
/-- a dict that may be read -/
def dicRd (S : FS) (i : Nat) : Option (List (D × D)) := match S[i]? with
  | some (some (.own (.dic kvs))) => some kvs
  | some (some (.pin (.dic kvs))) => some kvs
  | some (some (.x (.ro (.dic kvs)))) => some kvs
  | _ => none
theorem Rel.dicV {K : Fg} {F : Fx} {S : FS} {σ : Sl} {H : Hp} {i : Nat} {kvs : List (D × D)} (r : Rel K F S σ H) (h : dicRd S i = some kvs) : ∃ a, σ[i]? = some (some (.ref a)) ∧ DicV K F.w H a kvs := by
  unfold dicRd at h
  split at h
  · rename_i d hd
    cases h
    obtain ⟨x, ex, a, rfl, q, _⟩ := r.slot i _ hd
    exact ⟨a, ex, DicR.v q⟩
  · rename_i d hd
    cases h
    obtain ⟨x, ex, a, rfl, q, _⟩ := r.slot i _ hd
    exact ⟨a, ex, DicR.v q⟩
  · rename_i d hd
    cases h
    obtain ⟨x, ex, a, rfl, o, q⟩ := r.slot i _ hd
    exact ⟨a, ex, DicG.mono q (.refl H) fun _ e => .inr ⟨o, e⟩⟩
  · cases h
def wDic {α : Type} (i : Nat) (k : List (D × D) → FS → Res α) : FS → Res α := fun S => match dicRd S i with
  | some kvs => k kvs S
  | none => .bad
def wDicS (i : Nat) (k : List (D × D) → FS → SRes) : FS → SRes := fun S => match dicAt S i with
  | some kvs => k kvs S
  | none => .bad
section
variable {K : Fg} {F : Fx} {S : FS} {σ : Sl} {H : Hp} {i : Nat}
theorem wDic_in {α β : Type} {R : GRel β α} {k : List (D × D) → FS → Res α} {Q : β → Hp → Prop} (p : postG K F R (wDic i k S) σ H Q) : ∃ kvs, dicRd S i = some kvs ∧ postG K F R (k kvs S) σ H Q := by
  unfold wDic at p
  cases e : dicRd S i with
  | none => rw [e] at p; exact p.elim
  | some ds => rw [e] at p; exact ⟨ds, rfl, p⟩
theorem wDicS_in {k : List (D × D) → FS → SRes} {D' : Ends} (p : postS K F (wDicS i k S) D' H) : ∃ kvs, dicAt S i = some kvs ∧ postS K F (k kvs S) D' H := by
  unfold wDicS at p
  cases e : dicAt S i with
  | none => rw [e] at p; exact p.elim
  | some ds => rw [e] at p; exact ⟨ds, rfl, p⟩
end
/-- d[k] -/
def fDIx (i : Nat) (f : FS → Res D) : FS → Res D := wDic i fun _ => bnd f fun k => wDic i fun kvs S => match kOk kvs k, dAt kvs k with
  | true, some v => .ok v S
  | _, _ => .bad
/-- k in d, k not in d -/
def fDIn (b : Bool) (i : Nat) (f : FS → Res D) : FS → Res D := bnd f fun k => wDic i fun kvs S => match kOk kvs k with
  | true => .ok (.bool (xor (!b) (dHas kvs k))) S
  | false => .bad
/-- d[k] = v -/
def fDPut (i : Nat) (fe fk : FS → Res D) : FS → SRes := bndS fe fun v => wDicS i fun _ => bndS fk fun k => wDicS i fun kvs S => match kOk kvs k, decide (kvs.length < sizeLine) with
  | true, true => .nx (setOb S i (.dic (dPut kvs k v)))
  | _, _ => .bad
/-- {} -/
def fDNew : FS → Res SV := fun S => .ok (.own (.dic [])) S
section
variable {X : Cx} {F : Fx} {o e ke : Expr} {i : Nat} {pos apos cpos p1 : Pos} {f fe fk fx : FS → Res D}
theorem e_dix (hu : X.A.units + 70 < cLine) (ho : PE X o (tVar i)) (hk : ED X F ke f) (hw : F.w = X.w := by rfl) (hs : NoSl ke := by intro _ _; rfl) : ED X F (.Subscript o ke pos) (fDIx i f) := by
  refine ⟨fun pins s σ H Q I ⟨S, r, p⟩ => ?_⟩
  obtain ⟨kvs0, e0, p⟩ := wDic_in p
  obtain ⟨a, ea, _⟩ := r.dicV e0
  refine subD_of PySem.F.slot_dict_getitem.lookup hs (thn (ho.run pins s σ H (fun x H' => x = .ref a ∧ H' = H) I ⟨_, ea, rfl, rfl⟩) fun u s1 ⟨x, H1, I1, rx, ex, eH⟩ => ?_)
  subst ex eH
  obtain rfl : u = Value.ref a := rx
  refine thn (hk.run pins s1 σ H1 _ I1 (rdG.bind (R' := PR) ⟨S, r, p⟩)) fun iv s2 ⟨y, H2, I2, ry, k, S2, r2, v2, p2, q2⟩ => ?_
  obtain ⟨kvs, e2, q2⟩ := wDic_in q2
  obtain ⟨a2, ea2, g⟩ := r2.dicV e2
  rw [ea] at ea2; cases ea2
  rw [hw] at g
  have hty : s2.TypeIs (.ref a) "dict" := by
    obtain ⟨_, _, o, es, ep, h1, h2, _⟩ := dic_raw (fun _ h => h) I2 g
    exact ⟨o, h1, h2.1⟩
  refine ⟨hty, ?_⟩
  cases ok : kOk kvs k with
  | false => rw [ok] at q2; exact q2.elim
  | true =>
    cases l : dAt kvs k with
    | none => rw [ok, l] at q2; exact q2.elim
    | some v =>
      rw [ok, l] at q2
      exact dr_getItem hu (fun _ h => h) I2 g ok v2 ry l fun x w' s3 I3 px rx => ⟨x, H2, I3, rx, q2.ok r2 px⟩
theorem pc_dinF {b : Bool} {op : CmpOp} (hb : op = if b then CmpOp.In else CmpOp.NotIn) (hu : X.A.units + 70 < cLine) (hk : ED X F ke f) (ho : PE X o (tVar i)) (hw : F.w = X.w) : PC X op ke o (rdG X.K F PR (fDIn b i f)) := by
  refine ⟨fun pins s σ H Q I h => ?_⟩
  refine thn (hk.run pins s σ H _ I (rdG.bind h)) fun iv s1 ⟨y, H1, I1, ry, k, S1, r1, v1, p1, q1⟩ => ?_
  obtain ⟨kvs, e1, q1⟩ := wDic_in q1
  obtain ⟨a, ea, g⟩ := r1.dicV e1
  rw [hw] at g
  refine thn (ho.run pins s1 σ H1 (fun x H' => x = .ref a ∧ H' = H1) I1 ⟨_, ea, rfl, rfl⟩) fun u s2 ⟨x, H2, I2, rx, ex, eH⟩ => ?_
  subst ex eH
  obtain rfl : u = Value.ref a := rx
  cases ok : kOk kvs k with
  | false => rw [ok] at q1; exact q1.elim
  | true =>
    rw [ok] at q1
    cases b with
    | true => subst hb; exact dr_in hu (fun _ h => h) I2 g ok v1 ry fun s3 I3 => ⟨.bl (dHas kvs k), H2, I3, rfl, q1.ok r1 (by cases dHas kvs k <;> exact .bl _)⟩
    | false => subst hb; exact dr_notIn hu (fun _ h => h) I2 g ok v1 ry fun s3 I3 => ⟨.bl (!dHas kvs k), H2, I3, rfl, q1.ok r1 (by cases dHas kvs k <;> exact .bl _)⟩
theorem t_dnin (hu : X.A.units + 70 < cLine) (hk : ED X F ke f) (ho : PE X o (tVar i)) (hw : F.w = X.w := by rfl) (h1 : behindInMarks .NotIn o = false := by rfl) : ET X F (.Compare ke [.NotIn] [o] pos) (fT (fDIn false i f)) :=
  (pt_cmp (pc_dinF (b := false) rfl hu hk ho hw) h1).via fun σ H Q h => (rdG.bindT h).imp fun x H1 ⟨d, S1, r, v, p, q⟩ => by
    cases d with
    | bool b => cases v; exact ⟨b, rfl, q.ok r⟩
    | _ => exact q.elim
theorem s_dput (hu : X.A.units + 70 < cLine) (ho : PE X o (tVar i)) (he : ED X F e fe) (hk : ED X F ke fk) (hw : F.w = X.w := by rfl) (hs : swapsWith e (some (.Subscript o ke p1)) pos.line X.env = pure false := by rfl) :
    ES X F (.Assign [.Subscript o ke p1] e pos) (fDPut i fe fk) := by
  refine ⟨fun pins s σ H D I ⟨S, r, p⟩ => ?_⟩
  refine wpAny_Assign_Subscript (thn (he.run pins s σ H _ I (rdG.bindS (R := PR) ⟨S, r, p⟩)) fun rv s1 ⟨z, H1, I1, rz, v, S1, r1, v1, p1, q1⟩ => ?_) hs
  obtain ⟨kvs0, e1, q1⟩ := wDicS_in q1
  obtain ⟨a, ea, _, _⟩ := r1.dic e1
  refine thn (ho.run pins s1 σ H1 (fun x H' => x = .ref a ∧ H' = H1) I1 ⟨_, ea, rfl, rfl⟩) fun u s2 ⟨x, H2, I2, rx, ex, eH⟩ => ?_
  subst ex eH
  obtain rfl : u = Value.ref a := rx
  refine thn (hk.run pins s2 σ H2 _ I2 (rdG.bindS (R := PR) ⟨S1, r1, q1⟩)) fun iv s3 ⟨y, H3, I3, ry, k, S3, r3, v3, p3, q3⟩ => ?_
  obtain ⟨kvs, e3, q3⟩ := wDicS_in q3
  obtain ⟨a2, ea2, g, put⟩ := r3.dic e3
  rw [ea] at ea2; cases ea2
  rw [hw] at g put
  cases ok : kOk kvs k with
  | false => rw [ok] at q3; exact q3.elim
  | true =>
    cases hl : decide (kvs.length < sizeLine) with
    | false => rw [ok, hl] at q3; exact q3.elim
    | true =>
      rw [ok, hl] at q3
      refine dr_setItem hu I3 g ok (of_decide_eq_true hl) v3 ry (Pd.mono p3 v1) rz fun ob s4 mu I4 g4 => ?_
      obtain ⟨r4, p4⟩ := put ob _ mu g4
      exact ⟨σ, _, I4, q3 σ _ p4 r4⟩
theorem e_dnew : EV X F (.Dict [] [] pos) fDNew := pe_dnewK.via fun σ H Q ⟨S, r, p⟩ q hq =>
  p _ _ (Pers.new hq) (r.new hq) ⟨q, rfl, .inl ⟨[], upd_same, .nil⟩, r.none0 hq, fun j hj => r.unslot hq hj, fun z hz e => by obtain ⟨⟨h1, _⟩, _⟩ := r.held z hz; rw [e, hq] at h1; cases h1⟩
end
end Fz
end

section
set_option Elab.async false
set_option linter.all false
set_option maxRecDepth 100000
set_option maxHeartbeats 4000000
/-! F33: a dict's keys: list(d), sorted(d). -/
namespace Fz
open PySem PySem.Spec PyProof.Rows L2
section
variable {X : Cx} {pins : List (Addr × Obj)} {σ : L2.St} {H : Hp} {s : Shared} {a : Addr} {kvs : List (D × D)} {A : Around} {E : Value → Shared → Prop}
end
section
variable {X : Cx} {F : Fx} {o : Expr} {i : Nat} {pos p : Pos} {x : Str}
end
end Fz
end

section
set_option Elab.async false
set_option linter.all false
set_option maxRecDepth 100000
set_option maxHeartbeats 4000000
/-! F34: sorted(d), d a dict: the sorted list of its keys. -/
namespace Fz
open PySem PySem.Spec PyProof.Rows L2 SrtO Srt
section
variable {prog : Program} {w : World} {A : Around} {E : Value → Shared → Prop} {s : Shared}
end
section
variable {X : Cx} {F : Fx}
end
end Fz
end

section
set_option Elab.async false
set_option linter.all false
set_option maxRecDepth 100000
set_option maxHeartbeats 4000000
/-! F35: sorted(xs, key=f), f a def of the text. -/
namespace Fz
open PySem PySem.Spec PyProof.Rows L2 SrtO Srt
/-! ### sorting by keys, as a function -/
section
variable {α : Type} (lt : α → α → Bool)
variable {lt}
end
/-- the keys that a def tells -/
def keysF (den : Den) : List D → Option (List D)
  | [] => some []
  | d :: r => match den [.d d] with
    | .ok (.d k) _ => (keysF den r).map (k :: ·)
    | _ => none
/-! ### a call of the key def, from within -/
section
variable {X : Cx} {pins : List (Addr × Obj)} {σ : L2.St} {H : Hp} {s : Shared} {T : List Addr} {den : Den} {fa : Addr} {fd : FuncData} {ps : List Str} {k : Nat}
end
/-! ### sorting of pairs, values beside data -/
section
variable {α β : Type} {lt : α → α → Bool} {lt' : β → β → Bool} {R : α → β → Prop}
end
/-- the same slots behind a call that pins nothing -/
theorem Rel.stay {K : Fg} {F : Fx} {S : FS} {σ : Sl} {H H' : Hp} (r : Rel K F S σ H) (p : Pers H H') (kp : ∀ b o, H b = some o → isTbl o = false → H' b = some o) (th : ∀ b o, H b = some o → ∃ u, H' b = some u) (ht : ∀ P ∈ F.tabs, TabOk H' P) : Rel K F S σ H' := by
  have same : ∀ {ob b}, ObR K F.w H b ob → H' b = H b := fun q => by
    obtain ⟨u, e, _, n⟩ := q.there
    rw [e]; exact kp _ _ e n
  refine ⟨r.len, fun i sv e => ?_, r.apart, fun a o e n t => kp a o (r.keep a o e n t) t, fun a o e => ?_, ht, F.cl.selfM p r.self, fun q hq => ?_⟩
  · obtain ⟨x, ex, v⟩ := r.slot i sv e
    refine ⟨x, ex, ?_⟩
    cases sv with
    | d d => exact Pd.mono p v
    | own ob => obtain ⟨a, e, q, z⟩ := v; exact ⟨a, e, q.later p (same q), z⟩
    | pin ob => obtain ⟨a, e, q, z⟩ := v; exact ⟨a, e, q.later p (same q), z⟩
    | x e => exact SxR.later v p r.keep fun a o e n t => kp a o (r.keep a o e n t) t
  · obtain ⟨u, q⟩ := r.there a o e; exact th a u q
  · obtain ⟨⟨e, em⟩, n, z⟩ := r.held q hq
    exact ⟨⟨kp _ _ e (mut_tbl em), em⟩, n, z⟩
end Fz
end

section
set_option Elab.async false
set_option linter.all false
set_option maxRecDepth 100000
set_option maxHeartbeats 4000000
/-! F36: sorted(xs, key=f): the whole call. -/
namespace Fz
open PySem PySem.Spec PyProof.Rows L2 SrtO Srt
section
variable {X : Cx} {pins : List (Addr × Obj)} {σ : L2.St} {H : Hp} {s : Shared} {T : List Addr} {den : Den} {fa : Addr} {fd : FuncData} {ps : List Str} {k : Nat}
end
end Fz
end

section
set_option Elab.async false
set_option linter.all false
set_option maxRecDepth 100000
set_option maxHeartbeats 4000000
/-! F37: sorted(xs, key=f): the rule of the layer. -/
namespace Fz
open PySem PySem.Spec PyProof.Rows L2 SrtO Srt
section
variable {X : Cx} {pins : List (Addr × Obj)} {σ : L2.St} {H : Hp} {s : Shared} {T : List Addr} {den : Den} {fa : Addr} {fd : FuncData} {ps : List Str} {k : Nat}
end
end Fz
end

section
set_option Elab.async false
set_option linter.all false
set_option maxRecDepth 100000
set_option maxHeartbeats 4000000
/-! F38: sorted(xs, key=f) of lists, tuples, dicts. -/
namespace Fz
open PySem PySem.Spec PyProof.Rows L2 SrtO Srt
section
variable {prog : Program} {w : World} {A : Around} {E : Value → Shared → Prop} {s : Shared}
end
/-- sorted(src, key=f) -/
def seqD : D → Option (List D)
  | .list ds => some ds
  | .tuple ds => some ds
  | _ => none
section
variable {X : Cx} {F : Fx} {e o : Expr} {i j k : Nat} {pos p kp np : Pos} {f : FS → Res D} {x : Str} {ps : List Str} {den : Den}
end
end Fz
end

section
set_option Elab.async false
set_option linter.all false
set_option maxRecDepth 100000
set_option maxHeartbeats 4000000
/-! F39: isinstance(x, (A, B)). -/
namespace Fz
open PySem PySem.Spec PyProof.Rows L2
section
variable {X : Cx} {F : Fx} {p pos q q2 tpos : Pos}
end
end Fz
end

section
set_option Elab.async false
set_option linter.all false
set_option maxRecDepth 100000
set_option maxHeartbeats 4000000
/-! F40: a list of a slot is read for a while (frozen), then owned again. -/
namespace Fz
open PySem PySem.Spec PyProof.Rows L2
mutual
/-- no list within -/
def noL : PyData → Bool
  | .tuple ds => noLs ds
  | .list _ => false
  | .dict _ => false
  | _ => true
def noLs : List PyData → Bool
  | [] => true
  | d :: ds => noL d && noLs ds
end
def noLOb : Ob → Bool
  | .lst ds => noLs ds
  | .dic kvs => noLs (kvs.map (·.1)) && noLs (kvs.map (·.2))
def noLSv : Option SV → Bool
  | some (.own ob) => noLOb ob
  | some (.pin ob) => noLOb ob
  | _ => true
/-- all objects of slots are without lists -/
def noLS (S : FS) : Bool := S.all noLSv
section
variable {K : Fg} {H H' : Hp}
/-- tuples stay -/
def TupS (H H' : Hp) : Prop := ∀ a xs, Rd H a (.tup xs) → Rd H' a (.tup xs)
mutual
theorem Pd.noL (t : TupS H H') : ∀ {x : V} {d : D}, Fz.noL d = true → Pd K H x d → Pd K H' x d
  | _, _, _, .non => .non
  | _, _, _, .bl b => .bl b
  | _, _, _, .int i => .int i
  | _, _, _, .str x => .str x
  | _, _, n, .tup h r => .tup (by
      rcases h with h | h
      · exact .inl (t _ _ h)
      · exact .inr h) (PdAll.noLs t (by simpa only [Fz.noL] using n) r)
  | _, _, n, .lst _ _ => by simp [Fz.noL] at n
theorem PdAll.noLs (t : TupS H H') : ∀ {xs : List V} {ds : List D}, Fz.noLs ds = true → PdAll K H xs ds → PdAll K H' xs ds
  | _, _, _, .nil => .nil
  | _, _, n, .cons h r => by
    simp only [Fz.noLs, Bool.and_eq_true] at n
    exact .cons (Pd.noL t n.1 h) (PdAll.noLs t n.2 r)
end
theorem noLs_mem : ∀ {ds : List D}, noLs ds = true → ∀ d ∈ ds, noL d = true
  | [], _, d, h => nomatch h
  | e :: ds, n, d, h => by
    simp only [noLs, Bool.and_eq_true] at n
    rcases List.mem_cons.mp h with rfl | h
    · exact n.1
    · exact noLs_mem n.2 d h
theorem paired_memR {α β : Type} {R : α → β → Prop} {S : α → β → Prop} : ∀ {l : List α} {m : List β}, Paired R l m → (∀ x y, y ∈ m → R x y → S x y) → Paired S l m
  | _, _, .nil, _ => .nil
  | _, _, .cons h r, f => .cons (f _ _ (by simp) h) (paired_memR r fun x y hy => f x y (by simp [hy]))
theorem ObR.noL {w : World} {b : Addr} {ob : Ob} (t : TupS H H') (e : H' b = H b) (n : noLOb ob = true) (h : ObR K w H b ob) : ObR K w H' b ob := by
  cases ob with
  | lst ds => obtain ⟨vs, q, r⟩ := h; exact ⟨vs, e.trans q, r.noLs t n⟩
  | dic kvs =>
    simp only [noLOb, Bool.and_eq_true] at n
    have n1 : ∀ q ∈ kvs, Fz.noL q.1 = true := fun q hq => noLs_mem n.1 _ (List.mem_map_of_mem hq)
    have n2 : ∀ q ∈ kvs, Fz.noL q.2 = true := fun q hq => noLs_mem n.2 _ (List.mem_map_of_mem hq)
    rcases h with ⟨raw, q, r⟩ | ⟨raw, ne, q, r⟩
    · exact .inl ⟨raw, e.trans q, paired_memR r fun x y hy z => ⟨z.1, z.2.noL t (n2 y hy)⟩⟩
    · exact .inr ⟨raw, ne, e.trans q, paired_memR r fun x y hy z => ⟨z.1, z.2.1.noL t (n1 y hy), z.2.2.noL t (n2 y hy)⟩⟩
end
section
variable {X : Cx} {pins : List (Addr × Obj)} {σ : L2.St} {H : Hp} {s : Shared} {a : Addr} {o : Obj} {vs : List V}
/-- a frozen list is a list -/
theorem inv_thaw (I : Inv X pins σ H s) (h : H a = some (.frz o (.lst vs))) (h0 : ∀ o u, X.H_0 a ≠ some (.frz o u)) : Inv X pins σ (upd H a (.lst vs)) s := by
  have ne : ∀ b u, H b = some u → (∀ o, u ≠ .frz o (.lst vs)) → b ≠ a := fun b u e n z => by rw [z, h] at e; cases e; exact n o rfl
  have nn : ∀ b, H b = none → b ≠ a := fun b e z => by rw [z, h] at e; cases e
  obtain ⟨ok, os, bare, base, loc, cell, free, freeC, pin, hok, len⟩ := I
  refine ⟨ok, os, bare, ⟨base.keep, base.slot, fun b ob q n hx => ?_, base.there, fun b xs q => ?_, fun b ob u q => ?_, fun b ps q => ?_⟩, loc, cell, ?_, fun x c e => ?_, fun p hp => ?_, fun b u e => ?_, len⟩
  · have := base.free b ob q n hx
    rw [upd_ne (nn b this)]; exact this
  · have := base.tups b xs q
    rw [upd_ne (ne b _ this fun _ z => nomatch z)]; exact this
  · have := base.frzs b ob u q
    rw [upd_ne]; exact this
    intro z
    rw [z] at q
    exact h0 _ _ q
  · obtain ⟨more, this⟩ := base.tbls b ps q
    exact ⟨more, by rw [upd_ne (ne b _ this fun _ z => nomatch z)]; exact this⟩
  · rw [upd_ne (nn _ free)]; exact free
  · rw [upd_ne (nn _ (freeC x c e))]; exact freeC x c e
  · obtain ⟨h1, h2, h3⟩ := pin p hp
    exact ⟨h1, by rw [upd_ne (nn _ h2)]; exact h2, h3⟩
  · by_cases hb : b = a
    · subst hb
      rw [upd_same] at e
      cases e
      exact (show ObjOk X.prog X.w H s.heap b (.frz o (.lst vs)) from hok b _ h).2
    · rw [upd_ne hb] at e
      refine (hok b u e).stay (fun c v _ q => q) (fun c q => ?_) fun c xs q => ?_
      · rw [upd_ne (ne c _ q fun _ z => nomatch z)]; exact q
      · rw [upd_ne (ne c _ q fun _ z => nomatch z)]; exact q
theorem tupS_thaw (h : H a = some (.frz o (.lst vs))) : TupS H (upd H a (.lst vs)) := fun b xs q => by
  rcases q with q | ⟨ob, q⟩
  · left; rw [upd_ne]; exact q
    intro z; rw [z, h] at q; cases q
  · right; refine ⟨ob, ?_⟩; rw [upd_ne]; exact q
    intro z; rw [z, h] at q; cases q
end
/-- the slots again as they stood -/
theorem rel_thaw {K : Fg} {F : Fx} {S : FS} {σ : Sl} {H H1 : Hp} {i : Nat} {ds : List D} {a : Addr} {o : Obj} {vs vs1 : List V} (r : Rel K F S σ H) (hs : S[i]? = some (some (.own (.lst ds)))) (ea : σ[i]? = some (some (.ref a))) (hH : H a = some (.lst vs))
    (r1 : Rel K F (S.set i (some (.d (.list ds)))) σ H1) (p : Pers H H1) (n : noLS S = true) (h1 : H1 a = some (.frz o (.lst vs1))) (hv : PdAll K H1 vs1 ds) : Rel K F S σ (upd H1 a (.lst vs1)) ∧ Pers H (upd H1 a (.lst vs1)) := by
  have hl : i < S.length := (List.getElem?_eq_some_iff.mp hs).1
  have n' : ∀ j sv, S[j]? = some sv → noLSv sv = true := fun j sv e => List.all_eq_true.mp n _ (List.mem_of_getElem? e)
  have tS := tupS_thaw h1
  have ne : ∀ b u, H1 b = some u → (∀ o, u ≠ .frz o (.lst vs1)) → b ≠ a := fun b u e n z => by rw [z, h1] at e; cases e; exact n o rfl
  have p2 : Pers H (upd H1 a (.lst vs1)) := ⟨fun b xs e => by rw [upd_ne (ne b _ (p.tup b xs e) fun _ z => nomatch z)]; exact p.tup b xs e, fun b ob u e => by
    rw [upd_ne]; exact p.frz b ob u e
    intro z; rw [z, hH] at e; (cases e), fun b q => by
    obtain ⟨ps, e, t⟩ := p.tbl b q
    exact ⟨ps, by rw [upd_ne (ne b _ e fun _ z => nomatch z)]; exact e, t⟩⟩
  have h0 : F.H0 a = none := by
    obtain ⟨x, ex, b, rfl, _, z⟩ := r.slot i _ hs
    rw [ea] at ex; cases ex; exact z
  have e1 : ∀ j, j ≠ i → (S.set i (some (.d (.list ds))))[j]? = S[j]? := fun j h => List.getElem?_set_ne (Ne.symm h)
  have own1 : ∀ j, j ≠ i → Owned S j → Owned (S.set i (some (.d (.list ds)))) j := fun j hj ⟨ob, h⟩ => ⟨ob, by rw [e1 j hj]; exact h⟩
  have kp : ∀ b u, F.H0 b = some u → b ∉ F.pins.map (·.2) → isTbl u = false → upd H1 a (.lst vs1) b = some u := fun b u e nb nt => by
    have q := r1.keep b u e nb nt
    rw [upd_ne]; exact q
    intro z; rw [z, h0] at e; cases e
  refine ⟨⟨r.len, fun j sv e => ?_, r.apart, kp, fun b u e => ?_, fun P hP => ?_, F.cl.selfM p2 r.self, fun q hq => ?_⟩, p2⟩
  · by_cases hj : j = i
    · subst hj
      rw [hs] at e; cases e
      have nd : noLs ds = true := n' _ _ hs
      exact ⟨_, ea, a, rfl, ⟨vs1, upd_same, hv.noLs tS nd⟩, h0⟩
    · cases sv with
      | d d =>
        obtain ⟨x, ex, v⟩ := r.slot j _ e
        exact ⟨x, ex, Pd.mono p2 v⟩
      | own ob =>
        obtain ⟨x, ex, b, rfl, q, z⟩ := r1.slot j _ ((e1 j hj).trans e)
        obtain ⟨u, eu, mu, nt⟩ := q.there
        have nb : b ≠ a := ne b u eu fun _ z => by rw [z] at mu; exact mu
        exact ⟨_, ex, b, rfl, ObR.noL tS (upd_ne nb) (n' j _ e) q, z⟩
      | pin ob =>
        obtain ⟨x, ex, b, rfl, q, z⟩ := r1.slot j _ ((e1 j hj).trans e)
        obtain ⟨u, eu, mu, nt⟩ := q.there
        have nb : b ≠ a := ne b u eu fun _ z => by rw [z] at mu; exact mu
        exact ⟨_, ex, b, rfl, ObR.noL tS (upd_ne nb) (n' j _ e) q, z⟩
      | x y =>
        obtain ⟨x, ex, v⟩ := r.slot j _ e
        exact ⟨x, ex, SxR.later v p2 r.keep kp⟩
  · by_cases hb : b = a
    · subst hb; exact ⟨_, upd_same⟩
    · obtain ⟨v, q⟩ := r1.there b u e
      exact ⟨v, by rw [upd_ne hb]; exact q⟩
  · exact (r1.tabs P hP).thaw fun b u e nz => by rw [upd_ne (ne b _ e fun o => nz o vs1)]; exact e
  · obtain ⟨⟨e, em⟩, z, u⟩ := r1.held q hq
    have nb : q.1 ≠ a := ne q.1 _ e fun _ z => by rw [z] at em; exact em
    refine ⟨⟨by rw [upd_ne nb]; exact e, em⟩, z, fun j hj => ?_⟩
    by_cases hji : j = i
    · subst hji
      intro w
      rw [ea] at w; cases w
      exact nb rfl
    · exact u j (own1 j hji hj)
/-- a reading that freezes the list of slot i: it is owned again behind it -/
noncomputable def fThawD (i : Nat) (f : FS → Res D) : FS → Res D := fun S => match S[i]? with
  | some (some (.own (.lst ds))) => (match f S with
    | .ok d S' => @ite _ (S' = S.set i (some (.d (.list ds))) ∧ noLS S = true ∧ noL d = true) (Classical.propDecidable _) (.ok d S) .bad
    | _ => .bad)
  | _ => f S
section
variable {X : Cx} {F : Fx} {e : Expr} {i : Nat}
theorem frozen_at {pins : List (Addr × Obj)} {σ : L2.St} {H H1 : Hp} {s : Shared} {a : Addr} {ds : List D} {vs : List V} {S : FS} (I : Inv X pins σ H s) (hH : H a = some (.lst vs)) (ea : σ[i]? = some (some (.ref a))) (hl : i < S.length)
    (r1 : Rel X.K F (S.set i (some (.d (.list ds)))) σ H1) : ∃ o vs1, H1 a = some (.frz o (.lst vs1)) ∧ PdAll X.K H1 vs1 ds := by
  obtain ⟨x, ex, v⟩ := r1.slot i _ (List.getElem?_set_self hl)
  rw [ea] at ex; cases ex
  have v' : Pd X.K H1 (.ref a) (.list ds) := v
  cases v' with
  | lst h r =>
    rcases h with ⟨o, h⟩ | h
    · exact ⟨o, _, h, r⟩
    · exfalso
      rcases h with (h | ⟨o, h⟩) | ⟨o, its, n, hk, _⟩
      · cases h
      · cases h
      · have := (I.bs a o (I.mod.kin a o hk)).2
        rw [hH] at this; cases this
theorem e_thawD {f : FS → Res D} (h : ED X F e f) : ED X F e (fThawD i f) := by
  refine ⟨fun pins s σ H Q I ⟨S, r, p⟩ => ?_⟩
  unfold fThawD at p
  split at p
  · rename_i ds hs
    obtain ⟨x, ea, a, rfl, ⟨vs, hH, hv⟩, h0⟩ := r.slot i _ hs
    cases e : f S with
    | ok d S' =>
      rw [e] at p
      simp only at p
      split at p
      · rename_i hc
        obtain ⟨rfl, n, nd⟩ := hc
        refine thn (h.run pins s σ H (fun x H1 => Pers H H1 ∧ Rel X.K F (S.set i (some (.d (.list ds)))) σ H1 ∧ Pd X.K H1 x d) I ⟨S, r, by rw [e]; exact fun x H1 p1 r1 v => ⟨p1, r1, v⟩⟩) fun u s1 ⟨x, H1, I1, rx, p1, r1, v⟩ => ?_
        obtain ⟨o, vs1, h1, hv1⟩ := frozen_at I hH ea (List.getElem?_eq_some_iff.mp hs).1 r1
        obtain ⟨r2, p2⟩ := rel_thaw r hs ea hH r1 p1 n h1 hv1
        exact ⟨x, _, inv_thaw I1 h1 (fun o u z => by have := I.base.frzs a o u z; rw [hH] at this; cases this), rx, p x _ p2 r2 (v.noL (tupS_thaw h1) nd)⟩
      · exact p.elim
    | exn e2 S' => rw [e] at p; exact p.elim
    | bad => rw [e] at p; exact p.elim
  · exact h.run pins s σ H Q I ⟨S, r, p⟩
end
end Fz
end

section
set_option Elab.async false
set_option linter.all false
set_option maxRecDepth 100000
set_option maxHeartbeats 4000000
/-! F23: loops over typed lists; pure comprehensions; more weakest preconditions. -/
namespace Fz
open PySem L2
section
variable {α : Type} {S : FS} {N : FS → Prop} {R : SV → FS → Prop} {B C : FS → Prop} {f : α → D} {xs : List α}
/-- .. with what went before, too -/
theorem wS_forP {g : D → FS → Option FS} {b : FS → SRes} (I : List α → List α → FS → Prop) (h0 : I [] xs S) (step : ∀ p x r S, xs = p ++ x :: r → I p (x :: r) S → wO (g (f x) S) fun S1 => wS (b S1) (I (p ++ [x]) r) R N (I (p ++ [x]) r)) (hN : ∀ S, I xs [] S → N S) : wS (forF g b (xs.map f) S) N R B C := by
  refine wS_forF (fun i S => i ≤ xs.length ∧ I (xs.take i) (xs.drop i) S) ⟨Nat.zero_le _, h0⟩ ?_ ?_
  · intro i d S hd ⟨_, h⟩
    rw [List.getElem?_map] at hd
    obtain ⟨x, hx, rfl⟩ := Option.map_eq_some_iff.mp hd
    obtain ⟨h1, h2⟩ := List.getElem?_eq_some_iff.mp hx
    have e1 : xs.drop i = x :: xs.drop (i + 1) := by rw [List.drop_eq_getElem_cons h1, h2]
    have e2 : xs.take (i + 1) = xs.take i ++ [x] := by rw [List.take_add_one, hx]; rfl
    rw [e1] at h
    have st := step (xs.take i) x _ S (by rw [← e1, List.take_append_drop]) h
    rw [← e2] at st
    cases hg : g (f x) S with
    | none => rw [hg] at st; exact st.elim
    | some S1 =>
      rw [hg] at st
      exact wS.imp (r := b S1) st (fun S z => ⟨h1, z⟩) (fun _ _ z => z) (fun _ z => z) (fun S z => ⟨h1, z⟩)
  · intro S ⟨_, h⟩
    rw [List.length_map, List.drop_length, List.take_length] at h
    exact hN S h
theorem lc_w {g : D → FS → Option FS} {t : FS → Res Bool} {fe : FS → Res D} {vs : List Nat} {Q : SV → FS → Prop} (q : α → Bool) (h : α → D) (I : FS → Prop) (h0 : I S) (hl : xs.length ≤ 16000000)
    (step : ∀ x, x ∈ xs → ∀ S, I S → wO (g (f x) (wipeS S vs)) fun S1 => wE (t S1) fun k S2 => k = q x ∧ (k = false → I (restS S S2 vs)) ∧ (k = true → wE (fe S2) fun y S3 => y = h x ∧ I (restS S S3 vs)))
    (hQ : ∀ S, I S → Q (.own (.lst ((xs.filter q).map h))) S) : wE (lcF g t fe vs (xs.map f) S []) Q := by
  refine wE_lcF (fun i acc S => I S ∧ i ≤ xs.length ∧ acc = ((xs.take i).filter q).map h) ⟨h0, Nat.zero_le _, by simp⟩ ?_ ?_
  · rintro i d acc S hd ⟨hI, hi, rfl⟩
    rw [List.getElem?_map] at hd
    obtain ⟨x, hx, rfl⟩ := Option.map_eq_some_iff.mp hd
    obtain ⟨h1, h2⟩ := List.getElem?_eq_some_iff.mp hx
    have hm : x ∈ xs := List.mem_of_getElem? hx
    have st := step x hm S hI
    cases hg : g (f x) (wipeS S vs) with
    | none => rw [hg] at st; exact st.elim
    | some S1 =>
      rw [hg] at st
      have st : wE (t S1) _ := st
      rw [wO_some]
      have e2 : xs.take (i + 1) = xs.take i ++ [x] := by rw [List.take_add_one, hx]; rfl
      refine st.mono ?_
      rintro k S2 ⟨rfl, s1, s2⟩
      refine ⟨fun e => ⟨s1 e, h1, ?_⟩, fun e => ?_⟩
      · rw [e2]; simp [e]
      · refine (s2 e).mono ?_
        rintro y S3 ⟨rfl, s3⟩
        refine ⟨szS ?_, s3, h1, ?_⟩
        · rw [List.length_map]
          have a := List.length_filter_le q (xs.take i)
          rw [List.length_take] at a
          omega
        · rw [e2]; simp [e]
  · rintro acc S ⟨hI, _, rfl⟩
    rw [List.length_map, List.take_length]
    exact hQ S hI
end
section
variable {S : FS} {Q : D → FS → Prop} {QV : SV → FS → Prop} {d e : D}
end
@[simp] theorem eqv_tt {a b : D} {as bs : List D} : PyData.eqv (.tuple (a :: as)) (.tuple (b :: bs)) = (PyData.eqv a b && PyData.eqv (.tuple as) (.tuple bs)) := by simp only [PyData.eqv, PyData.eqvAll]
@[simp] theorem eqv_tn {b : D} {bs : List D} : PyData.eqv (.tuple []) (.tuple (b :: bs)) = false := by simp only [PyData.eqv, PyData.eqvAll]
@[simp] theorem eqv_tn2 {b : D} {bs : List D} : PyData.eqv (.tuple (b :: bs)) (.tuple []) = false := by simp only [PyData.eqv, PyData.eqvAll]
@[simp] theorem eqv_tnn : PyData.eqv (.tuple []) (.tuple []) = true := by simp only [PyData.eqv, PyData.eqvAll]
@[simp] theorem eqv_ll {a b : D} {as bs : List D} : PyData.eqv (.list (a :: as)) (.list (b :: bs)) = (PyData.eqv a b && PyData.eqv (.list as) (.list bs)) := by simp only [PyData.eqv, PyData.eqvAll]
@[simp] theorem eqv_ln {b : D} {bs : List D} : PyData.eqv (.list []) (.list (b :: bs)) = false := by simp only [PyData.eqv, PyData.eqvAll]
@[simp] theorem eqv_x_none_bool {b1 : Bool} : PyData.eqv .none (.bool b1) = false := by simp only [PyData.eqv]
@[simp] theorem eqv_x_none_int {i1 : Int} : PyData.eqv .none (.int i1) = false := by simp only [PyData.eqv]
@[simp] theorem eqv_x_none_str {s1 : Str} : PyData.eqv .none (.str s1) = false := by simp only [PyData.eqv]
@[simp] theorem eqv_x_none_tuple {t1 : List D} : PyData.eqv .none (.tuple t1) = false := by simp only [PyData.eqv]
@[simp] theorem eqv_x_none_list {l1 : List D} : PyData.eqv .none (.list l1) = false := by simp only [PyData.eqv]
@[simp] theorem eqv_x_none_W {w1 : List Int} : PyData.eqv .none (W w1) = false := by unfold W; simp only [PyData.eqv]
@[simp] theorem eqv_x_bool_none {b1 : Bool} : PyData.eqv (.bool b1) .none = false := by simp only [PyData.eqv]
@[simp] theorem eqv_x_bool_str {b1 : Bool} {s1 : Str} : PyData.eqv (.bool b1) (.str s1) = false := by simp only [PyData.eqv]
@[simp] theorem eqv_x_bool_tuple {b1 : Bool} {t1 : List D} : PyData.eqv (.bool b1) (.tuple t1) = false := by simp only [PyData.eqv]
@[simp] theorem eqv_x_bool_list {b1 : Bool} {l1 : List D} : PyData.eqv (.bool b1) (.list l1) = false := by simp only [PyData.eqv]
@[simp] theorem eqv_x_bool_W {b1 : Bool} {w1 : List Int} : PyData.eqv (.bool b1) (W w1) = false := by unfold W; simp only [PyData.eqv]
@[simp] theorem eqv_x_int_none {i1 : Int} : PyData.eqv (.int i1) .none = false := by simp only [PyData.eqv]
@[simp] theorem eqv_x_int_str {i1 : Int} {s1 : Str} : PyData.eqv (.int i1) (.str s1) = false := by simp only [PyData.eqv]
@[simp] theorem eqv_x_int_tuple {i1 : Int} {t1 : List D} : PyData.eqv (.int i1) (.tuple t1) = false := by simp only [PyData.eqv]
@[simp] theorem eqv_x_int_list {i1 : Int} {l1 : List D} : PyData.eqv (.int i1) (.list l1) = false := by simp only [PyData.eqv]
@[simp] theorem eqv_x_int_W {i1 : Int} {w1 : List Int} : PyData.eqv (.int i1) (W w1) = false := by unfold W; simp only [PyData.eqv]
@[simp] theorem eqv_x_str_none {s1 : Str} : PyData.eqv (.str s1) .none = false := by simp only [PyData.eqv]
@[simp] theorem eqv_x_str_bool {s1 : Str} {b1 : Bool} : PyData.eqv (.str s1) (.bool b1) = false := by simp only [PyData.eqv]
@[simp] theorem eqv_x_str_int {s1 : Str} {i1 : Int} : PyData.eqv (.str s1) (.int i1) = false := by simp only [PyData.eqv]
@[simp] theorem eqv_x_str_tuple {s1 : Str} {t1 : List D} : PyData.eqv (.str s1) (.tuple t1) = false := by simp only [PyData.eqv]
@[simp] theorem eqv_x_str_list {s1 : Str} {l1 : List D} : PyData.eqv (.str s1) (.list l1) = false := by simp only [PyData.eqv]
@[simp] theorem eqv_x_str_W {s1 : Str} {w1 : List Int} : PyData.eqv (.str s1) (W w1) = false := by unfold W; simp only [PyData.eqv]
@[simp] theorem eqv_x_tuple_none {t1 : List D} : PyData.eqv (.tuple t1) .none = false := by simp only [PyData.eqv]
@[simp] theorem eqv_x_tuple_bool {t1 : List D} {b1 : Bool} : PyData.eqv (.tuple t1) (.bool b1) = false := by simp only [PyData.eqv]
@[simp] theorem eqv_x_tuple_int {t1 : List D} {i1 : Int} : PyData.eqv (.tuple t1) (.int i1) = false := by simp only [PyData.eqv]
@[simp] theorem eqv_x_tuple_str {t1 : List D} {s1 : Str} : PyData.eqv (.tuple t1) (.str s1) = false := by simp only [PyData.eqv]
@[simp] theorem eqv_x_tuple_list {t1 : List D} {l1 : List D} : PyData.eqv (.tuple t1) (.list l1) = false := by simp only [PyData.eqv]
@[simp] theorem eqv_x_list_none {l1 : List D} : PyData.eqv (.list l1) .none = false := by simp only [PyData.eqv]
@[simp] theorem eqv_x_list_bool {l1 : List D} {b1 : Bool} : PyData.eqv (.list l1) (.bool b1) = false := by simp only [PyData.eqv]
@[simp] theorem eqv_x_list_int {l1 : List D} {i1 : Int} : PyData.eqv (.list l1) (.int i1) = false := by simp only [PyData.eqv]
@[simp] theorem eqv_x_list_str {l1 : List D} {s1 : Str} : PyData.eqv (.list l1) (.str s1) = false := by simp only [PyData.eqv]
@[simp] theorem eqv_x_list_tuple {l1 : List D} {t1 : List D} : PyData.eqv (.list l1) (.tuple t1) = false := by simp only [PyData.eqv]
@[simp] theorem eqv_x_list_W {l1 : List D} {w1 : List Int} : PyData.eqv (.list l1) (W w1) = false := by unfold W; simp only [PyData.eqv]
@[simp] theorem eqv_x_W_none {w1 : List Int} : PyData.eqv (W w1) .none = false := by unfold W; simp only [PyData.eqv]
@[simp] theorem eqv_x_W_bool {w1 : List Int} {b1 : Bool} : PyData.eqv (W w1) (.bool b1) = false := by unfold W; simp only [PyData.eqv]
@[simp] theorem eqv_x_W_int {w1 : List Int} {i1 : Int} : PyData.eqv (W w1) (.int i1) = false := by unfold W; simp only [PyData.eqv]
@[simp] theorem eqv_x_W_str {w1 : List Int} {s1 : Str} : PyData.eqv (W w1) (.str s1) = false := by unfold W; simp only [PyData.eqv]
@[simp] theorem eqv_x_W_list {w1 : List Int} {l1 : List D} : PyData.eqv (W w1) (.list l1) = false := by unfold W; simp only [PyData.eqv]
@[simp] theorem all_tt {α : Type} {xs : List α} : (xs.all fun _ => true) = true := by simp
@[simp] theorem any_ff {α : Type} {xs : List α} : (xs.any fun _ => false) = false := by simp
@[simp] theorem cutL_1 {α : Type} {xs : List α} : cutL xs (some 1) none = xs.drop 1 := cutL_drop xs 1
@[simp] theorem cutL_2 {α : Type} {xs : List α} : cutL xs (some 2) none = xs.drop 2 := cutL_drop xs 2
@[simp] theorem cutL_t1 {α : Type} {xs : List α} : cutL xs none (some 1) = xs.take 1 := cutL_take xs 1
@[simp] theorem cutL_t2 {α : Type} {xs : List α} : cutL xs none (some 2) = xs.take 2 := cutL_take xs 2
@[simp] theorem cutL_last {α : Type} {xs : List α} : cutL xs none (some (-1)) = xs.dropLast := by
  unfold cutL
  rw [HT.sIx_none, List.dropLast_eq_take]
  have : HT.sIx xs.length xs.length (some (-1)) = xs.length - 1 := by
    show (if (-1 : Int) < 0 then ((-1 : Int) + (xs.length : Int)).toNat else min (-1 : Int).toNat xs.length) = _
    rw [if_pos (by decide)]; omega
  rw [this, List.drop_zero, Nat.sub_zero]
@[simp] theorem atI_snoc {α : Type} {xs : List α} {x : α} : atI (xs ++ [x]) (-1) = some x := by
  rw [atI_last (by simp)]; simp
@[simp] theorem atI_nil {α : Type} {i : Int} : atI ([] : List α) i = none := by
  unfold atI; cases ixN 0 i <;> simp
@[simp] theorem nle0 {n : Nat} : ((n : Int) + 1 ≤ 0) = False := eq_false (by omega)
@[simp] theorem nlt0 {n : Nat} : (0 < (n : Int) + 1) = True := eq_true (by omega)
@[simp] theorem nne0 {n : Nat} : ((n : Int) + 1 = 0) = False := eq_false (by omega)
@[simp] theorem nnl {n : Nat} : ((n : Int) < 0) = False := eq_false (by omega)
@[simp] theorem szl_1 : (1 ≤ sizeLine) = True := eq_true (szL (by decide))
@[simp] theorem szl_2 : (2 ≤ sizeLine) = True := eq_true (szL (by decide))
@[simp] theorem szl_3 : (3 ≤ sizeLine) = True := eq_true (szL (by decide))
@[simp] theorem szl_4 : (4 ≤ sizeLine) = True := eq_true (szL (by decide))
@[simp] theorem szl_5 : (5 ≤ sizeLine) = True := eq_true (szL (by decide))
@[simp] theorem szl_6 : (6 ≤ sizeLine) = True := eq_true (szL (by decide))
@[simp] theorem szl_7 : (7 ≤ sizeLine) = True := eq_true (szL (by decide))
@[simp] theorem szl_8 : (8 ≤ sizeLine) = True := eq_true (szL (by decide))
@[simp] theorem szl_9 : (9 ≤ sizeLine) = True := eq_true (szL (by decide))
@[simp] theorem szl_10 : (10 ≤ sizeLine) = True := eq_true (szL (by decide))
@[simp] theorem szl_11 : (11 ≤ sizeLine) = True := eq_true (szL (by decide))
@[simp] theorem szl_12 : (12 ≤ sizeLine) = True := eq_true (szL (by decide))
@[simp] theorem szl_13 : (13 ≤ sizeLine) = True := eq_true (szL (by decide))
@[simp] theorem szl_14 : (14 ≤ sizeLine) = True := eq_true (szL (by decide))
@[simp] theorem szl_15 : (15 ≤ sizeLine) = True := eq_true (szL (by decide))
@[simp] theorem szl_16 : (16 ≤ sizeLine) = True := eq_true (szL (by decide))
@[simp] theorem szl_17 : (17 ≤ sizeLine) = True := eq_true (szL (by decide))
@[simp] theorem szl_18 : (18 ≤ sizeLine) = True := eq_true (szL (by decide))
@[simp] theorem szl_19 : (19 ≤ sizeLine) = True := eq_true (szL (by decide))
@[simp] theorem szl_20 : (20 ≤ sizeLine) = True := eq_true (szL (by decide))
@[simp] theorem szl_21 : (21 ≤ sizeLine) = True := eq_true (szL (by decide))
@[simp] theorem szl_22 : (22 ≤ sizeLine) = True := eq_true (szL (by decide))
@[simp] theorem szl_23 : (23 ≤ sizeLine) = True := eq_true (szL (by decide))
@[simp] theorem szl_24 : (24 ≤ sizeLine) = True := eq_true (szL (by decide))
@[simp] theorem szl_25 : (25 ≤ sizeLine) = True := eq_true (szL (by decide))
@[simp] theorem szl_26 : (26 ≤ sizeLine) = True := eq_true (szL (by decide))
@[simp] theorem szl_27 : (27 ≤ sizeLine) = True := eq_true (szL (by decide))
@[simp] theorem szl_28 : (28 ≤ sizeLine) = True := eq_true (szL (by decide))
@[simp] theorem szl_29 : (29 ≤ sizeLine) = True := eq_true (szL (by decide))
@[simp] theorem szl_30 : (30 ≤ sizeLine) = True := eq_true (szL (by decide))
@[simp] theorem filter_tt {α : Type} {xs : List α} : (xs.filter fun _ => true) = xs := by simp
theorem rng0 {n : Nat} : rngD 0 n = (List.range n).map fun i : Nat => PyData.int (i : Int) := by
  unfold rngD
  refine List.map_congr_left fun i _ => ?_
  simp
@[simp] theorem wE_pToInt_b {S : FS} {Q : D → FS → Prop} {b : Bool} : wE (pToInt (.bool b) S) Q = Q (.int (if b = true then 1 else 0)) S := rfl
theorem range_at {n x : Nat} {p r : List Nat} (e : List.range n = p ++ x :: r) : x = p.length ∧ p.length < n := by
  have e1 := congrArg (fun l => l[p.length]?) e
  have e2 := congrArg List.length e
  simp at e1 e2
  have : p.length < n := by omega
  rw [List.getElem?_range this] at e1
  exact ⟨by simpa using e1.symm, this⟩
section
variable {S : FS} {QV : SV → FS → Prop} {N : FS → Prop} {R : SV → FS → Prop} {B C : FS → Prop} {f : FS → Res D} {xs ys : List D} {k : Int} {i j : Int}
end
section
variable {S : FS} {QV : SV → FS → Prop} {fa : FS → Res D} {xs : List D}
@[simp] theorem wE_fRev : wE (fRev fa S) QV = wE (fa S) fun d S1 => wE (pRev d S1) QV := wE_bnd
@[simp] theorem wE_pRev_l : wE (pRev (.list xs) S) QV = QV (.own (.lst xs.reverse)) S := by rfl
@[simp] theorem wE_pRev_t : wE (pRev (.tuple xs) S) QV = QV (.d (.tuple xs.reverse)) S := by rfl
@[simp] theorem wE_pRev_W {w : List Int} : wE (pRev (W w) S) QV = QV (.d (W w.reverse)) S := by unfold W; rw [wE_pRev_t, List.map_reverse]
end
end Fz
end

section
set_option Elab.async false
set_option linter.all false
set_option maxRecDepth 100000
set_option maxHeartbeats 4000000
/-! F41: weakest preconditions of dicts, keyed sorts, thaws. -/
namespace Fz
open PySem L2
def dcO : Option (Option SV) → Option (List (D × D))
  | some (some (.own (.dic kvs))) => some kvs
  | some (some (.pin (.dic kvs))) => some kvs
  | _ => none
@[simp] theorem dcO_own {kvs : List (D × D)} : dcO (some (some (.own (.dic kvs)))) = some kvs := rfl
@[simp] theorem dcO_pin {kvs : List (D × D)} : dcO (some (some (.pin (.dic kvs)))) = some kvs := rfl
def dcR : Option (Option SV) → Option (List (D × D))
  | some (some (.own (.dic kvs))) => some kvs
  | some (some (.pin (.dic kvs))) => some kvs
  | some (some (.x (.ro (.dic kvs)))) => some kvs
  | _ => none
@[simp] theorem dcR_own {kvs : List (D × D)} : dcR (some (some (.own (.dic kvs)))) = some kvs := rfl
@[simp] theorem dcR_pin {kvs : List (D × D)} : dcR (some (some (.pin (.dic kvs)))) = some kvs := rfl
@[simp] theorem dcR_ro {kvs : List (D × D)} : dcR (some (some (.x (.ro (.dic kvs))))) = some kvs := rfl
@[simp] theorem dicRd_eq {S : FS} {i : Nat} : dicRd S i = dcR S[i]? := by
  unfold dicRd dcR
  rfl
@[simp] theorem dicAt_eq {S : FS} {i : Nat} : dicAt S i = dcO S[i]? := by
  unfold dicAt dcO
  rfl
section
variable {S : FS} {Q : D → FS → Prop} {QV : SV → FS → Prop} {N B C : FS → Prop} {R : SV → FS → Prop} {f fe fk fx : FS → Res D} {i : Nat} {den : Den}
@[simp] theorem wE_fDNew : wE (fDNew S) QV = QV (.own (.dic [])) S := rfl
theorem wE_wDic {α : Type} {k : List (D × D) → FS → Res α} {Q : α → FS → Prop} : wE (wDic i k S) Q = wO (dcR S[i]?) fun kvs => wE (k kvs S) Q := by
  unfold wDic
  rw [dicRd_eq]
  cases dcR S[i]? <;> rfl
theorem wS_wDicS {k : List (D × D) → FS → SRes} : wS (wDicS i k S) N R B C = wO (dcO S[i]?) fun kvs => wS (k kvs S) N R B C := by
  unfold wDicS
  rw [dicAt_eq]
  cases dcO S[i]? <;> rfl
@[simp] theorem wE_fDIx : wE (fDIx i f S) Q = wO (dcR S[i]?) fun _ => wE (f S) fun k S1 => wO (dcR S1[i]?) fun kvs => kOk kvs k = true ∧ wO (dAt kvs k) fun v => Q v S1 := by
  unfold fDIx
  rw [wE_wDic]
  congr 1; funext kvs0
  rw [wE_bnd]
  congr 1; funext k S1
  rw [wE_wDic]
  congr 1; funext kvs
  cases kOk kvs k <;> cases dAt kvs k <;> simp
@[simp] theorem wE_fDIn {b : Bool} : wE (fDIn b i f S) Q = wE (f S) fun k S1 => wO (dcR S1[i]?) fun kvs => kOk kvs k = true ∧ Q (.bool (xor (!b) (dHas kvs k))) S1 := by
  unfold fDIn
  rw [wE_bnd]
  congr 1; funext k S1
  rw [wE_wDic]
  congr 1; funext kvs
  cases kOk kvs k <;> simp
@[simp] theorem wS_fDPut : wS (fDPut i fe fk S) N R B C = wE (fe S) fun v S1 => wO (dcO S1[i]?) fun _ => wE (fk S1) fun k S2 => wO (dcO S2[i]?) fun kvs => kOk kvs k = true ∧ kvs.length < sizeLine ∧ N (S2.set i (some (mkO S2[i]? (.dic (dPut kvs k v))))) := by
  unfold fDPut
  rw [wS_bndS]
  congr 1; funext v S1
  rw [wS_wDicS]
  congr 1; funext kvs0
  rw [wS_bndS]
  congr 1; funext k S2
  rw [wS_wDicS]
  congr 1; funext kvs
  rw [← setOb_eq]
  by_cases h : kvs.length < sizeLine
  · cases kOk kvs k <;> simp [h]
  · cases kOk kvs k <;> simp [h]
@[simp] theorem seqD_l {ds : List D} : seqD (.list ds) = some ds := rfl
@[simp] theorem seqD_t {ds : List D} : seqD (.tuple ds) = some ds := rfl
/-- a thaw: the reading freezes the slot's list and nothing else -/
theorem thaw_w {ds : List D} (hs : S[i]? = some (some (.own (.lst ds)))) (n : noLS S = true) (h : wE (f S) fun d S' => S' = S.set i (some (.d (.list ds))) ∧ noL d = true ∧ Q d S) : wE (fThawD i f S) Q := by
  unfold fThawD
  rw [hs]
  simp only
  cases e : f S with
  | ok d S' =>
    rw [e] at h
    obtain ⟨h1, h2, h3⟩ := h
    simp only
    rw [if_pos ⟨h1, n, h2⟩]
    exact h3
  | exn _ _ => rw [e] at h; exact h
  | bad => rw [e] at h; exact h
end
/-! keys that are words -/
theorem nks_ints : ∀ xs : List Int, nks (xs.map .int) = some (xs.map .num)
  | [] => rfl
  | x :: xs => by simp only [List.map_cons, nks, nk, nks_ints xs]
@[simp] theorem nk_W {xs : List Int} : nk (W xs) = some (.tup (xs.map .num)) := by
  unfold W
  simp only [nk, nks_ints, Option.map_some]
theorem depthAll_ints : ∀ xs : List Int, NestedKey.depthAll (xs.map .num) = 0
  | [] => rfl
  | x :: xs => by simp only [List.map_cons, NestedKey.depthAll, NestedKey.depth, depthAll_ints xs]; rfl
@[simp] theorem tk_W {xs : List Int} : tk (W xs) = some (.tup (xs.map .num)) := by
  have := nk_W (xs := xs)
  unfold W at this ⊢
  show (match nk (PyData.tuple (xs.map .int)) with | some k => if k.depth ≤ 8 then some k else none | none => none) = _
  rw [this]
  simp [NestedKey.depth, depthAll_ints]
@[simp] theorem fk_W {xs : List Int} : fk (W xs) = none := rfl
theorem nums_inj : ∀ {xs ys : List Int}, xs.map NestedKey.num = ys.map NestedKey.num → xs = ys
  | [], [], _ => rfl
  | x :: xs, y :: ys, h => by
    simp only [List.map_cons, List.cons.injEq, NestedKey.num.injEq] at h
    rw [h.1, nums_inj h.2]
  | [], _ :: _, h => by simp at h
  | _ :: _, [], h => by simp at h
theorem nkW_iff {xs ys : List Int} : nk (W xs) = nk (W ys) ↔ xs = ys := by
  rw [nk_W, nk_W]
  constructor
  · intro h
    injection h with h
    injection h with h
    exact nums_inj h
  · intro h; rw [h]
end Fz
end

section
set_option Elab.async false
set_option linter.all false
set_option maxRecDepth 100000
set_option maxHeartbeats 4000000
/-! F42: own objects moved out of their slots. -/
namespace Fz
open PySem PySem.Spec PyProof.Rows L2
section
variable {X : Cx} {F : Fx} {e : Expr} {i : Nat}
end
section
variable {X : Cx} {F : Fx} {e : Expr} {i j k : Nat} {pos p kp np : Pos} {f : FS → Res SV} {x : Str} {ps : List Str} {den : Den}
end
end Fz
end

section
set_option Elab.async false
set_option linter.all false
set_option maxRecDepth 100000
set_option maxHeartbeats 4000000
/-! F43: thaws, where other lists of slots may be frozen for good on the way. -/
namespace Fz
open PySem PySem.Spec PyProof.Rows L2
section
variable {X : Cx} {F : Fx} {e : Expr} {i : Nat}
end
end Fz
end

section
set_option Elab.async false
set_option linter.all false
set_option maxRecDepth 100000
set_option maxHeartbeats 4000000
/-! F44: {k: v}. -/
namespace Fz
open PySem PySem.Spec PyProof.Rows L2
abbrev dict0 : Obj := { cls := .type "dict", data := .dict #[] }
section
variable {X : Cx} {pins : List (Addr × Obj)} {σ : L2.St} {H : Hp} {s : Shared}
/-- a new dict, not tracked yet -/
theorem inv_dict0 (I : Inv X pins σ H s) : Inv X ((s.heap.objs.size, dict0) :: pins) σ H { s with heap := s.heap.push dict0 } ∧ FpOk X pins H s.heap.objs.size := by
  have hn := I.hok.fresh (Nat.le_refl s.heap.objs.size)
  have f0 : FpOk X pins H s.heap.objs.size := I.fpOk (Nat.le_refl _) hn
  have I1 : Inv X pins σ H { s with heap := s.heap.push dict0 } := I.kept (t' := s.toks) fun _ _ q => Heap.get?_push_of_some _ q
  refine ⟨I1.pins_of fun p hp => ?_, f0⟩
  rcases List.mem_cons.mp hp with rfl | hp
  · exact ⟨Heap.get?_push_size _ rfl, hn, f0.2.1, f0.2.2.1, fun v e => nomatch e⟩
  · exact I1.pin p (List.mem_append_right _ hp)
theorem dict0_of {h : Heap} {q : Addr} (e : h.get? q = some dict0) (P : Program) (w : World) : h.DictOf (mixKind P w) q [] ∧ h.DictOfH (nestedKind P w) q [] :=
  ⟨⟨_, #[], 0, e, ⟨rfl, rfl, rfl⟩, rfl, by first | exact fun _ h => absurd h (by simp) | (intro i; simp) | simp [PySem.KeysOf], .nil, List.nodup_nil⟩, ⟨_, #[], 0, e, ⟨rfl, rfl, rfl⟩, rfl, rfl, fun _ h => (nomatch h), List.nodup_nil⟩⟩
end
/-- {k: v} -/
def fDisp1 (fk fv : FS → Res D) : FS → Res SV := fun S => match fk S with
  | .ok k S1 => (match fv S1 with
    | .ok v S2 => (match kOk [] k with
      | true => .ok (.own (.dic [(k, v)])) S2
      | false => .bad)
    | _ => .bad)
  | _ => .bad
section
variable {X : Cx} {F : Fx} {ke ve : Expr} {pos : Pos} {gk gv : FS → Res D}
theorem e_disp1 (hu : X.A.units + 70 < cLine) (hk : ED X F ke gk) (hv : ED X F ve gv) (hw : F.w = X.w := by rfl) : EV X F (.Dict [some ke] [ve] pos) (fDisp1 gk gv) := by
  refine ⟨fun pins s σ H Q I ⟨S, r, p⟩ => ?_⟩
  unfold fDisp1 at p
  cases e1 : gk S with
  | exn _ _ => rw [e1] at p; exact p.elim
  | bad => rw [e1] at p; exact p.elim
  | ok k S1 =>
    rw [e1] at p
    simp only at p
    cases e2 : gv S1 with
    | exn _ _ => rw [e2] at p; exact p.elim
    | bad => rw [e2] at p; exact p.elim
    | ok v S2 =>
      rw [e2] at p
      simp only at p
      cases ok : kOk [] k with
      | false => rw [ok] at p; exact p.elim
      | true =>
        rw [ok] at p
        simp only at p
        obtain ⟨I1, f0⟩ := inv_dict0 I
        have hn : H s.heap.objs.size = none := f0.1
        -- both parts evaluated
        have run : ∀ (Q2 : List (Value × Value) → Shared → Prop), (∀ s2 x y u w H2, Inv X ((s.heap.objs.size, dict0) :: pins) σ H2 s2 → Rel X.K F S2 σ H2 → Pers H H2 → Pd X.K H2 x k → Pd X.K H2 y v → RelV x u → RelV y w → Q2 [(u, w)] s2) →
            wpAny (model X.prog X.w) X.A (evalPairs (pairTrees [some ke] [ve] X.env pos)) Q2 X.xe { s with heap := s.heap.push dict0 } := by
          intro Q2 hQ
          refine pairTrees_cons_walk (thn (hk.run _ _ σ H (fun x H1 => Pers H H1 ∧ Rel X.K F S1 σ H1 ∧ Pd X.K H1 x k) I1 ⟨S, r, by rw [e1]; exact fun x H1 p1 r1 v => ⟨p1, r1, v⟩⟩) fun u s1 ⟨x, H1, J1, rx, p1, r1, v1⟩ => ?_)
          refine thn (hv.run _ _ σ H1 (fun y H2 => Pers H1 H2 ∧ Rel X.K F S2 σ H2 ∧ Pd X.K H2 y v) J1 ⟨S1, r1, by rw [e2]; exact fun y H2 p2 r2 v => ⟨p2, r2, v⟩⟩) fun w s2 ⟨y, H2, J2, ry, p2, r2, v2⟩ => ?_
          exact pairTrees_nil_walk (hQ s2 x y u w H2 J2 r2 (p1.trans p2) (v1.mono p2) v2 rx ry)
        -- the end: the dict tracked
        have fin : ∀ (s2 : Shared) (H2 : Hp) (h' : Heap) (tk : Nat) (o : HO), Inv X ((s.heap.objs.size, dict0) :: pins) σ H2 s2 → Rel X.K F S2 σ H2 → Pers H H2 → Heap.SameBut s.heap.objs.size s2.heap h' → ObjOk X.prog X.w (upd H2 s.heap.objs.size o) h' s.heap.objs.size o → DicR X.K X.w (upd H2 s.heap.objs.size o) s.heap.objs.size [(k, v)] →
            EP X pins σ Q (.ref s.heap.objs.size) { s2 with heap := h', toks := tk } := by
          intro s2 H2 h' tk o J2 r2 p2 sb new g
          have hn2 : H2 s.heap.objs.size = none := (J2.pin (s.heap.objs.size, dict0) (by simp)).2.1
          have J3 : Inv X pins σ H2 s2 := J2.pins_of fun z hz => J2.pin z (List.mem_append_right _ (List.mem_cons_of_mem _ hz))
          have J4 := J3.take (t' := tk) (o := o) (fun b ob hb e => (sb.2 b hb).trans e) ⟨hn2, f0.2⟩ new
          refine ⟨.ref s.heap.objs.size, _, J4, rfl, p _ _ (p2.trans (Pers.new hn2)) (r2.new hn2) ⟨s.heap.objs.size, rfl, ?_, r2.none0 hn2, fun j hj => r2.unslot hn2 hj, fun z hz e => ?_⟩⟩
          · rw [hw]; exact g
          · obtain ⟨⟨q, _⟩, _⟩ := r2.held z hz; rw [e, hn2] at q; cases q
        have hsm : (s.heap.objs.size == sysModules) = false := by
          have := I.big
          simp only [beq_eq_false_iff_ne, ne_eq]
          exact Nat.ne_of_gt this
        unfold kOk at ok
        rw [Bool.or_eq_true, Bool.and_eq_true, Bool.and_eq_true] at ok
        rcases ok with ⟨h1, _⟩ | ⟨h1, _⟩
        · obtain ⟨j, hj⟩ := Option.isSome_iff_exists.mp h1
          refine wpAny_Dict_walk (knd := mixKind X.prog X.w) rfl rfl (by simp) (by simp) (run _ fun s2 x y u w H2 J2 r2 p2 v1 v2 rx ry => ?_)
          have hg := (J2.pin (s.heap.objs.size, dict0) (by simp)).1
          have ex := fk_pd v1 hj
          subst ex
          refine ⟨[(j, w)], ⟨kV_is rx, rfl, trivial⟩, (dict0_of hg X.prog X.w).1, fun h' dd sb => fin s2 H2 h' _ (.dK [(j, y)]) J2 r2 p2 sb ⟨by rw [sizeLine_eq]; simp, hsm, _, .cons ⟨rfl, ry⟩ .nil, dd⟩ (.inl ⟨_, upd_same, .cons ⟨hj, ?_⟩ .nil⟩)⟩
          exact v2.mono (Pers.new (J2.pin (s.heap.objs.size, dict0) (by simp)).2.1)
        · obtain ⟨j, hj⟩ := Option.isSome_iff_exists.mp h1
          rw [arm_eval_Dict, zip_pairTrees [some ke] [ve] X.env pos rfl rfl, dictDisplay_pairs _ (by simp [pairTrees]) (by simp [pairTrees])]
          refine wpAny_bind (wpAny_standAt (wpAny_bind (wpAny_subDictH (knd := nestedKind X.prog X.w) (by show _ + 8 < _; omega) (by simp [pairTrees]) (run _ fun s2 x y u w H2 J2 r2 p2 v1 v2 rx ry => ?_))))
          have hg := (J2.pin (s.heap.objs.size, dict0) (by simp)).1
          have hn2 : H2 s.heap.objs.size = none := (J2.pin (s.heap.objs.size, dict0) (by simp)).2.1
          obtain ⟨b, rfl⟩ := tk_ref v1 hj
          obtain rfl : u = Value.ref b := rx
          refine ⟨[(j, b, w)], ⟨rfl, rfl, nested_key J2 v1 hj, trivial⟩, (dict0_of hg X.prog X.w).2, fun h' tk dd sb => wpAny_pure ?_⟩
          obtain ⟨o, es, ep, q1, q2, q3, q4, _, q5⟩ := dd
          refine fin s2 H2 h' tk (DicT X.w s.heap.objs.size [(j, b, y)]) J2 r2 p2 sb (DicT.ok ⟨by rw [sizeLine_eq]; simp, hsm, [(j, b, w)], .cons ⟨rfl, rfl, ry⟩ .nil, o, es, ep, q1, q2, q3, q4, q5⟩) (.inr ⟨_, by simp, upd_same, .cons ⟨hj, v1.mono (Pers.new hn2), v2.mono (Pers.new hn2)⟩ .nil⟩)
end
end Fz
end

section
set_option Elab.async false
set_option linter.all false
set_option maxRecDepth 100000
set_option maxHeartbeats 4000000
/-! F45: list comprehensions of two clauses. -/
namespace Fz
open PySem PySem.Spec PyProof.Rows L2
/-- the joined readings' wipes -/
theorem wipe_beside {σ σ3 : Sl} {vs ts : List Nat} (hts : ∀ j, j ∈ ts → j ∈ vs) (b3 : Beside ts (wipe σ vs) σ3) : wipe σ3 vs = wipe σ vs ∧ ∀ j, j ∉ vs → σ3[j]? = σ[j]? := by
  refine ⟨?_, fun j hj => by rw [b3.2 j (fun z => hj (hts j z)), wipe_eq, setAll_out hj]⟩
  apply List.ext_getElem?
  intro j
  by_cases hj : j ∈ vs
  · have l1 : (wipe σ3 vs).length = (wipe σ vs).length := by rw [wipe_length, b3.1]
    by_cases hl2 : j < σ.length
    · rw [wipe_eq, wipe_eq, setAll_in hj (by rw [b3.1, wipe_length]; exact hl2), setAll_in hj hl2]
    · rw [List.getElem?_eq_none (by rw [l1, wipe_length]; omega), List.getElem?_eq_none (by rw [wipe_length]; omega)]
  · rw [wipe_eq, setAll_out hj, b3.2 j (fun z => hj (hts j z)), wipe_eq]
section
variable {X : Cx} {F : Fx} {g : D → FS → Option FS} {t : FS → Res Bool} {fe : FS → Res D} {ts vs : List Nat}
end
section
variable {X : Cx} {F : Fx} {it it1 : FS → Res (List D)} {g g1 : D → FS → Option FS} {t t1 : FS → Res Bool} {fe : FS → Res D} {ts ts1 vs vs1 : List Nat}
variable {elt tg iter tg1 iter1 : Expr} {ifs ifs1 : List Expr} {scope : Scope} {own : List (Str × Nat)} {pos : Pos}
end
end Fz
end

section
set_option Elab.async false
set_option linter.all false
set_option maxRecDepth 100000
set_option maxHeartbeats 4000000
/-! F46: sum, max of a list of ints. -/
namespace Fz
open PySem PySem.Spec PyProof.Rows L2
section
variable {X : Cx} {F : Fx}
end
end Fz
end

section
set_option Elab.async false
set_option linter.all false
set_option maxRecDepth 100000
set_option maxHeartbeats 4000000
/-! F47: <, <=, >, >= of ints and of tuples of ints. -/
namespace Fz
open PySem PySem.Spec PyProof.Rows L2
section
variable {X : Cx} {F : Fx}
end
end Fz
end

section
set_option Elab.async false
set_option linter.all false
set_option maxRecDepth 100000
set_option maxHeartbeats 4000000
/-! F48: weakest preconditions for F42-F47. -/
namespace Fz
open PySem L2
section
variable {S : FS} {Q : D → FS → Prop} {QV : SV → FS → Prop} {f fk fv : FS → Res D} {g : FS → Res SV} {i : Nat} {den : Den}
@[simp] theorem wE_fDisp1 : wE (fDisp1 fk fv S) QV = wE (fk S) fun k S1 => wE (fv S1) fun v S2 => kOk [] k = true ∧ QV (.own (.dic [(k, v)])) S2 := by
  unfold fDisp1
  cases fk S with
  | ok k S1 =>
    simp only [wE_ok]
    cases fv S1 with
    | ok v S2 =>
      simp only [wE_ok]
      cases kOk [] k <;> simp
    | _ => rfl
  | _ => rfl
end
end Fz
end

section
set_option Elab.async false
set_option linter.all false
set_option maxRecDepth 100000
set_option maxHeartbeats 4000000
/-! F49: comprehensions of two clauses, pure: what they give. -/
namespace Fz
open PySem L2
section
variable {α β : Type} {f : α → D} {f1 : α → β → D} {vs vs1 : List Nat}
end
end Fz
end

section
set_option Elab.async false
set_option linter.all false
set_option maxRecDepth 100000
set_option maxHeartbeats 4000000
/-! F50: enumerate of a tuple, of a list. -/
namespace Fz
open PySem PySem.Spec PyProof.Rows L2 RZ
theorem meets_enumT (l : Addr) (xs : Array Value) :
    Meets (Builtin.«enumerate.__new__» ⟨[.type "enumerate", .ref l], []⟩) (fun _ R t => t.heap.IsTuple l xs ∧
      R (.ok (.ret (.ref (t.heap.push { cls := .type "tuple_iterator", data := .fields #[.ref l, .int 0 0] }).objs.size)))
        { t with heap := (t.heap.push { cls := .type "tuple_iterator", data := .fields #[.ref l, .int 0 0] }).push { cls := .type "enumerate", data := .fields #[.none, .bool false, .ref t.heap.objs.size, rawInt 0, .none, .none] } }) :=
  .of_wp fun prog w A R t ⟨hx, h⟩ => by
    obtain ⟨hp, g, d, tk, os⟩ := t
    have sub := sub_enumerate
    have tu : Heap.IsTuple (Shared.heap ⟨hp, g, d, tk, os⟩) l xs := hx
    obtain ⟨o, hl, hc, n, hd⟩ := id hx
    wp_walk
    refine wpAny_stack_any fun st => wpAny_pure ?_
    split
    · rename_i c _ _ _ _ _
      cases (c == Value.type "enumerate")
      · wp_walk using wpAny_pyIter_tuple tu
        exact ⟨_, rfl, h⟩
      · wp_walk using wpAny_pyIter_tuple tu
        exact ⟨_, rfl, h⟩
    · wp_walk using wpAny_pyIter_tuple tu
      exact ⟨_, rfl, h⟩
section
variable {prog : Program} {w : World} {A : Around} {E : Value → Shared → Prop} {s : Shared}
theorem call_enumT {l : Addr} {xs : Array Value} {Q : Value → Shared → Prop} (hx : s.heap.IsTuple l xs)
    (h : ∀ h', IsEnum h' (s.heap.objs.size + 1) s.heap.objs.size 0 .none → h'.IsTupleIter s.heap.objs.size l 0 →
      (∀ b o, s.heap.get? b = some o → h'.get? b = some o) → Q (.ref (s.heap.objs.size + 1)) { s with heap := h' }) :
    wpAny (model prog w) A (call (.type "enumerate") [.ref l]) Q E s := by
  refine callType_new F.called_enumerate (by decide) (F.typeCall_enumerate_1 _) (F.newCall_enumerate_1 _) (fun ob => F.args_object_init_2 ob _) F.entry_enumerate_new (meets_enumT l xs) ⟨hx, ?_⟩
  generalize hT : ({ cls := .type "tuple_iterator", data := .fields #[.ref l, .int 0 0] } : Obj) = T
  generalize hN : ({ cls := .type "enumerate", data := .fields #[.none, .bool false, .ref s.heap.objs.size, rawInt 0, .none, .none] } : Obj) = N
  have z : (s.heap.push T).objs.size = s.heap.objs.size + 1 := Heap.size_push ..
  have g2 : ((s.heap.push T).push N).get? (s.heap.objs.size + 1) = some N := by
    rw [← z]; exact Heap.get?_push_size _ (by rw [← hN]; rfl)
  have g1 : ((s.heap.push T).push N).get? s.heap.objs.size = some T := Heap.get?_push_of_some _ (Heap.get?_push_size _ (by rw [← hT]; rfl))
  show _ ∧ _
  rw [z]
  exact ⟨⟨N, g2, by rw [← hN]⟩, h _ (by rw [← hN] at g2 ⊢; exact g2) ⟨T, g1, by rw [← hT], by rw [← hT]; rfl⟩ fun b o x => Heap.get?_push_of_some _ (Heap.get?_push_of_some _ x)⟩
theorem draws_tup (hh : A.handled = none) (it l : Addr) (hne : l ≠ it) (xs : Array Value) :
    Draws prog w A it [it, l] xs.size (fun i v => xs[i]? = some v) (fun i h => h.IsTupleIter it l i ∧ h.IsTuple l xs) where
  live := fun i h st => let ⟨⟨o, e, _⟩, _⟩ := st; ⟨o, e⟩
  frame := fun i h h' st k => ⟨st.1.at fun o e => k it (by simp) o e, st.2.at fun o e => k l (by simp) o e⟩
  item := fun i s Q E hi st hQ => nextOf_tuple_item st.1 st.2 (x := xs[i]) (by simp [hi]) fun h' q sb =>
    hQ _ h' s.toks (by simp [hi]) ⟨q, st.2.at fun o e => (sb.2 l hne).trans e⟩ sb
  done := fun s Q E st hE => nextOf_tuple_end hh st.1 st.2 (by simp) hE
end
/-- the tuple at a as it stands at each turn, each item in a new pair -/
def IteT (K : PySem.W.Frag) (a : Addr) : It :=
  ⟨fun i H => ∃ (xs : List V) (x : V), SqT K H a xs ∧ xs[i]? = some x, fun i H v H' => ∃ T x, v = .ref T ∧ H T = none ∧ H' = upd H T (.tup [.int (i : Nat), x]) ∧ ∀ xs, SqT K H a xs → xs[i]? = some x, fun i H => ∃ xs : List V, SqT K H a xs ∧ xs.length ≤ i⟩
theorem turn_enumT {P : Program} {w : World} {K : PySem.W.Frag} {elts : List Expr} {kk : Nat} {tpos : Pos} (a e it : Addr) :
    Turn P w K (.Tuple elts kk tpos) (IteT K a) [e, it] e (fun i h => (∃ old, IsEnum h e it ((i : Nat) : Int) old) ∧ h.IsTupleIter it a i ∧ e ≠ it ∧ a ≠ e ∧ a ≠ it) where
  mem := by simp
  obj := fun i h st b hb => by
    obtain ⟨⟨old, he⟩, ⟨o, ho, hc, hd⟩, _⟩ := st
    have q : b = e ∨ b = it := by simpa using hb
    rcases q with q | q <;> rw [q]
    · exact ⟨_, he, fun v z => nomatch z⟩
    · exact ⟨o, ho, fun v z => by rw [hd] at z; cases z⟩
  keep := fun i h h' st k => let ⟨⟨old, he⟩, hi, r⟩ := st; ⟨⟨old, k e (by simp) _ he⟩, hi.at fun o q => k it (by simp) o q, r⟩
  item := by
    intro X hP hw hK hc i pins s σ H E I hf st hg
    subst hP hw hK
    obtain ⟨⟨old, he⟩, hit, n1, n2, n3⟩ := st
    obtain ⟨xs, x, hq, hx⟩ := hg
    obtain ⟨its, rv, p, _⟩ := I.tuple hq
    obtain ⟨u, hu, ru⟩ := rv.get hx
    have lt1 : e < s.heap.objs.size := Heap.lt_size he
    have lt2 : it < s.heap.objs.size := by obtain ⟨_, q, _⟩ := hit; exact Heap.lt_size q
    have hi : i < its.toArray.size := by
      have := (List.getElem?_eq_some_iff.mp hu).1
      simpa using this
    refine wpAny_pyNext_enum_itemD (draws_tup (A := X.A.in1) (show X.A.in1.handled = none from I.ok.hd hc) it a n3 its.toArray) he ⟨hit, p⟩ hi n1 (by simp [n1, Ne.symm n2]) fun y h1 tk py o1 st1 gT sz kp => ?_
    obtain rfl : y = u := by
      have py : its[i]? = some y := by simpa using py
      rw [hu] at py; exact (Option.some.inj py).symm
    refine ⟨_, rfl, wpAny_letOwnedTupleGo_enum (s := { s with heap := h1, toks := tk + 1 }) o1 fun h2 he2 sb => ?_⟩
    have gT2 : h2.get? s.heap.objs.size = some { cls := .type "tuple", data := .seq #[.int i tk, y] } := (sb.2 _ (Nat.ne_of_gt lt1)).trans gT
    have new : ObjOk X.prog X.w (upd H s.heap.objs.size (.tup [.int (i : Nat), x])) h2 s.heap.objs.size (.tup [.int (i : Nat), x]) :=
      ⟨by show 2 ≤ sizeLine; decide, [.int i tk, y], .cons ⟨_, rfl⟩ (.cons ru .nil), ⟨_, gT2, rfl, _, rfl⟩⟩
    have I1 : Inv X pins σ (upd H s.heap.objs.size (.tup [.int (i : Nat), x])) { s with heap := h2, toks := tk + 1 } :=
      I.turnedNew (t' := tk + 1) (ch := [e, it]) (fun b ob hb q => (sb.2 b (fun z => hb (by simp [z]))).trans (kp b ob (fun z => hb (by simp [z])) (fun z => hb (by simp [z])) q)) hf (Nat.le_refl _) new
    refine ⟨.ref s.heap.objs.size, _, I1, rfl, ⟨_, x, rfl, I.hok.fresh (Nat.le_refl _), rfl, fun ys hy => by rw [I.tuple_inj hy hq]; exact hx⟩, ⟨⟨y, ?_⟩, st1.1.at fun o q => (sb.2 it (Ne.symm n1)).trans q, n1, n2, n3⟩, fun b hb => ?_⟩
    · rw [show ((i + 1 : Nat) : Int) = (i : Int) + 1 by omega]; exact he2
    · have lt : b < s.heap.objs.size := by
        have q : b = e ∨ b = it := by simpa using hb
        rcases q with q | q <;> rw [q] <;> assumption
      rw [upd_ne (Nat.ne_of_lt lt)]
      exact (hf b hb).1
  done := by
    intro X hP hw hK hc i pins s σ H E I hf st hg
    subst hP hw hK
    obtain ⟨⟨old, he⟩, hit, n1, n2, n3⟩ := st
    obtain ⟨xs, hq, hx⟩ := hg
    obtain ⟨its, rv, p, _⟩ := I.tuple hq
    obtain ⟨f0, f1, f2, f3, f4, f5⟩ := hf it (by simp)
    have hl := rv.length
    -- the end of the walk
    have D2 : Draws X.prog X.w X.A.in1 it [it, a] i (fun i v => its.toArray[i]? = some v ∧ False) (fun j h => j = i ∧ h.IsTupleIter it a i ∧ h.IsTuple a its.toArray) :=
      ⟨fun j h st => let ⟨_, ⟨o, e, _⟩, _⟩ := st; ⟨o, e⟩, fun j h h' st k => ⟨st.1, st.2.1.at fun o e => k it (by simp) o e, st.2.2.at fun o e => k a (by simp) o e⟩,
        fun j s Q E hj st _ => absurd st.1 (Nat.ne_of_lt hj), fun s Q E st hE => nextOf_tuple_end (I.ok.hd hc) st.2.1 st.2.2 (by simp; omega) hE⟩
    exact wpAny_pyNext_enum_endD D2 he ⟨rfl, hit, p⟩ fun h' eb => ⟨rfl, I.turned (t' := s.toks) (fun b o hb q => eb b o hb q) f0 f1 f3 f4 f5⟩
  self := fun A i s Q E st h => let ⟨⟨_, he⟩, _⟩ := st; wpAny_pyIter_enum he h
def iEnumA (K : PySem.W.Frag) (ta : TA) : TI := fun σ H R => ta σ H fun vs H1 => ∃ a xs, vs = [.ref a] ∧ ((SqL K H1 a xs ∧ R (Ite K a) H1) ∨ (SqT K H1 a xs ∧ R (IteT K a) H1))
theorem pi_enumA {X : Cx} {e : Expr} {ta : TA} {p pos tpos : Pos} {elts : List Expr} {kk : Nat} (hg : Gl X "enumerate") (hm : X.mg "enumerate" = none) (ha : PA X [e] ta) (hs : starEach [e] X.env = [(false, eval e X.env)] := by rfl) :
    PI X (.Tuple elts kk tpos) (.Call (.Name "enumerate" p) [e] [] pos) (iEnumA X.K ta) := by
  refine ⟨fun pins s σ H R I h => ?_⟩
  refine Call_ (ld_blt I hg hm boot_enumerate (PyProof.Rows.callWith_type1 (thn (ha.run pos pins s σ H _ I h) fun us t ⟨vs, H1, I1, r1, q1⟩ => ?_) hs rfl))
  obtain ⟨a, xs, rfl, q⟩ := q1
  cases r1 with
  | cons r rr =>
    cases rr
    obtain rfl := r
    have fp : ∀ b ∈ [t.heap.objs.size + 1, t.heap.objs.size], FpOk X pins H1 b := fun b hb => by
      have le : t.heap.objs.size ≤ b := by
        have q : b = t.heap.objs.size + 1 ∨ b = t.heap.objs.size := by simpa using hb
        rcases q with q | q <;> omega
      exact I1.fpOk le (I1.hok.fresh le)
    rcases q with ⟨hq, q⟩ | ⟨hq, q⟩
    · obtain ⟨its, rv, p', _⟩ := I1.list hq
      refine call_enumerate_list p'.isList fun h' he hit hsz hk => wpAny_pyIter_enum he ?_
      exact ⟨t.heap.objs.size + 1, [t.heap.objs.size + 1, t.heap.objs.size], _, _, H1, rfl, I1.kept (t' := t.toks) hk, turn_enum a _ _, ⟨⟨.none, he⟩, hit, Nat.succ_ne_self _⟩, fp, q⟩
    · obtain ⟨its, rv, p', _⟩ := I1.tuple hq
      obtain ⟨o, ho, _⟩ := id p'
      have lt : a < t.heap.objs.size := Heap.lt_size ho
      refine call_enumT (show t.heap.IsTuple a its.toArray from p') fun h' he hit hk => wpAny_pyIter_enum he ?_
      exact ⟨t.heap.objs.size + 1, [t.heap.objs.size + 1, t.heap.objs.size], _, _, H1, rfl, I1.kept (t' := t.toks) hk, turn_enumT a _ _, ⟨⟨.none, he⟩, hit, Nat.succ_ne_self _, Nat.ne_of_lt (Nat.lt_succ_of_lt lt), Nat.ne_of_lt lt⟩, fp, q⟩
/-! its den -/
def enumD (ds : List D) : List D := zipD (rngD 0 ds.length) ds
theorem enumD_get {ds : List D} {i : Nat} {d : D} (h : (enumD ds)[i]? = some d) : ∃ y, d = .tuple [.int (i : Nat), y] ∧ ds[i]? = some y := by
  obtain ⟨x, y, rfl, g1, g2⟩ := zipD_get h
  obtain ⟨_, rfl⟩ := rngD_get g1
  exact ⟨y, by simp, g2⟩
theorem enumD_len {ds : List D} : (enumD ds).length = ds.length := by simp [enumD, zipD, rngD]
theorem yields_enum {K : Fg} {H1 : Hp} {a : Addr} {vs : List V} {ds : List D} (h : FrzL K H1 a vs) (r : PdAll K H1 vs ds) : Yields K (Ite K a) H1 (enumD ds) where
  go := fun i H p hi => by
    rw [enumD_len] at hi
    obtain ⟨x, h1, _⟩ := r.get (List.getElem?_eq_getElem hi)
    exact ⟨vs, x, (h.mono p).sq, h1⟩
  stop := fun H p => ⟨vs, (h.mono p).sq, by rw [r.length, enumD_len]; exact Nat.le_refl _⟩
  yld := fun i H x H' d p hd ⟨T, u, e1, e2, e3, q1⟩ => by
    subst e1 e3
    obtain ⟨dy, rfl, g2⟩ := enumD_get hd
    have k1 := q1 vs (h.mono p).sq
    obtain ⟨y', m2, n2⟩ := r.get g2
    rw [k1] at m2; cases m2
    have p1 : Pers H (upd H T (.tup [.int (i : Nat), u])) := Pers.new e2
    exact ⟨p1, fun F S σ r => r.new e2, .tup (.inl (.inl upd_same)) (.cons (.int _) (.cons (n2.mono (p.trans p1)) .nil))⟩
theorem yields_enumT {K : Fg} {H1 : Hp} {a : Addr} {vs : List V} {ds : List D} (h : SqT K H1 a vs) (r : PdAll K H1 vs ds) : Yields K (IteT K a) H1 (enumD ds) where
  go := fun i H p hi => by
    rw [enumD_len] at hi
    obtain ⟨x, h1, _⟩ := r.get (List.getElem?_eq_getElem hi)
    exact ⟨vs, x, sqT_mono p h, h1⟩
  stop := fun H p => ⟨vs, sqT_mono p h, by rw [r.length, enumD_len]; exact Nat.le_refl _⟩
  yld := fun i H x H' d p hd ⟨T, u, e1, e2, e3, q1⟩ => by
    subst e1 e3
    obtain ⟨dy, rfl, g2⟩ := enumD_get hd
    have k1 := q1 vs (sqT_mono p h)
    obtain ⟨y', m2, n2⟩ := r.get g2
    rw [k1] at m2; cases m2
    have p1 : Pers H (upd H T (.tup [.int (i : Nat), u])) := Pers.new e2
    exact ⟨p1, fun F S σ r => r.new e2, .tup (.inl (.inl upd_same)) (.cons (.int _) (.cons (n2.mono (p.trans p1)) .nil))⟩
def fEnum (f : FS → Res D) : FS → Res (List D) := bnd f fun d S => match d with
  | .list ds => .ok (enumD ds) S
  | .tuple ds => .ok (enumD ds) S
  | _ => .bad
theorem i_enum {X : Cx} {F : Fx} {pos : Pos} {elts : List Expr} {kk : Nat} {tpos p : Pos} {a : Expr} {f : FS → Res D} (hg : Gl X "enumerate") (hm : X.mg "enumerate" = none) (ha : ED X F a f) (hsa : starEach [a] X.env = (false, eval a X.env) :: starEach [] X.env := by rfl) :
    EI X F (.Tuple elts kk tpos) (.Call (.Name "enumerate" p) [a] [] pos) (fEnum f) := by
  refine ⟨fun pins s σ H R I ⟨S, r, q⟩ => ?_⟩
  refine (pi_enumA hg hm (pa_cons ha pa_nil hsa) hsa).run pins s σ H R I ⟨S, r, ?_⟩
  unfold fEnum bnd at q
  cases e : f S with
  | exn e2 S1 => rw [e] at q; exact q
  | bad => rw [e] at q; exact q
  | ok d S1 =>
    rw [e] at q
    intro x H1 p1 r1 v
    simp only [Res.bind_ok] at q
    cases d with
    | list ds =>
      cases v with
      | lst h1 q1 => exact ⟨_, _, rfl, .inl ⟨h1.sq, q _ H1 p1 r1 (yields_enum h1 q1)⟩⟩
    | tuple ds =>
      cases v with
      | tup h1 q1 => exact ⟨_, _, rfl, .inr ⟨h1, q _ H1 p1 r1 (yields_enumT h1 q1)⟩⟩
    | _ => exact q.elim
section
variable {S : FS} {QL : List D → FS → Prop} {f : FS → Res D}
def wEnum (d : D) (k : List D → Prop) : Prop := match d with
  | .list ds => k (enumD ds)
  | .tuple ds => k (enumD ds)
  | _ => False
@[simp] theorem wEnum_t {ds : List D} {k : List D → Prop} : wEnum (.tuple ds) k = k (enumD ds) := rfl
@[simp] theorem wEnum_l {ds : List D} {k : List D → Prop} : wEnum (.list ds) k = k (enumD ds) := rfl
@[simp] theorem wE_fEnum : wE (fEnum f S) QL = wE (f S) fun d S1 => wEnum d fun ds => QL ds S1 := by
  unfold fEnum; rw [wE_bnd]; congr; funext d S1
  cases d <;> rfl
end
end Fz
end

section
set_option Elab.async false
set_option linter.all false
set_option maxRecDepth 100000
set_option maxHeartbeats 4000000
/-! F51: tuple(range(..)), list(range(..)). -/
namespace Fz
open PySem PySem.Spec PyProof.Rows L2
section
variable {X : Cx} {F : Fx} {a b : Expr} {f g : FS → Res D} {p p2 pos pos2 : Pos}
end
section
variable {S : FS} {Q : D → FS → Prop} {QV : SV → FS → Prop} {f g : FS → Res D}
end
end Fz
end

section
set_option Elab.async false
set_option linter.all false
set_option maxRecDepth 100000
set_option maxHeartbeats 4000000
/-! F52: sets of nested tuples: what is asked of a member; the search. -/
namespace Fz
open PySem PySem.Spec PyProof.Rows L2
section
variable {P : Program} {w : World}
/-- a yes or no that changes nothing -/
def AnsB (P : Program) (w : World) (m : Sem Bool) (s : Shared) (b : Bool) : Prop := ∀ (A : Around) (E : Value → Shared → Prop) (Q : Bool → Shared → Prop), Q b s → wpAny (model P w) A m Q E s
theorem ansB_pure {s : Shared} {b : Bool} : AnsB P w (pure b) s b := fun _ _ _ q => wpAny_pure q
mutual
theorem hb_key : ∀ (k : NestedKey) (v : Value) (n : Nat) (s : Shared), NestedIs s.heap k v → ∃ b, AnsB P w (hashByValue n v) s b
  | .none, _, n, s, x => by cases x; exact ⟨true, by cases n <;> exact ansB_pure⟩
  | .num i, _, n, s, x => by cases x <;> exact ⟨true, by cases n <;> exact ansB_pure⟩
  | .text y, _, n, s, x => by cases x; exact ⟨false, by cases n <;> exact ansB_pure⟩
  | .tup ks, _, n, s, x => by
    cases x with
    | @tup a o vs m _ hg hc hd hk =>
      cases n with
      | zero => exact ⟨false, ansB_pure⟩
      | succ n =>
        obtain ⟨r, hr⟩ := hb_keys ks vs.toList n s hk
        refine ⟨r.getD true, fun A E Q q => ?_⟩
        unfold hashByValue
        refine wpAny_bind (wpAny_specialOf (show s.TypeIs (.ref a) "tuple" from ⟨o, hg, hc⟩) F.slot_tuple_hash.lookup ?_)
        show wpAny _ _ (seqItems? (.ref a) >>= _) _ _ s
        refine wpAny_bind (wpAny_seqItems hg hd ?_)
        show wpAny _ _ (forIn vs _ _ >>= _) _ _ s
        rw [← Array.forIn_toList]
        refine wpAny_bind (hr A E _ ?_)
        cases r <;> exact wpAny_pure q
theorem hb_keys : ∀ (ks : List NestedKey) (vs : List Value) (n : Nat) (s : Shared), NestedAll s.heap ks vs → ∃ r : Option Bool, ∀ (A : Around) (E : Value → Shared → Prop) (Q : Option Bool × Unit → Shared → Prop), Q (r, ()) s →
      wpAny (model P w) A (forIn vs ((none, ()) : Option Bool × Unit) fun x _ => do
        let y ← hashByValue n x
        if (!y) = true then pure (ForInStep.done (some false, ())) else pure (ForInStep.yield (none, ()))) Q E s
  | [], _, n, s, x => by cases x; exact ⟨none, fun A E Q q => wpAny_pure q⟩
  | k :: ks, _, n, s, x => by
    cases x with
    | @cons _ v _ vs x1 x2 =>
      obtain ⟨b1, h1⟩ := hb_key k v n s x1
      obtain ⟨r, h2⟩ := hb_keys ks vs n s x2
      cases b1 with
      | false =>
        refine ⟨some false, fun A E Q q => ?_⟩
        rw [List.forIn_cons, bind_assoc]
        exact wpAny_bind (h1 A E _ (wpAny_bind (wpAny_pure (wpAny_pure q))))
      | true =>
        refine ⟨r, fun A E Q q => ?_⟩
        rw [List.forIn_cons, bind_assoc]
        exact wpAny_bind (h1 A E _ (wpAny_bind (wpAny_pure (h2 A E Q q))))
end
mutual
theorem oc_key : ∀ (k : NestedKey) (v : Value) (n : Nat) (s : Shared), NestedIs s.heap k v → k.depth ≤ n → AnsB P w (ofAClassStatement n v) s false
  | .none, _, n, s, x, _ => by cases x; cases n <;> exact ansB_pure
  | .num i, _, n, s, x, _ => by cases x <;> cases n <;> exact ansB_pure
  | .text y, _, n, s, x, _ => by cases x; cases n <;> exact ansB_pure
  | .tup ks, _, n, s, x, hn => by
    cases x with
    | @tup a o vs m _ hg hc hd hk =>
      simp only [NestedKey.depth] at hn
      cases n with
      | zero => omega
      | succ n =>
        intro A E Q q
        have ok := oc_keys ks vs.toList n s hk (by omega)
        unfold ofAClassStatement
        refine wpAny_bind (wpAny_typeOf (show s.TypeIs (.ref a) "tuple" from ⟨o, hg, hc⟩) ?_)
        dsimp only
        have e : (("tuple" : String) == "tuple") = true := by decide
        simp only [e, if_true, Bool.not_true, Bool.false_eq_true, if_false]
        try refine wpAny_bind (wpAny_pure ?_)
        try simp only [Bool.not_true, Bool.false_eq_true, if_false]
        show wpAny _ _ (seqItems? (.ref a) >>= _) _ _ s
        refine wpAny_bind (wpAny_seqItems hg hd ?_)
        dsimp only
        refine wpAny_bind ?_
        show wpAny _ _ (forIn vs _ _) _ _ s
        rw [← Array.forIn_toList]
        refine wpAny_forIn_list _ (fun rest r t => r.1 = none ∧ t = s ∧ ∀ v ∈ rest, AnsB P w (ofAClassStatement n v) s false) _ ?_ ?_ _ _ ⟨rfl, rfl, ok⟩
        · rintro v rest r t ⟨h1, rfl, h2⟩
          refine wpAny_bind (h2 v List.mem_cons_self _ _ _ ?_)
          rw [if_neg Bool.false_ne_true]
          exact wpAny_pure ⟨rfl, rfl, fun u hu => h2 u (List.mem_cons_of_mem _ hu)⟩
        · rintro ⟨r1, r2⟩ t ⟨h1, rfl, _⟩
          simp only at h1
          subst h1
          exact wpAny_pure q
theorem oc_keys : ∀ (ks : List NestedKey) (vs : List Value) (n : Nat) (s : Shared), NestedAll s.heap ks vs → NestedKey.depthAll ks ≤ n → ∀ v ∈ vs, AnsB P w (ofAClassStatement n v) s false
  | [], _, n, s, x, _, v, hv => by cases x; cases hv
  | k :: ks, _, n, s, x, hn, v, hv => by
    cases x with
    | cons x1 x2 =>
      simp only [NestedKey.depthAll] at hn
      rcases List.mem_cons.mp hv with e | hv
      · rw [e]; exact oc_key k _ n s x1 (by omega)
      · exact oc_keys ks _ n s x2 (by omega) v hv
end
end
/-! ### the set -/
abbrev KIs (P : Program) (w : World) (h : Heap) (k : NestedKey) (a : Addr) : Prop := (nestedKind P w).is h k a
abbrev Mem := Addr × NestedKey
def rowN (w : World) (L : List Mem) : List (Int × Value) := L.map fun p => (p.2.hash w, Value.ref p.1)
def hsN (w : World) (L : List Mem) : List Int := L.map fun p => p.2.hash w
/-- what stands at a is a set with the rows L, its table in order -/
structure SetN (P : Program) (w : World) (h : Heap) (a : Addr) (L : List Mem) (es : Array (Int × Value)) (ep : Nat) (t : SetTable) : Prop where
  here : ∃ o, h.get? a = some o ∧ o.ExactSet ∧ o.data = .set es ep t
  rows : es.toList = rowN w L
  tab : L2.TabOk t (hsN w L)
  uniq : (L.map (·.2)).Nodup
  keys : ∀ p ∈ L, KIs P w h p.2 p.1
  led : w.params.followText "set-order" = true ∨ t.led = true
  room : L.length * 5 < t.mask * 3
  few : L.length < 64
section
variable {P : Program} {w : World} {A : Around} {E : Value → Shared → Prop} {s : Shared} {a : Addr} {L : List Mem} {es : Array (Int × Value)} {ep : Nat} {t : SetTable}
theorem SetN.size (R : SetN P w s.heap a L es ep t) : es.size = L.length := by
  rw [← Array.length_toList, R.rows]; exact List.length_map _
theorem SetN.psize (R : SetN P w s.heap a L es ep t) : t.place.size = L.length := by
  rw [R.tab.sz]; exact List.length_map _
theorem SetN.fits (R : SetN P w s.heap a L es ep t) : t.fits es.size = true := by
  have a1 := R.psize
  have a2 := R.size
  have a3 := R.room
  unfold SetTable.fits SetTable.fill
  rw [R.tab.dm, Bool.and_eq_true, beq_iff_eq, decide_eq_true_eq]
  refine ⟨by omega, ?_⟩
  show t.place.size + 0 ≤ t.mask
  omega
theorem SetN.row (R : SetN P w s.heap a L es ep t) {i : Nat} {p : Mem} (h : L[i]? = some p) : es[i]? = some (p.2.hash w, Value.ref p.1) := by
  rw [← Array.getElem?_toList, R.rows, rowN, List.getElem?_map, h]; rfl
theorem SetN.stood (R : SetN P w s.heap a L es ep t) : ¬ t.gaveWay = true := by
  unfold SetTable.gaveWay
  rw [L2.mask_odd R.tab.mok]
  decide
/-- a search among such tuples tells nothing -/
theorem seenN {k : NestedKey} {b : Addr} {ys : List Value} {Q : Bool → Shared → Prop} (hk : KIs P w s.heap k b) (hy : ∀ y ∈ ys, ∃ j c, y = Value.ref c ∧ KIs P w s.heap j c) (q : Q false s) :
    wpAny (model P w) A (searchCouldBeSeen (.ref b) ys) Q E s := by
  unfold searchCouldBeSeen
  refine wpAny_bind ?_
  refine wpAny_forIn_list _ (fun rest r u => r.1 = none ∧ u = s ∧ ∀ y ∈ rest, ∃ j c, y = Value.ref c ∧ KIs P w s.heap j c) _ ?_ ?_ _ _ ⟨rfl, rfl, hy⟩
  · rintro v rest r u ⟨h1, rfl, h2⟩
    obtain ⟨j, c, rfl, hc⟩ := h2 v List.mem_cons_self
    have h3 : ∀ y ∈ rest, ∃ j c, y = Value.ref c ∧ KIs P w u.heap j c := fun y hy => h2 y (List.mem_cons_of_mem _ hy)
    dsimp only
    by_cases hv : (b == c || (carriedByValue (.ref b) && carriedByValue (.ref c))) = true
    · exact L2.wp_if_pos hv (wpAny_pure ⟨rfl, rfl, h3⟩)
    · refine L2.wp_if_neg hv ?_
      refine wpAny_bind ((nestedKind P w).quiet hk ?_)
      rw [if_neg (by decide)]
      refine wpAny_bind ((nestedKind P w).quiet hc ?_)
      rw [if_neg (by decide)]
      refine wpAny_bind (oc_key k _ 8 u hk.1 hk.2 _ _ _ ?_)
      rw [if_neg (by decide)]
      refine wpAny_bind (oc_key j _ 8 u hc.1 hc.2 _ _ _ ?_)
      rw [if_neg (by decide)]
      exact wpAny_pure ⟨rfl, rfl, h3⟩
  · rintro ⟨r1, r2⟩ u ⟨h1, rfl, _⟩
    simp only at h1
    subst h1
    exact wpAny_pure q
end
end Fz
end

section
set_option Elab.async false
set_option linter.all false
set_option maxRecDepth 100000
set_option maxHeartbeats 4000000
/-! F53: sets of nested tuples: the search, a member put in. -/
namespace Fz
open PySem PySem.Spec PyProof.Rows L2
/-- the c-th state of a search for h -/
abbrev stp (m : Nat) (h : Int) (c : Nat) : SetTable.Probe := nth m (runAt m (SetTable.bits h % (m + 1)) (SetTable.bits h)) c
theorem stp_dm (m : Nat) (h : Int) (c : Nat) : (stp m h c).dummy = none := by
  have key : ∀ (n : Nat) (p : SetTable.Probe), p.dummy = none → (nth m p n).dummy = none := by
    intro n
    induction n with
    | zero => exact fun p z => z
    | succ n ih =>
      intro p z
      refine ih (adv m p) ?_
      unfold adv
      split <;> exact z
  exact key c _ rfl
theorem stp_add (m : Nat) (h : Int) (c q : Nat) : nth m (stp m h c) q = stp m h (c + q) := (nth_add m c _ q).symm
section
variable {P : Program} {w : World} {A : Around} {E : Value → Shared → Prop} {s : Shared} {a : Addr} {L : List Mem} {es : Array (Int × Value)} {ep : Nat} {t : SetTable}
/-- from the c-th step on -/
theorem findN (R : SetN P w s.heap a L es ep t) {x : Addr} {k : NestedKey} (hx : KIs P w s.heap k x) (hu : (nestedKind P w).room A) {N : Nat} (hN : N < 10 * SetTable.turns t.mask)
    (free : way t.mask (k.hash w) N ∉ t.place.toList) (full : ∀ c, c < N → way t.mask (k.hash w) c ∈ t.place.toList) {Q : SetFound → Shared → Prop}
    (qin : k ∈ L.map (·.2) → Q (.there none) s) (qout : k ∉ L.map (·.2) → Q (.free (way t.mask (k.hash w) N) false) s) :
    ∀ (f c : Nat) (st : Option SetTable.Probe), st.getD (t.probeStart (k.hash w)) = stp t.mask (k.hash w) c → c ≤ N → N - c < f →
      (∀ (i : Nat) p, L[i]? = some p → p.2 = k → ∃ e, c ≤ e ∧ e < N ∧ t.place.toList[i]? = some (way t.mask (k.hash w) e)) →
      wpAny (model P w) A (setSearchFrom a (.ref x) (k.hash w) true f st) Q E s
  | 0, c, st, _, _, hf, _ => absurd hf (Nat.not_lt_zero _)
  | f + 1, c, st, hst, hc, hf, later => by
    obtain ⟨o, ho, hex, hd⟩ := R.here
    rw [setSearchFrom_succ]
    refine wpAny_bind (wpAny_setState_of ho hd R.fits ?_)
    dsimp only
    refine L2.wp_if_neg R.stood ?_
    try refine wpAny_bind (wpAny_pure ?_)
    have jat : ∀ q, (nth t.mask (stp t.mask (k.hash w) c) q).j = way t.mask (k.hash w) (c + q) := fun q => congrArg SetTable.Probe.j (stp_add t.mask (k.hash w) c q)
    have sp := go_spec t R.tab.ris R.tab.dm (fun i => (es[i]?.map (·.1)).getD 0) (k.hash w) (10 * SetTable.turns t.mask) (N - c) (stp t.mask (k.hash w) c) (stp_dm _ _ _) (by omega)
      (fun q hq => by rw [jat]; exact full (c + q) (by omega)) (by rw [jat, Nat.add_sub_cancel' hc]; exact free)
    have hat : ∀ (i : Nat) p, L[i]? = some p → (fun i => (es[i]?.map (·.1)).getD 0) i = p.2.hash w := fun i p hp => by
      show (es[i]?.map (·.1)).getD 0 = _
      rw [R.row hp]; rfl
    rcases sp with ⟨q, i, hq, hi, hh, hno, hpr⟩ | ⟨hno, hpr⟩
    · have pr : t.probe (fun i => (es[i]?.map (·.1)).getD 0) (k.hash w) (st.getD (t.probeStart (k.hash w))) = some (.candidate (way t.mask (k.hash w) (c + q)) i (stp t.mask (k.hash w) (c + (q + 1)))) := by
        rw [hst, ← jat, ← stp_add]; exact hpr
      rw [pr]
      dsimp only
      rw [jat] at hi
      have hil : i < L.length := by
        have z := (List.getElem?_eq_some_iff.mp hi).1
        rw [Array.length_toList, R.psize] at z
        exact z
      obtain ⟨p, hp⟩ : ∃ p, L[i]? = some p := ⟨L[i], List.getElem?_eq_getElem hil⟩
      have hm : p ∈ L := List.mem_of_getElem? hp
      have hpk := R.keys p hm
      have rest : wpAny (model P w) A (searchRest a (.ref x) (k.hash w) true f es t (way t.mask (k.hash w) (c + q)) i (stp t.mask (k.hash w) (c + (q + 1)))) Q E s := by
        unfold searchRest
        rw [R.row hp]
        dsimp only
        refine wpAny_bind (wpAny_holding ((nestedKind P w).eqBool hu hpk hx ?_))
        refine wpAny_bind (wpAny_setState_of ho hd R.fits ?_)
        dsimp only
        by_cases hkk : p.2 = k
        · refine L2.wp_if_pos (by simp [hkk]) ?_
          exact wpAny_pure (qin (List.mem_map.mpr ⟨p, hm, hkk⟩))
        · refine L2.wp_if_neg (by simp [hkk]) ?_
          try refine wpAny_bind (wpAny_pure ?_)
          rw [sameMem]
          dsimp only
          have live : t.slot (way t.mask (k.hash w) (c + q)) = .live i := slot_live R.tab.ris hi
          simp only [if_true, live, R.row hp]
          refine wpAny_bind (wpAny_isSame_ref_self (wpAny_bind (wpAny_pure ?_)))
          simp only [if_true]
          refine L2.wp_if_neg (by simp [hkk]) ?_
          refine findN R hx hu hN free full qin qout f (c + (q + 1)) _ rfl (by omega) (by omega) fun i0 p0 h0 k0 => ?_
          obtain ⟨e, e1, e2, e3⟩ := later i0 p0 h0 k0
          refine ⟨e, ?_, e2, e3⟩
          by_cases z : e < c + q
          · exfalso
            refine hno (e - c) i0 (by omega) (by rw [jat, Nat.add_sub_cancel' e1]; exact e3) ?_
            exact (hat i0 p0 h0).trans (congrArg (NestedKey.hash w) k0)
          · by_cases z2 : e = c + q
            · exfalso
              rw [z2] at e3
              have s0 := slot_live R.tab.ris e3
              rw [live] at s0
              injection s0 with s0
              rw [← s0, hp] at h0
              cases h0
              exact hkk k0
            · omega
      by_cases hl : t.led = true
      · refine L2.wp_if_neg (by simp [hl]) ?_
        try refine wpAny_bind (wpAny_pure ?_)
        exact rest
      · refine L2.wp_if_pos (by simp [hl]) ?_
        refine wpAny_bind (seenN hx (fun y hy => ?_) ?_)
        · obtain ⟨e, he, ee⟩ := List.mem_map.mp hy
          have he : e ∈ es.toList := by
            have : e ∈ es ∧ e.1 = k.hash w := by simpa using he
            simpa using this.1
          rw [R.rows] at he
          obtain ⟨p2, hp2, e2⟩ := List.mem_map.mp he
          exact ⟨p2.2, p2.1, by rw [← ee, ← e2], R.keys p2 hp2⟩
        · refine L2.wp_if_neg (by decide) ?_
          try refine wpAny_bind (wpAny_pure ?_)
          exact rest
    · have pr : t.probe (fun i => (es[i]?.map (·.1)).getD 0) (k.hash w) (st.getD (t.probeStart (k.hash w))) = some (.empty (way t.mask (k.hash w) N) none) := by
        have z := jat (N - c)
        rw [Nat.add_sub_cancel' hc] at z
        rw [hst, ← z]; exact hpr
      rw [pr]
      dsimp only
      refine wpAny_pure (qout fun hm => ?_)
      obtain ⟨p0, h0, k0⟩ := List.mem_map.mp hm
      obtain ⟨i0, hi0, e0⟩ := List.getElem_of_mem h0
      have h00 : L[i0]? = some p0 := by rw [List.getElem?_eq_getElem hi0, e0]
      obtain ⟨e, e1, e2, e3⟩ := later i0 p0 h00 k0
      refine hno (e - c) i0 (by omega) (by rw [jat, Nat.add_sub_cancel' e1]; exact e3) ?_
      exact (hat i0 p0 h00).trans (congrArg (NestedKey.hash w) k0)
/-- the search that adding makes -/
theorem searchN (R : SetN P w s.heap a L es ep t) {x : Addr} {k : NestedKey} (hx : KIs P w s.heap k x) (hu : (nestedKind P w).room A) {Q : SetFound → Shared → Prop}
    (qin : k ∈ L.map (·.2) → Q (.there none) s)
    (qout : ∀ N, k ∉ L.map (·.2) → way t.mask (k.hash w) N ∉ t.place.toList → (∀ c, c < N → way t.mask (k.hash w) c ∈ t.place.toList) → Q (.free (way t.mask (k.hash w) N) false) s) :
    wpAny (model P w) A (setSearch a (.ref x) (k.hash w) true) Q E s := by
  have hroom := R.room
  obtain ⟨N, hN, free, full⟩ := R.tab.first (by unfold hsN; rw [List.length_map]; omega) (k.hash w)
  have big : N < 100000 := by
    have : 10 * SetTable.turns t.mask ≤ 1420 := by
      unfold SetTable.turns
      rcases R.tab.mok with e | e | e <;> omega
    omega
  unfold setSearch
  refine findN R hx hu hN free full qin (fun hn => qout N hn free full) 100000 0 none rfl (Nat.zero_le _) (by omega) fun i p hp hk => ?_
  have hi : (hsN w L)[i]? = some (k.hash w) := by unfold hsN; rw [List.getElem?_map, hp, ← hk]; rfl
  have hil : i < t.place.toList.length := by
    rw [Array.length_toList, R.psize]
    exact (List.getElem?_eq_some_iff.mp hp).1
  have hj := List.getElem?_eq_getElem hil
  obtain ⟨c, hc, e⟩ := R.tab.before free hi hj
  exact ⟨c, Nat.zero_le _, hc, by rw [hj, e]⟩
end
end Fz
end

section
set_option Elab.async false
set_option linter.all false
set_option maxRecDepth 100000
set_option maxHeartbeats 4000000
/-! F54: sets of nested tuples: a member put in; the table laid anew. -/
namespace Fz
open PySem PySem.Spec PyProof.Rows L2
section
variable {P : Program} {w : World} {A : Around} {E : Value → Shared → Prop} {s : Shared} {a : Addr} {L : List Mem} {es : Array (Int × Value)} {ep : Nat} {t : SetTable}
theorem kis_same {h h' : Heap} {k : NestedKey} {b : Addr} {o : Obj} (hb : KIs P w h k b) (ho : h.get? a = some o) (hd : o.data = .set es ep t) (hs : Heap.SameBut a h h') : KIs P w h' k b := by
  refine ⟨NestedIs.at (fun c ob vs n hc hq => ?_) k _ hb.1, hb.2⟩
  refine (hs.2 c fun e => ?_).trans hc
  subst e
  rw [ho] at hc
  cases hc
  rw [hd] at hq
  cases hq
theorem kis_keep {h h' : Heap} {k : NestedKey} {b : Addr} (hb : KIs P w h k b) (hk : ∀ c o, h.get? c = some o → h'.get? c = some o) : KIs P w h' k b :=
  ⟨NestedIs.at (fun c ob _ _ hc _ => hk c ob hc) k _ hb.1, hb.2⟩
theorem rowN_put (p : Nat) (m : Mem) : rowN w (L.take p ++ m :: L.drop p) = (rowN w L).take p ++ (m.2.hash w, Value.ref m.1) :: (rowN w L).drop p := by
  unfold rowN
  rw [List.map_append, List.map_cons, List.map_take, List.map_drop]
theorem hsN_put (p : Nat) (m : Mem) : hsN w (L.take p ++ m :: L.drop p) = (hsN w L).take p ++ m.2.hash w :: (hsN w L).drop p := by
  unfold hsN
  rw [List.map_append, List.map_cons, List.map_take, List.map_drop]
/-- a list picked out by the numbers of a permutation -/
theorem pick_all {α : Type} (l : List α) : (List.range l.length).filterMap (fun i => l[i]?) = l := by
  have key : ∀ n, n ≤ l.length → (List.range n).filterMap (fun i => l[i]?) = l.take n := by
    intro n
    induction n with
    | zero => intro _; rfl
    | succ n ih =>
      intro h
      rw [List.range_succ, List.filterMap_append, ih (by omega), List.take_add_one, List.getElem?_eq_getElem (by omega)]
      simp [List.getElem?_eq_getElem (show n < l.length by omega)]
  rw [key l.length (Nat.le_refl _), List.take_length]
theorem rows_order (order : Array Nat) (hr : es.toList = rowN w L) (hp : order.toList.Perm (List.range L.length)) :
    ∃ M, (order.filterMap (es[·]?)).toList = rowN w M ∧ M.Perm L ∧ hsN w M = order.toList.map fun i => (es.map (·.1)).getD i 0 := by
  have ent : ∀ i (h : i < L.length), es[i]? = some ((L[i]).2.hash w, Value.ref (L[i]).1) := fun i h => by
    rw [← Array.getElem?_toList, hr, rowN, List.getElem?_map, List.getElem?_eq_getElem h]; rfl
  have hle : ∀ i ∈ order.toList, i < L.length := fun i hi => List.mem_range.mp (hp.mem_iff.mp hi)
  refine ⟨order.toList.filterMap fun i => L[i]?, ?_, ?_, ?_⟩
  · have e1 : (order.filterMap (es[·]?)).toList = order.toList.filterMap fun i => es[i]? := by simp
    rw [e1]
    clear hp e1
    revert hle
    generalize order.toList = l
    intro hle
    induction l with
    | nil => rfl
    | cons i l ih =>
      have hi := hle i (by simp)
      rw [List.filterMap_cons_some (ent i hi), List.filterMap_cons_some (List.getElem?_eq_getElem hi), ih fun j hj => hle j (by simp [hj])]
      rfl
  · have := hp.filterMap fun i => L[i]?
    rwa [pick_all] at this
  · clear hp
    revert hle
    generalize order.toList = l
    intro hle
    induction l with
    | nil => rfl
    | cons i l ih =>
      have hi := hle i (by simp)
      have e5 : (es.map (·.1))[i]? = some ((L[i]).2.hash w) := by rw [Array.getElem?_map, ent i hi]; rfl
      have e6 : (es.map (·.1)).getD i 0 = (L[i]).2.hash w := by simp [Array.getD_eq_getD_getElem?, e5]
      have ih := ih fun j hj => hle j (by simp [hj])
      rw [List.filterMap_cons_some (List.getElem?_eq_getElem hi), List.map_cons, e6, ← ih]
      rfl
theorem layN {o : Obj} (ho : s.heap.get? a = some o) (hex : o.ExactSet) (hd : o.data = .set es ep t) (hrows : es.toList = rowN w L) (hps : t.place.size = es.size) (hdm : t.dummies = #[]) (hfl : es.size ≤ t.mask)
    (uq : (L.map (·.2)).Nodup) (ks : ∀ p ∈ L, KIs P w s.heap p.2 p.1) (ld : w.params.followText "set-order" = true ∨ t.led = true) (few : L.length < 64) {wanted M : Nat}
    (hw : SetTable.sizeAbove wanted - 1 = M) (hM : MaskOk M) (hw2 : SetTable.sizeAbove wanted ≤ 128) (hn : L.length * 5 < M * 3) {Q : Unit → Shared → Prop}
    (q : ∀ h' L' es' ep' t', Heap.SameBut a s.heap h' → SetN P w h' a L' es' ep' t' → L'.Perm L → Q () { s with heap := h' }) : wpAny (model P w) A (setRelay a wanted) Q E s := by
  have hsl : es.size = L.length := by
    rw [← Array.length_toList, hrows]; exact List.length_map _
  have fit : t.fits es.size = true := by
    unfold SetTable.fits SetTable.fill
    rw [hdm, Bool.and_eq_true, beq_iff_eq, decide_eq_true_eq]
    refine ⟨hps, ?_⟩
    show t.place.size + 0 ≤ t.mask
    omega
  obtain ⟨t', order, e, hp, T, em, el, _, ed⟩ := relaid_ok t (hs := es.map (·.1)) (wanted := wanted) hw hM (by rw [Array.size_map, hsl]; omega)
  rw [Array.size_map, hsl] at hp
  obtain ⟨M', r1, r2, r3⟩ := rows_order order hrows hp
  rw [← r3] at T
  have sz2 : (order.filterMap (es[·]?)).size = es.size := by
    have z := congrArg List.length r1
    rw [Array.length_toList] at z
    rw [z, hsl, ← r2.length_eq]; exact List.length_map _
  rw [setRelay_eq]
  refine wpAny_bind (wpAny_setState_of ho hd fit ?_)
  dsimp only
  refine L2.wp_if_neg (by rw [sizeLine_eq]; omega) ?_
  try refine wpAny_bind (wpAny_pure ?_)
  rw [e]
  dsimp only
  refine wpAny_bind ?_
  refine L2.wp_if_neg (by rw [sz2]; simp) ?_
  try refine wpAny_bind (wpAny_pure ?_)
  refine wpAny_pure ?_
  dsimp only
  refine wpAny_storeSet_of ho hd ?_ (by rw [sz2, hsl, sizeLine_eq]; omega)
  have sb : Heap.SameBut a s.heap (s.heap.update a (Obj.putSet (order.filterMap (es[·]?)) t')) := Heap.SameBut.update ..
  refine q _ M' (order.filterMap (es[·]?)) (ep + 1) t' sb ?_ r2
  exact { here := ⟨_, store_at ho hd, ⟨hex.1, hex.2.1, hex.2.2⟩, rfl⟩, rows := r1, tab := T, uniq := (r2.map (·.2)).nodup_iff.mpr uq, keys := fun p hpm => kis_same (ks p (r2.mem_iff.mp hpm)) ho hd sb, led := by rw [el]; exact ld,
          room := by rw [r2.length_eq, em]; exact hn, few := by rw [r2.length_eq]; exact few }
/-- a member put in -/
theorem putN (R : SetN P w s.heap a L es ep t) {x : Addr} {k : NestedKey} (hx : KIs P w s.heap k x) (hu : (nestedKind P w).room A) (few : k ∉ L.map (·.2) → L.length + 1 < 64) {Q : Bool → Shared → Prop}
    (q : ∀ b h' L' es' ep' t', Heap.SameBut a s.heap h' → SetN P w h' a L' es' ep' t' → (k ∈ L.map (·.2) → L' = L) → (k ∉ L.map (·.2) → L'.Perm ((x, k) :: L)) → Q b { s with heap := h' }) :
    wpAny (model P w) A (setAddHashed a (.ref x) (k.hash w)) Q E s := by
  obtain ⟨o, ho, hex, hd⟩ := R.here
  have hsl := R.size
  have hroom := R.room
  unfold setAddHashed
  refine wpAny_holding ?_
  rw [show (100000 : Nat) = 99999 + 1 from rfl, setAddHashedIn_succ]
  refine wpAny_bind (wpAny_setState_of ho hd R.fits ?_)
  dsimp only
  refine L2.wp_if_neg (by simp [byScan, Value.scannable]) ?_
  try refine wpAny_bind (wpAny_pure ?_)
  refine wpAny_bind (searchN R hx hu (fun hm => ?_) fun N hm free full => ?_)
  · dsimp only
    exact wpAny_pure (q false s.heap L es ep t (Heap.SameBut.refl a s.heap) R (fun _ => rfl) fun z => absurd hm z)
  have few := few hm
  dsimp only
  refine wpAny_bind (wpAny_setState_of ho hd R.fits ?_)
  dsimp only
  obtain ⟨q1, q2, q3, q4, q5, q6, q7, q8, q9⟩ := R.tab.put free full
  have hl0 : (hsN w L).length = L.length := List.length_map _
  rw [hl0] at q9 q2
  generalize hpt : t.put (way t.mask (k.hash w) N) = pt at q1 q3 q4 q5 q9 ⊢
  obtain ⟨t1, p⟩ := pt
  dsimp only at q1 q3 q4 q5 q9 ⊢
  subst q1
  generalize hpp : SetTable.below t.place (way t.mask (k.hash w) N) = p at q2 q3 ⊢
  obtain ⟨bv, hbv⟩ := hb_key (P := P) (w := w) k (.ref x) 8 s hx.1
  -- the rows
  have hin : (SetTable.insertAt es p (k.hash w, Value.ref x)).toList = rowN w (L.take p ++ (x, k) :: L.drop p) := by
    rw [SetTable.toList_insertAt, rowN_put, R.rows]
  rw [← hsN_put p (x, k)] at q3
  have pm := put_perm L p (x, k)
  have hlen : (L.take p ++ (x, k) :: L.drop p).length = L.length + 1 := pm.length_eq
  have uq : ((L.take p ++ (x, k) :: L.drop p).map (·.2)).Nodup := by
    refine (pm.map (·.2)).nodup_iff.mpr ?_
    rw [List.map_cons]
    exact List.nodup_cons.mpr ⟨hm, R.uniq⟩
  have hes : (SetTable.insertAt es p (k.hash w, Value.ref x)).size = L.length + 1 := by
    rw [← Array.length_toList, hin, ← hlen]; exact List.length_map _
  generalize SetTable.insertAt es p (k.hash w, Value.ref x) = es1 at hin hes ⊢
  generalize L.take p ++ (x, k) :: L.drop p = L1 at pm hlen q3 uq hin
  -- whatever the table says of values
  have main : ∀ t2 : SetTable, t2.place = t1.place → t2.dummies = t1.dummies → t2.mask = t1.mask → t2.led = t1.led → t2.moves = t1.moves → t2.finger = t1.finger →
      wpAny (model P w) A (do
        storeSet a es1 t2
        if (!false && t2.tooFull) = true then setRelay a (SetTable.grown (es.size + 1))
        pure true) Q E s := by
    intro t2 f1 f2 f3 f4 f5 f6
    have tb : L2.TabOk t2 (hsN w L1) := ⟨by rw [f1]; exact q3.ris, by rw [f2]; exact q3.dm, by rw [f1]; exact q3.sz, by rw [f3]; exact q3.mok, by rw [f1, f3]; exact q3.bd, by rw [f1, f3]; exact q3.reach⟩
    have fl : t2.fill = L.length + 1 := by
      have : t2.fill = t1.fill := by unfold SetTable.fill; rw [f1, f2]
      rw [this, q9]
    have fu : t2.tooFull = decide ((L.length + 1) * 5 ≥ t.mask * 3) := by
      unfold SetTable.tooFull
      rw [fl, f3, q4]
    refine wpAny_bind (wpAny_storeSet_of ho hd ?_ (by rw [hes, sizeLine_eq]; omega))
    have sb : Heap.SameBut a s.heap (s.heap.update a (Obj.putSet es1 t2)) := Heap.SameBut.update ..
    have ho1 := store_at (es' := es1) (t' := t2) ho hd
    generalize s.heap.update a (Obj.putSet es1 t2) = h1 at sb ho1 ⊢
    have ks1 : ∀ p ∈ L1, KIs P w h1 p.2 p.1 := fun p hp => by
      rcases List.mem_cons.mp (pm.mem_iff.mp hp) with e | hp
      · rw [e]; exact kis_same hx ho hd sb
      · exact kis_same (R.keys p hp) ho hd sb
    have ld1 : w.params.followText "set-order" = true ∨ t2.led = true := by rw [f4, q5]; exact R.led
    by_cases hf : (L.length + 1) * 5 ≥ t.mask * 3
    · have hf2 : (!false && t2.tooFull) = true := by rw [fu]; simp [hf]
      rw [if_pos hf2]
      refine wpAny_bind ?_
      rw [hsl]
      have two : (t.mask = 7 ∧ L.length = 4) ∨ (t.mask = 31 ∧ L.length = 18) := by
        rcases R.tab.mok with e | e | e
        · exact .inl ⟨e, by rw [e] at hroom hf; omega⟩
        · exact .inr ⟨e, by rw [e] at hroom hf; omega⟩
        · exfalso; rw [e] at hf; omega
      have ps : t2.place.size = es1.size := by
        rw [tb.sz, hes, ← hlen]; exact List.length_map _
      have go : ∀ M, SetTable.sizeAbove (SetTable.grown (L.length + 1)) - 1 = M → MaskOk M → SetTable.sizeAbove (SetTable.grown (L.length + 1)) ≤ 128 → (L.length + 1) * 5 < M * 3 →
          wpAny (model P w) A (setRelay a (SetTable.grown (L.length + 1))) (fun _ u => wpAny (model P w) A (pure true) Q E u) E { s with heap := h1 } := fun M g1 g2 g3 g4 => by
        refine layN (s := { s with heap := h1 }) ho1 ⟨hex.1, hex.2.1, hex.2.2⟩ rfl hin ps tb.dm (by rw [hes, f3, q4]; rcases two with ⟨e, e2⟩ | ⟨e, e2⟩ <;> omega) uq ks1 ld1 (by rw [hlen]; exact few) g1 g2 g3 (by rw [hlen]; exact g4) ?_
        intro h2 L2' es2 ep2 t3 sb2 R2 pm2
        exact wpAny_pure (q true h2 L2' es2 ep2 t3 (sb.trans sb2) R2 (fun z => absurd z hm) fun _ => pm2.trans pm)
      rcases two with ⟨_, e2⟩ | ⟨_, e2⟩
      · exact go 31 (by rw [e2, size_20]) (.inr (.inl rfl)) (by rw [e2, size_20]; decide) (by omega)
      · exact go 127 (by rw [e2, size_76]) (.inr (.inr rfl)) (by rw [e2, size_76]; decide) (by omega)
    · have hf2 : ¬ (!false && t2.tooFull) = true := by rw [fu]; simp [hf]
      rw [if_neg hf2]
      refine wpAny_bind (wpAny_pure (wpAny_pure (q true h1 L1 es1 (ep + 1) t2 sb ?_ (fun z => absurd z hm) fun _ => pm)))
      exact { here := ⟨_, ho1, ⟨hex.1, hex.2.1, hex.2.2⟩, rfl⟩, rows := hin, tab := tb, uniq := uq, keys := ks1, led := ld1, room := by rw [hlen, f3, q4]; omega, few := by rw [hlen]; exact few }
  by_cases hpl : t1.plain = true
  · rw [if_pos hpl]
    refine wpAny_bind (hbv _ _ _ ?_)
    cases bv with
    | true => exact main _ rfl rfl rfl rfl rfl rfl
    | false => exact main _ rfl rfl rfl rfl rfl rfl
  · rw [if_neg hpl]
    refine wpAny_bind (wpAny_pure ?_)
    exact main _ rfl rfl rfl rfl rfl rfl
end
end Fz
end

section
set_option Elab.async false
set_option linter.all false
set_option maxRecDepth 100000
set_option maxHeartbeats 4000000
/-! F55: sets of nested tuples: set(xs). -/
namespace Fz
open PySem PySem.Spec PyProof.Rows L2
def FewK (ks : List Mem) : Prop := ∀ L : List Mem, (L.map (·.2)).Nodup → (∀ p ∈ L, p ∈ ks) → L.length < 64
/-- what a set has got of the first i items -/
structure GotN (ks : List Mem) (i : Nat) (L : List Mem) : Prop where
  sub : ∀ p ∈ L, p ∈ ks.take i
  all : ∀ p ∈ ks.take i, p.2 ∈ L.map (·.2)
theorem GotN.next {ks L L' : List Mem} {i : Nat} {x : Mem} (g : GotN ks i L) (h : ks[i]? = some x) (c1 : x.2 ∈ L.map (·.2) → L' = L) (c2 : x.2 ∉ L.map (·.2) → L'.Perm (x :: L)) : GotN ks (i + 1) L' := by
  have tk : ks.take (i + 1) = ks.take i ++ [x] := by rw [List.take_add_one, h]; rfl
  by_cases m : x.2 ∈ L.map (·.2)
  · rw [c1 m]
    refine ⟨fun p hp => by rw [tk]; exact List.mem_append_left _ (g.sub p hp), fun p hp => ?_⟩
    rw [tk] at hp
    rcases List.mem_append.mp hp with z | z
    · exact g.all p z
    · rw [List.mem_singleton.mp z]; exact m
  · have pm := c2 m
    refine ⟨fun p hp => ?_, fun p hp => ?_⟩
    · rw [tk]
      rcases List.mem_cons.mp (pm.mem_iff.mp hp) with e | z
      · rw [e]; simp
      · exact List.mem_append_left _ (g.sub p z)
    · rw [(pm.map (·.2)).mem_iff, List.map_cons]
      rw [tk] at hp
      rcases List.mem_append.mp hp with z | z
      · exact List.mem_cons_of_mem _ (g.all p z)
      · rw [List.mem_singleton.mp z]; exact List.mem_cons_self
section
variable {P : Program} {w : World} {A : Around} {E : Value → Shared → Prop} {s : Shared}
theorem SetN.later {h h' : Heap} {a : Addr} {L : List Mem} {es : Array (Int × Value)} {ep : Nat} {t : SetTable} (R : SetN P w h a L es ep t) (ha : ∀ o, h.get? a = some o → h'.get? a = some o) (hk : ∀ p ∈ L, KIs P w h' p.2 p.1) : SetN P w h' a L es ep t := by
  obtain ⟨o, ho, r⟩ := R.here
  exact { here := ⟨o, ha o ho, r⟩, rows := R.rows, tab := R.tab, uniq := R.uniq, keys := hk, led := R.led, room := R.room, few := R.few }
abbrev newSet0 (w : World) : Obj := { cls := .type "set", dict := none, data := .set #[] 0 (.fresh 0 0 (!w.params.followText "set-order")) }
theorem setN_new {h : Heap} {a : Addr} (ho : h.get? a = some (newSet0 w)) : SetN P w h a [] #[] 0 (.fresh 0 0 (!w.params.followText "set-order")) where
  here := ⟨_, ho, ⟨rfl, rfl, rfl⟩, rfl⟩
  rows := rfl
  tab := ⟨List.Pairwise.nil, rfl, rfl, .inl rfl, fun _ z => (nomatch z), fun _ _ _ z => (by simp [hsN] at z)⟩
  uniq := List.nodup_nil
  keys := fun _ z => (nomatch z)
  led := by
    show _ ∨ (!w.params.followText "set-order") = true
    cases w.params.followText "set-order"
    · exact .inr rfl
    · exact .inl rfl
  room := by show 0 * 5 < 7 * 3; decide
  few := by show 0 < 64; decide
/-- the loop that puts them in -/
theorem loopN {I : Addr} {fp wr : List Addr} {G : Array GenState → Array GenState → Prop} {n : Nat} {Pv : Nat → Value → Prop} {St : Nat → Shared → Prop} {R : Result → Shared → Prop}
    (W : WalksS P w A.in1 I fp wr G n Pv St) (S : Addr) (hSf : S ∉ fp) (ks : List Mem) (hn : n = ks.length) (few : FewK ks) (hval : ∀ i v, Pv i v → ∃ p, ks[i]? = some p ∧ v = .ref p.1)
    (h0 : Heap) (hk : ∀ p ∈ ks, KIs P w h0 p.2 p.1) (hS0 : h0.get? S = none) (hw0 : ∀ b ∈ wr, h0.get? b = none) (hu : (nestedKind P w).room A.in1) :
    ∀ (k i : Nat) (s : Shared), n - i = k → i ≤ n → St i s → (∀ b o, h0.get? b = some o → s.heap.get? b = some o) → (∃ L es ep t, SetN P w s.heap S L es ep t ∧ GotN ks i L) →
      (∀ s' L es ep t, Moved (S :: wr) G s s' → SetN P w s'.heap S L es ep t → GotN ks n L → (∀ b o, h0.get? b = some o → s'.heap.get? b = some o) → R (.ok (.ret .none)) s') →
      codeAny (model P w) A (.builtin "set.update.loop" ⟨[.ref S, .ref I], []⟩) R s := by
  have hSw : S ∉ wr := fun z => hSf (W.sub _ z)
  have up : ∀ b ∈ wr, b ∈ S :: wr := fun b hb => List.mem_cons_of_mem _ hb
  have kept : ∀ {u u' : Shared}, Moved wr G u u' → (∀ b o, h0.get? b = some o → u.heap.get? b = some o) → ∀ b o, h0.get? b = some o → u'.heap.get? b = some o := fun hm hkp b o e =>
    hm.heap b o (fun hb => by rw [hw0 b hb] at e; cases e) (hkp b o e)
  have inks : ∀ {i : Nat} {L : List Mem}, GotN ks i L → ∀ p ∈ L, p ∈ ks := fun g p hp => List.mem_of_mem_take (g.sub p hp)
  intro k
  induction k with
  | zero =>
    rintro i s hk' hi hst hkp ⟨L, es, ep, t, hS, g⟩ hR
    obtain rfl : i = n := by omega
    refine codeAny_builtin F.entry_set_update_loop ?_
    rw [Around.under_plainId F.plain_set_update_loop _]
    show wpAny _ A.in1 (pyNext (.ref I) >>= _) _ _ s
    refine wpAny_bind (W.done s _ _ hst fun s' hm => ?_)
    have hkp' := kept hm hkp
    exact wpAny_pure (hR s' L es ep t (hm.mono up) (hS.later (fun o e => hm.heap S o hSw e) fun p hp => kis_keep (hk p (inks g p hp)) hkp') g hkp')
  | succ k ih =>
    rintro i s hk' hi hst hkp ⟨L, es, ep, t, hS, g⟩ hR
    have hlt : i < n := by omega
    refine codeAny_builtin F.entry_set_update_loop ?_
    rw [Around.under_plainId F.plain_set_update_loop _]
    show wpAny _ A.in1 (pyNext (.ref I) >>= _) _ _ s
    refine wpAny_bind (W.item i s _ _ hlt hst fun v s' hP hst' hm => ?_)
    obtain ⟨p, hp, rfl⟩ := hval i v hP
    have hpm := List.mem_of_getElem? hp
    have hkp' := kept hm hkp
    have hS' : SetN P w s'.heap S L es ep t := hS.later (fun o e => hm.heap S o hSw e) fun q hq => kis_keep (hk q (inks g q hq)) hkp'
    have hx : KIs P w s'.heap p.2 p.1 := kis_keep (hk p hpm) hkp'
    show wpAny _ A.in1 (holding [Value.ref p.1] (setAdd S (.ref p.1)) >>= _) _ _ s'
    refine wpAny_bind (wpAny_holding ?_)
    unfold setAdd
    refine wpAny_holding ?_
    refine wpAny_bind ((nestedKind P w).pyHash hu hx ?_)
    refine putN (s := { s' with toks := s'.toks + p.2.draws }) hS' hx hu (fun z => ?_) fun b h' L' es' ep' t' hsb hS2 c1 c2 => ?_
    · have := few (p :: L) (by rw [List.map_cons]; exact List.nodup_cons.mpr ⟨z, hS.uniq⟩) fun q hq => by
        rcases List.mem_cons.mp hq with e | hq
        · rw [e]; exact hpm
        · exact inks g q hq
      simpa using this
    have g' := g.next hp c1 c2
    have kp2 : ∀ b o, h0.get? b = some o → h'.get? b = some o := fun b o e => (hsb.2 b (fun z => by rw [z, hS0] at e; cases e)).trans (hkp' b o e)
    refine wpAny_pure ⟨plainId_quiet F.plain_set_update_loop _, ih (i + 1) _ (by omega) hlt (W.frame _ s' _ _ hst' (Nat.le_add_right _ _) fun b hb o e => ?_) kp2 ⟨L', es', ep', t', hS2, g'⟩ fun u L2 es2 ep2 t2 hm2 hS3 g2 kp3 => ?_⟩
    · rw [hsb.2 b (fun z : b = S => hSf (by rw [← z]; exact hb))]; exact e
    · refine hR u L2 es2 ep2 t2 (Moved.trans W.gtrans ((hm.mono up).then_heap (Nat.le_add_right _ _) fun b o hb e => ?_) hm2) hS3 g2 kp3
      rw [hsb.2 b (fun z : b = S => hb (by rw [z]; exact List.mem_cons_self))]; exact e
end
end Fz
end

section
set_option Elab.async false
set_option linter.all false
set_option maxRecDepth 100000
set_option maxHeartbeats 4000000
/-! F56: set(xs) at the machine. -/
namespace Fz
open PySem PySem.Spec PyProof.Rows L2
section
variable {P : Program} {w : World} {A : Around} {E : Value → Shared → Prop} {s : Shared}
/-- set(x), x no set and no dict: a new set, the loop over the iterator -/
theorem call_setG {l : Addr} {T : String} {o : Obj} {Q : Value → Shared → Prop} (ho : s.heap.get? l = some o) (hcl : o.cls = .type T) (hne : (Value.type T == Value.type "dict") = false)
    (hsls : isSubtype (.type T) (.type "set") = pure false) (hslf : isSubtype (.type T) (.type "frozenset") = pure false)
    (h : wpAny (model P w) A.in1.in1 (pyIter (.ref l)) (fun it u => codeAny (model P w) A.in1.in1 (.builtin "set.update.loop" ⟨[.ref s.heap.objs.size, it], []⟩)
      (fun r v => r = .ok (.ret .none) ∧ Q (.ref s.heap.objs.size) v) u) E { s with heap := s.heap.push (newSet0 w) }) :
    wpAny (model P w) A (call (.type "set") [.ref l]) Q E s := by
  obtain ⟨c, tl, hmro⟩ := F.called_set.mro
  have hmade := F.called_set.made
  have hsub := F.called_set.sub
  refine wpAny_call (codeAny_of_tree ?_)
  show wpAny _ _ (callAny (.type "set") _) _ _ _
  refine wpAny_pure ⟨Code.quiet_builtin _ (by decide +kernel), codeAny_builtin F.entry_type_call ?_⟩
  rw [Around.under_plain (weight_type_call_type "set" [.ref l] []) rfl]
  have h1 := F.called_set.notType
  have h2 := F.called_set.canCreate
  have hct := F.typeCall_set_1 (.ref l)
  repeat (any_goals (first | assumption | wp_step))
  refine codeAny_mono (code_set_led1 (.ref l) (E := E) (Q₁ := fun ob u => ob = .ref s.heap.objs.size ∧ u = { s with heap := s.heap.push (newSet0 w) }) ⟨rfl, rfl⟩) fun r s₁ hr => ?_
  cases r with
  | error e => exact hr
  | ok fl =>
    cases fl with
    | ret obj =>
      obtain ⟨rfl, rfl⟩ := hr
      have hS : (s.heap.push (newSet0 w)).get? s.heap.objs.size = some (newSet0 w) := Heap.get?_push_size _ rfl
      have hT : Shared.TypeIs { s with heap := s.heap.push (newSet0 w) } (.ref s.heap.objs.size) "set" := ⟨_, hS, rfl⟩
      have hli := F.called_set.init.lookup
      have hbi := F.called_set.init.bind (.ref s.heap.objs.size)
      repeat (any_goals (first | assumption | wp_step))
      refine codeAny_mono (codeAny_call_builtin (R := wants (fun r u => r = .none ∧ Q (.ref s.heap.objs.size) u) E) F.called_set.init.plain F.entry_set_init (check_set_init_1 hT ?_)) fun r₂ s₂ hr₂ => ?_
      · obtain ⟨ocls, odict, odata, oslots⟩ := o
        simp only at hcl
        subst hcl
        have hol' : (s.heap.push (newSet0 w)).get? l = some { cls := .type T, dict := odict, data := odata, slots := oslots } := Heap.get?_push_of_some _ ho
        unfold Builtin.«set.__init__» noKeywords Builtin.Frozenset.updateFrom
        generalize hPI : pyIter = PI
        wp_walk
        subst hPI
        refine wpAny_mono h (fun it u hu => ?_) fun e u he => he
        refine wpAny_bind (wpAny_runValue ?_)
        refine codeAny_mono hu fun r v hr => ?_
        obtain ⟨rfl, hq⟩ := hr
        exact wpAny_pure (wpAny_pure ⟨rfl, hq⟩)
      · cases r₂ with
        | error e => exact hr₂
        | ok fl₂ =>
          cases fl₂ with
          | ret r =>
            obtain ⟨rfl, hq⟩ := hr₂
            repeat (any_goals (first | assumption | wp_step))
          | _ => exact hr₂.elim
    | _ => exact hr.elim
end
end Fz
end

section
set_option Elab.async false
set_option linter.all false
set_option maxRecDepth 100000
set_option maxHeartbeats 4000000
/-! F57: set(xs) over the abstract heap. -/
namespace Fz
open PySem PySem.Spec PyProof.Rows L2
theorem nodup_len {α : Type} : ∀ (l m : List α), l.Nodup → (∀ x ∈ l, x ∈ m) → l.length ≤ m.length
  | [], _, _, _ => Nat.zero_le _
  | x :: l, m, h, g => by
    obtain ⟨h1, h2⟩ := List.nodup_cons.mp h
    obtain ⟨a, b, rfl⟩ := List.append_of_mem (g x List.mem_cons_self)
    have ih := nodup_len l (a ++ b) h2 fun y hy => by
      rcases List.mem_append.mp (g y (List.mem_cons_of_mem _ hy)) with z | z
      · exact List.mem_append_left _ z
      · rcases List.mem_cons.mp z with e | z
        · exact absurd (e ▸ hy) h1
        · exact List.mem_append_right _ z
    simp only [List.length_append, List.length_cons] at ih ⊢
    omega
/-- each once -/
def ddD : List D → List D
  | [] => []
  | d :: ds => if ds.any (fun e => decide (nk e = nk d)) then ddD ds else d :: ddD ds
theorem ddD_sub : ∀ {ds : List D} {d : D}, d ∈ ddD ds → d ∈ ds
  | e :: ds, d, h => by
    rw [ddD] at h
    split at h
    · exact List.mem_cons_of_mem _ (ddD_sub h)
    · rcases List.mem_cons.mp h with z | z
      · rw [z]; exact List.mem_cons_self
      · exact List.mem_cons_of_mem _ (ddD_sub z)
theorem ddD_all : ∀ {ds : List D} {d : D}, d ∈ ds → ∃ e ∈ ddD ds, nk e = nk d
  | e :: ds, d, h => by
    rw [ddD]
    split
    · rename_i hc
      rcases List.mem_cons.mp h with rfl | h
      · obtain ⟨x, hx, ex⟩ := List.any_eq_true.mp hc
        obtain ⟨y, hy, ey⟩ := ddD_all hx
        exact ⟨y, hy, ey.trans (of_decide_eq_true ex)⟩
      · exact ddD_all h
    · rcases List.mem_cons.mp h with rfl | h
      · exact ⟨d, List.mem_cons_self, rfl⟩
      · obtain ⟨y, hy, ey⟩ := ddD_all h
        exact ⟨y, List.mem_cons_of_mem _ hy, ey⟩
theorem ddD_uniq : ∀ ds : List D, (ddD ds).Pairwise fun d e => nk d ≠ nk e
  | [] => .nil
  | d :: ds => by
    rw [ddD]
    split
    · exact ddD_uniq ds
    · rename_i hc
      refine List.pairwise_cons.mpr ⟨fun e he z => hc (List.any_eq_true.mpr ⟨e, ddD_sub he, by simp [z]⟩), ddD_uniq ds⟩
/-- ints, or tuples as keys; not too many -/
def setOk (ds : List D) : Prop := ((∃ ns : List Int, ds = ns.map .int) ∧ ds.length < 4000) ∨ ((∀ d ∈ ds, (tk d).isSome = true) ∧ (ddD ds).length < 64)
theorem nk_eq {d e : D} (h : (nk d).isSome = true) (g : nk d = nk e) : d = e := by
  obtain ⟨k, hk⟩ := Option.isSome_iff_exists.mp h
  exact nk_inj hk (g ▸ hk)
/-- lists that have the same, each once, are one another's permutations -/
theorem perm_ddD {ds es : List D} (hs : ∀ d ∈ ds, (nk d).isSome = true) (h1 : ∀ e ∈ es, e ∈ ds) (h2 : ∀ d ∈ ds, ∃ e ∈ es, nk e = nk d) (h3 : es.Pairwise fun d e => nk d ≠ nk e) : es.Perm (ddD ds) := by
  have nd : ∀ l : List D, (l.Pairwise fun d e => nk d ≠ nk e) → l.Nodup := fun l h => h.imp fun {a b} z e => z (congrArg nk e)
  refine (List.perm_ext_iff_of_nodup (nd _ h3) (nd _ (ddD_uniq ds))).mpr fun d => ⟨fun hd => ?_, fun hd => ?_⟩
  · obtain ⟨e, he, ee⟩ := ddD_all (h1 d hd)
    rw [← nk_eq (hs e (ddD_sub he)) ee]; exact he
  · obtain ⟨e, he, ee⟩ := h2 d (ddD_sub hd)
    rw [← nk_eq (hs e (h1 e he)) ee]; exact he
/-- the set at a, its members in the table's sequence -/
def SetP (w : World) (a : Addr) (xs : List V) (h : Heap) : Prop := ∃ o es ep t, h.get? a = some o ∧ o.ExactSet ∧ o.data = .set es ep t ∧ t.fits es.size = true ∧ Ris t.place.toList ∧ (w.params.followText "set-order" = true ∨ t.led = true) ∧ es.size < scanBound ∧ Vals xs (es.toList.map (·.2))
def SetO (w : World) (a : Addr) (xs : List V) : HO := .ext (SetP w a xs)
theorem SetO.ok {P : Program} {w : World} {H : Hp} {a : Addr} {xs : List V} {h : Heap} (x : SetP w a xs h) : ObjOk P w H h a (SetO w a xs) := by
  obtain ⟨o, _, _, _, e, _⟩ := id x
  refine ⟨x, ⟨o, e⟩, fun h1 h2 y k => ?_⟩
  obtain ⟨o, es, ep, t, e, r⟩ := y
  exact ⟨o, es, ep, t, k _ e, r⟩
theorem mems {K : Fg} {H : Hp} : ∀ {xs : List V} {ds : List D}, PdAll K H xs ds → (∀ d ∈ ds, (tk d).isSome = true) → ∃ ks : List Mem, xs = ks.map (fun p => V.ref p.1) ∧ Paired (fun (p : Mem) (d : D) => Pd K H (.ref p.1) d ∧ tk d = some p.2) ks ds
  | _, _, .nil, _ => ⟨[], rfl, .nil⟩
  | x :: xs, d :: ds, .cons h r, g => by
    obtain ⟨ks, e, p⟩ := mems r fun d hd => g d (List.mem_cons_of_mem _ hd)
    obtain ⟨k, hk⟩ := Option.isSome_iff_exists.mp (g d List.mem_cons_self)
    obtain ⟨_, _, es, rfl⟩ := tk_nk hk
    cases h with
    | @tup b ys _ h1 h2 => exact ⟨(b, k) :: ks, by rw [e]; rfl, .cons ⟨.tup h1 h2, hk⟩ p⟩
theorem paired_left {α β : Type} {R : α → β → Prop} : ∀ {l : List α} {m : List β}, Paired R l m → ∀ a ∈ l, ∃ b ∈ m, R a b
  | _, _, .nil, a, h => (nomatch h)
  | _, _, .cons h r, a, ha => by
    rcases List.mem_cons.mp ha with rfl | ha
    · exact ⟨_, List.mem_cons_self, h⟩
    · obtain ⟨b, hb, q⟩ := paired_left r a ha
      exact ⟨b, List.mem_cons_of_mem _ hb, q⟩
theorem paired_right {α β : Type} {R : α → β → Prop} : ∀ {l : List α} {m : List β}, Paired R l m → ∀ b ∈ m, ∃ a ∈ l, R a b
  | _, _, .nil, a, h => (nomatch h)
  | _, _, .cons h r, b, hb => by
    rcases List.mem_cons.mp hb with rfl | hb
    · exact ⟨_, List.mem_cons_self, h⟩
    · obtain ⟨a, ha, q⟩ := paired_right r b hb
      exact ⟨a, List.mem_cons_of_mem _ ha, q⟩
theorem choose_data {K : Fg} {H : Hp} {ks : List Mem} {ds : List D} (hp : Paired (fun (p : Mem) (d : D) => Pd K H (.ref p.1) d ∧ tk d = some p.2) ks ds) : ∀ L : List Mem, (∀ p ∈ L, p ∈ ks) →
    ∃ es : List D, PdAll K H (L.map fun p => V.ref p.1) es ∧ Paired (fun (p : Mem) (d : D) => d ∈ ds ∧ tk d = some p.2) L es
  | [], _ => ⟨[], .nil, .nil⟩
  | p :: L, h => by
    obtain ⟨es, a, b⟩ := choose_data hp L fun q hq => h q (List.mem_cons_of_mem _ hq)
    obtain ⟨d, hd, q1, q2⟩ := paired_left hp p (h p List.mem_cons_self)
    exact ⟨d :: es, .cons q1 a, .cons ⟨hd, q2⟩ b⟩
theorem paired_uniq : ∀ {L : List Mem} {es : List D} {ds : List D}, Paired (fun (p : Mem) (d : D) => d ∈ ds ∧ tk d = some p.2) L es → (L.map (·.2)).Nodup → es.Pairwise fun d e => nk d ≠ nk e
  | _, _, _, .nil, _ => .nil
  | p :: L, d :: es, ds, .cons h r, nd => by
    rw [List.map_cons, List.nodup_cons] at nd
    refine List.pairwise_cons.mpr ⟨fun e he z => nd.1 ?_, paired_uniq r nd.2⟩
    obtain ⟨q, hq, h1, h2⟩ := paired_right r e he
    refine List.mem_map.mpr ⟨q, hq, ?_⟩
    rw [(tk_nk h.2).1, (tk_nk h2).1] at z
    exact (Option.some.inj z).symm
theorem few_of {K : Fg} {H : Hp} {ks : List Mem} {ds : List D} (hp : Paired (fun (p : Mem) (d : D) => Pd K H (.ref p.1) d ∧ tk d = some p.2) ks ds) (hf : (ddD ds).length < 64) : FewK ks := fun L nd sub => by
  obtain ⟨es, a, b⟩ := choose_data hp L sub
  have le : es.Nodup := (paired_uniq b nd).imp fun {a b} z e => z (congrArg nk e)
  have h1 : es.length ≤ (ddD ds).length := by
    have sub2 : ∀ e ∈ es, e ∈ ddD ds := fun e he => by
      obtain ⟨q, _, m, t⟩ := paired_right b e he
      obtain ⟨e2, he2, ee⟩ := ddD_all m
      have : nk e2 = nk e := ee
      rw [← nk_eq (by rw [this, (tk_nk t).1]; rfl) this]; exact he2
    exact nodup_len es _ le sub2
  have h2 : L.length = es.length := paired_len b
  omega
end Fz
end

section
set_option Elab.async false
set_option linter.all false
set_option maxRecDepth 100000
set_option maxHeartbeats 4000000
/-! F58: set(xs): the rule. -/
namespace Fz
open PySem PySem.Spec PyProof.Rows L2
section
variable {X : Cx} {pins : List (Addr × Obj)} {σ : L2.St} {H : Hp} {s : Shared}
theorem intsAt {K : Fg} {H : Hp} : ∀ {xs : List V} {ns : List Int} {its : List Value}, PdAll K H xs (ns.map .int) → Vals xs its → ∀ (i : Nat) (v : Value), its[i]? = some v → ∃ (k : Int) (t : Tok), ns[i]? = some k ∧ v = Value.int k t
  | _, [], _, .nil, .nil, i, v, h => by simp at h
  | _, n :: ns, _, .cons p q, .cons r1 r2, i, v, h => by
    cases i with
    | zero =>
      simp at h; subst h
      cases p
      obtain ⟨t, rfl⟩ := r1
      exact ⟨n, t, rfl, rfl⟩
    | succ i =>
      obtain ⟨k, t, a, b⟩ := intsAt q r2 i v (by simpa using h)
      exact ⟨k, t, by simpa using a, b⟩
theorem ints_members {es : List (Int × Value)} (g : ∀ e ∈ es, GoodE e) : Vals ((es.map keyOf).map V.int) (es.map (·.2)) := by
  induction es with
  | nil => exact .nil
  | cons e es ih =>
    obtain ⟨k, tk, h1, h2⟩ := g e List.mem_cons_self
    refine .cons ?_ (ih fun x hx => g x (List.mem_cons_of_mem _ hx))
    show L2.RelV (V.int (keyOf e)) e.2
    rw [h1]
    exact ⟨tk, by simp [keyOf, h1]⟩
theorem ints_pd {K : Fg} {H : Hp} : ∀ ns : List Int, PdAll K H (ns.map V.int) (ns.map .int)
  | [] => .nil
  | n :: ns => .cons (.int n) (ints_pd ns)
theorem refs_vals : ∀ L : List Mem, Vals (L.map fun p => V.ref p.1) (L.map fun p => Value.ref p.1)
  | [] => .nil
  | p :: L => .cons rfl (refs_vals L)
theorem vals_refs' : ∀ {ks : List Mem} {its : List Value}, Vals (ks.map fun p => V.ref p.1) its → its = ks.map fun p => Value.ref p.1
  | [], _, .nil => rfl
  | p :: ks, _, .cons r1 r2 => by rw [vals_refs' r2, List.map_cons]; congr 1
theorem setLoop (I : Inv X pins σ H s) {xs : List V} {ds : List D} {its : List Value} (rv : Vals xs its) (hp : PdAll X.K H xs ds) (ok : setOk ds) (hu : X.A.units + 70 < cLine)
    {it : Addr} {fp wr : List Addr} {G : Array GenState → Array GenState → Prop} {n : Nat} {Pv : Nat → Value → Prop} {St : Nat → Shared → Prop} (W : WalksS X.prog X.w X.A.in1.in1.in1 it fp wr G n Pv St) (hn : n = its.length) (hP : ∀ i v, Pv i v → its[i]? = some v) (hG : ∀ a b, G a b → b = a)
    (hSf : s.heap.objs.size ∉ fp) (hw : ∀ b ∈ wr, s.heap.objs.size ≤ b) {h2 : Heap} (st : St 0 { s with heap := h2 }) (k2 : ∀ b o, s.heap.get? b = some o → h2.get? b = some o) (new : h2.get? s.heap.objs.size = some (newSet0 X.w))
    {Q : Value → Shared → Prop} (q : ∀ (h' : Heap) (tk : Nat) (ys : List V) (es : List D), (∀ b o, s.heap.get? b = some o → h'.get? b = some o) → PdAll X.K H ys es → es.Perm (ddD ds) → SetP X.w s.heap.objs.size ys h' → Q (.ref s.heap.objs.size) { s with heap := h', toks := tk }) :
    codeAny (model X.prog X.w) X.A.in1.in1 (.builtin "set.update.loop" ⟨[.ref s.heap.objs.size, .ref it], []⟩) (fun r v => r = .ok (.ret .none) ∧ Q (.ref s.heap.objs.size) v) { s with heap := h2 } := by
  have none_of : ∀ b, s.heap.objs.size ≤ b → s.heap.get? b = none := fun b hb => by
    cases z : s.heap.get? b with
    | none => rfl
    | some o => exact absurd (Nat.lt_of_lt_of_le (Heap.lt_size z) hb) (Nat.lt_irrefl _)
  have hS0 := none_of _ (Nat.le_refl s.heap.objs.size)
  have shape : ∀ (u : Shared), Moved (s.heap.objs.size :: wr) G { s with heap := h2 } u → u = { s with heap := u.heap, toks := u.toks } ∧ ∀ b o, s.heap.get? b = some o → u.heap.get? b = some o := fun u m => by
    obtain ⟨h', g2, d', tk', os'⟩ := u
    obtain rfl : g2 = s.gens := hG _ _ m.gens
    obtain rfl : d' = s.drawn := m.drawn
    obtain rfl : os' = s.os := m.os
    refine ⟨rfl, fun b o e => m.heap b o (fun hb => ?_) (k2 b o e)⟩
    rcases List.mem_cons.mp hb with z | z
    · rw [z, hS0] at e; cases e
    · rw [none_of b (hw b z)] at e; cases e
  rcases ok with ⟨⟨ns, rfl⟩, hlt⟩ | ⟨hk, few⟩
  · have hl : n = ns.length := by rw [hn, ← rv.length, hp.length, List.length_map]
    rw [List.length_map] at hlt
    refine set_update_ints W s.heap.objs.size hSf ns hl (by unfold scanBound; omega) (fun i v z => intsAt hp rv i v (hP i v z)) (n - 0) 0 _ rfl (Nat.zero_le _) st ⟨0, Nat.le_refl _, setR_new_at new⟩ fun u c m hc R => ?_
    obtain ⟨e, kp⟩ := shape u m
    refine ⟨rfl, ?_⟩
    rw [e]
    obtain ⟨o, es, ep, t, ho, hex, hd, g, nd, hm, hb, hf, hz, hr, hl2⟩ := R
    refine q u.heap u.toks ((es.toList.map keyOf).map V.int) ((es.toList.map keyOf).map .int) kp (ints_pd _) ?_ ⟨o, es, ep, t, ho, hex, hd, hf, hr, hl2, hb, ints_members g⟩
    have mem : ∀ j, j ∈ es.toList.map keyOf ↔ j ∈ ns := fun j => by
      rw [← hm j]; simp
    refine perm_ddD (fun d hd => ?_) (fun e he => ?_) (fun d hd => ?_) ?_
    · obtain ⟨i, _, rfl⟩ := List.mem_map.mp hd; rfl
    · obtain ⟨i, hi, rfl⟩ := List.mem_map.mp he
      exact List.mem_map.mpr ⟨i, (mem i).mp hi, rfl⟩
    · obtain ⟨i, hi, rfl⟩ := List.mem_map.mp hd
      exact ⟨_, List.mem_map.mpr ⟨i, (mem i).mpr hi, rfl⟩, rfl⟩
    · rw [List.pairwise_map]
      refine nd.imp fun {a b} z => ?_
      simp only [nk, ne_eq, Option.some.injEq, NestedKey.num.injEq]
      exact z
  · obtain ⟨ks, rfl, pr⟩ := mems hp hk
    obtain rfl := vals_refs' rv
    have kis : ∀ p ∈ ks, KIs X.prog X.w s.heap p.2 p.1 := fun p hpm => by
      obtain ⟨d, _, h1, h2⟩ := paired_left pr p hpm
      exact nested_key I h1 h2
    refine loopN W s.heap.objs.size hSf ks (by rw [hn, List.length_map]) (few_of pr few) (fun i v z => ?_) s.heap kis hS0 (fun b hb => none_of b (hw b hb)) (show X.A.in1.in1.in1.units + 8 < cLine from by simp only [Around.in1_units]; omega) (n - 0) 0 _ rfl (Nat.zero_le _) st k2
      ⟨[], #[], 0, _, setN_new new, ⟨fun p z => (nomatch z), fun p z => by simp at z⟩⟩ fun u L es ep t m R g kp => ?_
    · have z := hP i v z
      rw [List.getElem?_map] at z
      obtain ⟨p, h1, rfl⟩ := Option.map_eq_some_iff.mp z
      exact ⟨p, h1, rfl⟩
    · obtain ⟨e, kp⟩ := shape u m
      refine ⟨rfl, ?_⟩
      rw [e]
      have hnk : n = ks.length := by rw [hn, List.length_map]
      have sub : ∀ p ∈ L, p ∈ ks := fun p hpm => List.mem_of_mem_take (g.sub p hpm)
      obtain ⟨ds', q1, q2⟩ := choose_data pr L sub
      have hes : es.toList.map (·.2) = L.map fun p => Value.ref p.1 := by
        rw [R.rows, rowN, List.map_map]; rfl
      obtain ⟨o, ho, hex, hd⟩ := R.here
      refine q u.heap u.toks (L.map fun p => V.ref p.1) ds' kp q1 ?_ ⟨o, es, ep, t, ho, hex, hd, R.fits, R.tab.ris, R.led, by rw [R.size]; have := R.few; unfold scanBound; omega, by rw [hes]; exact refs_vals L⟩
      refine perm_ddD (fun d hd => ?_) (fun e he => ?_) (fun d hd => ?_) (paired_uniq q2 R.uniq)
      · obtain ⟨k, e⟩ := Option.isSome_iff_exists.mp (hk d hd)
        rw [(tk_nk e).1]; rfl
      · obtain ⟨p, _, m1, _⟩ := paired_right q2 e he
        exact m1
      · obtain ⟨p, hpm, _, tp⟩ := paired_right pr d hd
        have hin := g.all p (by rw [hnk, List.take_length]; exact hpm)
        obtain ⟨p2, hp2, e2⟩ := List.mem_map.mp hin
        obtain ⟨d2, hd2, _, t2⟩ := paired_left q2 p2 hp2
        refine ⟨d2, hd2, ?_⟩
        rw [(tk_nk t2).1, (tk_nk tp).1, e2]
end
end Fz
end

section
set_option Elab.async false
set_option linter.all false
set_option maxRecDepth 100000
set_option maxHeartbeats 4000000
/-! F59: sorted(set(xs)), len(set(xs)). -/
namespace Fz
open PySem PySem.Spec PyProof.Rows L2 SrtO Srt
/-! ### codes tell keys -/
section
variable {prog : Program} {w : World} {A : Around} {E : Value → Shared → Prop} {s : Shared}
end
end Fz
end

section
set_option Elab.async false
set_option linter.all false
set_option maxRecDepth 100000
set_option maxHeartbeats 4000000
/-! F60: sorted(set(xs)), len(set(xs)): rules, dens, weakest preconditions. -/
namespace Fz
open PySem PySem.Spec PyProof.Rows L2 SrtO Srt
section
variable {X : Cx} {F : Fx}
def rSetOf (X : Cx) : List V → Hp → VK → Prop := fun vs H Q => ∃ (l : Addr) (xs : List V) (ds : List D), vs = [.ref l] ∧ (SqL X.K H l xs ∨ SqT X.K H l xs) ∧ PdAll X.K H xs ds ∧ setOk ds ∧
  ∀ ys es p, PdAll X.K H ys es → es.Perm (ddD ds) → H p = none → Q (.ref p) (upd H p (SetO X.w p ys))
theorem cr_setOf (hc : X.calm = true) (hu : X.A.units + 70 < cLine) : CallR X (.type "set") (rSetOf X) := by
  intro pins s σ H vs us Q I r h
  obtain ⟨l, xs, ds, rfl, hq, hp, ok, q⟩ := h
  rw [Vals.ref1 r]
  have fin : ∀ (h' : Heap) (tk : Nat) (ys : List V) (es : List D), (∀ b o, s.heap.get? b = some o → h'.get? b = some o) → PdAll X.K H ys es → es.Perm (ddD ds) → SetP X.w s.heap.objs.size ys h' → EP X pins σ Q (.ref s.heap.objs.size) { s with heap := h', toks := tk } := fun h' tk ys es kp py pm sp =>
    ⟨.ref s.heap.objs.size, upd H s.heap.objs.size (SetO X.w s.heap.objs.size ys), I.laid (t' := tk) kp (Nat.le_refl _) (SetO.ok sp), rfl, q ys es _ py pm (I.hok.fresh (Nat.le_refl _))⟩
  have hh : X.A.in1.in1.in1.handled = none := I.ok.hd hc
  have hz : (s.heap.push (newSet0 X.w)).objs.size = s.heap.objs.size + 1 := Heap.size_push ..
  have hS : (s.heap.push (newSet0 X.w)).get? s.heap.objs.size = some (newSet0 X.w) := Heap.get?_push_size _ rfl
  rcases hq with hq | hq
  · obtain ⟨its, rv, pl, _⟩ := I.list hq
    obtain ⟨o, ho, hcl, n, hd⟩ := id pl.isList
    have lt : l < s.heap.objs.size := Heap.lt_size ho
    refine call_setG ho hcl (by decide) F.sub_list_set F.sub_list_frozenset ?_
    have il : (s.heap.push (newSet0 X.w)).IsList l its.toArray := ⟨o, Heap.get?_push_of_some _ ho, hcl, n, hd⟩
    refine wpAny_pyIter_list il ?_
    have ne : l ≠ (s.heap.push (newSet0 X.w)).objs.size := by rw [hz]; exact Nat.ne_of_lt (Nat.lt_succ_of_lt lt)
    refine setLoop I rv hp ok hu (Walks.list hh _ l ne its.toArray).toS (by simp) (fun i v z => by simpa using z) (fun _ _ z => z) ?_ (fun b hb => ?_) ⟨⟨_, Heap.get?_push_size _ rfl, rfl, rfl⟩, il.push _⟩ (fun b o e => Heap.get?_push_of_some _ (Heap.get?_push_of_some _ e)) (Heap.get?_push_of_some _ hS) fin
    · rw [hz]; simp only [List.mem_cons, List.not_mem_nil, or_false, not_or]
      exact ⟨Nat.ne_of_lt (Nat.lt_succ_self _), Nat.ne_of_gt lt⟩
    · rw [List.mem_singleton.mp hb, hz]; exact Nat.le_succ _
  · obtain ⟨its, rv, pl, _⟩ := I.tuple hq
    have pl : s.heap.IsTuple l its.toArray := pl
    obtain ⟨o, ho, hcl, n, hd⟩ := id pl
    have lt : l < s.heap.objs.size := Heap.lt_size ho
    refine call_setG ho hcl (by decide) F.sub_tuple_set F.sub_tuple_frozenset ?_
    have il : (s.heap.push (newSet0 X.w)).IsTuple l its.toArray := ⟨o, Heap.get?_push_of_some _ ho, hcl, n, hd⟩
    refine wpAny_pyIter_tuple il ?_
    have ne : l ≠ (s.heap.push (newSet0 X.w)).objs.size := by rw [hz]; exact Nat.ne_of_lt (Nat.lt_succ_of_lt lt)
    refine setLoop I rv hp ok hu (Walks.tuple hh _ l ne its.toArray).toS (by simp) (fun i v z => by simpa using z) (fun _ _ z => z) ?_ (fun b hb => ?_) ⟨⟨_, Heap.get?_push_size _ rfl, rfl, rfl⟩, il.push _⟩ (fun b o e => Heap.get?_push_of_some _ (Heap.get?_push_of_some _ e)) (Heap.get?_push_of_some _ hS) fin
    · rw [hz]; simp only [List.mem_cons, List.not_mem_nil, or_false, not_or]
      exact ⟨Nat.ne_of_lt (Nat.lt_succ_self _), Nat.ne_of_gt lt⟩
    · rw [List.mem_singleton.mp hb, hz]; exact Nat.le_succ _
/-- len of a set -/
def rLenSet (X : Cx) : List V → Hp → VK → Prop := fun vs H Q => ∃ (a : Addr) (ys : List V), vs = [.ref a] ∧ H a = some (SetO X.w a ys) ∧ Q (.int ys.length) H
theorem cr_lenSet : CallR X (.builtin "len") (rLenSet X) := by
  intro pins s σ H vs us Q I r h
  obtain ⟨a, ys, rfl, ha, q⟩ := h
  rw [Vals.ref1 r]
  obtain ⟨o, rs, ep, t, ho, hex, hd, hf, hr, hl, hb, rv⟩ := (show ObjOk X.prog X.w H s.heap a (SetO X.w a ys) from I.hok a _ ha).1
  have hn : rs.size = ys.length := by rw [rv.length, List.length_map, Array.length_toList]
  unfold scanBound at hb
  exact call_len_set ho hex hd hf (by omega) ⟨.int ys.length, H, (I.tok _).tok _, ⟨_, by rw [hn]⟩, q⟩
end
noncomputable def fLenSet (f : FS → Res D) : FS → Res D := bnd f fun d S => match seqD d with
  | some ds => @ite _ (setOk ds) (Classical.propDecidable _) (.ok (.int (ddD ds).length) S) .bad
  | none => .bad
section
variable {X : Cx} {F : Fx} {a : Expr} {f : FS → Res D} {p p2 pos pos2 : Pos}
theorem seqD_some {d : D} {ds : List D} (h : seqD d = some ds) : d = .list ds ∨ d = .tuple ds := by
  cases d <;> cases h
  · exact .inl rfl
  · exact .inr rfl
theorem qd_seq {K : Fg} {H : Hp} {x : V} {d : D} {ds : List D} (h : Qd K H x d) (e : seqD d = some ds) : ∃ l vs, x = .ref l ∧ (SqL K H l vs ∨ SqT K H l vs) ∧ PdAll K H vs ds := by
  rcases seqD_some e with rfl | rfl
  · obtain ⟨l, vs, rfl, h1, h2⟩ := h.list; exact ⟨l, vs, rfl, .inl h1, h2⟩
  · obtain ⟨l, vs, rfl, h1, h2⟩ := h.tuple; exact ⟨l, vs, rfl, .inr h1, h2⟩
theorem e_lenSet (hc : X.calm = true) (hu : X.A.units + 70 < cLine) (hg : Gl X "len") (hm : X.mg "len" = none) (hg2 : Gl X "set") (hm2 : X.mg "set" = none) (ha : EQ X F a f) (hw : F.w = X.w := by rfl)
    (na : starEach [a] X.env = (false, eval a X.env) :: starEach [] X.env := by rfl)
    (nt : starEach [.Call (.Name "set" p) [a] [] pos] X.env = (false, eval (.Call (.Name "set" p) [a] [] pos) X.env) :: starEach [] X.env := by rfl) :
    ED X F (.Call (.Name "len" p2) [.Call (.Name "set" p) [a] [] pos] [] pos2) (fLenSet f) :=
  (pe_callB cr_lenSet hg hm bt_len (pa_cons (pe_callTy (cr_setOf hc hu) hg2 hm2 (by decide +kernel) (pa_cons ha pa_nil na) (by decide) (by decide) na rfl) pa_nil nt) (by decide) (by decide) nt rfl).via fun σ H Q h => by
    refine (rdG.bind h).imp fun x H1 ⟨d, S1, r, v, p1, q⟩ => ?_
    cases e : seqD d with
    | none => rw [e] at q; exact q.elim
    | some ds =>
      rw [e] at q
      simp only at q
      by_cases ok : setOk ds
      · rw [if_pos ok] at q
        obtain ⟨l, vs, rfl, h1, h2⟩ := qd_seq v e
        refine ⟨l, vs, ds, rfl, h1, h2, ok, fun ys es t py pm ht => ?_⟩
        have p2 : Pers H1 (upd H1 t (SetO X.w t ys)) := Pers.new ht
        refine ⟨t, ys, rfl, upd_same, ?_⟩
        have hl : ys.length = (ddD ds).length := by rw [py.length, pm.length_eq]
        rw [hl]
        exact q _ _ p2 (r.new ht) (.int _)
      · rw [if_neg ok] at q; exact q.elim
end
section
variable {S : FS} {Q : D → FS → Prop} {QV : SV → FS → Prop} {f : FS → Res D}
@[simp] theorem wE_fLenSet : wE (fLenSet f S) Q = wE (f S) fun d S1 => wO (seqD d) fun ds => setOk ds ∧ Q (.int (ddD ds).length) S1 := by
  unfold fLenSet; rw [wE_bnd]; congr; funext d S1
  cases seqD d with
  | none => rfl
  | some ds =>
    simp only [wO_some]
    by_cases h : setOk ds
    · rw [if_pos h]; simp [h]
    · rw [if_neg h]; simp only [wE_bad, h, false_and]
end
end Fz
end

section
set_option Elab.async false
set_option linter.all false
set_option maxRecDepth 100000
set_option maxHeartbeats 4000000
/-! F61: an own value of any kind as the last part of an assignment of several; a new own value handed to a call, dropped behind it. -/
namespace Fz
open PySem PySem.Spec PyProof.Rows L2
section
variable {X : Cx} {F : Fx} {e : Expr} {es : List Expr} {f : FS → Res SV} {pos p : Pos}
end
section
variable {K : Fg} {F : Fx} {S S' : FS} {σ : Sl} {H H' : Hp} {vs : List V} {as : List AD} {svs svs' : List SV} {a : Addr} {ob : Ob}
end
section
variable {X : Cx} {F : Fx} {e : Expr} {es : List Expr} {pos p : Pos}
end
/-! ### weakest preconditions -/
section
variable {S : FS} {QV : SV → FS → Prop} {QS : List SV → FS → Prop} {QT : List AD × SV → FS → Prop}
end
end Fz
end

section
set_option Elab.async false
set_option linter.all false
set_option maxRecDepth 100000
set_option maxHeartbeats 4000000
/-! F62: the order < of plain data (ints, texts, tuples of such, at any depth). -/
namespace Fz
open PySem PySem.Spec PyProof.Rows L2
section
variable {X : Cx} {F : Fx}
end
section
variable {S : FS} {Q : D → FS → Prop}
end
end Fz
end

section
set_option Elab.async false
set_option linter.all false
set_option maxRecDepth 100000
set_option maxHeartbeats 4000000
/-! F63: * and ** of ints of up to about a hundred million bits. -/
namespace Fz
open PySem PySem.Spec PyProof.Rows L2
section
variable {X : Cx} {F : Fx}
end
section
variable {S : FS} {Q : D → FS → Prop} {d e : D}
end
end Fz
end

section
set_option Elab.async false
set_option linter.all false
set_option maxRecDepth 100000
set_option maxHeartbeats 4000000
/-! F64: the keys of an own dict walked; its slot is empty from there on (it is read for the last time). -/
namespace Fz
open PySem PySem.Spec PyProof.Rows L2
section
variable {P : Program} {w : World} {K : PySem.W.Frag} {tg : Expr} {a : Addr} {od : Obj} {u : HO} {es : Array DictEntry} {ep : Nat} {ks : List V}
end
section
variable {X : Cx} {F : Fx} {tg o : Expr} {i : Nat}
end
end Fz
end

section
set_option Elab.async false
set_option linter.all false
set_option maxRecDepth 100000
set_option maxHeartbeats 4000000
/-! F65: a, b, .. = a list. -/
namespace Fz
open PySem PySem.Spec PyProof.Rows L2
section
variable {X : Cx} {F : Fx} {pos : Pos}
end
end Fz
end

section
set_option Elab.async false
set_option linter.all false
set_option maxRecDepth 100000
set_option maxHeartbeats 4000000
/-! F66: any, all of a generator expression of two clauses: the turns. -/
namespace Fz
open PySem PySem.Spec PyProof.Rows L2 GenW
theorem g2_out (elt t0 i0 t1 i1 : Expr) (f0 f1 : List Expr) (scope : Scope) (pos : Pos) (it acc : Value) (env : Env) :
    compTurn (.GeneratorExp elt [⟨t0, i0, f0, 0⟩, ⟨t1, i1, f1, 0⟩] scope pos) 0 it acc env = (do
      standAt i0.pos
      match ← pyNext it with
      | none => pure (.done .next)
      | some v =>
        letOwnedTupleGo t0 it v
        assign t0 env v
        let mut ok := true
        for c in f0 do
          if ok then ok ← isTrue c env (eval c env)
        if ok then
          let x ← eval i1 env
          standAt i1.pos
          let x ← foldedSetIterable i1 env x
          let _ ← runOwn (.compStart (.GeneratorExp elt [⟨t0, i0, f0, 0⟩, ⟨t1, i1, f1, 0⟩] scope pos) 1 (← holding [x] (pyIter x)) acc env) env
        again (.compLoop (.GeneratorExp elt [⟨t0, i0, f0, 0⟩, ⟨t1, i1, f1, 0⟩] scope pos) 0 it acc env)) := by rfl
theorem g2_in (elt t0 i0 t1 i1 : Expr) (f0 f1 : List Expr) (scope : Scope) (pos : Pos) (it acc : Value) (env : Env) :
    compTurn (.GeneratorExp elt [⟨t0, i0, f0, 0⟩, ⟨t1, i1, f1, 0⟩] scope pos) 1 it acc env = (do
      standAt i1.pos
      match ← pyNext it with
      | none => pure (.done .next)
      | some v =>
        letOwnedTupleGo t1 it v
        assign t1 env v
        let mut ok := true
        for c in f1 do
          if ok then ok ← isTrue c env (eval c env)
        if ok then
          (do let v ← eval elt env; standAt elt.pos; let _ ← yieldOut env v)
        again (.compLoop (.GeneratorExp elt [⟨t0, i0, f0, 0⟩, ⟨t1, i1, f1, 0⟩] scope pos) 1 it acc env)) := by rfl
section
variable {Y : Cx} {F : Fx} {elt tg0 iter0 tg iter : Expr} {ifs0 ifs : List Expr} {scope : Scope} {pos : Pos} {g : D → FS → Option FS} {t : FS → Res Bool} {fe : FS → Res D} {ts vs : List Nat} {stop : Bool} {Q : Bool → Hp → Prop}
  {A : Around} {it : Addr} {fp : List Addr} {tn : Nat → Heap → Prop} {J : It} {H1 : Hp} {ds : List D} {σ : Sl} {pins : List (Addr × Obj)} {fs : List Frame}
/-- the inner turns -/
theorem gen_in (hc : Y.calm = true) (hx : ∀ e s, Y.xe e s → False) (hA : A.over (.compLoop (.GeneratorExp elt [⟨tg0, iter0, ifs0, 0⟩, ⟨tg, iter, ifs, 0⟩] scope pos) 1 (.ref it) .none Y.env) fs = Y.A) (hsp : splitAtGen fs = none) (hgd : fs.any Frame.guarded = false) (hco : Y.env.scope.isCoroutine = false)
    (T : Turn Y.prog Y.w Y.K tg J fp it tn) (stat : ∀ (σ' : Sl) (H' : Hp) (s' : Shared), Inv Y pins σ' H' s' → (∀ b ∈ fp, H' b = none) → ∀ b ∈ fp, FpOk Y pins H' b) (y : Yields Y.K J H1 ds)
    (pg : EG Y F tg ts g) (pt : ETs Y F ifs t) (pe : ED Y F elt fe) (hts : ∀ j, j ∈ ts → j ∈ vs) {b0 : Bool} {S0 : FS} {m : Nat}
    (fin : b0 ≠ stop → ∀ (n : Nat) (s₀ s : Shared) (H' : Hp), m ≤ n → Inv Y pins (wipe σ vs) H' s → Pers H1 H' → Rel Y.K F S0 σ H' →
      Seg (model Y.prog Y.w) A (GRr Y stop Q) (GYp Y stop Q) n s₀ (.compLoop (.GeneratorExp elt [⟨tg0, iter0, ifs0, 0⟩, ⟨tg, iter, ifs, 0⟩] scope pos) 1 (.ref it) .none Y.env) (leafOf (.ok .next)) fs s)
    (hot : b0 = stop → ∀ H', Pers H1 H' → Rel Y.K F S0 σ H' → Q stop H') :
    ∀ (k i n : Nat) (s₀ s : Shared) (S : FS) (H : Hp), ds.length - i = k → i ≤ ds.length → k + (if b0 = stop then 0 else m) ≤ n → Inv Y pins (wipe σ vs) H s → tn i s.heap → (∀ b ∈ fp, H b = none) → Pers H1 H → Rel Y.K F S σ H → anyF stop g t fe vs (ds.drop i) S = .ok b0 S0 →
      Seg (model Y.prog Y.w) A (GRr Y stop Q) (GYp Y stop Q) n s₀ (.compLoop (.GeneratorExp elt [⟨tg0, iter0, ifs0, 0⟩, ⟨tg, iter, ifs, 0⟩] scope pos) 1 (.ref it) .none Y.env)
        ((model Y.prog Y.w).den (.compLoop (.GeneratorExp elt [⟨tg0, iter0, ifs0, 0⟩, ⟨tg, iter, ifs, 0⟩] scope pos) 1 (.ref it) .none Y.env)) fs s := by
  intro k
  induction k with
  | zero =>
    intro i n s₀ s S H hk hi hkn I st nf pH r p
    have e : i = ds.length := by omega
    subst e
    rw [List.drop_length] at p
    simp only [anyF, Res.ok.injEq] at p
    obtain ⟨pb, rfl⟩ := p
    have hne : b0 ≠ stop := by rw [← pb]; cases stop <;> decide
    rw [if_neg hne] at hkn
    show Seg _ A _ _ n s₀ _ ((compTurn (.GeneratorExp elt [⟨tg0, iter0, ifs0, 0⟩, ⟨tg, iter, ifs, 0⟩] scope pos) 1 (.ref it) .none Y.env).onRaise (fun x => do noteFrame x Y.env; theTreesLotGoes x)) fs s
    rw [g2_in, Sem.onRaise_eq_wrap]
    refine seg_bind_wrap (wpAny_standAt ?_)
    refine seg_bind_wrap ?_
    rw [hA]
    have td := T.done Y rfl rfl rfl hc ds.length pins s _ H (fun _ _ => False) I (stat _ _ _ I nf) st (y.stop H pH)
    refine thnF td fun rr s6 ⟨hr, I6⟩ => ?_
    subst hr
    exact fin hne n s₀ s6 H (by omega) I6 pH r
  | succ k ih =>
    intro i n s₀ s S H hk hi hkn I st nf pH r p
    have hl : i < ds.length := by omega
    show Seg _ A _ _ n s₀ _ ((compTurn (.GeneratorExp elt [⟨tg0, iter0, ifs0, 0⟩, ⟨tg, iter, ifs, 0⟩] scope pos) 1 (.ref it) .none Y.env).onRaise (fun x => do noteFrame x Y.env; theTreesLotGoes x)) fs s
    rw [g2_in, Sem.onRaise_eq_wrap]
    refine seg_bind_wrap (wpAny_standAt ?_)
    refine seg_bind_wrap ?_
    rw [hA]
    have ti := T.item Y rfl rfl rfl hc i pins s _ H (fun _ _ => False) I (stat _ _ _ I nf) st (y.go i H pH hl)
    refine thnF ti fun rr s6 ⟨u, hr, h6⟩ => ?_
    subst hr
    refine seg_bind_wrap ?_
    rw [hA]
    refine thnF h6 fun _ s7 ⟨x, H7, I7, r7, y7, st7, n7⟩ => ?_
    obtain ⟨p2, k2, v2⟩ := y.yld i H x H7 ds[i] pH (List.getElem?_eq_getElem hl) y7
    rw [List.drop_eq_getElem_cons hl] at p
    simp only [anyF] at p
    have rb2 : Rel Y.K F S σ H7 := k2 _ _ _ r
    have rw2 := rb2.wiped (vs := vs)
    have I7' := I7.pinned (stat _ _ _ I7 n7) (T.obj _ _ st7)
    refine seg_bind_wrap ?_
    rw [hA]
    cases e2 : g ds[i] (wipeS S vs) with
    | none => rw [e2] at p; cases p
    | some S1 =>
      rw [e2] at p
      simp only at p
      refine thnY hx (pg.run _ s7 _ H7 x u (fun σ8 H8 => wipe σ8 vs = wipe σ vs ∧ Pers H7 H8 ∧ Rel Y.K F S1 σ8 H8) I7' r7 ⟨wipeS S vs, ds[i], rw2, v2, ?_⟩) fun _ s8 ⟨σ8, H8, I8, hw8, p8, r8⟩ => ?_
      · rw [e2]
        intro σ3 H3 p3 r3 b3
        exact ⟨(wipe_beside hts b3).1, p3, r3⟩
      refine seg_bind_wrap ?_
      rw [hA]
      have pH8 : Pers H1 H8 := (pH.trans p2).trans p8
      have fin1 : ∀ {n' : Nat} {s0' s' : Shared} {H' : Hp} {S' : FS}, k + (if b0 = stop then 0 else m) ≤ n' → Inv Y (pins ++ L2.pinsAt fp s7.heap) σ8 H' s' → Pers H8 H' → Rel Y.K F (restS S S' vs) σ H' → anyF stop g t fe vs (ds.drop (i + 1)) (restS S S' vs) = .ok b0 S0 →
          Seg (model Y.prog Y.w) A (GRr Y stop Q) (GYp Y stop Q) n' s0' (.compLoop (.GeneratorExp elt [⟨tg0, iter0, ifs0, 0⟩, ⟨tg, iter, ifs, 0⟩] scope pos) 1 (.ref it) .none Y.env)
            ((model Y.prog Y.w).den (.compLoop (.GeneratorExp elt [⟨tg0, iter0, ifs0, 0⟩, ⟨tg, iter, ifs, 0⟩] scope pos) 1 (.ref it) .none Y.env)) fs s' := fun {n' s0' s' H' S'} hn' I' pp rr qq => by
        have pin' : ∀ b ∈ fp, ∀ o, s7.heap.get? b = some o → s'.heap.get? b = some o ∧ H' b = none := fun b hb o e =>
          let z := I'.pin (b, o) (List.mem_append_right _ (List.mem_append_right _ (mem_pinsAt hb e)))
          ⟨z.1, z.2.1⟩
        have hl3 : (wipe σ vs).length = σ8.length := by rw [← hw8, wipe_length]
        refine ih (i + 1) n' s0' s' _ H' (by omega) hl hn' ((I'.unpinned (pins := pins)).weak hl3 (fun j v e => ?_)) (T.keep _ _ _ st7 fun b hb o e => (pin' b hb o e).1) (fun b hb => ?_) (pH8.trans pp) rr qq
        · rw [← hw8] at e
          exact (wipe_some e).1
        · obtain ⟨o, e, _⟩ := T.obj _ _ st7 b hb
          exact (pin' b hb o e).2
      cases e3 : t S1 with
      | exn e4 S2 => rw [e3] at p; cases p
      | bad => rw [e3] at p; cases p
      | ok kk S2 =>
        rw [e3] at p
        refine thnY hx (pt.run _ s8 σ8 H8 (fun b H9 => b = kk ∧ Pers H8 H9 ∧ Rel Y.K F S2 σ8 H9) I8 ⟨S1, r8, ?_⟩) fun b s9 ⟨H9, I9, eb, p9, r9⟩ => ?_
        · rw [e3]
          exact fun H4 p4 r4 => ⟨rfl, p4, r4⟩
        subst eb
        have pp9 : Pers H H9 := (p2.trans p8).trans p9
        cases b with
        | false =>
          simp only [Bool.false_eq_true, if_false]
          refine seg_again rfl ?_
          exact fin1 (n' := n) (by omega) I9 p9 (r.rest r9 pp9 hw8) p
        | true =>
          simp only at p
          simp only [if_true]
          cases e5 : fe S2 with
          | exn e6 S3 => rw [e5] at p; cases p
          | bad => rw [e5] at p; cases p
          | ok yd S3 =>
            rw [e5] at p
            cases yd with
            | bool b =>
              simp only at p
              have hy : ∀ v, yieldOut Y.env v = yieldValue v := fun v => by simp only [yieldOut, hco, Bool.false_eq_true, if_false]
              simp only [hy]
              obtain ⟨n, rfl⟩ : ∃ m, n = m + 1 := ⟨n - 1, by omega⟩
              rw [Sem.bind_eq_wrap', Sem.bind_eq_wrap', Sem.wrap_wrap, Sem.wrap_wrap]
              refine seg_wrap ?_
              rw [hA]
              refine thnY hx (pe.run _ s9 σ8 H9 (fun z H10 => z = .bl b ∧ Pers H9 H10 ∧ Rel Y.K F S3 σ8 H10) I9 ⟨S2, r9, ?_⟩) fun z s10 ⟨yv, H10, I10, r10, ev, p10, q10⟩ => ?_
              · rw [e5]
                intro z H5 p5 r5 v5
                cases v5
                exact ⟨rfl, p5, r5⟩
              subst ev
              obtain rfl : z = Value.bool b := r10
              have pp10 : Pers H H10 := pp9.trans p10
              have rr := r.rest q10 pp10 hw8
              refine seg_at (seg_yield hsp rfl hgd ⟨b, H10, σ8, _, rfl, I10, fun hb => ?_, fun hb s'' wk => ?_⟩)
              · rw [if_pos hb] at p
                simp only [Res.ok.injEq] at p
                obtain ⟨pb, rfl⟩ := p
                exact hot pb.symm H10 (pH.trans pp10) rr
              · rw [if_neg hb] at p
                refine seg_again rfl ?_
                exact fin1 (n' := n) (by omega) (inv_same I10 wk.heap wk.os wk.bare) (p9.trans p10) rr p
            | _ => cases p
theorem gen_begin1 {n : Nat} {s₀ s : Shared} {R : GenEnd} {Yp : Protocol} (T : Turn Y.prog Y.w Y.K tg J fp it tn) (st : tn 0 s.heap)
    (loop : Seg (model Y.prog Y.w) A R Yp n s₀ (.compLoop (.GeneratorExp elt [⟨tg0, iter0, ifs0, 0⟩, ⟨tg, iter, ifs, 0⟩] scope pos) 1 (.ref it) .none Y.env)
        ((model Y.prog Y.w).den (.compLoop (.GeneratorExp elt [⟨tg0, iter0, ifs0, 0⟩, ⟨tg, iter, ifs, 0⟩] scope pos) 1 (.ref it) .none Y.env)) fs s) :
    Seg (model Y.prog Y.w) A R Yp n s₀ (.compStart (.GeneratorExp elt [⟨tg0, iter0, ifs0, 0⟩, ⟨tg, iter, ifs, 0⟩] scope pos) 1 (.ref it) .none Y.env)
        ((model Y.prog Y.w).den (.compStart (.GeneratorExp elt [⟨tg0, iter0, ifs0, 0⟩, ⟨tg, iter, ifs, 0⟩] scope pos) 1 (.ref it) .none Y.env)) fs s := by
  show Seg _ A _ _ _ s₀ _ ((compStart (.GeneratorExp elt [⟨tg0, iter0, ifs0, 0⟩, ⟨tg, iter, ifs, 0⟩] scope pos) 1 (.ref it) .none Y.env).onRaise (fun x => do noteFrame x Y.env; standAt theWindowsPlace)) fs s
  unfold compStart
  rw [Sem.onRaise_eq_wrap]
  show Seg _ A _ _ _ s₀ _ ((ask >>= _).wrap _ _ _ _) fs s
  refine seg_bind_wrap (wpAny_askSetting ?_)
  split
  · exact seg_again rfl loop
  · first
      | exact seg_bind_wrap (wpAny_rule (seg_bind_wrap (wpAny_standAt (seg_bind_wrap (T.self _ 0 s _ _ st (seg_again rfl loop))))))
      | (refine seg_bind_wrap (wpAny_rule ?_); show Seg _ A _ _ _ s₀ _ ((standAt iter.pos >>= _).wrap _ _ _ _) fs s; exact seg_bind_wrap (wpAny_standAt (seg_bind_wrap (T.self _ 0 s _ _ st (seg_again rfl loop)))))
theorem gen_begin0 {tg1 iter1 : Expr} {ifs1 : List Expr} {n : Nat} {s₀ s : Shared} {R : GenEnd} {Yp : Protocol} (T : Turn Y.prog Y.w Y.K tg J fp it tn) (st : tn 0 s.heap)
    (loop : Seg (model Y.prog Y.w) A R Yp n s₀ (.compLoop (.GeneratorExp elt [⟨tg, iter, ifs, 0⟩, ⟨tg1, iter1, ifs1, 0⟩] scope pos) 0 (.ref it) .none Y.env)
        ((model Y.prog Y.w).den (.compLoop (.GeneratorExp elt [⟨tg, iter, ifs, 0⟩, ⟨tg1, iter1, ifs1, 0⟩] scope pos) 0 (.ref it) .none Y.env)) [] s) :
    Seg (model Y.prog Y.w) A R Yp n s₀ (.compStart (.GeneratorExp elt [⟨tg, iter, ifs, 0⟩, ⟨tg1, iter1, ifs1, 0⟩] scope pos) 0 (.ref it) .none Y.env)
        ((model Y.prog Y.w).den (.compStart (.GeneratorExp elt [⟨tg, iter, ifs, 0⟩, ⟨tg1, iter1, ifs1, 0⟩] scope pos) 0 (.ref it) .none Y.env)) [] s := by
  show Seg _ A _ _ _ s₀ _ ((compStart (.GeneratorExp elt [⟨tg, iter, ifs, 0⟩, ⟨tg1, iter1, ifs1, 0⟩] scope pos) 0 (.ref it) .none Y.env).onRaise (leaving Y.env)) [] s
  unfold compStart
  rw [Sem.onRaise_eq_wrap]
  show Seg _ A _ _ _ s₀ _ ((ask >>= _).wrap _ _ _ _) [] s
  refine seg_bind_wrap (wpAny_askSetting ?_)
  split
  · exact seg_again rfl loop
  · first
      | exact seg_bind_wrap (wpAny_rule (seg_bind_wrap (wpAny_standAt (seg_bind_wrap (T.self _ 0 s _ _ st (seg_again rfl loop))))))
      | (refine seg_bind_wrap (wpAny_rule ?_); show Seg _ A _ _ _ s₀ _ ((standAt iter.pos >>= _).wrap _ _ _ _) [] s; exact seg_bind_wrap (wpAny_standAt (seg_bind_wrap (T.self _ 0 s _ _ st (seg_again rfl loop)))))
end
end Fz
end

section
set_option Elab.async false
set_option linter.all false
set_option maxRecDepth 100000
set_option maxHeartbeats 4000000
/-! F67: any, all of a generator expression of two clauses: the outer turns. -/
namespace Fz
open PySem PySem.Spec PyProof.Rows L2 GenW
section
variable (stop : Bool) (g : D → FS → Option FS) (t : FS → Res Bool) (it1 : FS → Res (List D)) (g1 : D → FS → Option FS) (t1 : FS → Res Bool) (fe : FS → Res D) (vs vs1 : List Nat)
def any2F : List D → FS → Res Bool
  | [], S => .ok (!stop) S
  | d :: ds, S => match g d (wipeS S vs) with
    | none => .bad
    | some S1 => match t S1 with
      | .ok false S2 => any2F ds (restS S S2 vs)
      | .ok true S2 => (match it1 S2 with
        | .ok ds1 S3 => (match anyF stop g1 t1 fe vs1 ds1 S3 with
          | .ok b S4 => if b = stop then .ok stop (restS S S4 vs) else any2F ds (restS S S4 vs)
          | _ => .bad)
        | _ => .bad)
      | _ => .bad
/-- a bound of the yields -/
def any2N : List D → FS → Nat
  | [], S => 0
  | d :: ds, S => match g d (wipeS S vs) with
    | none => 0
    | some S1 => match t S1 with
      | .ok false S2 => any2N ds (restS S S2 vs)
      | .ok true S2 => (match it1 S2 with
        | .ok ds1 S3 => (match anyF stop g1 t1 fe vs1 ds1 S3 with
          | .ok b S4 => ds1.length + (if b = stop then 0 else any2N ds (restS S S4 vs))
          | _ => 0)
        | _ => 0)
      | _ => 0
end
section
variable {Y : Cx} {F : Fx} {elt tg iter tg1 iter1 : Expr} {ifs ifs1 : List Expr} {scope : Scope} {pos : Pos} {g g1 : D → FS → Option FS} {t t1 : FS → Res Bool} {it1 : FS → Res (List D)} {fe : FS → Res D} {ts vs ts1 vs1 : List Nat} {stop : Bool} {Q : Bool → Hp → Prop}
  {A : Around} {it : Addr} {fp : List Addr} {tn : Nat → Heap → Prop} {J : It} {H1 : Hp} {ds : List D} {σ : Sl}
theorem gen_loop2 (hc : Y.calm = true) (hx : ∀ e s, Y.xe e s → False) (hA : A.over (.compLoop (.GeneratorExp elt [⟨tg, iter, ifs, 0⟩, ⟨tg1, iter1, ifs1, 0⟩] scope pos) 0 (.ref it) .none Y.env) [] = Y.A)
    (hA1 : ∀ it1 k l p, A.over (.compLoop (.GeneratorExp elt [⟨tg, iter, ifs, 0⟩, ⟨tg1, iter1, ifs1, 0⟩] scope pos) 1 (.ref it1) .none Y.env) [.ret k none false l (.compLoop (.GeneratorExp elt [⟨tg, iter, ifs, 0⟩, ⟨tg1, iter1, ifs1, 0⟩] scope pos) 0 (.ref it) .none Y.env) p []] = Y.A) (hco : Y.env.scope.isCoroutine = false)
    (T : Turn Y.prog Y.w Y.K tg J fp it tn) (stat : ∀ (σ' : Sl) (H' : Hp) (s' : Shared), Inv Y [] σ' H' s' → (∀ b ∈ fp, H' b = none) → ∀ b ∈ fp, FpOk Y [] H' b) (y : Yields Y.K J H1 ds)
    (pg : EG Y F tg ts g) (pt : ETs Y F ifs t) (pi1 : EI Y F tg1 iter1 it1) (pg1 : EG Y F tg1 ts1 g1) (pt1 : ETs Y F ifs1 t1) (pe : ED Y F elt fe) (hts : ∀ j, j ∈ ts → j ∈ vs) (hts1 : ∀ j, j ∈ ts1 → j ∈ vs1) (hv : ∀ j ∈ vs1, j ∈ vs) (hs1 : ∀ env x, foldedSetIterable iter1 env x = pure x) :
    ∀ (k i n : Nat) (s₀ s : Shared) (S : FS) (H : Hp), ds.length - i = k → i ≤ ds.length → any2N stop g t it1 g1 t1 fe vs vs1 (ds.drop i) S ≤ n → Inv Y [] (wipe σ vs) H s → tn i s.heap → (∀ b ∈ fp, H b = none) → Pers H1 H → Rel Y.K F S σ H → postT Y.K F (any2F stop g t it1 g1 t1 fe vs vs1 (ds.drop i) S) σ H Q →
      Seg (model Y.prog Y.w) A (GRr Y stop Q) (GYp Y stop Q) n s₀ (.compLoop (.GeneratorExp elt [⟨tg, iter, ifs, 0⟩, ⟨tg1, iter1, ifs1, 0⟩] scope pos) 0 (.ref it) .none Y.env)
        ((model Y.prog Y.w).den (.compLoop (.GeneratorExp elt [⟨tg, iter, ifs, 0⟩, ⟨tg1, iter1, ifs1, 0⟩] scope pos) 0 (.ref it) .none Y.env)) [] s := by
  intro k
  induction k with
  | zero =>
    intro i n s₀ s S H hk hi hkn I st nf pH r p
    have e : i = ds.length := by omega
    subst e
    rw [List.drop_length] at p
    show Seg _ A _ _ n s₀ _ ((compTurn (.GeneratorExp elt [⟨tg, iter, ifs, 0⟩, ⟨tg1, iter1, ifs1, 0⟩] scope pos) 0 (.ref it) .none Y.env).onRaise (leaving Y.env)) [] s
    rw [g2_out, Sem.onRaise_eq_wrap]
    refine seg_bind_wrap (wpAny_standAt ?_)
    refine seg_bind_wrap ?_
    rw [hA]
    have td := T.done Y rfl rfl rfl hc ds.length [] s _ H (fun _ _ => False) I (stat _ _ _ I nf) st (y.stop H pH)
    refine thnF td fun rr s6 ⟨hr, I6⟩ => ?_
    subst hr
    exact seg_end (.ok .next) ⟨rfl, H, _, _, I6, p.ok r⟩
  | succ k ih =>
    intro i n s₀ s S H hk hi hkn I st nf pH r p
    have hl : i < ds.length := by omega
    show Seg _ A _ _ n s₀ _ ((compTurn (.GeneratorExp elt [⟨tg, iter, ifs, 0⟩, ⟨tg1, iter1, ifs1, 0⟩] scope pos) 0 (.ref it) .none Y.env).onRaise (leaving Y.env)) [] s
    rw [g2_out, Sem.onRaise_eq_wrap]
    refine seg_bind_wrap (wpAny_standAt ?_)
    refine seg_bind_wrap ?_
    rw [hA]
    have ti := T.item Y rfl rfl rfl hc i [] s _ H (fun _ _ => False) I (stat _ _ _ I nf) st (y.go i H pH hl)
    refine thnF ti fun rr s6 ⟨u, hr, h6⟩ => ?_
    subst hr
    refine seg_bind_wrap ?_
    rw [hA]
    refine thnF h6 fun _ s7 ⟨x, H7, I7, r7, y7, st7, n7⟩ => ?_
    obtain ⟨p2, k2, v2⟩ := y.yld i H x H7 ds[i] pH (List.getElem?_eq_getElem hl) y7
    rw [List.drop_eq_getElem_cons hl] at p hkn
    simp only [any2F] at p
    simp only [any2N] at hkn
    have rb2 : Rel Y.K F S σ H7 := k2 _ _ _ r
    have rw2 := rb2.wiped (vs := vs)
    have I7' := I7.pinned (stat _ _ _ I7 n7) (T.obj _ _ st7)
    refine seg_bind_wrap ?_
    rw [hA]
    cases e2 : g ds[i] (wipeS S vs) with
    | none => rw [e2] at p; exact p.elim
    | some S1 =>
      rw [e2] at p hkn
      simp only at p hkn
      refine thnY hx (pg.run _ s7 _ H7 x u (fun σ8 H8 => wipe σ8 vs = wipe σ vs ∧ Pers H7 H8 ∧ Rel Y.K F S1 σ8 H8) I7' r7 ⟨wipeS S vs, ds[i], rw2, v2, ?_⟩) fun _ s8 ⟨σ8, H8, I8, hw8, p8, r8⟩ => ?_
      · rw [e2]
        intro σ3 H3 p3 r3 b3
        exact ⟨(wipe_beside hts b3).1, p3, r3⟩
      refine seg_bind_wrap ?_
      rw [hA]
      have pH8 : Pers H1 H8 := (pH.trans p2).trans p8
      have hl8 : (wipe σ vs).length = σ8.length := by rw [← hw8, wipe_length]
      have hk8 : ∀ (j : Nat) v, (wipe σ vs)[j]? = some (some v) → σ8[j]? = some (some v) := fun j v e => by
        rw [← hw8] at e
        exact (wipe_some e).1
      have hk9 : ∀ (j : Nat) v, (wipe σ vs)[j]? = some (some v) → (wipe σ8 vs1)[j]? = some (some v) := fun j v e => by
        rw [← hw8] at e
        obtain ⟨e1, e2⟩ := wipe_some e
        rw [L2.wipe_out fun z => e2 (hv j z)]
        exact e1
      -- the turn's end
      have fin : ∀ {n' : Nat} {s0' s' : Shared} {σ9 : Sl} {H' : Hp} {S' : FS}, any2N stop g t it1 g1 t1 fe vs vs1 (ds.drop (i + 1)) (restS S S' vs) ≤ n' → Inv Y ([] ++ L2.pinsAt fp s7.heap) σ9 H' s' → (wipe σ vs).length = σ9.length → (∀ (j : Nat) v, (wipe σ vs)[j]? = some (some v) → σ9[j]? = some (some v)) → Pers H8 H' → Rel Y.K F (restS S S' vs) σ H' → postT Y.K F (any2F stop g t it1 g1 t1 fe vs vs1 (ds.drop (i + 1)) (restS S S' vs)) σ H' Q →
          Seg (model Y.prog Y.w) A (GRr Y stop Q) (GYp Y stop Q) n' s0' (.compLoop (.GeneratorExp elt [⟨tg, iter, ifs, 0⟩, ⟨tg1, iter1, ifs1, 0⟩] scope pos) 0 (.ref it) .none Y.env)
            ((model Y.prog Y.w).den (.compLoop (.GeneratorExp elt [⟨tg, iter, ifs, 0⟩, ⟨tg1, iter1, ifs1, 0⟩] scope pos) 0 (.ref it) .none Y.env)) [] s' := fun {n' s0' s' σ9 H' S'} hn' I' h1 h2 pp rr qq => by
        have pin' : ∀ b ∈ fp, ∀ o, s7.heap.get? b = some o → s'.heap.get? b = some o ∧ H' b = none := fun b hb o e =>
          let z := I'.pin (b, o) (List.mem_append_right _ (List.mem_append_right _ (mem_pinsAt hb e)))
          ⟨z.1, z.2.1⟩
        refine ih (i + 1) n' s0' s' _ H' (by omega) hl hn' ((I'.unpinned (pins := [])).weak h1 h2) (T.keep _ _ _ st7 fun b hb o e => (pin' b hb o e).1) (fun b hb => ?_) (pH8.trans pp) rr qq
        obtain ⟨o, e, _⟩ := T.obj _ _ st7 b hb
        exact (pin' b hb o e).2
      cases e3 : t S1 with
      | exn e4 S2 => rw [e3] at p; exact p.elim
      | bad => rw [e3] at p; exact p.elim
      | ok kk S2 =>
        rw [e3] at p hkn
        refine thnY hx (pt.run _ s8 σ8 H8 (fun b H9 => b = kk ∧ Pers H8 H9 ∧ Rel Y.K F S2 σ8 H9) I8 ⟨S1, r8, ?_⟩) fun b s9 ⟨H9, I9, eb, p9, r9⟩ => ?_
        · rw [e3]
          exact fun H4 p4 r4 => ⟨rfl, p4, r4⟩
        subst eb
        have pp9 : Pers H H9 := (p2.trans p8).trans p9
        cases b with
        | false =>
          simp only [Bool.false_eq_true, if_false]
          simp only at hkn p
          refine seg_again rfl ?_
          exact fin (n' := n) hkn I9 hl8 hk8 p9 (r.rest r9 pp9 hw8) (p.later pp9)
        | true =>
          simp only at p hkn
          simp only [if_true]
          refine seg_bind_wrap ?_
          rw [hA]
          cases e5 : it1 S2 with
          | exn _ _ => rw [e5] at p; exact p.elim
          | bad => rw [e5] at p; exact p.elim
          | ok ds1 S3 =>
            rw [e5] at p hkn
            simp only at p hkn
            refine thnY hx (pi1.run _ s9 σ8 H9 (fun J1 H11 => Pers H9 H11 ∧ Rel Y.K F S3 σ8 H11 ∧ Yields Y.K J1 H11 ds1) I9 ⟨S2, r9, ?_⟩) fun xv s10 h10 => ?_
            · rw [e5]
              exact fun J1 H11 a b c => ⟨a, b, c⟩
            refine seg_bind_wrap (wpAny_standAt ?_)
            refine seg_bind_wrap (wpAny_of_eq (hs1 _ _) ?_)
            refine seg_bind_wrap (wpAny_holding ?_)
            rw [hA]
            refine thnY hx h10 fun itv s11 h11 => ?_
            obtain ⟨it2, fp1, tn1, J1, H11, e1, I11, T1, st11, f11, p11, r11, y11⟩ := h11
            subst e1
            refine seg_call fun p0 => ?_
            have stat1 : ∀ (σ' : Sl) (H' : Hp) (s' : Shared), Inv Y ([] ++ L2.pinsAt fp s7.heap) σ' H' s' → (∀ b ∈ fp1, H' b = none) → ∀ b ∈ fp1, FpOk Y ([] ++ L2.pinsAt fp s7.heap) H' b := fun _ _ _ _ hn b hb => ⟨hn b hb, (f11 b hb).2⟩
            have pp11 : Pers H H11 := pp9.trans p11
            refine gen_begin1 (Y := Y) T1 st11 ?_
            cases e7 : anyF stop g1 t1 fe vs1 ds1 S3 with
            | exn _ _ => rw [e7] at p; exact p.elim
            | bad => rw [e7] at p; exact p.elim
            | ok b0 S4 =>
              rw [e7] at p hkn
              simp only at p hkn
              refine gen_in (Y := Y) (F := F) (σ := σ8) (vs := vs1) (H1 := H11) (b0 := b0) (S0 := S4) (m := any2N stop g t it1 g1 t1 fe vs vs1 (ds.drop (i + 1)) (restS S S4 vs)) hc hx (hA1 _ _ _ _) rfl rfl hco T1 stat1 y11 pg1 pt1 pe hts1 (fun hne n' s0' s' H' hn' I' pp rr => ?_) (fun he H' pp rr => ?_) ds1.length 0 n s₀ s11 S3 H11 (Nat.sub_zero _) (Nat.zero_le _) hkn (I11.weak (wipe_length _ _) (fun j v e => (wipe_some e).1)) st11 (fun b hb => (f11 b hb).1) (.refl _) r11 (by rw [List.drop_zero]; exact e7)
              · refine seg_leaf (.ok .next) ?_
                rw [if_neg hne] at p
                have pp12 := pp11.trans pp
                refine seg_again rfl ?_
                exact fin (n' := n') (σ9 := wipe σ8 vs1) hn' I' (hl8.trans (wipe_length σ8 vs1).symm) hk9 ((p9.trans p11).trans pp) (r.rest rr pp12 hw8) (p.later pp12)
              · rw [if_pos he] at p
                have pp12 := pp11.trans pp
                exact p H' pp12 (r.rest rr pp12 hw8)
end
end Fz
end

section
set_option Elab.async false
set_option linter.all false
set_option maxRecDepth 100000
set_option maxHeartbeats 4000000
/-! F68: any, all of a generator expression of two clauses: the rule. -/
namespace Fz
open PySem PySem.Spec PyProof.Rows L2 GenW
theorem eval_gen2_eq (elt tg iter tg1 iter1 : Expr) (ifs ifs1 : List Expr) (scope : Scope) (pos : Pos) (env : Env) (hco : scope.isCoroutine = false) :
    eval (.GeneratorExp elt [⟨tg, iter, ifs, 0⟩, ⟨tg1, iter1, ifs1, 0⟩] scope pos) env = (do
      let x ← eval iter env
      standAt iter.pos
      let x ← genFold iter env x
      let it ← holding [x] (pyIter x)
      enterFrame
      let cl ← closureFor scope env
      let code ← genexprCode env pos (env.qual ++ "<genexpr>") scope
      let bi ← builtinsFor env.globals env.builtins
      let cenv ← newFunctionEnv scope env.globals cl [(".0", it)] (env.qual ++ "<genexpr>.") none code none bi
      newGenerator (.compStart (.GeneratorExp elt [⟨tg, iter, ifs, 0⟩, ⟨tg1, iter1, ifs1, 0⟩] scope pos) 0 it .none cenv) "<genexpr>" (env.qual ++ "<genexpr>")) := by
  rw [arm_eval_GeneratorExp]
  simp only [hco, Bool.false_eq_true, if_false]
  cases iter <;> rfl
theorem make2 {M : Model} {A : Around} {E : Value → Shared → Prop} {s : Shared} {env : Env} {elt tg iter tg1 iter1 : Expr} {ifs ifs1 : List Expr} {scope : Scope} {cl : List (Str × Addr)} {pos : Pos} {Q : Value → Shared → Prop}
    (hco : scope.isCoroutine = false) (hclos : closureFor scope env = pure cl) (hcell : ∀ y ∈ scope.names, y.2 ≠ .cell) (h0 : scope.names.lookup (".0" : Str) = some NameKind.local) (hkind : scope.kind = .function)
    (hroom : A.depth < recursionLimit)
    (h : wpAny M A (eval iter env) (fun xv s₁ => wpAny M A (pyIter xv) (fun it s₂ => s₂.heap.NoLimit ∧
      wpAny M A (genexprCode env pos (env.qual ++ "<genexpr>") scope) (fun code s₃ => wpAny M A (builtinsFor env.globals env.builtins) (fun bi s₄ =>
        ∀ h', h'.Ns s₄.heap.objs.size (fun y => if y = ".0" then some it else none) → Heap.SameBut s₄.heap.objs.size (s₄.heap.push { cls := .type "frame", data := .dict #[] }) h' →
          Q (.ref h'.objs.size) { s₄ with
            gens := s₄.gens.push (.fresh (.compStart (.GeneratorExp elt [⟨tg, iter, ifs, 0⟩, ⟨tg1, iter1, ifs1, 0⟩] scope pos) 0 it .none (genEnv scope cl s₄.heap.objs.size code bi env))),
            toks := s₄.toks + 1 + 1 + 1,
            heap := h'.push { cls := .type "generator", data := .fields #[.int s₄.gens.size 0, .str "<genexpr>" (s₄.toks + 1), .str (env.qual ++ "<genexpr>") (s₄.toks + 1 + 1)] } }) E s₃) E s₂) E s₁) E s)
    (hs : ∀ x, genFold iter env x = pure x) :
    wpAny M A (eval (.GeneratorExp elt [⟨tg, iter, ifs, 0⟩, ⟨tg1, iter1, ifs1, 0⟩] scope pos) env) Q E s := by
  rw [eval_gen2_eq _ _ _ _ _ _ _ _ _ _ hco, hclos]
  refine wpAny_bind (wpAny_mono h (fun xv s1 h1 => wpAny_bind (wpAny_standAt (wpAny_bind (wpAny_of_eq (hs xv) ?_)))) fun _ _ e => e)
  refine wpAny_bind (wpAny_holding (wpAny_mono h1 (fun it s2 ⟨hl, h2⟩ => wpAny_bind (wpAny_enterFrame hl hroom (wpAny_bind (wpAny_pure ?_)))) fun _ _ e => e))
  refine wpAny_bind (wpAny_mono h2 (fun code s3 h3 => wpAny_bind (wpAny_mono h3 (fun bi s4 h4 => ?_) fun _ _ e => e)) fun _ _ e => e)
  have hb : ∀ y ∈ ([((".0" : Str), it)] : List (Str × Value)), scope.names.lookup y.1 = some NameKind.local := fun y hy => by
    rw [List.mem_singleton.mp hy]; exact h0
  refine wpAny_bind (wpAny_newFunctionEnv hcell hb (fun h' hn hsb => ?_) hkind)
  have e : (fun y : Str => ([((".0" : Str), it)] : List (Str × Value)).reverse.lookup y) = fun y : Str => if y = (".0" : Str) then some it else none := funext fun y => by
    by_cases hy : y = ".0"
    · subst hy; simp
    · have : (y == (".0" : Str)) = false := by simpa using hy
      simp [List.lookup, this, hy]
  rw [e] at hn
  simp only [newGenerator, newFields]
  exact wpAny_bind (wpAny_newGen (wpAny_bind (wpAny_mkText (wpAny_bind (wpAny_mkText (wpAny_newObj_type (h4 h' hn hsb) (by size_fits)))))))
def fAny2 (stop : Bool) (it : FS → Res (List D)) (g : D → FS → Option FS) (t : FS → Res Bool) (it1 : FS → Res (List D)) (g1 : D → FS → Option FS) (t1 : FS → Res Bool) (fe : FS → Res D) (vs vs1 : List Nat) : FS → Res D := bnd it fun ds S => match any2F stop g t it1 g1 t1 fe vs vs1 ds S with
  | .ok b S => .ok (.bool b) S
  | _ => .bad
theorem over_gen2 {A : Around} {elt tg iter tg1 iter1 : Expr} {ifs ifs1 : List Expr} {scope : Scope} {pos : Pos} {it acc : Value} {env : Env} : A.over (.compLoop (.GeneratorExp elt [⟨tg, iter, ifs, 0⟩, ⟨tg1, iter1, ifs1, 0⟩] scope pos) 0 it acc env) [] = A.deeper env := by
  first
    | rfl
    | (obtain ⟨hd, d, fr, gs, u⟩ := A; simp [Around.over, Around.deeper, marksOver, frameCount, unitsOf, envsOf, guardsOf, pushEnvs, pushGuards, Code.envs, Code.env?, Code.isFrame, Code.guards, Code.isGuard, Code.weight, Code.frames, Code.isCreation, Code.isCaller, Code.cUnits])
theorem over_gen2in {A : Around} {elt tg iter tg1 iter1 : Expr} {ifs ifs1 : List Expr} {scope : Scope} {pos : Pos} {it it1 acc acc1 : Value} {k : Result → Sem Fin} {l : List Value} {p : Pos} {env : Env} : A.over (.compLoop (.GeneratorExp elt [⟨tg, iter, ifs, 0⟩, ⟨tg1, iter1, ifs1, 0⟩] scope pos) 1 it1 acc1 env) [.ret k none false l (.compLoop (.GeneratorExp elt [⟨tg, iter, ifs, 0⟩, ⟨tg1, iter1, ifs1, 0⟩] scope pos) 0 it acc env) p []] = A.deeper env := by
  first
    | rfl
    | (obtain ⟨hd, d, fr, gs, u⟩ := A
       simp [Around.over, Around.deeper, marksOver, markOver, Frame.marks, Frame.where_, frameCount, unitsOf, envsOf, guardsOf, pushEnvs, pushGuards, Code.envs, Code.env?, Code.isFrame, Code.guards, Code.isGuard, Code.weight, Code.frames, Code.isCreation, Code.isCaller, Code.cUnits])
section
variable {X : Cx} {F : Fx} {elt tg iter tg1 iter1 : Expr} {ifs ifs1 : List Expr} {scope : Scope} {own : List (Str × Nat)} {gpos : Pos} {it it1 : FS → Res (List D)} {g g1 : D → FS → Option FS} {t t1 : FS → Res Bool} {fe : FS → Res D} {ts ts1 vs1 : List Nat}
theorem eval_gen2 {stop : Bool} {k : Nat} {Q0 : Value → Shared → Prop} {pins : List (Addr × Obj)} {s : Shared} {σ : Sl} {H : Hp} {Q : VK}
    (hr : RoomG (k + 1) X.A) (hc : X.calm = true) (hN : X.N.Nodup) (TH : TabH X F) (hi : EI X F tg iter it) (ok : BlkOk X.N X.env.scope scope own) (G : GenSc scope) (hts : ∀ j, j ∈ ts → j ∈ own.map (·.2))
    (hg : ∀ (A' : Around) (s : Shared) (H : Hp) (C : Addr) (cl : List (Str × Addr)) (code : Value) (fp : List Addr) (pn : List (Addr × Obj)), RoomG k A' → EG (gbX X A' s H (genEnv scope cl C code builtinsNs X.env) fp pn) F tg ts g)
    (ht : ∀ (A' : Around) (s : Shared) (H : Hp) (C : Addr) (cl : List (Str × Addr)) (code : Value) (fp : List Addr) (pn : List (Addr × Obj)), RoomG k A' → ETs (gbX X A' s H (genEnv scope cl C code builtinsNs X.env) fp pn) F ifs t)
    (he : ∀ (A' : Around) (s : Shared) (H : Hp) (C : Addr) (cl : List (Str × Addr)) (code : Value) (fp : List Addr) (pn : List (Addr × Obj)), RoomG k A' → ED (gbX X A' s H (genEnv scope cl C code builtinsNs X.env) fp pn) F elt fe)
    (hv : ∀ j ∈ vs1, j ∈ own.map (·.2)) (hts1 : ∀ j, j ∈ ts1 → j ∈ vs1) (hi1 : ∀ (A' : Around) (s : Shared) (H : Hp) (C : Addr) (cl : List (Str × Addr)) (code : Value) (fp : List Addr) (pn : List (Addr × Obj)), RoomG k A' → EI (gbX X A' s H (genEnv scope cl C code builtinsNs X.env) fp pn) F tg1 iter1 it1)
    (hg1 : ∀ (A' : Around) (s : Shared) (H : Hp) (C : Addr) (cl : List (Str × Addr)) (code : Value) (fp : List Addr) (pn : List (Addr × Obj)), RoomG k A' → EG (gbX X A' s H (genEnv scope cl C code builtinsNs X.env) fp pn) F tg1 ts1 g1) (ht1 : ∀ (A' : Around) (s : Shared) (H : Hp) (C : Addr) (cl : List (Str × Addr)) (code : Value) (fp : List Addr) (pn : List (Addr × Obj)), RoomG k A' → ETs (gbX X A' s H (genEnv scope cl C code builtinsNs X.env) fp pn) F ifs1 t1)
    (hs : ∀ x, genFold iter X.env x = pure x) (hs1 : ∀ env x, foldedSetIterable iter1 env x = pure x) (I : Inv X pins σ H s) (h : rdG X.K F PR (fAny2 stop it g t it1 g1 t1 fe (own.map (·.2)) vs1) σ H Q)
    (hQ : ∀ (a : Addr) (gi : Nat) (go : Obj) (gs : GenState) (s5 : Shared) (Y : Cx) (n : Nat), s5.heap.IsGen a gi → s5.heap.NoLimit → s5.gens[gi]? = some gs → Y.prog = X.prog → Y.w = X.w → Y.pn = [(a, go)] → (∀ h : Heap, h.get? a = some go → h.IsGen a gi) →
      gs.Goes (model X.prog X.w) X.A.in1.in1 (GRr Y stop fun b H' => Q (.bl b) H') (GYp Y stop fun b H' => Q (.bl b) H') n (.send .none) (s5.setGen gi .running) → (∀ H' σ' pins' s', Inv Y pins' σ' H' s' → Inv X pins σ H' s') → Q0 (.ref a) s5) :
    wpAny (model X.prog X.w) X.A (eval (.GeneratorExp elt [⟨tg, iter, ifs, 0⟩, ⟨tg1, iter1, ifs1, 0⟩] scope gpos) X.env) Q0 X.xe s := by
  obtain ⟨S, r, p⟩ := h
  have hfree : ∀ y ∈ scope.names, y.2 = .free → ∃ c, X.env.cells.lookup y.1 = some c := fun y hy e => by
    rcases ok.free y hy e with k | k
    · exact I.ok.has _ (.inl k)
    · exact I.ok.has _ (.inr k)
  unfold fAny2 bnd at p
  have hit : rdI X.K F it σ H fun J H1 => ∃ S1 ds, Rel X.K F S1 σ H1 ∧ Pers H H1 ∧ Yields X.K J H1 ds ∧ postT X.K F (any2F stop g t it1 g1 t1 fe (own.map (·.2)) vs1 ds S1) σ H1 fun b H' => Q (.bl b) H' := by
    refine ⟨S, r, ?_⟩
    cases e : it S with
    | exn e2 S1 => rw [e] at p; exact p
    | bad => rw [e] at p; exact p
    | ok ds S1 =>
      rw [e] at p
      intro J H1 p1 r1 y
      refine ⟨S1, ds, r1, p1, y, ?_⟩
      simp only [Res.bind_ok] at p
      cases e2 : any2F stop g t it1 g1 t1 fe (own.map (·.2)) vs1 ds S1 with
      | ok b S2 => rw [e2] at p; exact fun H' p2 r2 => p (.bl b) H' (p1.trans p2) r2 (.bl b)
      | exn e3 S2 => rw [e2] at p; exact p.elim
      | bad => rw [e2] at p; exact p
  refine make2 G.co (closure_ok hfree) G.nc G.dot ok.kind hr.rm.depth ?_ hs
  refine thn (hi.run pins s σ H _ I hit) fun xv s1 hx => thn hx fun itv s2 h2 => ?_
  obtain ⟨it, fp, tn, J, H2, e, I2, T, st2, f2, S1, ds, r2, p2, y2, q⟩ := h2
  subst e
  obtain ⟨c, P, ps, hcode, hPt, htr, cd, tbm, gP⟩ := TH I2 r2
  have hPs : s2.heap.get? P = some { cls := .none, data := .fields ps } := I2.hok P _ hPt
  have nP : ∀ b ∈ fp, b ≠ P := fun b hb z => by
    have := (f2 b hb).1
    rw [z, hPt] at this; cases this
  have szb : ∀ b ∈ fp, ∃ o, s2.heap.get? b = some o := fun b hb => let ⟨o, e, _⟩ := T.obj _ _ st2 b hb; ⟨o, e⟩
  have cont : ∀ (code : Value) (h3 : Heap) (tk : Nat) (H3 : Hp), Heap.ExtBut P s2.heap h3 → Inv X pins σ H3 { s2 with heap := h3, toks := tk } → Rel X.K F S1 σ H3 → Pers H2 H3 → (∀ b ∈ fp, H3 b = none) →
      wpAny (model X.prog X.w) X.A (builtinsFor X.env.globals X.env.builtins) (fun bi s₄ => ∀ h', h'.Ns s₄.heap.objs.size (fun y => if y = ".0" then some (.ref it) else none) → Heap.SameBut s₄.heap.objs.size (s₄.heap.push { cls := .type "frame", data := .dict #[] }) h' →
          Q0 (.ref h'.objs.size) { s₄ with
            gens := s₄.gens.push (.fresh (.compStart (.GeneratorExp elt [⟨tg, iter, ifs, 0⟩, ⟨tg1, iter1, ifs1, 0⟩] scope gpos) 0 (.ref it) .none (genEnv scope (cloFrom X.env.cells scope.names []) s₄.heap.objs.size code bi X.env))),
            toks := s₄.toks + 1 + 1 + 1,
            heap := h'.push { cls := .type "generator", data := .fields #[.int s₄.gens.size 0, .str "<genexpr>" (s₄.toks + 1), .str (X.env.qual ++ "<genexpr>") (s₄.toks + 1 + 1)] } }) X.xe { s2 with heap := h3, toks := tk } := by
    intro code h3 tk H3 hx I3 r3 pp3 n3
    generalize hs3 : ({ s2 with heap := h3, toks := tk } : Shared) = s3 at *
    have hh3 : s3.heap = h3 := by rw [← hs3]
    have f3 : ∀ b ∈ fp, FpOk X pins H3 b ∧ b < s3.heap.objs.size := fun b hb => by
      obtain ⟨o, e⟩ := szb b hb
      exact ⟨⟨n3 b hb, (f2 b hb).2⟩, by rw [hh3]; exact Heap.lt_size (hx b o (nP b hb) e)⟩
    have st3 : tn 0 s3.heap := T.keep _ _ _ st2 fun b hb o e => by rw [hh3]; exact hx b o (nP b hb) e
    obtain ⟨bm, ob, e1, e2, e3, e4, e5, e6, e7, e8⟩ := tbm
    refine wpAny_builtinsFor (m := X.mg) (by rw [I3.ok.glob]; exact I3.mod.glob.keeps I3.bk) e1 e2 (by rw [hh3]; exact hx bm ob e4 e5) e6 e7 e8 ?_
    intro h' hn' hs'
    have keep' : ∀ b o, s3.heap.get? b = some o → h'.get? b = some o := fun b o e => hs'.extBut b o (Nat.ne_of_lt (Heap.lt_size e)) (Heap.get?_push_of_some _ e)
    generalize hgo : ({ cls := .type "generator", data := .fields #[.int s3.gens.size 0, .str "<genexpr>" (s3.toks + 1), .str (X.env.qual ++ "<genexpr>") (s3.toks + 1 + 1)] } : Obj) = go
    have hpush : (h'.push go).get? h'.objs.size = some go := by rw [← hgo]; exact Heap.get?_push_size _ rfl
    have isG : ∀ h : Heap, h.get? h'.objs.size = some go → h.IsGen h'.objs.size s3.gens.size := fun h e => ⟨go, _, _, e, by rw [← hgo], by rw [← hgo], by rw [← hgo]⟩
    have hgc : ∀ v, go.data ≠ .cell v := fun v z => by rw [← hgo] at z; cases z
    let genv := genEnv scope (cloFrom X.env.cells scope.names []) s3.heap.objs.size code builtinsNs X.env
    let A' := X.A.in1.in1.deeper genv
    have hr' : RoomG k A' := ⟨⟨hr.rm.hd, by have := hr.rm.dp; show X.A.depth + 1 + 3 * k + 5 < _; omega, by have := hr.rm.un; show X.A.units + 1 + 1 + 3 + 16 * k + 200 < _; omega⟩, hr.gd⟩
    have hfr : A'.frames = some (genv :: X.stack) := Around.frames_deeper (show X.A.in1.in1.frames = some X.stack from I3.ok.frames)
    have I4 := gen_start (A' := A') (code := code) (go := go) (gs := .fresh (.compStart (.GeneratorExp elt [⟨tg, iter, ifs, 0⟩, ⟨tg1, iter1, ifs1, 0⟩] scope gpos) 0 (.ref it) .none genv)) (tk := s3.toks + 1 + 1 + 1) I3 ok G.nc hN f3 (fun _ => hr.rm.hd) hfr hn' keep' hgc hpush rfl
    have stat : ∀ (σ' : Sl) (H' : Hp) (s' : Shared), Inv (gbX X A' s3 H3 genv fp [(h'.objs.size, go)]) [] σ' H' s' → (∀ b ∈ fp, H' b = none) → ∀ b ∈ fp, FpOk (gbX X A' s3 H3 genv fp [(h'.objs.size, go)]) [] H' b := fun σ' H' s' I' hn b hb =>
      ⟨hn b hb, (I'.ok.exf b hb).1, I'.ok.exfs b hb, .inl hb, fun x c e => (I'.ok.exf b hb).2 x c e, fun p hp => by
        have hp2 : p ∈ [(h'.objs.size, go)] := by simpa using hp
        rw [List.mem_singleton.mp hp2]
        exact Nat.ne_of_gt (Nat.lt_trans (f3 b hb).2 hn'.lt)⟩
    have loop := fun (s₀ s' : Shared) (w : Woken { s3 with gens := s3.gens.push (.fresh (.compStart (.GeneratorExp elt [⟨tg, iter, ifs, 0⟩, ⟨tg1, iter1, ifs1, 0⟩] scope gpos) 0 (.ref it) .none genv)), toks := s3.toks + 1 + 1 + 1, heap := h'.push go } s') =>
      gen_loop2 (Y := gbX X A' s3 H3 genv fp [(h'.objs.size, go)]) (F := F) (A := X.A.in1.in1) (stop := stop) (Q := fun b H' => Q (.bl b) H') (elt := elt) (iter := iter) (pos := gpos) (scope := scope) (vs := own.map (·.2)) (vs1 := vs1) (it1 := it1) (ts1 := ts1) (g1 := g1) (t1 := t1) (σ := σ) (H1 := H2) (ds := ds) hc (fun _ _ z => z) over_gen2 (fun _ _ _ _ => over_gen2in) G.co T stat y2
        (hg A' s3 H3 _ _ code fp _ hr') (ht A' s3 H3 _ _ code fp _ hr') (hi1 A' s3 H3 _ _ code fp _ hr') (hg1 A' s3 H3 _ _ code fp _ hr') (ht1 A' s3 H3 _ _ code fp _ hr') (he A' s3 H3 _ _ code fp _ hr') hts hts1 hv hs1 ds.length 0 (any2N stop g t it1 g1 t1 fe (own.map (·.2)) vs1 ds S1) s₀ s' S1 H3 (Nat.sub_zero _) (Nat.zero_le _) (by rw [List.drop_zero]; exact Nat.le_refl _) (inv_same I4 w.heap w.os w.bare)
        (T.keep _ _ _ st3 fun b _ o e => by rw [w.heap]; exact Heap.get?_push_of_some _ (keep' b o e)) n3 pp3 r3 (by rw [List.drop_zero]; exact postT.later pp3 q)
    refine hQ _ s3.gens.size go _ _ (gbX X A' s3 H3 genv fp [(h'.objs.size, go)]) (any2N stop g t it1 g1 t1 fe (own.map (·.2)) vs1 ds S1) (isG _ hpush) I4.nolimit (Array.getElem?_push_size ..) rfl rfl rfl isG ?_ fun H' σ' pins' s' I' => ?_
    · refine ⟨rfl, ?_⟩
      have wk : Woken { s3 with gens := s3.gens.push (.fresh (.compStart (.GeneratorExp elt [⟨tg, iter, ifs, 0⟩, ⟨tg1, iter1, ifs1, 0⟩] scope gpos) 0 (.ref it) .none genv)), toks := s3.toks + 1 + 1 + 1, heap := h'.push go }
          (({ s3 with gens := s3.gens.push (.fresh (.compStart (.GeneratorExp elt [⟨tg, iter, ifs, 0⟩, ⟨tg1, iter1, ifs1, 0⟩] scope gpos) 0 (.ref it) .none genv)), toks := s3.toks + 1 + 1 + 1, heap := h'.push go } : Shared).setGen s3.gens.size .running) := ⟨rfl, rfl, allBare_setGen I4.bare rfl⟩
      exact gen_begin0 (Y := gbX X A' s3 H3 genv fp [(h'.objs.size, go)]) T (T.keep _ _ _ st3 fun b _ o e => Heap.get?_push_of_some _ (keep' b o e)) (loop _ _ wk)
    · exact I3.call' (ch := fp) I'.os I'.base I'.hok I'.bare fun b hb => ⟨(f3 b hb).1.2.2.2.1, (f3 b hb).1.2.1, (f3 b hb).1.2.2.2.2.1, (f3 b hb).1.2.2.2.2.2⟩
  refine ⟨I2.nolimit, ?_⟩
  cases hf : codeAmong gpos ps.toList with
  | none =>
    refine wpAny_genexprCodeX hcode (cd.code hPs htr) (cd.tab hPs) hf fun c' h' tk hx hge hlt hco' hrec htab' hnew => ?_
    obtain ⟨H3, I3, r3, pp3, same, _, _⟩ := code_new (tk := tk) I2 r2 hPt htr hx hge hrec htab'.2 hnew
    exact cont _ h' tk H3 hx I3 r3 pp3 fun b hb => by
      obtain ⟨o, e⟩ := szb b hb
      rw [same b (nP b hb) (Heap.lt_size e)]; exact (f2 b hb).1
  | some cv =>
    refine wpAny_genexprCode_hit hcode (cd.code hPs htr) hf ?_
    exact cont cv s2.heap s2.toks H2 (Heap.ExtBut.refl _ _) I2 r2 (.refl _) fun b hb => (f2 b hb).1
end
section
variable {X : Cx} {F : Fx} {elt tg iter tg1 iter1 : Expr} {ifs ifs1 : List Expr} {scope : Scope} {own : List (Str × Nat)} {gpos : Pos} {it it1 : FS → Res (List D)} {g g1 : D → FS → Option FS} {t t1 : FS → Res Bool} {fe : FS → Res D} {ts ts1 vs1 : List Nat}
theorem e_any2H (stop : Bool) {k : Nat} {p pos : Pos}
    (hr : RoomG (k + 1) X.A) (hc : X.calm = true) (hN : X.N.Nodup) (hgl : Gl X (anyNm stop)) (hm : X.mg (anyNm stop) = none) (TH : TabH X F) (hi : EI X F tg iter it) (ok : BlkOk X.N X.env.scope scope own) (G : GenSc scope) (hts : ∀ j, j ∈ ts → j ∈ own.map (·.2))
    (hg : ∀ (A' : Around) (s : Shared) (H : Hp) (C : Addr) (cl : List (Str × Addr)) (code : Value) (fp : List Addr) (pn : List (Addr × Obj)), RoomG k A' → EG (gbX X A' s H (genEnv scope cl C code builtinsNs X.env) fp pn) F tg ts g)
    (ht : ∀ (A' : Around) (s : Shared) (H : Hp) (C : Addr) (cl : List (Str × Addr)) (code : Value) (fp : List Addr) (pn : List (Addr × Obj)), RoomG k A' → ETs (gbX X A' s H (genEnv scope cl C code builtinsNs X.env) fp pn) F ifs t)
    (he : ∀ (A' : Around) (s : Shared) (H : Hp) (C : Addr) (cl : List (Str × Addr)) (code : Value) (fp : List Addr) (pn : List (Addr × Obj)), RoomG k A' → ED (gbX X A' s H (genEnv scope cl C code builtinsNs X.env) fp pn) F elt fe)
    (hv : ∀ j ∈ vs1, j ∈ own.map (·.2)) (hts1 : ∀ j, j ∈ ts1 → j ∈ vs1) (hi1 : ∀ (A' : Around) (s : Shared) (H : Hp) (C : Addr) (cl : List (Str × Addr)) (code : Value) (fp : List Addr) (pn : List (Addr × Obj)), RoomG k A' → EI (gbX X A' s H (genEnv scope cl C code builtinsNs X.env) fp pn) F tg1 iter1 it1)
    (hg1 : ∀ (A' : Around) (s : Shared) (H : Hp) (C : Addr) (cl : List (Str × Addr)) (code : Value) (fp : List Addr) (pn : List (Addr × Obj)), RoomG k A' → EG (gbX X A' s H (genEnv scope cl C code builtinsNs X.env) fp pn) F tg1 ts1 g1) (ht1 : ∀ (A' : Around) (s : Shared) (H : Hp) (C : Addr) (cl : List (Str × Addr)) (code : Value) (fp : List Addr) (pn : List (Addr × Obj)), RoomG k A' → ETs (gbX X A' s H (genEnv scope cl C code builtinsNs X.env) fp pn) F ifs1 t1)
    (hs : ∀ x, genFold iter X.env x = pure x := by intro _; rfl) (hs1 : ∀ env x, foldedSetIterable iter1 env x = pure x := by intro _ _; rfl)
    (hea : starEach [.GeneratorExp elt [⟨tg, iter, ifs, 0⟩, ⟨tg1, iter1, ifs1, 0⟩] scope gpos] X.env = (false, eval (.GeneratorExp elt [⟨tg, iter, ifs, 0⟩, ⟨tg1, iter1, ifs1, 0⟩] scope gpos) X.env) :: starEach [] X.env := by rfl) :
    ED X F (.Call (.Name (anyNm stop) p) [.GeneratorExp elt [⟨tg, iter, ifs, 0⟩, ⟨tg1, iter1, ifs1, 0⟩] scope gpos] [] pos) (fAny2 stop it g t it1 g1 t1 fe (own.map (·.2)) vs1) := by
  refine ⟨fun pins s σ H Q I h => ?_⟩
  refine wpAny_Call_Name_kw (ld_blt I hgl hm (boot_anyNm stop) ?_ (by cases stop <;> decide) (by cases stop <;> decide))
  refine PyProof.Rows.callWith_builtin1 ?_ hea (by rfl)
  rw [hea]
  show wpAny _ _ (spliced ((false, eval (.GeneratorExp elt [⟨tg, iter, ifs, 0⟩, ⟨tg1, iter1, ifs1, 0⟩] scope gpos) X.env) :: backTo pos (starEach [] X.env))) _ _ s
  refine Calls.spliced_cons (eval_gen2 (stop := stop) hr hc hN TH hi ok G hts hg ht he hv hts1 hi1 hg1 ht1 hs hs1 I h fun a gi go gs s5 Y n hG hl hgs hp hw hpn hgo hgoes hback => ?_)
  refine Calls.spliced_nil ?_
  have fin : ∀ (b : Bool) (H' : Hp) (σ' : List (Option V)) (pins' : List (Addr × Obj)) (s' : Shared), Inv Y pins' σ' H' s' → Q (.bl b) H' → EP X pins σ Q (.bool b) s' := fun b H' σ' pins' s' I' q => ⟨.bl b, H', hback _ _ _ _ I', rfl, q⟩
  have U := use_gen (Y := Y) (A := X.A) (stop := stop) (Q := fun b H' => Q (.bl b) H') (RR := fun r s' => match r with | .ok (.ret v) => EP X pins σ Q v s' | .ok _ => False | .error e => X.xe e s') hr.rm.hd hr.rm.depth hpn hgo (fun σ pins H s I => I.nolimit) (fun b H' σ' pins' s' I' q => fin b H' σ' pins' s' I' q) n gs s5 hG hl hgs (by rw [hp, hw]; exact hgoes)
  rw [hp, hw] at U
  cases stop with
  | true =>
    refine call_function_tree PySem.F.kind_any PySem.F.plain_any PySem.F.entry_any (PySem.F.args_any1 _) ?_
    unfold Builtin.«any»
    refine wpAny_bind (m := oneArg "any" _) (wpAny_pure ?_)
    refine wpAny_bind (wpAny_pyIter_gen hG ?_)
    exact wpAny_pure ⟨plainId_quiet PySem.F.plain_any_loop _, U⟩
  | false =>
    refine call_function_tree PySem.F.kind_all PySem.F.plain_all PySem.F.entry_all (PySem.F.args_all1 _) ?_
    unfold Builtin.«all»
    refine wpAny_bind (m := oneArg "all" _) (wpAny_pure ?_)
    refine wpAny_bind (wpAny_pyIter_gen hG ?_)
    exact wpAny_pure ⟨plainId_quiet PySem.F.plain_all_loop _, U⟩
theorem e_any2 (stop : Bool) {k : Nat} {c P : Addr} {p pos : Pos}
    (hr : RoomG (k + 1) X.A) (hc : X.calm = true) (hN : X.N.Nodup) (hgl : Gl X (anyNm stop)) (hm : X.mg (anyNm stop) = none) (TB : GxR.TabB X.base X.mg c P) (hcode : X.env.code = .ref c) (hP : P ∈ F.tabs) (hi : EI X F tg iter it) (ok : BlkOk X.N X.env.scope scope own) (G : GenSc scope) (hts : ∀ j, j ∈ ts → j ∈ own.map (·.2))
    (hg : ∀ (A' : Around) (s : Shared) (H : Hp) (C : Addr) (cl : List (Str × Addr)) (code : Value) (fp : List Addr) (pn : List (Addr × Obj)), RoomG k A' → EG (gbX X A' s H (genEnv scope cl C code builtinsNs X.env) fp pn) F tg ts g)
    (ht : ∀ (A' : Around) (s : Shared) (H : Hp) (C : Addr) (cl : List (Str × Addr)) (code : Value) (fp : List Addr) (pn : List (Addr × Obj)), RoomG k A' → ETs (gbX X A' s H (genEnv scope cl C code builtinsNs X.env) fp pn) F ifs t)
    (he : ∀ (A' : Around) (s : Shared) (H : Hp) (C : Addr) (cl : List (Str × Addr)) (code : Value) (fp : List Addr) (pn : List (Addr × Obj)), RoomG k A' → ED (gbX X A' s H (genEnv scope cl C code builtinsNs X.env) fp pn) F elt fe)
    (hv : ∀ j ∈ vs1, j ∈ own.map (·.2)) (hts1 : ∀ j, j ∈ ts1 → j ∈ vs1) (hi1 : ∀ (A' : Around) (s : Shared) (H : Hp) (C : Addr) (cl : List (Str × Addr)) (code : Value) (fp : List Addr) (pn : List (Addr × Obj)), RoomG k A' → EI (gbX X A' s H (genEnv scope cl C code builtinsNs X.env) fp pn) F tg1 iter1 it1)
    (hg1 : ∀ (A' : Around) (s : Shared) (H : Hp) (C : Addr) (cl : List (Str × Addr)) (code : Value) (fp : List Addr) (pn : List (Addr × Obj)), RoomG k A' → EG (gbX X A' s H (genEnv scope cl C code builtinsNs X.env) fp pn) F tg1 ts1 g1) (ht1 : ∀ (A' : Around) (s : Shared) (H : Hp) (C : Addr) (cl : List (Str × Addr)) (code : Value) (fp : List Addr) (pn : List (Addr × Obj)), RoomG k A' → ETs (gbX X A' s H (genEnv scope cl C code builtinsNs X.env) fp pn) F ifs1 t1)
    (hs : ∀ x, genFold iter X.env x = pure x := by intro _; rfl) (hs1 : ∀ env x, foldedSetIterable iter1 env x = pure x := by intro _ _; rfl)
    (hea : starEach [.GeneratorExp elt [⟨tg, iter, ifs, 0⟩, ⟨tg1, iter1, ifs1, 0⟩] scope gpos] X.env = (false, eval (.GeneratorExp elt [⟨tg, iter, ifs, 0⟩, ⟨tg1, iter1, ifs1, 0⟩] scope gpos) X.env) :: starEach [] X.env := by rfl) :
    ED X F (.Call (.Name (anyNm stop) p) [.GeneratorExp elt [⟨tg, iter, ifs, 0⟩, ⟨tg1, iter1, ifs1, 0⟩] scope gpos] [] pos) (fAny2 stop it g t it1 g1 t1 fe (own.map (·.2)) vs1) :=  e_any2H stop hr hc hN hgl hm (tabH_of TB hcode hP) hi ok G hts hg ht he hv hts1 hi1 hg1 ht1 hs hs1 hea
end
end Fz
end

section
set_option Elab.async false
set_option linter.all false
set_option maxRecDepth 100000
set_option maxHeartbeats 4000000
/-! F69: several own values at once, the last but one a dict, the last a whole number. -/
namespace Fz
open PySem PySem.Spec PyProof.Rows L2
section
variable {X : Cx} {F : Fx} {e : Expr} {f : FS → Res SV}
end
end Fz
end

section
set_option Elab.async false
set_option linter.all false
set_option maxRecDepth 100000
set_option maxHeartbeats 4000000
/-! dens, new with k16 -/
namespace DL
open PySem L2 Fz
/-- slots: 0 k, 1 most, 2 found, 3 layer, 4 length, 5 longer, 6 word, 7 letter -/
noncomputable def b__law_all : FS → SRes :=
 fSeq (fPars [2, 3] (fConsV (fLst (fCons (fTup (fC [])) (fC []))) (fConsV (fLst (fCons (fTup (fC [])) (fC []))) (fC []))))
        (fSeq (fFor (fRange1 (fVar 1)) (gN 4) (fSeq (fSet 5 (fLst (fC [])))
        (fSeq (fFor (fItems (fVar 3)) (gN 6) (fExtend 5 (fLc (fRange1 (fVar 0)) (gN 7) (fC true) (fFrz (fOpN pAdd 6 (fTup (fCons (fVar 7) (fC []))))) [7])))
        (fSeq (fSetD 3 (fVar 5))
        (fSet 2 (fOpN pAdd 2 (fPeek 3)))))))
        (fRetD (fVar 2)))
@[irreducible] noncomputable def d__law_all : Den := denOf 8 b__law_all
/-- slots: 0 value, 1 low, 2 high -/
noncomputable def b_is_between : FS → SRes :=
 fRetD (fAndV (fFrz (fCallP d_is_integer 1 (fAD (fVar 0) (fC [])))) (fChain pLe pLe (fVar 1) (fVar 0) (fPeek 2)))
@[irreducible] noncomputable def d_is_between : Den := denOf 3 b_is_between
/-- slots: 0 value -/
noncomputable def b_is_k : FS → SRes :=
 fRet (fCallP d_is_between 3 (fAD (fVar 0) (fAD (fC (.int 1)) (fAD (fC (.int 3)) (fC [])))))
@[irreducible] noncomputable def d_is_k : Den := denOf 1 b_is_k
end DL
end

section
set_option Elab.async false
set_option linter.all false
set_option maxRecDepth 100000
set_option maxHeartbeats 4000000
/-! dens, new with k19 -/
namespace DL
open PySem L2 Fz
end DL
end

section
set_option Elab.async false
set_option linter.all false
set_option maxRecDepth 100000
set_option maxHeartbeats 4000000
/-! dens, new with k15 -/
namespace DL
open PySem L2 Fz
end DL
end

section
set_option Elab.async false
set_option linter.all false
set_option maxRecDepth 100000
set_option maxHeartbeats 4000000
/-! dens, new with k03 -/
namespace DL
open PySem L2 Fz
end DL
end

section
set_option Elab.async false
set_option linter.all false
set_option maxRecDepth 100000
set_option maxHeartbeats 4000000
/-! dens, new with k18 -/
namespace DL
open PySem L2 Fz
end DL
end

section
set_option Elab.async false
set_option linter.all false
set_option maxRecDepth 100000
set_option maxHeartbeats 4000000
/-! dens, new with k22 -/
namespace DL
open PySem L2 Fz
end DL
end

section
set_option Elab.async false
set_option linter.all false
set_option maxRecDepth 100000
set_option maxHeartbeats 4000000
/-! dens, new with k71 -/
namespace DL
open PySem L2 Fz
end DL
end

section
set_option Elab.async false
set_option linter.all false
set_option maxRecDepth 100000
set_option maxHeartbeats 4000000
/-! dens, new with k02 -/
namespace DL
open PySem L2 Fz
end DL
end

section
set_option Elab.async false
set_option linter.all false
set_option maxRecDepth 100000
set_option maxHeartbeats 4000000
/-! dens, new with k20 -/
namespace DL
open PySem L2 Fz
end DL
end

section
set_option Elab.async false
set_option linter.all false
set_option maxRecDepth 100000
set_option maxHeartbeats 4000000
/-! dens, new with k06 -/
namespace DL
open PySem L2 Fz
/-- slots: 0 well, 1 k, 2 most, 3 many, 4 rows, 5 state, 6 letter -/
noncomputable def b__law_machine : FS → SRes :=
 fSeq (fSet 3 (fOp pAdd (fC (.int 1)) (fFrz (fCallP d__law_take 2 (fAS 0 (fAD (fVar 2) (fC [])))))))
        (fSeq (fSet 4 (fLc (fRange1 (fVar 3)) (gN 5) (fC true) (fCall (one pTuple) (fCons (fFrz (fLc (fRange1 (fVar 1)) (gN 6) (fC true) (fFrz (fCallP d__law_take 2 (fAS 0 (fAD (fVar 3) (fC []))))) [6])) (fC []))) [5]))
        (fRetD (fTup (fCons (fVar 1) (fCons (fCall (one pTuple) (fCons (fPeek 4) (fC []))) (fCons (fCall (one pTuple) (fCons (fFrz (fLc (fRange1 (fVar 3)) (gN 5) (fC true) (fFrz (fCallP d__law_take 2 (fAS 0 (fAD (fC (.int 2)) (fC []))))) [5])) (fC []))) (fC [])))))))
@[irreducible] noncomputable def d__law_machine : Den := denOf 7 b__law_machine
/-- slots: 0 machine, 1 word, 2 state, 3 letter -/
noncomputable def b__law_walk : FS → SRes :=
 fSeq (fSetD 2 (fC (.int 0)))
        (fSeq (fFor (fItems (fVar 1)) (gN 3) (fSetD 2 (fOp pIx (fOp pIx (fOpN pIx 0 (fC (.int 1))) (fVar 2)) (fVar 3))))
        (fRetD (fOp pIx (fOpN pIx 0 (fC (.int 2))) (fVar 2))))
@[irreducible] noncomputable def d__law_walk : Den := denOf 4 b__law_walk
/-- slots: 0 value, 1 ends, 2 k, 3 rows, 4 row, 5 state, 6 end -/
noncomputable def b_is_machine_of : FS → SRes :=
 fSeq (fIf (fOrT (fNotT (fTru (fIsi "tuple" (fPeek 0)))) (fOrT (fT (fOp pNe (fCall (one pLen) (fCons (fPeek 0) (fC []))) (fC (.int 3)))) (fNotT (fTru (fFrz (fCallP d_is_k 1 (fAD (fOpN pIx 0 (fC (.int 0))) (fC [])))))))) (fRetD (fC (.bool false))) (fun S => .nx S))
        (fSeq (fAsg (gTp 3 (gCs (gN 2) (gCs (gN 3) (gCs (gN 1) (gNl))))) (fVar 0))
        (fSeq (fIf (fOrT (fNotT (fTru (fIsi "tuple" (fPeek 3)))) (fOrT (fNotT (fTru (fIsi "tuple" (fPeek 1)))) (fOrT (fT (fOp pEq (fCall (one pLen) (fCons (fPeek 3) (fC []))) (fC (.int 0)))) (fT (fOp pNe (fCall (one pLen) (fCons (fPeek 3) (fC []))) (fCall (one pLen) (fCons (fPeek 1) (fC [])))))))) (fRetD (fC (.bool false))) (fun S => .nx S))
        (fSeq (fIf (fNotT (fTru (fAny false (fItems (fVar 3)) (gN 4) (fC true) (fAndV (fIsi "tuple" (fPeek 4)) (fOp pEq (fCall (one pLen) (fCons (fPeek 4) (fC []))) (fPeek 2))) [4]))) (fRetD (fC (.bool false))) (fun S => .nx S))
        (fSeq (fIf (fNotT (fTru (fAny2 false (fItems (fVar 3)) (gN 4) (fC true) (fItems (fVar 4)) (gN 5) (fC true) (fFrz (fCallP d_is_below 2 (fAD (fVar 5) (fAD (fCall (one pLen) (fCons (fPeek 3) (fC []))) (fC []))))) [4, 5] [5]))) (fRetD (fC (.bool false))) (fun S => .nx S))
        (fRetD (fAny false (fItems (fVar 1)) (gN 6) (fC true) (fFrz (fCallP d_is_below 2 (fAD (fVar 6) (fAD (fC (.int 2)) (fC []))))) [6]))))))
@[irreducible] noncomputable def d_is_machine_of : Den := denOf 7 b_is_machine_of
/-- slots: 0 machine -/
noncomputable def b_check_machine : FS → SRes :=
 fIf (fNotT (fTru (fFrz (fCallP d_is_machine_of 1 (fAD (fVar 0) (fC [])))))) (fun _ => .bad) (fun S => .nx S)
@[irreducible] noncomputable def d_check_machine : Den := denOf 1 b_check_machine
end DL
end

section
set_option linter.all false
/-! M1: products of atoms: the words that they have, placings, reducing. No program in sight. -/
namespace DL
/-! reduced products -/
/-! reducing from the left -/
end DL
end

section
set_option Elab.async false
set_option linter.all false
set_option maxRecDepth 100000
set_option maxHeartbeats 4000000
/-! S1: products: what their dens promise. -/
namespace DL
open PySem L2 Fz
@[simp] theorem str_neP : (Str.ofString "any" = Str.ofString "one") = False := eq_false (by decide)
@[simp] theorem str_neP' : (Str.ofString "one" = Str.ofString "any") = False := eq_false (by decide)

section
variable {Q : D → FS → Prop} {QV : SV → FS → Prop} {S : FS} {as bs : List At} {a : At} {i : Int}
end
end DL
end

section
set_option Elab.async false
set_option linter.all false
set_option maxRecDepth 100000
set_option maxHeartbeats 4000000
/-! S2: products: what their dens promise. -/
namespace DL
open PySem L2 Fz
end DL
end

section
set_option Elab.async false
set_option linter.all false
set_option maxRecDepth 100000
set_option maxHeartbeats 4000000
/-! S3: words of products. -/
namespace DL
open PySem L2 Fz
end DL
end

section
set_option Elab.async false
set_option linter.all false
set_option maxRecDepth 100000
set_option maxHeartbeats 4000000
/-! S4: the laws' own helpers about words, products. -/
namespace DL
open PySem L2 Fz
def LW (ws : List (List Int)) : List D := ws.map W
def ext1 (k : Nat) (w : List Int) : List (List Int) := (List.range k).map fun i : Nat => w ++ [(i : Int)]
def layW (k : Nat) : Nat → List (List Int)
  | 0 => [[]]
  | n + 1 => (layW k n).flatMap (ext1 k)
def allW (k : Nat) : Nat → List (List Int)
  | 0 => [[]]
  | n + 1 => allW k n ++ layW k (n + 1)
theorem ext1_len {k : Nat} {w : List Int} : (ext1 k w).length = k := by simp [ext1]
theorem flat_len {k : Nat} : ∀ {ws : List (List Int)}, (ws.flatMap (ext1 k)).length = ws.length * k
  | [] => by simp
  | w :: ws => by rw [List.flatMap_cons, List.length_append, flat_len, ext1_len, List.length_cons, Nat.succ_mul]; omega
theorem layW_len {k : Nat} : ∀ {n : Nat}, (layW k n).length = k ^ n
  | 0 => rfl
  | n + 1 => by rw [layW, flat_len, layW_len, Nat.pow_succ]
theorem layW_big {k n : Nat} (hk : k ≤ 3) (hn : n ≤ 9) : (layW k n).length ≤ 20000 := by
  rw [layW_len]
  have a : k ^ n ≤ 3 ^ n := Nat.pow_le_pow_left hk n
  have b : 3 ^ n ≤ 3 ^ 9 := Nat.pow_le_pow_right (by decide) hn
  have c : 3 ^ 9 ≤ 20000 := by decide
  omega
theorem layW_mem {k : Nat} {w : List Int} : ∀ {n : Nat}, w ∈ layW k n ↔ w.length = n ∧ IsW k w := by
  intro n
  induction n generalizing w with
  | zero =>
    simp [layW]
    intro e; subst e
    exact fun x hx => absurd hx (by simp)
  | succ n ih =>
    simp only [layW, List.mem_flatMap, ext1, List.mem_map, List.mem_range]
    constructor
    · rintro ⟨v, hv, i, hi, rfl⟩
      obtain ⟨h1, h2⟩ := ih.mp hv
      refine ⟨by simp [h1], fun x hx => ?_⟩
      rcases List.mem_append.mp hx with hx | hx
      · exact h2 x hx
      · rw [List.mem_singleton.mp hx]; omega
    · rintro ⟨h1, h2⟩
      have hne : w ≠ [] := fun e => by rw [e] at h1; simp at h1
      have hl := h2 _ (List.getLast_mem hne)
      refine ⟨w.dropLast, ih.mpr ⟨by simp [h1], fun x hx => h2 x (List.dropLast_subset _ hx)⟩, (w.getLast hne).toNat, by omega, ?_⟩
      rw [Int.toNat_of_nonneg hl.1]
      exact List.dropLast_concat_getLast hne
theorem allW_mem {k : Nat} {w : List Int} : ∀ {n : Nat}, w ∈ allW k n ↔ w.length ≤ n ∧ IsW k w := by
  intro n
  induction n with
  | zero =>
    have := layW_mem (k := k) (w := w) (n := 0)
    simp only [layW, allW] at this ⊢
    rw [this]
    constructor <;> (rintro ⟨a, b⟩; exact ⟨by omega, b⟩)
  | succ n ih =>
    rw [allW, List.mem_append, ih, layW_mem]
    constructor
    · rintro (⟨a, b⟩ | ⟨a, b⟩) <;> exact ⟨by omega, b⟩
    · rintro ⟨a, b⟩
      by_cases h : w.length ≤ n
      · exact .inl ⟨h, b⟩
      · exact .inr ⟨by omega, b⟩
end DL
end

section
set_option Elab.async false
set_option linter.all false
set_option maxRecDepth 100000
set_option maxHeartbeats 4000000
/-! M2: words sorted, least words: the plain theory. -/
namespace DL
open PySem L2 Fz SrtO
/-! ### sorting, generally -/
/-! ### the orders of words -/
/-! ### least words -/
end DL
end

section
set_option Elab.async false
set_option linter.all false
set_option maxRecDepth 100000
set_option maxHeartbeats 4000000
/-! S5: the laws' own helpers about products. -/
namespace DL
open PySem L2 Fz
end DL
end

section
set_option Elab.async false
set_option linter.all false
set_option maxRecDepth 100000
set_option maxHeartbeats 4000000
/-! S6: drawn atoms, words along atoms. -/
namespace DL
open PySem L2 Fz
end DL
end

section
set_option Elab.async false
set_option linter.all false
set_option maxRecDepth 100000
set_option maxHeartbeats 4000000
/-! S8: long words, placings. -/
namespace DL
open PySem L2 Fz
end DL
end

section
set_option Elab.async false
set_option linter.all false
set_option maxRecDepth 100000
set_option maxHeartbeats 4000000
/-! M6: books: the plain theory (the ascending greatest of products). -/
namespace DL
open PySem L2 Fz SrtO
/-! ### products as keys -/
/-! ### their order -/
/-! ### a set of products, sorted -/
/-! ### the greatest -/
end DL
end

section
set_option Elab.async false
set_option linter.all false
set_option maxRecDepth 100000
set_option maxHeartbeats 4000000
/-! M8: meetings of products: the plain theory. -/
namespace DL
open PySem L2 Fz SrtO
/-! ### a single letter first -/
/-! ### two stars first -/
/-! ### how many -/
end DL
end

section
set_option Elab.async false
set_option linter.all false
set_option maxRecDepth 100000
set_option maxHeartbeats 4000000
/-! S7: the shell of a law. -/
namespace DL
open PySem L2 Fz
noncomputable def shellF (m : Int) (body : FS → SRes) : FS → SRes :=
  fSeq (fFor (fRange1 (fCall (two pMax2) (fCons (fC (.int 1)) (fCons (fCall (two pMin2) (fCons (fC (.int m)) (fCons (fCall (one pLen) (fCons (fPeek 0) (fC []))) (fC [])))) (fC []))))) (gN 1) (fSeq (fSet 2 (fCallP d__law_well 2 (fAD (fVar 0) (fAD (fVar 1) (fC []))))) body))
        (fRetD (fC (.bool true)))
end DL
end

section
set_option Elab.async false
set_option linter.all false
set_option maxRecDepth 100000
set_option maxHeartbeats 4000000
/-! S9: what repr asks of small data. -/
namespace DL
open PySem L2 Fz
structure ShowB (n : Nat) (d : D) : Prop where
  ok : d.showable = true
  nd : d.hasDict = false
  len : d.shown.length ≤ n
theorem ShowB.up {n m : Nat} {d : D} (h : ShowB n d) (l : n ≤ m) : ShowB m d := ⟨h.ok, h.nd, Nat.le_trans h.len l⟩
theorem join_len {c : Nat} : ∀ ts : List Str, (∀ t ∈ ts, t.length ≤ c) → (Str.join ", " ts).length ≤ (c + 2) * ts.length
  | [], _ => by rw [Str.join.eq_1]; exact Nat.zero_le _
  | [t], h => by rw [Str.join.eq_2]; have := h t (by simp); simp; omega
  | t :: u :: ts, h => by
    have a := join_len (u :: ts) (fun x hx => h x (List.mem_cons_of_mem _ hx))
    have b := h t (by simp)
    have e : (", " : Str).length = 2 := by decide
    rw [Str.join.eq_3 _ _ _ (by simp), Str.length_append, Str.length_append, e]
    rw [List.length_cons, Nat.mul_succ]
    omega
theorem showAll {n : Nat} : ∀ {ds : List D}, (∀ d ∈ ds, ShowB n d) → PyData.showableAll ds = true ∧ PyData.hasDictAll ds = false ∧ (PyData.shownAll ds).length = ds.length ∧ ∀ t ∈ PyData.shownAll ds, t.length ≤ n
  | [], _ => ⟨rfl, rfl, rfl, fun t ht => by simp [PyData.shownAll] at ht⟩
  | d :: ds, h => by
    obtain ⟨a, b, c, e⟩ := showAll (n := n) (ds := ds) fun x hx => h x (List.mem_cons_of_mem _ hx)
    have hd := h d (by simp)
    refine ⟨by simp only [PyData.showableAll, hd.ok, a]; rfl, by simp only [PyData.hasDictAll, hd.nd, b]; rfl, by simp only [PyData.shownAll, List.length_cons, c], fun t ht => ?_⟩
    simp only [PyData.shownAll] at ht
    rcases List.mem_cons.mp ht with rfl | q
    · exact hd.len
    · exact e t q
theorem ShowB.tup {n : Nat} {ds : List D} (h : ∀ d ∈ ds, ShowB n d) : ShowB ((n + 2) * ds.length + 3) (.tuple ds) := by
  obtain ⟨a, b, c, e⟩ := showAll h
  refine ⟨by simpa only [PyData.showable] using a, by simpa only [PyData.hasDict] using b, ?_⟩
  have j := join_len _ e
  rw [c] at j
  simp only [PyData.shown, tupleText]
  rw [Str.length_append, Str.length_append]
  have e1 : (Str.ofString "(").length = 1 := by decide
  have e2 : ∀ c : Bool, (Str.ofString (if c = true then ",)" else ")")).length ≤ 2 := by decide
  have := e2 ((PyData.shownAll ds).length == 1)
  rw [e1]
  omega
theorem sum_len {c : Nat} : ∀ ts : List Str, (∀ t ∈ ts, t.length ≤ c) → (ts.map Str.length).sum ≤ c * ts.length
  | [], _ => by simp
  | t :: ts, h => by
    have a := sum_len ts (fun x hx => h x (List.mem_cons_of_mem _ hx))
    have b := h t (by simp)
    simp only [List.map_cons, List.sum_cons, List.length_cons, Nat.mul_succ]
    omega
theorem ShowB.lst {n : Nat} {ds : List D} (h : ∀ d ∈ ds, ShowB n d) : ShowB ((n + 2) * ds.length + 3) (.list ds) := by
  obtain ⟨a, b, c, e⟩ := showAll h
  refine ⟨by simpa only [PyData.showable] using a, by simpa only [PyData.hasDict] using b, ?_⟩
  have l := textFrom_len_le (PyData.shownAll ds) 0 (Str.ofString "[")
  have s : ((PyData.shownAll ds).map fun x => x.length).sum ≤ n * (PyData.shownAll ds).length := sum_len _ e
  rw [c] at s
  simp only [PyData.shown, listText, Str.length_append]
  have e1 : (Str.ofString "[").length = 1 := by decide
  have e2 : (Str.ofString "]").length = 1 := by decide
  rw [e1] at l
  rw [e2]
  rw [c] at l
  rw [Nat.add_mul]
  omega
theorem ShowB.nat {i : Int} (h0 : 0 ≤ i) (h : i < 1000) : ShowB 3 (.int i) := by
  have key : ∀ j : Fin 1000, (PyData.showable (.int ((j : Nat) : Int)) = true ∧ PyData.hasDict (.int ((j : Nat) : Int)) = false ∧ (PyData.shown (.int ((j : Nat) : Int))).length ≤ 3) := by decide +kernel
  obtain ⟨j, rfl⟩ : ∃ j : Nat, i = (j : Int) := ⟨i.toNat, by omega⟩
  obtain ⟨a, b, c⟩ := key ⟨j, by omega⟩
  exact ⟨a, b, c⟩
theorem ShowB.W {w : List Int} (h : ∀ x ∈ w, 0 ≤ x ∧ x < 1000) : ShowB (5 * w.length + 3) (W w) := by
  have := ShowB.tup (n := 3) (ds := w.map .int) fun d hd => by
    obtain ⟨x, hx, rfl⟩ := List.mem_map.mp hd
    exact ShowB.nat (h x hx).1 (h x hx).2
  rw [List.length_map] at this
  exact this
theorem ShowB.showOk {n k : Nat} {d : D} (h : ShowB n d) (hn : n ≤ 16000000) (hs : Smal k d) (hk : k ≤ 60) : Fz.showOk d := ⟨h.ok, h.nd, Nat.le_trans h.len (szL hn), by have := hs.lay.2; omega⟩
end DL
end

section
set_option Elab.async false
set_option linter.all false
set_option maxRecDepth 100000
set_option maxHeartbeats 4000000
/-! S15: the laws' own reducing. -/
namespace DL
open PySem L2 Fz
/-! reversal -/
end DL
end

section
set_option Elab.async false
set_option linter.all false
set_option maxRecDepth 100000
set_option maxHeartbeats 4000000
/-! S16: books: what their dens promise. -/
namespace DL
open PySem L2 Fz SrtO
/-! what is no book -/
end DL
end

section
set_option Elab.async false
set_option linter.all false
set_option maxRecDepth 100000
set_option maxHeartbeats 4000000
/-! S17: books as the law looks at them. -/
namespace DL
open PySem L2 Fz SrtO
/-! ### the law's own book -/
end DL
end

section
set_option Elab.async false
set_option linter.all false
set_option maxRecDepth 100000
set_option maxHeartbeats 4000000
/-! S25: meetings: what their dens promise. -/
namespace DL
open PySem L2 Fz SrtO
/-! ### the dict of meetings -/
/-! ### sizes -/
end DL
end

section
set_option Elab.async false
set_option linter.all false
set_option maxRecDepth 100000
set_option maxHeartbeats 4000000
/-! S26: meetings as the law looks at them. -/
namespace DL
open PySem L2 Fz SrtO

end DL
end

section
set_option Elab.async false
set_option linter.all false
set_option maxRecDepth 100000
set_option maxHeartbeats 4000000
/-! M3: the order of words, leaders: the plain theory. -/
namespace DL
open PySem L2 Fz
end DL
end

section
set_option Elab.async false
set_option linter.all false
set_option maxRecDepth 100000
set_option maxHeartbeats 4000000
/-! M4: rows of leaders: there is just one. -/
namespace DL
open PySem L2 Fz
end DL
end

section
set_option Elab.async false
set_option linter.all false
set_option maxRecDepth 100000
set_option maxHeartbeats 4000000
/-! M5: cuts of a word; the layers ascend. -/
namespace DL
open PySem L2 Fz SrtO
/-! the layers ascend -/
/-! rows, looked at -/
end DL
end

section
set_option Elab.async false
set_option linter.all false
set_option maxRecDepth 100000
set_option maxHeartbeats 4000000
/-! S11: strewn from the behind, the least words. -/
namespace DL
open PySem L2 Fz SrtO
end DL
end

section
set_option Elab.async false
set_option linter.all false
set_option maxRecDepth 100000
set_option maxHeartbeats 4000000
/-! S12: lists of words drawn, least_words. -/
namespace DL
open PySem L2 Fz SrtO
theorem eqv_LW0 {ws : List (List Int)} : PyData.eqv (.list (LW ws)) (.list []) = decide (ws = []) := by
  cases ws with
  | nil => simp [LW, PyData.eqv, PyData.eqvAll]
  | cons w ws => simp [LW]
end DL
end

section
set_option Elab.async false
set_option linter.all false
set_option maxRecDepth 100000
set_option maxHeartbeats 4000000
/-! S13: least_words. -/
namespace DL
open PySem L2 Fz SrtO
theorem noLs_ints : ∀ xs : List Int, noLs (xs.map .int) = true
  | [] => rfl
  | x :: xs => by simp only [List.map_cons, noLs, noL, noLs_ints xs]; rfl
@[simp] theorem noL_W {xs : List Int} : noL (W xs) = true := by unfold W; simp only [noL]; exact noLs_ints xs
@[simp] theorem noLs_LW : ∀ {ws : List (List Int)}, noLs (LW ws) = true
  | [] => rfl
  | w :: ws => by
    have ih := noLs_LW (ws := ws)
    unfold LW at ih ⊢
    simp only [List.map_cons, noLs, noL_W, ih]; rfl
end DL
end

section
set_option Elab.async false
set_option linter.all false
set_option maxRecDepth 100000
set_option maxHeartbeats 4000000
/-! S14: leaders and rows. -/
namespace DL
open PySem L2 Fz SrtO
end DL
end

section
set_option Elab.async false
set_option linter.all false
set_option maxRecDepth 100000
set_option maxHeartbeats 4000000
/-! S27: machines, walked. -/
namespace DL
open PySem L2 Fz SrtO
theorem mc_between_w {x a b : Int} (h1 : a ≤ x) (h2 : x ≤ b) {Q : SV → List SV → Prop} (h : Q (.d (.bool true)) [.d (.int x), .d (.int a), .d (.int b)]) : wC (d_is_between [.d (.int x), .d (.int a), .d (.int b)]) Q := by
  unfold d_is_between
  rw [wC_denOf]
  simp [b_is_between, wE_callD]
  refine is_integer_w ?_
  have n1 : ¬ x < a := by omega
  simpa [h1, h2, n1] using h
theorem mc_k_w {k : Int} (h1 : 1 ≤ k) (h3 : k ≤ 3) {Q : SV → List SV → Prop} (h : Q (.d (.bool true)) [.d (.int k)]) : wC (d_is_k [.d (.int k)]) Q := by
  unfold d_is_k
  rw [wC_denOf]
  simp [b_is_k, wE_callD]
  refine mc_between_w h1 h3 ?_
  simpa using h
structure Mc where
  k : Nat
  rows : List (List Int)
  ends : List Int
def Mc.d (M : Mc) : D := .tuple [.int (M.k : Int), .tuple (M.rows.map W), W M.ends]
structure Mc.Ok (M : Mc) : Prop where
  k1 : 1 ≤ M.k
  k3 : M.k ≤ 3
  n1 : 1 ≤ M.rows.length
  n40 : M.rows.length ≤ 3000
  en : M.ends.length = M.rows.length
  rw : ∀ r ∈ M.rows, r.length = M.k ∧ IsW M.rows.length r
  ew : IsW 2 M.ends
def Mc.nx (M : Mc) (s : Nat) (l : Int) : Nat := ((((M.rows[s]?).getD [])[l.toNat]?).getD 0).toNat
def Mc.run (M : Mc) (s : Nat) (w : List Int) : Nat := w.foldl M.nx s
def Mc.fin (M : Mc) (s : Nat) : Int := (M.ends[s]?).getD 0
def Mc.tk (M : Mc) (w : List Int) : Bool := decide (M.fin (M.run 0 w) = 1)
section
variable {M : Mc}
theorem Mc.row_at (ok : M.Ok) {s : Nat} (h : s < M.rows.length) : ∃ r, M.rows[s]? = some r ∧ r.length = M.k ∧ IsW M.rows.length r :=
  ⟨M.rows[s], List.getElem?_eq_getElem h, (ok.rw _ (List.getElem_mem h)).1, (ok.rw _ (List.getElem_mem h)).2⟩
theorem Mc.cell_at (ok : M.Ok) {s : Nat} (h : s < M.rows.length) {l : Int} (h0 : 0 ≤ l) (h1 : l < M.k) : ∃ r, M.rows[s]? = some r ∧ atI r l = some ((M.nx s l : Nat) : Int) ∧ M.nx s l < M.rows.length := by
  obtain ⟨r, hr, hl, hw⟩ := Mc.row_at ok h
  obtain ⟨i, rfl⟩ : ∃ i : Nat, l = (i : Int) := ⟨l.toNat, by omega⟩
  have hi : i < r.length := by omega
  have e : M.nx s (i : Int) = (r[i]).toNat := by
    unfold Mc.nx
    rw [hr]
    simp [List.getElem?_eq_getElem hi]
  have hw2 := hw _ (List.getElem_mem hi)
  refine ⟨r, hr, ?_, by rw [e]; omega⟩
  rw [e, Fz.atI_nat, List.getElem?_eq_getElem hi]
  congr 1
  omega
theorem Mc.fin_at (ok : M.Ok) {s : Nat} (h : s < M.rows.length) : M.ends[s]? = some (M.fin s) ∧ 0 ≤ M.fin s ∧ M.fin s < 2 := by
  have hl : s < M.ends.length := by rw [ok.en]; exact h
  have e : M.fin s = M.ends[s] := by unfold Mc.fin; rw [List.getElem?_eq_getElem hl]; rfl
  have := ok.ew _ (List.getElem_mem hl)
  rw [e]
  exact ⟨List.getElem?_eq_getElem hl, this⟩
theorem Mc.run_lt (ok : M.Ok) : ∀ {w : List Int} {s : Nat}, s < M.rows.length → IsW M.k w → M.run s w < M.rows.length
  | [], s, h, _ => h
  | l :: w, s, h, hw => by
    obtain ⟨_, _, _, h3⟩ := Mc.cell_at ok h (hw l (by simp)).1 (hw l (by simp)).2
    exact Mc.run_lt (w := w) ok h3 fun x hx => hw x (by simp [hx])
theorem Mc.run_app {w v : List Int} {s : Nat} : M.run s (w ++ v) = M.run (M.run s w) v := by unfold Mc.run; rw [List.foldl_append]
theorem ix0_mc {S : FS} {Q : D → FS → Prop} : Fz.wE (pIx M.d (.int 0) S) Q = Q (.int (M.k : Int)) S := by unfold Mc.d; simp
theorem ix1_mc {S : FS} {Q : D → FS → Prop} : Fz.wE (pIx M.d (.int 1) S) Q = Q (.tuple (M.rows.map W)) S := by unfold Mc.d; simp
theorem ix2_mc {S : FS} {Q : D → FS → Prop} : Fz.wE (pIx M.d (.int 2) S) Q = Q (W M.ends) S := by unfold Mc.d; simp
theorem law_walk_w (ok : M.Ok) {w : List Int} (hw : IsW M.k w) {Q : SV → List SV → Prop} (h : Q (.d (.int (M.fin (M.run 0 w)))) [.d M.d, .d (W w)]) : wC (d__law_walk [.d M.d, .d (W w)]) Q := by
  unfold d__law_walk
  rw [wC_denOf]
  simp [b__law_walk]
  refine wS_forP (fun p _ S => ∃ c3, S = [some (.d M.d), some (.d (W w)), some (.d (.int ((M.run 0 p : Nat) : Int))), c3]) ⟨_, rfl⟩ ?_ ?_
  · rintro p l r S e ⟨c3, rfl⟩
    have hp : IsW M.k p := fun x hx => hw x (by rw [e]; simp [hx])
    have hl := hw l (by rw [e]; simp)
    have hs := Mc.run_lt ok (s := 0) (by have := ok.n1; omega) hp
    obtain ⟨row, h1, h2, h3⟩ := Mc.cell_at ok hs hl.1 hl.2
    simp [ix1_mc, h1, h2]
    rw [Mc.run_app]
    rfl
  · rintro S ⟨c3, rfl⟩
    have hs := Mc.run_lt ok (s := 0) (by have := ok.n1; omega) hw
    have := (Mc.fin_at ok hs).1
    simp [ix2_mc, this]
    exact h
end
end DL
end

section
set_option Elab.async false
set_option linter.all false
set_option maxRecDepth 100000
set_option maxHeartbeats 4000000
/-! S28: what is a machine. -/
namespace Fz
open PySem L2
@[simp] theorem wE_fAny2 {stop : Bool} {it it1 : FS → Res (List D)} {g g1 : D → FS → Option FS} {t t1 : FS → Res Bool} {fe : FS → Res D} {vs vs1 : List Nat} {S : FS} {Q : D → FS → Prop} : wE (fAny2 stop it g t it1 g1 t1 fe vs vs1 S) Q = wE (it S) fun ds S1 => wE (any2F stop g t it1 g1 t1 fe vs vs1 ds S1) fun b S2 => Q (.bool b) S2 := by
  unfold fAny2; rw [wE_bnd]; congr; funext ds S1; cases h : any2F stop g t it1 g1 t1 fe vs vs1 ds S1 <;> simp [h]
theorem wE_any2F {stop : Bool} {it1 : FS → Res (List D)} {g g1 : D → FS → Option FS} {t t1 : FS → Res Bool} {fe : FS → Res D} {vs vs1 : List Nat} {ds : List D} {S : FS} {Q : Bool → FS → Prop} (I : Nat → FS → Prop) (h0 : I 0 S)
    (step : ∀ i d S, ds[i]? = some d → I i S → wO (g d (wipeS S vs)) fun S1 => wE (t S1) fun k S2 => (k = false → I (i + 1) (restS S S2 vs)) ∧ (k = true → wE (it1 S2) fun ds1 S3 => wE (anyF stop g1 t1 fe vs1 ds1 S3) fun b S4 => (b = stop → Q stop (restS S S4 vs)) ∧ (b ≠ stop → I (i + 1) (restS S S4 vs))))
    (hQ : ∀ S, I ds.length S → Q (!stop) S) : wE (any2F stop g t it1 g1 t1 fe vs vs1 ds S) Q := by
  have key : ∀ (es : List D) (i : Nat) (S : FS), ds.drop i = es → i ≤ ds.length → I i S → wE (any2F stop g t it1 g1 t1 fe vs vs1 es S) Q := by
    intro es
    induction es with
    | nil =>
      intro i S hd hi h
      have : i = ds.length := by
        have := congrArg List.length hd
        simp at this; omega
      subst this
      exact hQ S h
    | cons d es ih =>
      intro i S hd hi h
      have hl : i < ds.length := by
        have := congrArg List.length hd
        simp at this; omega
      have hg : ds[i]? = some d := by
        have := congrArg (fun l => l[0]?) hd
        simpa using this
      have hd2 : ds.drop (i + 1) = es := by
        have := congrArg List.tail hd
        simpa using this
      have st := step i d S hg h
      cases e : g d (wipeS S vs) with
      | none => rw [e] at st; exact st.elim
      | some S1 =>
        rw [e] at st
        have st : wE (t S1) _ := st
        simp only [any2F, e]
        cases e2 : t S1 with
        | exn _ _ => rw [e2] at st; exact st.elim
        | bad => rw [e2] at st; exact st.elim
        | ok k S2 =>
          rw [e2] at st
          cases k with
          | false => exact ih (i + 1) _ hd2 hl (st.1 rfl)
          | true =>
            have st := st.2 rfl
            simp only
            cases e3 : it1 S2 with
            | exn _ _ => rw [e3] at st; exact st.elim
            | bad => rw [e3] at st; exact st.elim
            | ok ds1 S3 =>
              rw [e3] at st
              simp only
              have st : wE (anyF stop g1 t1 fe vs1 ds1 S3) _ := st
              cases e4 : anyF stop g1 t1 fe vs1 ds1 S3 with
              | exn _ _ => rw [e4] at st; exact st.elim
              | bad => rw [e4] at st; exact st.elim
              | ok b S4 =>
                rw [e4] at st
                simp only
                by_cases hb : b = stop
                · rw [if_pos hb]; exact st.1 hb
                · rw [if_neg hb]; exact ih (i + 1) _ hd2 hl (st.2 hb)
  exact key ds 0 S rfl (Nat.zero_le _) h0
end Fz
namespace DL
open PySem L2 Fz SrtO
section
variable {M : Mc}
theorem is_machine_of_w (ok : M.Ok) {Q : SV → List SV → Prop} (h : Q (.d (.bool true)) [.d M.d]) : wC (d_is_machine_of [.d M.d]) Q := by
  have k1 := ok.k1
  have k3 := ok.k3
  have n1 := ok.n1
  have hen := ok.en
  unfold d_is_machine_of
  rw [wC_denOf]
  have hd : M.d = .tuple [.int (M.k : Int), .tuple (M.rows.map W), W M.ends] := rfl
  simp [b_is_machine_of, wE_callD, ix0_mc]
  simp [hd]
  refine mc_k_w (by omega) (by omega) ?_
  simp
  have ne : ¬ M.rows = [] := fun z => by rw [z] at n1; simp at n1
  simp [ne, hen]
  rw [← hd]
  refine wE_anyF (fun i S => S = [some (.d M.d), some (.d (W M.ends)), some (.d (.int (M.k : Int))), some (.d (.tuple (M.rows.map W))), none, none, none]) rfl ?_ ?_
  · rintro i d S hd2 rfl
    obtain ⟨r, hr, rfl⟩ := List.mem_map.mp (List.mem_of_getElem? hd2)
    have := (ok.rw r hr).1
    simp [this]
  · rintro S rfl
    simp
    refine wE_any2F (fun i S => S = [some (.d M.d), some (.d (W M.ends)), some (.d (.int (M.k : Int))), some (.d (.tuple (M.rows.map W))), none, none, none]) rfl ?_ ?_
    · rintro i d S hd2 rfl
      obtain ⟨r, hr, rfl⟩ := List.mem_map.mp (List.mem_of_getElem? hd2)
      simp
      refine wE_anyF (fun i S => S = [some (.d M.d), some (.d (W M.ends)), some (.d (.int (M.k : Int))), some (.d (.tuple (M.rows.map W))), some (.d (W r)), none, none]) rfl ?_ ?_
      · rintro i d S hd3 rfl
        obtain ⟨z, hz, rfl⟩ := List.mem_map.mp (List.mem_of_getElem? hd3)
        have := (ok.rw r hr).2 z hz
        simp [wE_callD]
        refine is_below_w this.1 this.2 ?_
        simp
      · rintro S rfl
        simp
    · rintro S rfl
      simp
      refine wE_anyF (fun i S => S = [some (.d M.d), some (.d (W M.ends)), some (.d (.int (M.k : Int))), some (.d (.tuple (M.rows.map W))), none, none, none]) rfl ?_ ?_
      · rintro i d S hd3 rfl
        obtain ⟨z, hz, rfl⟩ := List.mem_map.mp (List.mem_of_getElem? hd3)
        have := ok.ew z hz
        simp [wE_callD]
        refine is_below_w this.1 this.2 ?_
        simp
      · rintro S rfl
        simp
        exact h
theorem check_machine_w (ok : M.Ok) {Q : SV → List SV → Prop} (h : Q (.d .none) [.d M.d]) : wC (d_check_machine [.d M.d]) Q := by
  unfold d_check_machine
  rw [wC_denOf]
  simp [b_check_machine, wE_callD]
  refine is_machine_of_w ok ?_
  simpa using h
end
end DL
end

section
set_option Elab.async false
set_option linter.all false
set_option maxRecDepth 100000
set_option maxHeartbeats 4000000
/-! S29: what is no machine. -/
namespace DL
open PySem L2 Fz SrtO
end DL
end

section
set_option Elab.async false
set_option linter.all false
set_option maxRecDepth 100000
set_option maxHeartbeats 4000000
/-! S30: bent machines. -/
namespace DL
open PySem L2 Fz SrtO
end DL
end

section
set_option Elab.async false
set_option linter.all false
set_option maxRecDepth 100000
set_option maxHeartbeats 4000000
/-! S31: drawn machines; the words to so many letters. -/
namespace DL
open PySem L2 Fz SrtO
theorem law_machine_w {o : Ob} {k most : Nat} (ho : Wl o) (h1 : 1 ≤ k) (h3 : k ≤ 3) (hm1 : 1 ≤ most) (hm : most ≤ 30) {Q : SV → List SV → Prop} (h : ∀ o' (M : Mc), Wl o' → M.Ok → M.k = k → M.rows.length ≤ most → Q (.d M.d) [.pin o', .d (.int (k : Nat)), .d (.int (most : Nat))]) :
    wC (d__law_machine [.pin o, .d (.int (k : Nat)), .d (.int (most : Nat))]) Q := by
  unfold d__law_machine
  rw [wC_denOf]
  simp [b__law_machine, wE_callD]
  refine take_w ho (by omega) (by omega) ?_
  intro o1 n0 ho1 hn0 hn1
  simp
  obtain ⟨n, hn⟩ : ∃ n : Nat, (1 + n0 : Int) = (n : Int) := ⟨(1 + n0).toNat, by omega⟩
  rw [hn]
  have hn1' : 1 ≤ n := by omega
  have hn2 : n ≤ most := by omega
  simp
  refine ⟨by omega, ?_⟩
  refine wE_lcF (fun i acc S => ∃ (o' : Ob) (rows : List (List Int)) (c4 c5 c6 : Option SV), Wl o' ∧ acc = rows.map W ∧ rows.length = i ∧ i ≤ n ∧ (∀ r ∈ rows, r.length = k ∧ IsW n r) ∧ S = [some (.pin o'), some (.d (.int (k : Nat))), some (.d (.int (most : Nat))), some (.d (.int (n : Nat))), c4, c5, c6]) ⟨o1, [], none, none, none, ho1, rfl, rfl, by omega, by simp, rfl⟩ ?_ ?_
  · rintro i d acc S hd ⟨o', rows, c4, c5, c6, ho', rfl, hl, hi, hr, rfl⟩
    have hil := (List.getElem?_eq_some_iff.mp hd).1
    rw [rngD_len] at hil
    simp
    refine ⟨by omega, ?_⟩
    refine wE_lcF (fun i acc S => ∃ (o' : Ob) (r : List Int) (c6 : Option SV), Wl o' ∧ acc = r.map .int ∧ r.length = i ∧ IsW n r ∧ S = [some (.pin o'), some (.d (.int (k : Nat))), some (.d (.int (most : Nat))), some (.d (.int (n : Nat))), c4, some (.d d), c6]) ⟨o', [], _, ho', rfl, rfl, by intro x hx; simp at hx, rfl⟩ ?_ ?_
    · rintro j d2 acc S hd2 ⟨o2, r, c6, ho2, rfl, hl2, hr2, rfl⟩
      have hjl := (List.getElem?_eq_some_iff.mp hd2).1
      rw [rngD_len] at hjl
      simp [wE_callD]
      refine take_w ho2 (by omega) (by omega) ?_
      intro o3 x ho3 hx0 hx1
      simp
      refine ⟨szS (by omega), o3, ho3, r ++ [x], by simp, by simp; omega, fun y hy => ?_, rfl⟩
      rcases List.mem_append.mp hy with hy | hy
      · exact hr2 y hy
      · rw [List.mem_singleton.mp hy]; exact ⟨hx0, hx1⟩
    · rintro acc S ⟨o2, r, c6, ho2, rfl, hl2, hr2, rfl⟩
      rw [rngD_len] at hl2
      simp
      refine ⟨szS (by omega), o2, ho2, rows ++ [r], by rw [List.map_append]; rfl, by simp; omega, by omega, fun y hy => ?_, rfl⟩
      rcases List.mem_append.mp hy with hy | hy
      · exact hr y hy
      · rw [List.mem_singleton.mp hy]; exact ⟨hl2, hr2⟩
  · rintro acc S ⟨o', rows, c4, c5, c6, ho', rfl, hl, hi, hr, rfl⟩
    rw [rngD_len] at hl
    simp
    refine ⟨by omega, ?_⟩
    refine wE_lcF (fun i acc S => ∃ (o' : Ob) (r : List Int) (c5 : Option SV), Wl o' ∧ acc = r.map .int ∧ r.length = i ∧ IsW 2 r ∧ S = [some (.pin o'), some (.d (.int (k : Nat))), some (.d (.int (most : Nat))), some (.d (.int (n : Nat))), some (.own (.lst (rows.map W))), c5, c6]) ⟨o', [], _, ho', rfl, rfl, by intro x hx; simp at hx, rfl⟩ ?_ ?_
    · rintro j d2 acc S hd2 ⟨o2, r, c5, ho2, rfl, hl2, hr2, rfl⟩
      have hjl := (List.getElem?_eq_some_iff.mp hd2).1
      rw [rngD_len] at hjl
      simp [wE_callD]
      refine take_w ho2 (by omega) (by omega) ?_
      intro o3 x ho3 hx0 hx1
      simp
      refine ⟨szS (by omega), o3, ho3, r ++ [x], by simp, by simp; omega, fun y hy => ?_, rfl⟩
      rcases List.mem_append.mp hy with hy | hy
      · exact hr2 y hy
      · rw [List.mem_singleton.mp hy]; exact ⟨hx0, hx1⟩
    · rintro acc S ⟨o2, r, c5, ho2, rfl, hl2, hr2, rfl⟩
      rw [rngD_len] at hl2
      simp
      exact h o2 ⟨k, rows, r⟩ ho2 ⟨h1, h3, by show 1 ≤ rows.length; omega, by show rows.length ≤ 3000; omega, by show r.length = rows.length; omega, fun y hy => by show _ ∧ IsW (rows.length : Nat) y; rw [hl]; exact hr y hy, hr2⟩ rfl (by show rows.length ≤ most; omega)
end DL
end

section
set_option Elab.async false
set_option linter.all false
set_option maxRecDepth 100000
set_option maxHeartbeats 4000000
/-! S32: the words that are taken. -/
namespace DL
open PySem L2 Fz SrtO
section
variable {M : Mc}
end
end DL
end

section
set_option Elab.async false
set_option linter.all false
set_option maxRecDepth 100000
set_option maxHeartbeats 4000000
/-! M9: breadth first, shortest first. -/
namespace DL
open PySem L2 Fz SrtO
section
variable {M : Mc} {ps : Ps} {a : Nat}
end
end DL
end

section
set_option Elab.async false
set_option linter.all false
set_option maxRecDepth 100000
set_option maxHeartbeats 4000000
/-! S33: the first word that is taken. -/
namespace DL
open PySem L2 Fz SrtO
end DL
end

section
set_option Elab.async false
set_option linter.all false
set_option maxRecDepth 100000
set_option maxHeartbeats 4000000
/-! M10: machines of nodes, numbered as met; the least machine of a language. -/
namespace DL
open PySem L2 Fz SrtO
structure BfsM {β : Type} (k : Nat) (st : β) (δ : β → Nat → β) (fin : β → Bool) (M : Mc) (ord : List β) : Prop where
  hk : M.k = k
  nd : ord.Nodup
  s0 : ord[0]? = some st
  rl : M.rows.length = ord.length
  el : M.ends.length = ord.length
  row : ∀ (i : Nat) (x : β), ord[i]? = some x → ∃ r : List Int, M.rows[i]? = some r ∧ r.length = k ∧ ∀ l, l < k → ∃ j : Nat, r[l]? = some (j : Int) ∧ ord[j]? = some (δ x l)
  en : ∀ (i : Nat) (x : β), ord[i]? = some x → M.ends[i]? = some (if fin x then 1 else 0)
  met : ∀ (j : Nat) (y : β), ord[j + 1]? = some y → ∃ p, p < k * (j + 1) ∧ (∃ x, ord[p / k]? = some x ∧ δ x (p % k) = y) ∧ ∀ q, q < p → ∀ x, ord[q / k]? = some x → δ x (q % k) ∈ ord.take (j + 1)
section
variable {β γ : Type} {k : Nat} {st : β} {δ : β → Nat → β} {fin : β → Bool} {M M' : Mc} {ord ord' : List β}
theorem nodup_ix_eq {α : Type} {l : List α} (h : l.Nodup) {i j : Nat} {x : α} (hi : l[i]? = some x) (hj : l[j]? = some x) : i = j := by
  obtain ⟨h1, e1⟩ := List.getElem?_eq_some_iff.mp hi
  obtain ⟨h2, e2⟩ := List.getElem?_eq_some_iff.mp hj
  by_cases e : i = j
  · exact e
  · exfalso
    rw [List.nodup_iff_pairwise_ne, List.pairwise_iff_getElem] at h
    rcases Nat.lt_or_gt_of_ne e with q | q
    · exact h i j h1 h2 q (e1.trans e2.symm)
    · exact h j i h2 h1 q (e2.trans e1.symm)
theorem take_get {α : Type} {l m : List α} {n i : Nat} (h : l.take n = m.take n) (hi : i < n) : l[i]? = m[i]? := by
  have := congrArg (fun l => l[i]?) h
  simpa [List.getElem?_take, hi] using this
theorem not_in_take {α : Type} {l : List α} (h : l.Nodup) {n : Nat} {y : α} (e : l[n]? = some y) : y ∉ l.take n := fun hm => by
  obtain ⟨i, hi⟩ := List.getElem?_of_mem hm
  rw [List.getElem?_take] at hi
  split at hi
  · have := nodup_ix_eq h hi e; omega
  · cases hi
/-- the next node is told by those ahead -/
theorem bfs_next (B : BfsM k st δ fin M ord) (B' : BfsM k st δ fin M' ord') {j : Nat} (h : ord.take (j + 1) = ord'.take (j + 1)) {y y' : β} (e : ord[j + 1]? = some y) (e' : ord'[j + 1]? = some y') : y = y' := by
  obtain ⟨p, hp, ⟨x, hx, hy⟩, hq⟩ := B.met j y e
  obtain ⟨p', hp', ⟨x', hx', hy'⟩, hq'⟩ := B'.met j y' e'
  have lt : ∀ {p}, p < k * (j + 1) → p / k < j + 1 := fun {p} h => Nat.div_lt_of_lt_mul h
  rcases Nat.lt_trichotomy p p' with q | q | q
  · exfalso
    have := hq' p q x (by rw [← take_get h (lt hp)]; exact hx)
    rw [hy, ← h] at this
    exact not_in_take B.nd e this
  · subst q
    rw [take_get h (lt hp), hx'] at hx
    cases hx
    rw [← hy, ← hy']
  · exfalso
    have := hq p' q x' (by rw [take_get h (lt hp')]; exact hx')
    rw [hy', h] at this
    exact not_in_take B'.nd e' this
theorem bfs_closed (B : BfsM k st δ fin M ord) {x : β} (hx : x ∈ ord) {l : Nat} (hl : l < k) : δ x l ∈ ord := by
  obtain ⟨i, hi⟩ := List.getElem?_of_mem hx
  obtain ⟨r, _, _, h⟩ := B.row i x hi
  obtain ⟨j, _, hj⟩ := h l hl
  exact List.mem_of_getElem? hj
theorem bfs_pos (B : BfsM k st δ fin M ord) : 1 ≤ ord.length := by
  have := B.s0
  have := (List.getElem?_eq_some_iff.mp this).1
  omega
theorem bfs_take (B : BfsM k st δ fin M ord) (B' : BfsM k st δ fin M' ord') : ∀ n, n ≤ ord.length → n ≤ ord'.length → ord.take n = ord'.take n
  | 0, _, _ => by simp
  | 1, h, h' => by
    have e := B.s0
    have e' := B'.s0
    rw [List.take_add_one, List.take_add_one, e, e']
    simp
  | n + 2, h, h' => by
    have ih := bfs_take B B' (n + 1) (by omega) (by omega)
    rw [List.take_add_one (i := n + 1) (l := ord), List.take_add_one (i := n + 1) (l := ord'), ih]
    have e : ord[n + 1]? = some ord[n + 1] := List.getElem?_eq_getElem (by omega)
    have e' : ord'[n + 1]? = some ord'[n + 1] := List.getElem?_eq_getElem (by omega)
    have := bfs_next B B' ih e e'
    rw [e, e', this]
theorem bfs_len (B : BfsM k st δ fin M ord) (B' : BfsM k st δ fin M' ord') : ord.length ≤ ord'.length := by
  by_cases h : ord.length ≤ ord'.length
  · exact h
  · exfalso
    have h1 := bfs_pos B'
    obtain ⟨j, hj⟩ : ∃ j, ord'.length = j + 1 := ⟨ord'.length - 1, by omega⟩
    have ht := bfs_take B B' (j + 1) (by omega) (by omega)
    have e : ord[j + 1]? = some ord[j + 1] := List.getElem?_eq_getElem (by omega)
    generalize ord[j + 1] = y at e
    obtain ⟨p, hp, ⟨x, hx, hy⟩, _⟩ := B.met j _ e
    have lt : p / k < j + 1 := Nat.div_lt_of_lt_mul hp
    have hk : 0 < k := by
      cases k with
      | zero => simp at hp
      | succ k => omega
    have hx' : ord'[p / k]? = some x := by rw [← take_get ht lt]; exact hx
    have hc := bfs_closed B' (List.mem_of_getElem? hx') (Nat.mod_lt p hk)
    rw [hy] at hc
    have e2 : ord'.take (j + 1) = ord' := List.take_of_length_le (by omega)
    have hc2 : y ∈ ord'.take (j + 1) := by rw [e2]; exact hc
    rw [← ht] at hc2
    exact not_in_take B.nd e hc2
theorem bfs_ord (B : BfsM k st δ fin M ord) (B' : BfsM k st δ fin M' ord') : ord = ord' := by
  have h : ord.length = ord'.length := Nat.le_antisymm (bfs_len B B') (bfs_len B' B)
  have := bfs_take B B' ord.length (Nat.le_refl _) (by omega)
  rwa [List.take_length, h, List.take_length] at this
/-- THE machine of these nodes -/
theorem bfs_uniq (B : BfsM k st δ fin M ord) (B' : BfsM k st δ fin M' ord') : M = M' := by
  have e := bfs_ord B B'
  subst e
  have hk : M.k = M'.k := B.hk.trans B'.hk.symm
  have hr : M.rows = M'.rows := by
    refine List.ext_getElem? fun i => ?_
    by_cases hi : i < ord.length
    · have ei : ord[i]? = some ord[i] := List.getElem?_eq_getElem hi
      obtain ⟨r, h1, h2, h3⟩ := B.row i _ ei
      obtain ⟨r', h1', h2', h3'⟩ := B'.row i _ ei
      rw [h1, h1']
      congr 1
      refine List.ext_getElem? fun l => ?_
      by_cases hl : l < k
      · obtain ⟨j, j1, j2⟩ := h3 l hl
        obtain ⟨j', j1', j2'⟩ := h3' l hl
        rw [j1, j1', nodup_ix_eq B.nd j2 j2']
      · rw [List.getElem?_eq_none (by omega), List.getElem?_eq_none (by omega)]
    · rw [List.getElem?_eq_none (by rw [B.rl]; omega), List.getElem?_eq_none (by rw [B'.rl]; omega)]
  have he : M.ends = M'.ends := by
    refine List.ext_getElem? fun i => ?_
    by_cases hi : i < ord.length
    · have ei : ord[i]? = some ord[i] := List.getElem?_eq_getElem hi
      rw [B.en i _ ei, B'.en i _ ei]
    · rw [List.getElem?_eq_none (by rw [B.el]; omega), List.getElem?_eq_none (by rw [B'.el]; omega)]
  cases M; cases M'
  simp only at hk hr he
  subst hk hr he
  rfl
/-- the nodes called otherwise -/
theorem bfs_map {φ : β → γ} {δ' : γ → Nat → γ} {fin' : γ → Bool} (B : BfsM k st δ fin M ord) (hi : ∀ a ∈ ord, ∀ b ∈ ord, φ a = φ b → a = b) (hd : ∀ a ∈ ord, ∀ l, l < k → φ (δ a l) = δ' (φ a) l) (hf : ∀ a ∈ ord, fin' (φ a) = fin a) :
    BfsM k (φ st) δ' fin' M (ord.map φ) := by
  have back : ∀ {i : Nat} {y : γ}, (ord.map φ)[i]? = some y → ∃ x, ord[i]? = some x ∧ φ x = y := fun {i y} h => by
    rw [List.getElem?_map] at h
    cases e : ord[i]? with
    | none => rw [e] at h; cases h
    | some x => rw [e] at h; exact ⟨x, rfl, Option.some.inj h⟩
  have fwd : ∀ {i : Nat} {x : β}, ord[i]? = some x → (ord.map φ)[i]? = some (φ x) := fun {i x} h => by rw [List.getElem?_map, h]; rfl
  refine ⟨B.hk, ?_, fwd B.s0, by rw [List.length_map]; exact B.rl, by rw [List.length_map]; exact B.el, fun i y h => ?_, fun i y h => ?_, fun j y h => ?_⟩
  · rw [List.nodup_iff_pairwise_ne, List.pairwise_map]
    have := B.nd
    rw [List.nodup_iff_pairwise_ne] at this
    exact (List.Pairwise.and_mem.mp this).imp fun {a b} ⟨ha, hb, n⟩ e => n (hi a ha b hb e)
  · obtain ⟨x, hx, rfl⟩ := back h
    obtain ⟨r, h1, h2, h3⟩ := B.row i x hx
    refine ⟨r, h1, h2, fun l hl => ?_⟩
    obtain ⟨j, j1, j2⟩ := h3 l hl
    exact ⟨j, j1, by rw [← hd x (List.mem_of_getElem? hx) l hl]; exact fwd j2⟩
  · obtain ⟨x, hx, rfl⟩ := back h
    rw [B.en i x hx, hf x (List.mem_of_getElem? hx)]
  · obtain ⟨y0, hy0, rfl⟩ := back h
    obtain ⟨p, hp, ⟨x, hx, hy⟩, hq⟩ := B.met j y0 hy0
    have hk : 0 < k := by
      cases k with
      | zero => simp at hp
      | succ k => omega
    refine ⟨p, hp, ⟨φ x, fwd hx, ?_⟩, fun q hqp z hz => ?_⟩
    · rw [← hd x (List.mem_of_getElem? hx) _ (Nat.mod_lt p hk), hy]
    · obtain ⟨x2, hx2, rfl⟩ := back hz
      have := hq q hqp x2 hx2
      rw [← hd x2 (List.mem_of_getElem? hx2) _ (Nat.mod_lt q hk), ← List.map_take]
      exact List.mem_map_of_mem this
theorem bfs_ok (B : BfsM k st δ fin M ord) (h1 : 1 ≤ k) (h3 : k ≤ 3) (hn : ord.length ≤ 3000) : M.Ok := by
  refine ⟨by rw [B.hk]; exact h1, by rw [B.hk]; exact h3, by rw [B.rl]; exact bfs_pos B, by rw [B.rl]; exact hn, B.el.trans B.rl.symm, fun r hr => ?_, fun e he => ?_⟩
  · obtain ⟨i, hi⟩ := List.getElem?_of_mem hr
    have hil : i < ord.length := by rw [← B.rl]; exact (List.getElem?_eq_some_iff.mp hi).1
    obtain ⟨r2, q1, q2, q3⟩ := B.row i _ (List.getElem?_eq_getElem hil)
    rw [hi] at q1; cases q1
    refine ⟨q2.trans B.hk.symm, fun z hz => ?_⟩
    obtain ⟨l, hl⟩ := List.getElem?_of_mem hz
    have hlk : l < k := by rw [← q2]; exact (List.getElem?_eq_some_iff.mp hl).1
    obtain ⟨j, j1, j2⟩ := q3 l hlk
    rw [hl] at j1; cases j1
    have := (List.getElem?_eq_some_iff.mp j2).1
    rw [B.rl]
    exact ⟨by omega, by omega⟩
  · obtain ⟨i, hi⟩ := List.getElem?_of_mem he
    have hil : i < ord.length := by rw [← B.el]; exact (List.getElem?_eq_some_iff.mp hi).1
    have := B.en i _ (List.getElem?_eq_getElem hil)
    rw [hi] at this
    have := Option.some.inj this
    subst this
    split <;> constructor <;> decide
def runδ (δ : β → Nat → β) (x : β) (w : List Int) : β := w.foldl (fun x l => δ x l.toNat) x
theorem bfs_nx (B : BfsM k st δ fin M ord) {i : Nat} {x : β} (hi : ord[i]? = some x) {l : Int} (h0 : 0 ≤ l) (h1 : l < k) : ord[M.nx i l]? = some (δ x l.toNat) := by
  obtain ⟨r, q1, q2, q3⟩ := B.row i x hi
  obtain ⟨j, j1, j2⟩ := q3 l.toNat (by omega)
  have : M.nx i l = j := by unfold Mc.nx; rw [q1]; simp [j1]
  rw [this]; exact j2
theorem bfs_run (B : BfsM k st δ fin M ord) : ∀ {w : List Int} {i : Nat} {x : β}, IsW k w → ord[i]? = some x → ord[M.run i w]? = some (runδ δ x w)
  | [], i, x, _, h => h
  | l :: w, i, x, hw, h => by
    have hl := hw l (by simp)
    exact bfs_run B (w := w) (fun z hz => hw z (by simp [hz])) (bfs_nx B h hl.1 hl.2)
theorem bfs_fin (B : BfsM k st δ fin M ord) {w : List Int} {i : Nat} {x : β} (hw : IsW k w) (h : ord[i]? = some x) : M.fin (M.run i w) = if fin (runδ δ x w) then 1 else 0 := by
  have := B.en _ _ (bfs_run B hw h)
  unfold Mc.fin
  rw [this]; rfl
end
/-! ### languages -/
abbrev Lang := List Int → Bool
instance instIsW {k : Int} {w : List Int} : Decidable (IsW k w) := by unfold IsW; exact inferInstance
def lng (M : Mc) (s : Nat) : Lang := fun w => decide (IsW M.k w ∧ M.fin (M.run s w) = 1)
def resL (L : Lang) (l : Nat) : Lang := fun w => L ((l : Int) :: w)
def finL (L : Lang) : Bool := L []
/-- M is the least machine of L -/
def Least (k : Nat) (L : Lang) (M : Mc) : Prop := ∃ ord : List Lang, BfsM k L resL finL M ord
theorem least_uniq {k : Nat} {L : Lang} {M M' : Mc} (h : Least k L M) (h' : Least k L M') : M = M' := by
  obtain ⟨o, h⟩ := h
  obtain ⟨o', h'⟩ := h'
  exact bfs_uniq h h'
theorem lng_tk {M : Mc} {w : List Int} (hw : IsW M.k w) : lng M 0 w = M.tk w := by
  unfold lng Mc.tk
  simp [hw]
theorem lng_res {M : Mc} {s l : Nat} (hl : l < M.k) : resL (lng M s) l = lng M (M.nx s l) := by
  funext w
  unfold resL lng
  have e : IsW M.k ((l : Int) :: w) ↔ IsW M.k w := ⟨fun h x hx => h x (by simp [hx]), fun h x hx => by
    rcases List.mem_cons.mp hx with rfl | hx
    · exact ⟨by omega, by omega⟩
    · exact h x hx⟩
  have e2 : M.run s ((l : Int) :: w) = M.run (M.nx s l) w := rfl
  show decide (IsW M.k ((l : Int) :: w) ∧ M.fin (M.run s ((l : Int) :: w)) = 1) = decide (IsW M.k w ∧ M.fin (M.run (M.nx s l) w) = 1)
  rw [decide_eq_decide, e, e2]
theorem lng_fin {M : Mc} {s : Nat} : finL (lng M s) = decide (M.fin s = 1) := by
  unfold finL lng
  have : IsW M.k [] := fun x hx => by cases hx
  have e : M.run s [] = s := rfl
  simp [this, e]
theorem runδ_res {L : Lang} : ∀ {w : List Int}, (∀ x ∈ w, 0 ≤ x) → runδ resL L w = fun v => L (w ++ v)
  | [], _ => rfl
  | l :: w, h => by
    have h0 := h l (by simp)
    show runδ resL (resL L l.toNat) w = _
    rw [runδ_res (fun x hx => h x (by simp [hx]))]
    funext v
    unfold resL
    have : ((l.toNat : Nat) : Int) = l := by omega
    rw [this]; rfl
/-- the states of a least machine take what is left of the language -/
theorem least_state {k : Nat} {L : Lang} {M : Mc} {ord : List Lang} (B : BfsM k L resL finL M ord) (hL : ∀ L' ∈ ord, ∀ w, L' w = true → IsW k w) {i : Nat} {L' : Lang} (hi : ord[i]? = some L') : lng M i = L' := by
  funext w
  unfold lng
  by_cases hw : IsW k w
  · have hw2 : IsW M.k w := by rw [B.hk]; exact hw
    have := bfs_fin B hw hi
    rw [runδ_res (fun x hx => (hw x hx).1)] at this
    rw [this]
    have e : (finL fun v => L' (w ++ v)) = L' w := by show L' (w ++ []) = L' w; rw [List.append_nil]
    rw [e]
    cases h : L' w <;> simp [hw2]
  · have hw2 : ¬ IsW M.k w := by rw [B.hk]; exact hw
    have : L' w = false := by
      cases h : L' w with
      | false => rfl
      | true => exact (hw (hL L' (List.mem_of_getElem? hi) w h)).elim
    simp [hw2, this]
theorem ord_sup {k : Nat} {L : Lang} {M : Mc} {ord : List Lang} (B : BfsM k L resL finL M ord) (hL : ∀ w, L w = true → IsW k w) : ∀ (n i : Nat), i ≤ n → ∀ (L' : Lang), ord[i]? = some L' → ∀ w, L' w = true → IsW k w
  | 0, i, hi, L', h, w, hw => by
    have : i = 0 := by omega
    subst this
    rw [B.s0] at h; cases h
    exact hL w hw
  | n + 1, i, hi, L', h, w, hw => by
    by_cases hin : i ≤ n
    · exact ord_sup B hL n i hin L' h w hw
    · have : i = n + 1 := by omega
      subst this
      obtain ⟨p, hp, ⟨x, hx, hy⟩, _⟩ := B.met n L' h
      have lt : p / k < n + 1 := Nat.div_lt_of_lt_mul hp
      have ih := ord_sup B hL n (p / k) (by omega) x hx
      subst hy
      intro z hz
      exact ih _ hw z (by simp [hz])
theorem least_lang {k : Nat} {L : Lang} {M : Mc} (h : Least k L M) (hL : ∀ w, L w = true → IsW k w) : lng M 0 = L := by
  obtain ⟨ord, B⟩ := h
  refine least_state B (fun L' hm => ?_) B.s0
  obtain ⟨i, hi⟩ := List.getElem?_of_mem hm
  exact ord_sup B hL i i (Nat.le_refl _) L' hi
theorem lng_sup {M : Mc} {s : Nat} : ∀ w, lng M s w = true → IsW M.k w := fun w h => by
  unfold lng at h
  exact (of_decide_eq_true h).1
theorem nodup_len {α : Type} : ∀ {l m : List α}, l.Nodup → (∀ x ∈ l, x ∈ m) → l.length ≤ m.length
  | [], _, _, _ => Nat.zero_le _
  | a :: l, m, nd, h => by
    obtain ⟨n1, n2⟩ := List.nodup_cons.mp nd
    obtain ⟨s, t, rfl⟩ := List.append_of_mem (h a (by simp))
    have : l.length ≤ (s ++ t).length := nodup_len n2 fun x hx => by
      have := h x (by simp [hx])
      rcases List.mem_append.mp this with q | q
      · exact List.mem_append_left _ q
      · rcases List.mem_cons.mp q with rfl | q
        · exact (n1 hx).elim
        · exact List.mem_append_right _ q
    simp at this ⊢
    omega
end DL
end

section
set_option Elab.async false
set_option linter.all false
set_option maxRecDepth 100000
set_option maxHeartbeats 4000000
/-! M11: nodes numbered as met, step by step. -/
namespace DL
open PySem L2 Fz SrtO
structure Bi {β : Type} (k : Nat) (st : β) (δ : β → Nat → β) (ord : List β) (rws : List (List Int)) (row : List Int) : Prop where
  nd : ord.Nodup
  s0 : ord[0]? = some st
  rl : rws.length ≤ ord.length
  rw : ∀ (i : Nat) (r : List Int), rws[i]? = some r → r.length = k ∧ ∀ x, ord[i]? = some x → ∀ l, l < k → ∃ j : Nat, r[l]? = some (j : Int) ∧ ord[j]? = some (δ x l)
  cl : row.length ≤ k
  cw : ∀ x, ord[rws.length]? = some x → ∀ l, l < row.length → ∃ j : Nat, row[l]? = some (j : Int) ∧ ord[j]? = some (δ x l)
  dn : ∀ q, q < k * rws.length + row.length → ∀ x, ord[q / k]? = some x → δ x (q % k) ∈ ord
  mt : ∀ (j : Nat) (y : β), ord[j + 1]? = some y → ∃ p, p < k * (j + 1) ∧ (∃ x, ord[p / k]? = some x ∧ δ x (p % k) = y) ∧ ∀ q, q < p → ∀ x, ord[q / k]? = some x → δ x (q % k) ∈ ord.take (j + 1)
section
variable {β : Type} {k : Nat} {st : β} {δ : β → Nat → β} {ord : List β} {rws : List (List Int)} {row : List Int}
theorem Bi.start : Bi k st δ [st] [] [] := by
  refine ⟨by simp, rfl, by simp, fun i r h => by simp at h, by simp, fun x _ l hl => by simp at hl, fun q hq => by simp at hq, fun j y h => by simp at h⟩
theorem div_at {k n c : Nat} (h : c < k) : (k * n + c) / k = n ∧ (k * n + c) % k = c := by
  have hk : 0 < k := by omega
  constructor
  · rw [Nat.mul_add_div hk, Nat.div_eq_of_lt h]; omega
  · rw [Nat.mul_add_mod, Nat.mod_eq_of_lt h]
theorem Bi.old (b : Bi k st δ ord rws row) (hk : row.length < k) {x : β} (hx : ord[rws.length]? = some x) {j : Nat} (hj : ord[j]? = some (δ x row.length)) : Bi k st δ ord rws (row ++ [(j : Int)]) := by
  refine ⟨b.nd, b.s0, b.rl, b.rw, by simp; omega, fun y hy l hl => ?_, fun q hq y hy => ?_, b.mt⟩
  · rw [hx] at hy; cases hy
    simp at hl
    by_cases e : l = row.length
    · subst e; exact ⟨j, by simp, hj⟩
    · obtain ⟨i, h1, h2⟩ := b.cw x hx l (by omega)
      exact ⟨i, by rw [List.getElem?_append_left (by omega)]; exact h1, h2⟩
  · simp at hq
    by_cases e : q = k * rws.length + row.length
    · subst e
      obtain ⟨d1, d2⟩ := div_at (n := rws.length) hk
      rw [d1, hx] at hy; cases hy
      rw [d2]; exact List.mem_of_getElem? hj
    · exact b.dn q (by omega) y hy
theorem get_app {α : Type} {l m : List α} {i : Nat} {x : α} (h : l[i]? = some x) : (l ++ m)[i]? = some x := by
  rw [List.getElem?_append_left (List.getElem?_eq_some_iff.mp h).1]; exact h
theorem get_app_inv {α : Type} {l m : List α} {i : Nat} {x : α} (hi : i < l.length) (h : (l ++ m)[i]? = some x) : l[i]? = some x := by
  rwa [List.getElem?_append_left hi] at h
theorem Bi.new (b : Bi k st δ ord rws row) (hk : row.length < k) {x : β} (hx : ord[rws.length]? = some x) (hn : δ x row.length ∉ ord) : Bi k st δ (ord ++ [δ x row.length]) rws (row ++ [(ord.length : Int)]) := by
  have hl := (List.getElem?_eq_some_iff.mp hx).1
  obtain ⟨d1, d2⟩ := div_at (n := rws.length) hk
  have low : ∀ {q}, q < k * rws.length + row.length → q / k < ord.length := fun {q} h => by
    have : q / k < rws.length + 1 := Nat.div_lt_of_lt_mul (by rw [Nat.mul_add]; omega)
    omega
  refine ⟨?_, get_app b.s0, by simp; omega, fun i r h => ?_, by simp; omega, fun y hy l hl2 => ?_, fun q hq y hy => ?_, fun j y h => ?_⟩
  · refine List.nodup_append.mpr ⟨b.nd, by simp, fun a ha c hc e => ?_⟩
    rw [List.mem_singleton.mp hc] at e
    rw [e] at ha; exact hn ha
  · obtain ⟨h1, h2⟩ := b.rw i r h
    refine ⟨h1, fun y hy l hlk => ?_⟩
    have hi : i < rws.length := (List.getElem?_eq_some_iff.mp h).1
    obtain ⟨j, j1, j2⟩ := h2 y (get_app_inv (by omega) hy) l hlk
    exact ⟨j, j1, get_app j2⟩
  · have hy := get_app_inv hl hy
    rw [hx] at hy; cases hy
    simp at hl2
    by_cases e : l = row.length
    · subst e; exact ⟨ord.length, by simp, by simp⟩
    · obtain ⟨i, h1, h2⟩ := b.cw x hx l (by omega)
      exact ⟨i, by rw [List.getElem?_append_left (by omega)]; exact h1, get_app h2⟩
  · simp at hq
    by_cases e : q = k * rws.length + row.length
    · subst e
      rw [d1] at hy
      have hy := get_app_inv hl hy
      rw [hx] at hy; cases hy
      rw [d2]; simp
    · have hq2 : q < k * rws.length + row.length := by omega
      exact List.mem_append_left _ (b.dn q hq2 y (get_app_inv (low hq2) hy))
  · by_cases e : j + 1 = ord.length
    · rw [e] at h
      simp at h
      subst h
      refine ⟨k * rws.length + row.length, ?_, ⟨x, by rw [d1]; exact get_app hx, by rw [d2]⟩, fun q hq y hy => ?_⟩
      · have : k * (rws.length + 1) ≤ k * (j + 1) := Nat.mul_le_mul_left k (by omega)
        rw [Nat.mul_add] at this
        omega
      · rw [e, List.take_left]
        exact b.dn q hq y (get_app_inv (low hq) hy)
    · have hj : j + 1 < ord.length := by
        have := (List.getElem?_eq_some_iff.mp h).1
        simp at this; omega
      obtain ⟨p, hp, ⟨z, hz, hy⟩, hq⟩ := b.mt j y (get_app_inv hj h)
      have lt : ∀ {q}, q < k * (j + 1) → q / k < ord.length := fun {q} h => by
        have : q / k < j + 1 := Nat.div_lt_of_lt_mul h
        omega
      refine ⟨p, hp, ⟨z, get_app hz, hy⟩, fun q hqp w hw => ?_⟩
      rw [List.take_append_of_le_length (by omega)]
      exact hq q hqp w (get_app_inv (lt (by omega)) hw)
theorem Bi.next (b : Bi k st δ ord rws row) (hk : row.length = k) (hl : rws.length < ord.length) : Bi k st δ ord (rws ++ [row]) [] := by
  refine ⟨b.nd, b.s0, by simp; omega, fun i r h => ?_, by simp, fun x _ l hl => by simp at hl, fun q hq => b.dn q ?_, b.mt⟩
  · by_cases e : i = rws.length
    · subst e
      simp at h; subst h
      exact ⟨hk, fun x hx l hlk => b.cw x hx l (by omega)⟩
    · have hi := (List.getElem?_eq_some_iff.mp h).1
      simp at hi
      exact b.rw i r (get_app_inv (by omega) h)
  · simp [Nat.mul_add] at hq
    omega
theorem Bi.done (b : Bi k st δ ord rws row) {fin : β → Bool} (hl : ¬ rws.length < ord.length) : BfsM k st δ fin ⟨k, rws, ord.map fun x => if fin x then 1 else 0⟩ ord := by
  have he : rws.length = ord.length := by have := b.rl; omega
  refine ⟨rfl, b.nd, b.s0, he, by simp, fun i x hx => ?_, fun i x hx => ?_, b.mt⟩
  · have hi := (List.getElem?_eq_some_iff.mp hx).1
    have e : rws[i]? = some rws[i] := List.getElem?_eq_getElem (by omega)
    obtain ⟨h1, h2⟩ := b.rw i _ e
    exact ⟨_, e, h1, fun l hl => h2 x hx l hl⟩
  · simp [hx]
end
/-! ### the nodes as keys -/
structure NodeOk {β : Type} (U : List β) (code : β → D) : Prop where
  key : (∀ x ∈ U, (fk (code x)).isSome = true) ∨ (∀ x ∈ U, (Fz.tk (code x)).isSome = true)
  inj : ∀ x ∈ U, ∀ y ∈ U, nk (code x) = nk (code y) → x = y
  nol : ∀ x ∈ U, noL (code x) = true
def DK {β : Type} (code : β → D) : List β → Nat → List (D × D)
  | [], _ => []
  | x :: r, n => (code x, .int (n : Int)) :: DK code r (n + 1)
section
variable {β : Type} {U : List β} {code : β → D}
theorem DK_len : ∀ {ord : List β} {n : Nat}, (DK code ord n).length = ord.length
  | [], _ => rfl
  | x :: r, n => by simp [DK, DK_len]
theorem DK_keys : ∀ {ord : List β} {n : Nat}, (DK code ord n).map (·.1) = ord.map code
  | [], _ => rfl
  | x :: r, n => by simp [DK, DK_keys]
theorem kOk_DK (O : NodeOk U code) {ord : List β} {n : Nat} (ho : ∀ x ∈ ord, x ∈ U) {y : β} (hy : y ∈ U) : kOk (DK code ord n) (code y) = true := by
  have key : ∀ p : D → Bool, (∀ x ∈ U, p (code x) = true) → (DK code ord n).all (fun q => p q.1) = true := fun p hp => by
    have : (DK code ord n).all (fun q => p q.1) = ((DK code ord n).map (·.1)).all p := by rw [List.all_map]; rfl
    rw [this, DK_keys, List.all_map, List.all_eq_true]
    exact fun x hx => hp x (ho x hx)
  unfold kOk
  rcases O.key with h | h
  · have k2 := key (fun d => (fk d).isSome) h
    simp only [h y hy, k2, Bool.and_self, Bool.true_or]
  · have k2 := key (fun d => (Fz.tk d).isSome) h
    simp only [h y hy, k2, Bool.and_self, Bool.or_true]
theorem dAt_DK (O : NodeOk U code) : ∀ {ord : List β} {n j : Nat} {y : β}, ord.Nodup → (∀ x ∈ ord, x ∈ U) → ord[j]? = some y → dAt (DK code ord n) (code y) = some (.int ((n + j : Nat) : Int))
  | x :: r, n, j, y, nd, ho, hj => by
    obtain ⟨n1, n2⟩ := List.nodup_cons.mp nd
    unfold dAt DK
    cases j with
    | zero =>
      simp at hj
      subst hj
      simp [List.find?_cons]
    | succ j =>
      have hj : r[j]? = some y := by simpa using hj
      have hm := List.mem_of_getElem? hj
      have ne : ¬ nk (code x) = nk (code y) := fun e => by
        have := O.inj x (ho x (by simp)) y (ho y (by simp [hm])) e
        rw [this] at n1; exact n1 hm
      have ih := dAt_DK O (n := n + 1) n2 (fun z hz => ho z (by simp [hz])) hj
      unfold dAt at ih
      simp only [List.find?_cons, ne, decide_false]
      rw [ih]
      congr 2; omega
theorem dAt_DK_none (O : NodeOk U code) : ∀ {ord : List β} {n : Nat} {y : β}, (∀ x ∈ ord, x ∈ U) → y ∈ U → y ∉ ord → dAt (DK code ord n) (code y) = none
  | [], n, y, ho, hy, hn => rfl
  | x :: r, n, y, ho, hy, hn => by
    unfold dAt DK
    have ne : ¬ nk (code x) = nk (code y) := fun e => by
      have := O.inj x (ho x (by simp)) y hy e
      rw [this] at hn; exact hn (by simp)
    have ih := dAt_DK_none O (ord := r) (n := n + 1) (fun z hz => ho z (by simp [hz])) hy (fun z => hn (by simp [z]))
    unfold dAt at ih
    simp only [List.find?_cons, ne, decide_false]
    exact ih
theorem DK_app : ∀ {ord : List β} {n : Nat} {y : β}, DK code (ord ++ [y]) n = DK code ord n ++ [(code y, .int ((n + ord.length : Nat) : Int))]
  | [], n, y => rfl
  | x :: r, n, y => by
    simp only [List.cons_append, DK, DK_app, List.length_cons]
    have : n + 1 + r.length = n + (r.length + 1) := by omega
    rw [this]
theorem dPut_DK (O : NodeOk U code) {ord : List β} {y : β} (ho : ∀ x ∈ ord, x ∈ U) (hy : y ∈ U) (hn : y ∉ ord) : dPut (DK code ord 0) (code y) (.int (ord.length : Int)) = DK code (ord ++ [y]) 0 := by
  unfold dPut dHas
  rw [dAt_DK_none O ho hy hn, DK_app, Nat.zero_add]
  simp
end
end DL
end

section
set_option Elab.async false
set_option linter.all false
set_option maxRecDepth 100000
set_option maxHeartbeats 4000000
/-! F70: functions that a frame makes: the object. -/
namespace Fz
open PySem PySem.Spec PyProof.Rows L2
section
variable {M : Model} {A : Around} {E : Value → Shared → Prop} {s : Shared} {env : Env} {c P : Addr} {ps : Array Value} {pos : Pos} {firstLine : Nat} {mg : Str → Option Value} {clos : List (Str × Addr)} {Q : Value → Shared → Prop}
theorem mk_new {t : FnT} {qual : Str} (hcl : closureFor t.scope env = pure clos) (hge0 : env.globals = mainGlobals) (hg : s.heap.Ns mainGlobals mg) (hcode : env.code = .ref c) (C : PySem.W.CodeHd s.heap c P) (hP : s.heap.get? P = some { cls := .none, data := .fields ps }) (ht : TriplesOk ps.toList)
    (hnf : codeAmong pos ps.toList = none) (hgP : mainGlobals ≠ P) (hb : s.heap.BuiltinsAt mg P)
    (h : ∀ c' pm ctv doc h' tk, Heap.ExtBut P s.heap h' → s.heap.objs.size ≤ c' → c' < h'.objs.size → h'.CodeRec (.ref c') qual → h'.get? P = some { cls := .none, data := .fields (ps ++ #[rawInt pos.line, rawInt pos.col, .ref c']) } → (∃ P', s.heap.objs.size ≤ P' ∧ h'.IsCode c' P' #[] ∧ h'.TableAt c' P' #[]) →
      Q (.ref h'.objs.size) { s with heap := h'.push { cls := .type "function", data := .func (fnG t qual clos pm (.ref c') ctv doc) }, toks := tk }) :
    wpAny M A (makeFunction t.name qual t.params t.body t.scope env [] [] [] pos firstLine) Q E s := by
  obtain ⟨nm, prm, body, scp⟩ := t
  rw [PySem.makeFunction_eq]
  simp only [List.zip_nil_right, List.filterMap_nil, List.isEmpty_nil, if_true, pure_bind]
  obtain ⟨bm, ob, hbm, hne0, _, hneP, hbo, hcls, hdict, hdata⟩ := hb
  unfold makeTail
  rw [hcl, hge0]
  refine wpAny_bind (wpAny_pure ?_)
  cases clos with
  | nil =>
    simp only [List.isEmpty_nil, if_true]
    refine wpAny_bind (wpAny_pure ?_)
    refine wpAny_bind (wpAny_functionCodeX hcode (C.code hP ht) (C.tab hP) hnf fun c' h' tk hx hge hlt _ hrec htb hnew => ?_)
    have hg' := hg.extBut hx hgP
    refine wpAny_bind (wpAny_builtinsFor hg' hbm hne0 (hx _ _ hneP hbo) hcls hdict hdata ?_)
    refine wpAny_bind (wpAny_nsGet hg' ?_)
    cases body with
    | expr e => exact wpAny_bind (wpAny_pure (wpAny_newObj_type (h c' _ .none .none h' tk hx hge hlt hrec htb.2 hnew) (by size_fits)))
    | stmts b =>
      cases hdoc : docOf b with
      | none => simp only [hdoc]; exact wpAny_bind (wpAny_pure (wpAny_newObj_type (h c' _ .none .none h' tk hx hge hlt hrec htb.2 hnew) (by size_fits)))
      | some t => simp only [hdoc]; exact wpAny_bind (wpAny_mkText (wpAny_newObj_type (h c' _ .none _ h' _ hx hge hlt hrec htb.2 hnew) (by size_fits)))
  | cons q r =>
    simp only [List.isEmpty_cons, Bool.false_eq_true, if_false]
    refine wpAny_bind (wpAny_newTextTuple ?_)
    refine wpAny_bind (wpAny_functionCodeX hcode ((C.keeps fun b o e => Heap.get?_push_of_some _ e).code (Heap.get?_push_of_some _ hP) ht) ((C.keeps fun b o e => Heap.get?_push_of_some _ e).tab (Heap.get?_push_of_some _ hP)) hnf fun c' h' tk hx hge hlt _ hrec htb ⟨P', hnew1, hnew⟩ => ?_)
    have hg' := (hg.push _).extBut hx hgP
    have hx' : Heap.ExtBut P s.heap h' := fun b o hb' e => hx b o hb' (Heap.get?_push_of_some _ e)
    have hge' : s.heap.objs.size ≤ c' := Nat.le_trans (by rw [Heap.size_push]; omega) hge
    have hge2 : s.heap.objs.size ≤ P' := Nat.le_trans (by rw [Heap.size_push]; omega) hnew1
    refine wpAny_bind (wpAny_builtinsFor hg' hbm hne0 (hx' _ _ hneP hbo) hcls hdict hdata ?_)
    refine wpAny_bind (wpAny_nsGet hg' ?_)
    cases body with
    | expr e => exact wpAny_bind (wpAny_pure (wpAny_newObj_type (h c' _ _ .none h' tk hx' hge' hlt hrec htb.2 ⟨P', hge2, hnew⟩) (by size_fits)))
    | stmts b =>
      cases hdoc : docOf b with
      | none => simp only [hdoc]; exact wpAny_bind (wpAny_pure (wpAny_newObj_type (h c' _ _ .none h' tk hx' hge' hlt hrec htb.2 ⟨P', hge2, hnew⟩) (by size_fits)))
      | some t => simp only [hdoc]; exact wpAny_bind (wpAny_mkText (wpAny_newObj_type (h c' _ _ _ h' _ hx' hge' hlt hrec htb.2 ⟨P', hge2, hnew⟩) (by size_fits)))
theorem mk_hit {t : FnT} {qual : Str} {cv : Value} (hcl : closureFor t.scope env = pure clos) (hge0 : env.globals = mainGlobals) (hg : s.heap.Ns mainGlobals mg) (hcode : env.code = .ref c) (C : PySem.W.CodeHd s.heap c P) (hP : s.heap.get? P = some { cls := .none, data := .fields ps }) (ht : TriplesOk ps.toList)
    (hf : codeAmong pos ps.toList = some cv) (hb : s.heap.BuiltinsAt mg P)
    (h : ∀ (pm ctv doc : Value) (h' : Heap) (tk : Tok), (∀ b o, s.heap.get? b = some o → h'.get? b = some o) → s.heap.objs.size ≤ h'.objs.size →
      Q (.ref h'.objs.size) { s with heap := h'.push { cls := .type "function", data := .func (fnG t qual clos pm cv ctv doc) }, toks := tk }) :
    wpAny M A (makeFunction t.name qual t.params t.body t.scope env [] [] [] pos firstLine) Q E s := by
  obtain ⟨nm, prm, body, scp⟩ := t
  rw [PySem.makeFunction_eq]
  simp only [List.zip_nil_right, List.filterMap_nil, List.isEmpty_nil, if_true, pure_bind]
  obtain ⟨bm, ob, hbm, hne0, _, hneP, hbo, hcls, hdict, hdata⟩ := hb
  unfold makeTail
  rw [hcl, hge0]
  refine wpAny_bind (wpAny_pure ?_)
  cases clos with
  | nil =>
    simp only [List.isEmpty_nil, if_true]
    refine wpAny_bind (wpAny_pure ?_)
    refine wpAny_bind (wpAny_functionCode_hit hcode (C.code hP ht) hf ?_)
    refine wpAny_bind (wpAny_builtinsFor hg hbm hne0 hbo hcls hdict hdata ?_)
    refine wpAny_bind (wpAny_nsGet hg ?_)
    cases body with
    | expr e => exact wpAny_bind (wpAny_pure (wpAny_newObj_type (h _ .none .none s.heap s.toks (fun _ _ e => e) (Nat.le_refl _)) (by size_fits)))
    | stmts b =>
      cases hdoc : docOf b with
      | none => simp only [hdoc]; exact wpAny_bind (wpAny_pure (wpAny_newObj_type (h _ .none .none s.heap s.toks (fun _ _ e => e) (Nat.le_refl _)) (by size_fits)))
      | some t => simp only [hdoc]; exact wpAny_bind (wpAny_mkText (wpAny_newObj_type (h _ .none _ s.heap _ (fun _ _ e => e) (Nat.le_refl _)) (by size_fits)))
  | cons q r =>
    simp only [List.isEmpty_cons, Bool.false_eq_true, if_false]
    refine wpAny_bind (wpAny_newTextTuple ?_)
    refine wpAny_bind (wpAny_functionCode_hit hcode ((C.keeps fun b o e => Heap.get?_push_of_some _ e).code (Heap.get?_push_of_some _ hP) ht) hf ?_)
    refine wpAny_bind (wpAny_builtinsFor (hg.push _) hbm hne0 (Heap.get?_push_of_some _ hbo) hcls hdict hdata ?_)
    refine wpAny_bind (wpAny_nsGet (hg.push _) ?_)
    have hsz : ∀ oT : Obj, s.heap.objs.size ≤ (s.heap.push oT).objs.size := fun oT => by rw [Heap.size_push]; omega
    cases body with
    | expr e => exact wpAny_bind (wpAny_pure (wpAny_newObj_type (h _ _ .none _ s.toks (fun b o e => Heap.get?_push_of_some _ e) (hsz _)) (by size_fits)))
    | stmts b =>
      cases hdoc : docOf b with
      | none => simp only [hdoc]; exact wpAny_bind (wpAny_pure (wpAny_newObj_type (h _ _ .none _ s.toks (fun b o e => Heap.get?_push_of_some _ e) (hsz _)) (by size_fits)))
      | some t => simp only [hdoc]; exact wpAny_bind (wpAny_mkText (wpAny_newObj_type (h _ _ _ _ _ (fun b o e => Heap.get?_push_of_some _ e) (hsz _)) (by size_fits)))
end
section
variable {X : Cx} {F : Fx} {pins : List (Addr × Obj)} {σ : Sl} {S : FS} {H : Hp} {s : Shared}
/-- THE RULE: a frame makes a function -/
theorem mk_fn {t : FnT} {qual : Str} {pos : Pos} {fl : Nat} {E : Value → Shared → Prop} {Q : Value → Shared → Prop} {c P : Addr} (TB : GxR.TabB X.base X.mg c P) (hcode : X.env.code = .ref c) (hP : P ∈ F.tabs) (I : Inv X pins σ H s) (r : Rel X.K F S σ H) (hfree : ∀ y ∈ t.scope.names, y.2 = .free → ∃ c, X.env.cells.lookup y.1 = some c)
    (h : ∀ f H1 s1, Inv X pins σ H1 s1 → Rel X.K F S σ H1 → Pers H H1 → FnMade X.env.cells t H1 (.ref f) → H f = none → Q (.ref f) s1) :
    wpAny (model X.prog X.w) X.A (makeFunction t.name qual t.params t.body t.scope X.env [] [] [] pos fl) Q E s := by
  obtain ⟨ps, hPt, htr, hold⟩ := r.tabs P hP
  have cd : PySem.W.CodeHd s.heap c P := TB.code.keeps fun b u e => I.bk b u e
  have tbm := TB.bm.keeps I.bk
  have gP := TB.gP
  have hPs : s.heap.get? P = some { cls := .none, data := .fields ps } := I.hok P _ hPt
  have fin : ∀ (pm cv ctv doc : Value) (h' : Heap) (tk : Nat) (H3 : Hp), Inv X pins σ H3 { s with heap := h', toks := tk } → Rel X.K F S σ H3 → Pers H H3 → CodeG H3 cv → s.heap.objs.size ≤ h'.objs.size →
      Q (.ref h'.objs.size) { s with heap := h'.push { cls := .type "function", data := .func (fnG t qual (cloFrom X.env.cells t.scope.names []) pm cv ctv doc) }, toks := tk } := fun pm cv ctv doc h' tk H3 I3 r3 p3 cg hsz => by
    have n3 : H3 h'.objs.size = none := I3.hok.fresh (Nat.le_refl _)
    have n0 : H h'.objs.size = none := I.hok.fresh hsz
    have I4 := I3.laid (t' := tk) (h' := h'.push { cls := .type "function", data := .func (fnG t qual (cloFrom X.env.cells t.scope.names []) pm cv ctv doc) }) (o := .frz { cls := .type "function", data := .func (fnG t qual (cloFrom X.env.cells t.scope.names []) pm cv ctv doc) } (.ext fun _ => True)) (a := h'.objs.size)
      (fun b u e => Heap.get?_push_of_some _ e) (Nat.le_refl _) ⟨Heap.get?_push_size _ rfl, trivial, ⟨_, Heap.get?_push_size _ rfl⟩, fun _ _ _ _ => trivial⟩
    have p4 : Pers H3 (upd H3 h'.objs.size (.frz { cls := .type "function", data := .func (fnG t qual (cloFrom X.env.cells t.scope.names []) pm cv ctv doc) } (.ext fun _ => True))) := Pers.new n3
    exact h _ _ _ I4 (r3.new n3) (p3.trans p4) ⟨_, qual, pm, cv, ctv, doc, .ext fun _ => True, rfl, upd_same, cg.later p4, fun _ z => nomatch z⟩ n0
  cases hc : codeAmong pos ps.toList with
  | none =>
    refine mk_new (mg := X.mg) (closure_ok hfree) I.ok.glob (I.mod.glob.keeps I.bk) hcode cd hPs htr hc gP tbm fun c' pm ctv doc h' tk hx hge hlt hrec htb hnew => ?_
    obtain ⟨H3, I3, r3, pp3, same, cg, _⟩ := code_new (tk := tk) I r hPt htr hx hge hrec htb hnew
    exact fin pm (.ref c') ctv doc h' tk H3 I3 r3 pp3 cg (Nat.le_trans hge (Nat.le_of_lt hlt))
  | some cv =>
    have cg := hold pos cv hc
    refine mk_hit (mg := X.mg) (closure_ok hfree) I.ok.glob (I.mod.glob.keeps I.bk) hcode cd hPs htr hc tbm fun pm ctv doc h' tk hx hsz => ?_
    exact fin pm cv ctv doc h' tk H (I.kept hx) r (.refl H) cg hsz
end
end Fz
end

section
set_option Elab.async false
set_option linter.all false
set_option maxRecDepth 100000
set_option maxHeartbeats 4000000
/-! F71: the frame's cells and own objects, known to the letter for the time of a call. -/
namespace Fz
open PySem PySem.Spec PyProof.Rows L2
abbrev Lks := List (Addr × Obj)
def lockH (H : Hp) (A : Lks) : Hp := fun b => match A.lookup b with
  | some o => some (.frz o ((H b).getD (.ext fun _ => True)))
  | none => H b
def ulH (H H' : Hp) (A : Lks) : Hp := fun b => match A.lookup b with
  | some _ => H b
  | none => H' b
section
variable {H H' : Hp} {A : Lks} {b : Addr} {o : Obj}
theorem lockH_in (h : A.lookup b = some o) : lockH H A b = some (.frz o ((H b).getD (.ext fun _ => True))) := by unfold lockH; rw [h]
theorem lockH_out (h : A.lookup b = none) : lockH H A b = H b := by unfold lockH; rw [h]
theorem ulH_in (h : A.lookup b = some o) : ulH H H' A b = H b := by unfold ulH; rw [h]
theorem ulH_out (h : A.lookup b = none) : ulH H H' A b = H' b := by unfold ulH; rw [h]
end
/-- what may be locked -/
structure LkOk (H : Hp) (h : Heap) (A : Lks) : Prop where
  at_ : ∀ (b : Addr) (o : Obj), A.lookup b = some o → h.get? b = some o ∧ (H b = none ∨ ∃ u, H b = some u ∧ Mut (some u))
section
variable {P : Program} {w : World} {H H' : Hp} {h h' : Heap} {A : Lks} {b : Addr}
theorem LkOk.out (L : LkOk H h A) {u : HO} (e : H b = some u) (n : ¬ Mut (some u)) : A.lookup b = none := by
  cases q : A.lookup b with
  | none => rfl
  | some o =>
    rcases (L.at_ b o q).2 with z | ⟨u2, z, m⟩
    · rw [e] at z; cases z
    · rw [e] at z; cases z; exact (n m).elim
theorem pers_lockH (L : LkOk H h A) : Pers H (lockH H A) :=
  ⟨fun a xs e => by rw [lockH_out (L.out e fun z => z)]; exact e, fun a o u e => by rw [lockH_out (L.out e fun z => z)]; exact e, fun a ⟨ps, e, t⟩ => ⟨ps, by rw [lockH_out (L.out e fun z => z)]; exact e, t⟩⟩
theorem hok_lock (L : LkOk H h A) (hok : HOk P w H h) : HOk P w (lockH H A) h := fun b u e => by
  have own : ∀ c y, H c = some (.own y) → lockH H A c = some (.own y) := fun c y q => by rw [lockH_out (L.out q fun z => z)]; exact q
  have tup : ∀ c xs, H c = some (.tup xs) → lockH H A c = some (.tup xs) := fun c y q => by rw [lockH_out (L.out q fun z => z)]; exact q
  cases q : A.lookup b with
  | none =>
    rw [lockH_out q] at e
    exact (hok b u e).stay (fun c v _ r => r) (fun c r => own c _ r) fun c xs r => tup c xs r
  | some o =>
    rw [lockH_in q] at e
    cases e
    obtain ⟨g, z⟩ := L.at_ b o q
    refine ⟨g, ?_⟩
    rcases z with z | ⟨u, z, m⟩
    · rw [z]; exact ⟨trivial, ⟨o, g⟩, fun _ _ _ _ => trivial⟩
    · rw [z]
      exact (hok b u z).stay (fun c v _ r => r) (fun c r => own c _ r) fun c xs r => tup c xs r
/-- behind the call: what was locked stands again as it stood -/
theorem frz_lock {fs : List Addr} (U : Un fs [] (lockH H A) H' h h') {o : Obj} (q : A.lookup b = some o) : H' b = some (.frz o ((H b).getD (.ext fun _ => True))) := U.frzs _ _ _ (lockH_in q)
theorem un_unlock {fs : List Addr} (L : LkOk H h A) (U : Un fs [] (lockH H A) H' h h') (hok : HOk P w H' h') : Un fs [] H (ulH H H' A) h h' := by
  have same : ∀ b o, A.lookup b = some o → h'.get? b = some o := fun b o q => (hok b _ (frz_lock U q)).1
  refine ⟨fun b o g n hb hx => ?_, fun b o g n hb hx => ?_, fun b o g n hx => ?_, U.there, fun b xs e => ?_, fun b o u e => ?_, fun b ps e => ?_⟩
  · cases q : A.lookup b with
    | none => exact U.keep b o g (by rw [lockH_out q]; exact n) hb hx
    | some o2 =>
      have := (L.at_ b o2 q).1
      rw [g] at this; cases this
      exact same b o q
  · cases q : A.lookup b with
    | none => exact U.slot b o g (by rw [lockH_out q]; exact n) hb hx
    | some o2 =>
      have := (L.at_ b o2 q).1
      rw [g] at this; cases this
      exact ⟨o.slots, same b o q⟩
  · cases q : A.lookup b with
    | none => rw [ulH_out q]; exact U.free b o g (by rw [lockH_out q]; exact n) hx
    | some o2 => rw [ulH_in q]; exact n
  · have q := L.out e fun z => z
    rw [ulH_out q]; exact U.tups b xs (by rw [lockH_out q]; exact e)
  · have q := L.out e fun z => z
    rw [ulH_out q]; exact U.frzs b o u (by rw [lockH_out q]; exact e)
  · have q := L.out e fun z => z
    obtain ⟨m, z⟩ := U.tbls b ps (by rw [lockH_out q]; exact e)
    exact ⟨m, by rw [ulH_out q]; exact z⟩
theorem hok_unlock {fs : List Addr} (U : Un fs [] (lockH H A) H' h h') (hok : HOk P w H' h') : HOk P w (ulH H H' A) h' := fun b u e => by
  have own : ∀ c y, H' c = some (.own y) → ulH H H' A c = some (.own y) := fun c y r => by
    cases q : A.lookup c with
    | none => rw [ulH_out q]; exact r
    | some o => rw [frz_lock U q] at r; cases r
  have tup : ∀ c xs, H' c = some (.tup xs) → ulH H H' A c = some (.tup xs) := fun c y r => by
    cases q : A.lookup c with
    | none => rw [ulH_out q]; exact r
    | some o => rw [frz_lock U q] at r; cases r
  cases q : A.lookup b with
  | none =>
    rw [ulH_out q] at e
    exact (hok b u e).stay (fun c v _ r => r) (fun c r => own c _ r) fun c xs r => tup c xs r
  | some o =>
    rw [ulH_in q] at e
    have z := hok b _ (frz_lock U q)
    rw [e] at z
    exact (z.2).stay (fun c v _ r => r) (fun c r => own c _ r) fun c xs r => tup c xs r
theorem pers_unlock {fs : List Addr} (L : LkOk H h A) (U : Un fs [] (lockH H A) H' h h') (p : Pers (lockH H A) H') : Pers H (ulH H H' A) :=
  ⟨fun a xs e => by
    have q := L.out e fun z => z
    rw [ulH_out q]; exact p.tup _ _ (by rw [lockH_out q]; exact e), fun a o u e => by
    have q := L.out e fun z => z
    rw [ulH_out q]; exact p.frz _ _ _ (by rw [lockH_out q]; exact e), fun a ⟨ps, e, t⟩ => by
    have q := L.out e fun z => z
    obtain ⟨ps', e', t'⟩ := p.tbl a ⟨ps, by rw [lockH_out q]; exact e, t⟩
    exact ⟨ps', by rw [ulH_out q]; exact e', t'⟩⟩
theorem tupS_unlock {fs : List Addr} (L : LkOk H h A) (U : Un fs [] (lockH H A) H' h h') : TupS H' (ulH H H' A) := fun b xs r => by
  cases q : A.lookup b with
  | none =>
    rcases r with r | ⟨o, r⟩
    · exact .inl (by rw [ulH_out q]; exact r)
    · exact .inr ⟨o, by rw [ulH_out q]; exact r⟩
  | some o =>
    exfalso
    have z := frz_lock U q
    rcases r with r | ⟨o2, r⟩
    · rw [z] at r; cases r
    · rw [z] at r
      have := Option.some.inj r
      injection this with _ e
      rcases (L.at_ b o q).2 with y | ⟨u, y, m⟩
      · rw [y] at e; cases e
      · rw [y] at e
        have e : u = .tup xs := e
        subst e; exact m
end
/-! ### the locks of a running frame -/
structure Locks (X : Cx) (σ : Sl) (H : Hp) (s : Shared) (A : Lks) : Prop where
  ok : LkOk H s.heap A
  bare : ∀ (b : Addr) (o : Obj), A.lookup b = some o → H b = none → ∃ x, X.env.cells.lookup x = some b
  cells : ∀ x c, X.env.cells.lookup x = some c → ∃ o, A.lookup c = some o
  objs : ∀ (i : Nat) (a : Addr) (u : HO), σ[i]? = some (some (.ref a)) → H a = some u → Mut (some u) → ∃ o, A.lookup a = some o
theorem lookup_fm {g : Addr → Option Obj} : ∀ {l : List Addr} {b : Addr}, (l.filterMap fun b => (g b).map fun o => (b, o)).lookup b = if b ∈ l then g b else none
  | [], b => rfl
  | c :: l, b => by
    cases e : g c with
    | none =>
      rw [List.filterMap_cons_none (by rw [e]; rfl), lookup_fm]
      by_cases h : b = c
      · subst h; simp [e]
      · simp [h]
    | some o =>
      rw [List.filterMap_cons_some (b := (c, o)) (by rw [e]; rfl), List.lookup_cons]
      by_cases h : b = c
      · subst h; simp [e]
      · have : (b == c) = false := by simpa using h
        rw [this, lookup_fm]
        simp [h]
open Classical in
theorem locks_ex {X : Cx} {pins : List (Addr × Obj)} {σ : Sl} {H : Hp} {s : Shared} (I : Inv X pins σ H s) : ∃ A, Locks X σ H s A := by
  let ok : Addr → Prop := fun b => (H b = none ∧ ∃ x, X.env.cells.lookup x = some b) ∨ ∃ u, H b = some u ∧ Mut (some u)
  let g : Addr → Option Obj := fun b => if ok b then s.heap.get? b else none
  let l : List Addr := X.env.cells.map (·.2) ++ σ.filterMap fun v => match v with
    | some (.ref a) => some a
    | _ => none
  have gk : ∀ {b o}, ((l.filterMap fun b => (g b).map fun o => (b, o)).lookup b = some o) → ok b ∧ s.heap.get? b = some o := fun {b o} h => by
    rw [lookup_fm] at h
    split at h
    · by_cases k : ok b
      · exact ⟨k, by simpa [g, k] using h⟩
      · simp [g, k] at h
    · cases h
  refine ⟨l.filterMap fun b => (g b).map fun o => (b, o), ⟨⟨fun b o h => ?_⟩, fun b o h n => ?_, fun x c e => ?_, fun i a u e hu m => ?_⟩⟩
  · obtain ⟨k, z⟩ := gk h
    exact ⟨z, k.imp (fun z => z.1) id⟩
  · obtain ⟨k, z⟩ := gk h
    rcases k with k | ⟨u, k, _⟩
    · exact k.2
    · rw [n] at k; cases k
  · have hm : c ∈ l := List.mem_append_left _ (List.mem_map.mpr ⟨(x, c), PySem.mem_of_lookup e, rfl⟩)
    have k : ok c := .inl ⟨I.freeC x c e, x, e⟩
    obtain ⟨v, o, ho, _⟩ := I.cell x c e
    refine ⟨o, ?_⟩
    rw [lookup_fm, if_pos hm]
    simp [g, k, ho]
  · have hm : a ∈ l := List.mem_append_right _ (List.mem_filterMap.mpr ⟨some (.ref a), List.mem_of_getElem? e, rfl⟩)
    have k : ok a := .inr ⟨u, hu, m⟩
    have hlt := (I.hok a u hu).lt
    obtain ⟨o, ho⟩ : ∃ o, s.heap.get? a = some o := by
      have z := (I.hok a u hu)
      cases u with
      | lst xs => obtain ⟨_, _, _, _, e⟩ := z; exact ⟨_, e⟩
      | tup xs => obtain ⟨_, _, _, o, e, _⟩ := z; exact ⟨_, e⟩
      | dK kvs => obtain ⟨_, _, _, _, o, _, _, e, _⟩ := z; exact ⟨_, e⟩
      | dT kvs => obtain ⟨_, _, _, _, o, _, _, e, _⟩ := z; exact ⟨_, e⟩
      | set S n => obtain ⟨o, _, _, _, e, _⟩ := z; exact ⟨_, e⟩
      | ins C dx fs => obtain ⟨_, _, _, e, _⟩ := z; exact ⟨_, e⟩
      | own y => obtain ⟨_, e⟩ := z; exact ⟨_, e⟩
      | xd fs => obtain ⟨_, ⟨_, _, _, e, _⟩, _⟩ := z; exact ⟨_, e⟩
      | rng lo hi => obtain ⟨_, _, _, e⟩ := z; exact ⟨_, e⟩
      | frz ob u => obtain ⟨e, _⟩ := z; exact ⟨_, e⟩
      | tbl ps => exact ⟨_, z⟩
      | met f y => exact ⟨_, z⟩
      | ext φ => obtain ⟨_, ⟨_, e⟩, _⟩ := z; exact ⟨_, e⟩
    refine ⟨o, ?_⟩
    rw [lookup_fm, if_pos hm]
    simp [g, k, ho]
theorem env0_lock {X : Cx} {pins : List (Addr × Obj)} {σ : Sl} {H : Hp} {s : Shared} {A : Lks} (I : Inv X pins σ H s) (L : Locks X σ H s A) (hfn : ∀ x, X.fn x = true) : Env0 X.prog X.w X.K X.mg X.base X.A X.stack s (lockH H A) := by
  have E := I.env0
  have cab : ∀ x c, X.env.cells.lookup x = some c → X.s_0.heap.objs.size ≤ c := fun x c e => I.ok.cab x c (hfn x) e
  refine ⟨E.frames, E.mod, fun b o e => ⟨(E.bs b o e).1, ?_⟩, E.bsz, E.funs, fun b hb => ?_, hok_lock L.ok E.hok, E.bare⟩
  · cases q : A.lookup b with
    | none => rw [lockH_out q]; exact (E.bs b o e).2
    | some o2 =>
      exfalso
      obtain ⟨x, hx⟩ := L.bare b o2 q (E.bs b o e).2
      have h1 := cab x b hx
      have h2 := Heap.lt_size (I.ok.bs b o e).1
      exact Nat.lt_irrefl _ (Nat.lt_of_lt_of_le h2 h1)
  · cases q : A.lookup b with
    | none => rw [lockH_out q]; exact E.frf b hb
    | some o2 =>
      exfalso
      obtain ⟨x, hx⟩ := L.bare b o2 q (E.frf b hb)
      rcases List.mem_cons.mp (I.stkSub b hb) with e | hb
      · subst e
        obtain ⟨v, o, ho, hd⟩ := I.cell x _ hx
        obtain ⟨m, ⟨o2, es, ep, ho2, hd2, _⟩, _⟩ := I.loc
        rw [ho] at ho2; cases ho2
        rw [hd] at hd2; cases hd2
      · have h1 := cab x b hx
        obtain ⟨_, o, ho, _⟩ := I.ok.funs.mem hb
        exact Nat.lt_irrefl _ (Nat.lt_of_lt_of_le (Heap.lt_size ho) h1)
end Fz
end

section
set_option Elab.async false
set_option linter.all false
set_option maxRecDepth 100000
set_option maxHeartbeats 4000000
/-! F72: a call that hands functions on. -/
namespace Fz
open PySem PySem.Spec PyProof.Rows L2
theorem tabOk_unlock {H H' : Hp} {h h' : Heap} {A : Lks} {fs : List Addr} {P : Addr} (L : LkOk H h A) (U : Un fs [] (lockH H A) H' h h') (t : TabOk H' P) : TabOk (ulH H H' A) P := by
  obtain ⟨ps, e, tr, c⟩ := t
  have off : ∀ b qs, H' b = some (.tbl qs) → A.lookup b = none := fun b qs e => by
    cases q : A.lookup b with
    | none => rfl
    | some o => rw [frz_lock U q] at e; cases e
  refine ⟨ps, by rw [ulH_out (off _ _ e)]; exact e, tr, fun pos cv z => ?_⟩
  obtain ⟨c, oc, u, vs, q, t, P', h1, h2, h3, h4, h5, h6, h7, h8, ⟨qs, h9, h9'⟩, y, hy⟩ := c pos cv z
  refine ⟨c, oc, u, vs, q, t, P', h1, ?_, h3, h4, h5, h6, h7, h8, ⟨qs, by rw [ulH_out (off _ _ h9)]; exact h9, h9'⟩, y, hy⟩
  cases ql : A.lookup c with
  | none => rw [ulH_out ql]; exact h2
  | some o =>
    exfalso
    rw [frz_lock U ql] at h2
    have := Option.some.inj h2
    injection this with _ e2
    subst hy
    rcases (L.at_ c o ql).2 with z | ⟨u2, z, m⟩
    · rw [z] at e2; cases e2
    · rw [z] at e2
      have e2 : u2 = .own y := e2
      subst e2; exact m
inductive AC where
  | d (x : D)
  | p (k : Nat) (g : FnD)
  | l (j : Nat)
def ACR (K : Fg) (F : Fx) (H : Hp) (x : V) : AC → Prop
  | .d d => Pd K H x d
  | .p k g => F.cl.clo H x k g
  | .l j => F.cl.loc H x j
def ACs (K : Fg) (F : Fx) (_ : FS) (_ : Sl) (H : Hp) (xs : List V) (as : List AC) : Prop := Paired (ACR K F H) xs as
abbrev EAC (X : Cx) (F : Fx) (es : List Expr) (f : FS → Res (List AC)) : Prop := PA X es (rdG X.K F ACs f)
def fCD (f : FS → Res D) (g : FS → Res (List AC)) : FS → Res (List AC) := bnd f fun d => bnd g fun ds => fC (.d d :: ds)
/-- a slot that holds a function -/
def fCS (i : Nat) (g : FS → Res (List AC)) : FS → Res (List AC) := fun S => match S[i]? with
  | some (some (.x (.fn k h))) => bnd g (fun ds => fC (.p k h :: ds)) S
  | some (some (.x (.loc j))) => bnd g (fun ds => fC (.l j :: ds)) S
  | _ => .bad
/-- a function made at this place -/
def fCM (j : Nat) (g : FS → Res (List AC)) : FS → Res (List AC) := bnd g fun ds => fC (.l j :: ds)
section
variable {X : Cx} {F : Fx} {e : Expr} {es : List Expr} {f : FS → Res D} {g : FS → Res (List AC)} {pos p : Pos} {i j : Nat}
theorem ac_nil : EAC X F [] (fC []) := pa_nil.via fun _ _ _ ⟨_, r, p⟩ => p.ok r .nil
theorem ac_d (ha : ED X F e f) (hr : EAC X F es g) (hs : starEach (e :: es) X.env = (false, eval e X.env) :: starEach es X.env := by rfl) : EAC X F (e :: es) (fCD f g) :=
  (pa_cons ha hr hs).via fun σ H Q h => (rdG.bind h).imp fun x H1 ⟨d, S1, r1, v1, p1, q1⟩ => (rdG.bind (k := fun ds => fC (.d d :: ds)) (R' := ACs) ⟨S1, r1, q1⟩).imp fun xs H2 ⟨ds, S2, r2, v2, p2, q2⟩ => q2.ok r2 (.cons (show ACR _ _ _ _ (.d d) from Pd.mono p2 v1) v2)
theorem ac_s (ha : PE X e (tVar i)) (hr : EAC X F es g) (hs : starEach (e :: es) X.env = (false, eval e X.env) :: starEach es X.env := by rfl) : EAC X F (e :: es) (fCS i g) :=
  (pa_cons ha hr hs).via fun σ H Q ⟨S, r, p⟩ => by
    unfold fCS at p
    split at p
    · rename_i k h hs
      obtain ⟨x, ex, v⟩ := r.slot i _ hs
      exact ⟨x, ex, (rdG.bind (k := fun ds => fC (.p k h :: ds)) (R' := ACs) ⟨S, r, p⟩).imp fun xs H2 ⟨ds, S2, r2, v2, p2, q2⟩ => q2.ok r2 (.cons (show ACR _ _ _ _ (.p k h) from F.cl.cloM p2 v) v2)⟩
    · rename_i j hs
      obtain ⟨x, ex, v⟩ := r.slot i _ hs
      exact ⟨x, ex, (rdG.bind (k := fun ds => fC (.l j :: ds)) (R' := ACs) ⟨S, r, p⟩).imp fun xs H2 ⟨ds, S2, r2, v2, p2, q2⟩ => q2.ok r2 (.cons (show ACR _ _ _ _ (.l j) from F.cl.locM p2 v) v2)⟩
    · exact p.elim
/-- a function is made: its reading -/
def rMade (X : Cx) (F : Fx) (j : Nat) : TE := fun σ H Q => ∃ S, Rel X.K F S σ H ∧ ∀ x H', Pers H H' → Rel X.K F S σ H' → F.cl.loc H' x j → Q x H'
theorem ac_m (ha : PE X e (rMade X F j)) (hr : EAC X F es g) (hs : starEach (e :: es) X.env = (false, eval e X.env) :: starEach es X.env := by rfl) : EAC X F (e :: es) (fCM j g) :=
  (pa_cons ha hr hs).via fun σ H Q ⟨S, r, p⟩ => ⟨S, r, fun x H' p1 r1 v => (rdG.bind (k := fun ds => fC (.l j :: ds)) (R' := ACs) (⟨S, r1, postG.later p1 p⟩ : rdG X.K F ACs (bnd g fun ds => fC (.l j :: ds)) σ H' Q)).imp fun xs H2 ⟨ds, S2, r2, v2, p2, q2⟩ => q2.ok r2 (.cons (show ACR _ _ _ _ (.l j) from F.cl.locM p2 v) v2)⟩
theorem e_lam {params : Arguments} {body : Expr} {scope : Scope} {lpos : Pos} {nfs : List FnT} {c P : Addr} (TB : GxR.TabB X.base X.mg c P) (hcode : X.env.code = .ref c) (hP : P ∈ F.tabs)
    (hfree : ∀ y ∈ scope.names, y.2 = .free → X.env.scope.names.lookup y.1 = some .cell ∨ X.env.scope.names.lookup y.1 = some .free) (hj : nfs[j]? = some ⟨"<lambda>", params, .expr body, scope⟩)
    (hloc : F.cl.loc = LocOk X.env.cells nfs := by rfl) (hdef : defaultsOf params X.env = ([], []) := by rfl) : PE X (.Lambda params body scope lpos) (rMade X F j) := by
  refine ⟨fun pins s σ H Q I ⟨S, r, h⟩ => PySem.W.kla_eval hdef ?_⟩
  have hf : ∀ y ∈ scope.names, y.2 = .free → ∃ c, X.env.cells.lookup y.1 = some c := fun y hy e => (hfree y hy e).elim (fun k => I.ok.has _ (.inl k)) fun k => I.ok.has _ (.inr k)
  refine mk_fn (t := ⟨"<lambda>", params, .expr body, scope⟩) TB hcode hP I r hf fun f H1 s1 I1 r1 p1 m n => ⟨.ref f, H1, I1, rfl, h _ H1 p1 r1 ?_⟩
  rw [hloc]; exact ⟨_, hj, m⟩
end
/-! ### the call -/
def resolveC (cl : Nat → FS → Option (Nat × FnD)) (S : FS) : List AC → Option (List SV)
  | [] => some []
  | .d d :: r => (resolveC cl S r).map (.d d :: ·)
  | .p k g :: r => (resolveC cl S r).map (.x (.fn k g) :: ·)
  | .l j :: r => match cl j S with
    | some (k, g) => (resolveC cl S r).map (.x (.fn k g) :: ·)
    | none => none
def callC (den : Den) (cl : Nat → FS → Option (Nat × FnD)) (as : List AC) : FS → Res D := fun S => match resolveC cl S as with
  | some svs => (match den svs with
    | .ok (.d d) _ => if noL d = true then .ok d S else .bad
    | _ => .bad)
  | none => .bad
def fCallC (den : Den) (n : Nat) (cl : Nat → FS → Option (Nat × FnD)) (f : FS → Res (List AC)) : FS → Res D := bnd f fun as => if as.length = n then callC den cl as else fun _ => .bad
/-- what the functions of a frame answer: the j-th one -/
def CloSpec (X : Cx) (F : Fx) (j : Nat) (c : FS → Option (Nat × FnD)) : Prop :=
  ∀ {pins : List (Addr × Obj)} {σ : Sl} {H : Hp} {s : Shared} {S : FS} {A : Lks} {x : V} {k : Nat} {g : FnD}, Inv X pins σ H s → Rel X.K F S σ H → F.cl.loc H x j → Locks X σ H s A → c S = some (k, g) → CloOk X.prog X.w X.K X.mg X.base F.tabs (lockH H A) x k g
theorem resolveC_args {K : Fg} {F : Fx} {H H2 : Hp} {S : FS} {cl : Nat → FS → Option (Nat × FnD)} (p : Pers H H2) (hc : ∀ j x k g, F.cl.loc H x j → cl j S = some (k, g) → F.cl.clo H2 x k g) : ∀ {vs : List V} {as : List AC} {svs : List SV}, Paired (ACR K F H) vs as → resolveC cl S as = some svs →
    vs.length = svs.length ∧ svs.length = as.length ∧ ∀ (i : Nat) (sv : SV), svs[i]? = some sv → (∃ x, vs[i]? = some x ∧ ArgR K F.w F.cl.clo H2 x sv) ∧ ∀ ob, sv ≠ .pin ob
  | _, _, svs, .nil, e => by cases e; exact ⟨rfl, rfl, fun i sv h => by simp at h⟩
  | x :: vs, a :: as, svs, .cons h r, e => by
    have fin : ∀ (sv : SV) (t : List SV), ArgR K F.w F.cl.clo H2 x sv → (∀ ob, sv ≠ .pin ob) → resolveC cl S as = some t → svs = sv :: t →
        (x :: vs).length = svs.length ∧ svs.length = (a :: as).length ∧ ∀ (i : Nat) (sv : SV), svs[i]? = some sv → (∃ y, (x :: vs)[i]? = some y ∧ ArgR K F.w F.cl.clo H2 y sv) ∧ ∀ ob, sv ≠ .pin ob := fun sv t h1 h2 h3 h4 => by
      subst h4
      obtain ⟨l1, l2, g⟩ := resolveC_args p hc r h3
      refine ⟨by simp [l1], by simp [l2], fun i sv' e => ?_⟩
      cases i with
      | zero => simp at e; subst e; exact ⟨⟨_, rfl, h1⟩, h2⟩
      | succ i => simpa using g i sv' (by simpa using e)
    cases a with
    | d d =>
      simp only [resolveC, Option.map_eq_some_iff] at e
      obtain ⟨t, e1, e2⟩ := e
      exact fin (.d d) t (Pd.mono p h) (fun ob z => nomatch z) e1 e2.symm
    | p k g =>
      simp only [resolveC, Option.map_eq_some_iff] at e
      obtain ⟨t, e1, e2⟩ := e
      exact fin (.x (.fn k g)) t (F.cl.cloM p h) (fun ob z => nomatch z) e1 e2.symm
    | l j =>
      simp only [resolveC] at e
      cases hj : cl j S with
      | none => rw [hj] at e; cases e
      | some kg =>
        obtain ⟨k, g⟩ := kg
        rw [hj] at e
        simp only [Option.map_eq_some_iff] at e
        obtain ⟨t, e1, e2⟩ := e
        exact fin (.x (.fn k g)) t (hc j x k g h hj) (fun ob z => nomatch z) e1 e2.symm
section
variable {X : Cx} {F : Fx} {e : Expr} {es : List Expr} {pos p : Pos}
theorem e_callC {den : Den} {k j n : Nat} {x : Str} {ps : List Str} {cl : Nat → FS → Option (Nat × FnD)} {g : FS → Res (List AC)} (G : Fn X.prog X.w X.K X.mg X.base F.tabs k x ps n den) (hr : RoomG j X.A) (hk : k ≤ j) (hg : Gl X x) (ha : EAC X F (e :: es) g) (hcl : ∀ j, CloSpec X F j (cl j))
    (hfn : ∀ x, X.fn x = true := by intro _; rfl) (hw : F.w = X.w := by rfl) (hc : F.cl.clo = CloOk X.prog X.w X.K X.mg X.base F.tabs := by rfl) (hdb : (x == ("__debug__" : Str)) = false := by decide) (he : starEach (e :: es) X.env = (false, eval e X.env) :: starEach es X.env := by rfl) (hpl : (backTo pos (starEach es X.env)).any (·.1) = false := by rfl) :
    ED X F (.Call (.Name x p) (e :: es) [] pos) (fCallC den n cl g) := by
  obtain ⟨f, fd, F1, hm, kp, b⟩ := G.ex
  refine ⟨fun pins s σ H Q I h => wpAny_Call_Name_kw (ld_glob I hg hm ?_ hdb)⟩
  refine PySem.W.callWith_K (h₀ := X.base) I.ok.mod.kin kp (thn (ha.run pos pins s σ H _ I (rdG.bind h)) fun us s1 ⟨vs, H1, I1, rv, as, S1, r, v, p, q⟩ => ⟨I1.kIn, ?_⟩) he hpl
  split at q
  · rename_i hl
    unfold callC at q
    cases e1 : resolveC cl S1 as with
    | none => rw [e1] at q; exact q.elim
    | some svs =>
      rw [e1] at q
      simp only at q
      cases e2 : den svs with
      | bad => rw [e2] at q; exact q.elim
      | exn e3 l => rw [e2] at q; exact q.elim
      | ok ret svs' =>
        rw [e2] at q
        cases ret with
        | own o => exact q.elim
        | pin o => exact q.elim
        | x o => exact q.elim
        | d d =>
          simp only at q
          by_cases nd : noL d = true
          · rw [if_pos nd] at q
            obtain ⟨A, L⟩ := locks_ex I1
            have pl := pers_lockH L.ok
            obtain ⟨l1, l2, ga⟩ := resolveC_args pl (fun j x k g hj he => by rw [hc]; exact hcl j I1 r hj L he) v e1
            have np : ∀ i, ¬ PinIx svs i := fun i ⟨ob, z⟩ => (ga i _ z).2 ob rfl
            have tabs : ∀ P ∈ F.tabs, TabOk (lockH H1 A) P := fun P hP => (r.tabs P hP).later pl fun b ps e => by rw [lockH_out (L.ok.out e fun z => z)]; exact e
            let Q2 : VK := fun x H' => Pers (lockH H1 A) H' ∧ (∀ a o, lockH H1 A a = some o → isTbl o = false → H' a = some o) ∧ (∀ a o, lockH H1 A a = some o → ∃ u, H' a = some u) ∧ (∀ P ∈ F.tabs, TabOk H' P) ∧ Pd X.K H' x d
            have sp : spG X.prog X.w X.K X.mg X.base F.tabs n den vs (lockH H1 A) Q2 (fun _ _ _ => False) := by
              refine ⟨svs, l2.trans hl, ⟨l1, fun i sv z => ?_, fun i j a ne hi hj => (np i hi).elim⟩, tabs, ?_⟩
              · have z := (ga i sv z).1; rw [hw, hc] at z; exact z
              · rw [e2]
                exact fun x H' lf rr => ⟨lf.pers, fun a o e n => lf.keep a o e (fun ⟨i, hi, _⟩ => np i hi) n, lf.there, lf.tabs, rr⟩
            have hn : us.length = ps.length := rv.length.symm.trans (F1.many _ _ _ _ sp)
            have bd := b s1 us I1.kIn (by rw [List.append_nil]; exact hn)
            rw [List.append_nil] at bd
            refine wpAny_call (codeAny_mono (F1.go X.A X.stack s1 (lockH H1 A) ⟨us, []⟩ us vs Q2 (fun _ _ _ => False) (hr.mono hk) (env0_lock I1 L hfn) bd rv sp) fun rr s' z => ?_)
            cases rr with
            | error e3 => exact z.elim
            | ok fl =>
              cases fl with
              | ret u =>
                obtain ⟨y, H', os, bare, un, hok', ry, p2, kp2, th2, tb2, pd⟩ := z
                have I2 : Inv X pins σ (ulH H1 H' A) s' := I1.call' (ch := []) os (un_unlock L.ok un hok') (hok_unlock un hok') bare fun b hb => (List.not_mem_nil hb).elim
                have p3 := pers_unlock L.ok un p2
                refine ⟨y, _, I2, ry, q y _ p3 ?_ (pd.noL (tupS_unlock L.ok un) nd)⟩
                refine r.stay p3 (fun b o e nt => ?_) (fun b o e => ?_) fun P hP => tabOk_unlock L.ok un (tb2 P hP)
                · cases ql : A.lookup b with
                  | none => rw [ulH_out ql]; exact kp2 b o (by rw [lockH_out ql]; exact e) nt
                  | some o2 => rw [ulH_in ql]; exact e
                · cases ql : A.lookup b with
                  | none => rw [ulH_out ql]; exact th2 b o (by rw [lockH_out ql]; exact e)
                  | some o2 => exact ⟨o, by rw [ulH_in ql]; exact e⟩
              | next => exact z.elim
              | brk => exact z.elim
              | cont => exact z.elim
          · rw [if_neg nd] at q; exact q.elim
  · exact q.elim
end
end Fz
end

section
set_option Elab.async false
set_option linter.all false
set_option maxRecDepth 100000
set_option maxHeartbeats 4000000
/-! F78: the frame of a function that a frame makes, with cells of its own over those that it caught. -/
namespace Fz
open PySem PySem.Spec PyProof.Rows L2
section
variable {M : Model} {A : Around} {E : Value → Shared → Prop} {s₀ s : Shared} {own : List (Str × Addr)} {cm : Str → Option Value} {env : Env}
theorem stCN {m : Str → Option Value} {n : Str} {c : Addr} {v : Value} {Q : Unit → Shared → Prop} (x : InCallC s₀ env.locals m own cm s) (hk : env.scope.kind = .function) (hl : env.kindOf n = some .cell)
    (hc : own.lookup n = some c) (he : env.cells.lookup n = some c)
    (h : ∀ s', InCallC s₀ env.locals m own (fun y => if y = n then some v else cm y) s' → Q () s') : wpAny M A (storeName env n v) Q E s := by
  have hLc := x.above n c (PySem.mem_of_lookup hc)
  refine wpAny_storeName_cell hk hl he (x.cell n c hc) fun h' hc' hs' => h _ ⟨⟨?_, x.toInCall.ns.sameBut hs' (Nat.ne_of_lt hLc), fun b o e => ?_, x.toInCall.fresh⟩, fun k c' hk' => ?_, x.apart, x.above⟩
  · obtain ⟨h₁, tk, rfl⟩ := x.toInCall.same
    exact ⟨h', _, rfl⟩
  · exact hs'.extBut b o (Nat.ne_of_lt (Nat.lt_trans (Nat.lt_of_lt_of_le (Heap.lt_size e) x.toInCall.fresh) hLc)) (x.toInCall.keep b o e)
  · by_cases hkn : k = n
    · subst hkn
      rw [hc] at hk'; cases hk'
      simpa using hc'
    · rw [if_neg hkn]
      exact (x.cell k c' hk').sameBut hs' fun e => hkn (name_of_addr x.apart (PySem.mem_of_lookup hk') (e ▸ PySem.mem_of_lookup hc))
theorem stLN {m : Str → Option Value} {n : Str} {v : Value} {Q : Unit → Shared → Prop} (x : InCallC s₀ env.locals m own cm s) (hk : env.scope.kind = .function) (hl : env.kindOf n = some .local)
    (h : ∀ s', InCallC s₀ env.locals (fun y => if y = n then some v else m y) own cm s' → Q () s') : wpAny M A (storeName env n v) Q E s := by
  refine wpAny_storeName_local hl x.toInCall.ns (fun h' hn' hs' => h _ ⟨⟨?_, hn', fun b o e => ?_, x.toInCall.fresh⟩, fun k c hc => ?_, x.apart, x.above⟩) (by rw [hk]; rfl)
  · obtain ⟨h₁, tk, rfl⟩ := x.toInCall.same
    exact ⟨h', _, rfl⟩
  · exact hs'.extBut b o (Nat.ne_of_lt (Nat.lt_of_lt_of_le (Heap.lt_size e) x.toInCall.fresh)) (x.toInCall.keep b o e)
  · exact (x.cell k c hc).sameBut hs' (Nat.ne_of_gt (x.above k c (PySem.mem_of_lookup hc)))
theorem bindParamsN (hsub : ∀ n c, own.lookup n = some c → env.cells.lookup n = some c) (f : Str × Value → PUnit → Sem (ForInStep PUnit)) (hf : ∀ n v u, f (n, v) u = (do storeName env n v; pure (.yield ⟨⟩))) (hk : env.scope.kind = .function) :
    ∀ (binds : List (Str × Value)) (m cm : Str → Option Value) (s : Shared) (Q : PUnit → Shared → Prop), InCallC s₀ env.locals m own cm s →
      (∀ x ∈ binds, env.kindOf x.1 = some .local ∨ (env.kindOf x.1 = some .cell ∧ (own.lookup x.1).isSome = true)) →
      (∀ s', InCallC s₀ env.locals (bindL env.kindOf binds m) own (bindC env.kindOf binds cm) s' → Q ⟨⟩ s') → wpAny M A (forIn binds ⟨⟩ f) Q E s
  | [], m, cm, s, Q, x, _, h => by rw [List.forIn_nil]; exact wpAny_pure (h s x)
  | (n, v) :: r, m, cm, s, Q, x, hkind, h => by
    rw [List.forIn_cons, hf]
    have hr : ∀ y ∈ r, env.kindOf y.1 = some .local ∨ (env.kindOf y.1 = some .cell ∧ (own.lookup y.1).isSome = true) := fun y hy => hkind y (List.mem_cons_of_mem _ hy)
    rcases hkind (n, v) List.mem_cons_self with hl | ⟨hl, hc⟩
    · refine wpAny_bind (wpAny_bind (stLN x hk hl fun s' x' => wpAny_pure (bindParamsN hsub f hf hk r _ _ s' Q x' hr fun s'' x'' => h s'' ?_)))
      unfold bindL bindC; rw [if_pos hl, if_pos hl]; exact x''
    · obtain ⟨c, hc⟩ := Option.isSome_iff_exists.mp hc
      have hnl : ¬ env.kindOf n = some .local := by rw [hl]; decide
      refine wpAny_bind (wpAny_bind (stCN x hk hl hc (hsub n c hc) fun s' x' => wpAny_pure (bindParamsN hsub f hf hk r _ _ s' Q x' hr fun s'' x'' => h s'' ?_)))
      unfold bindL bindC; rw [if_neg hnl, if_neg hnl]; exact x''
end
section
variable {M : Model} {A : Around} {E : Value → Shared → Prop} {s : Shared}
theorem newFunctionEnvN {scope : Scope} {globals : Addr} {clo : List (Str × Addr)} {binds : List (Str × Value)} {qual : Str} {func : Option Addr} {code : Value} {builtins : Addr} {Q : Env → Shared → Prop}
    (hk : scope.kind = .function)
    (hkind : ∀ x ∈ binds, scope.names.lookup x.1 = some .local ∨ (scope.names.lookup x.1 = some .cell ∧ ((cellsFrom (s.heap.objs.size + 1) scope.names []).lookup x.1).isSome = true))
    (hQ : ∀ env, env = newEnv scope s.heap.objs.size globals (cellsFrom (s.heap.objs.size + 1) scope.names clo) qual func code none builtins →
      ∀ s', InCallC s env.locals (bindL env.kindOf binds fun _ => none) (cellsFrom (s.heap.objs.size + 1) scope.names []) (bindC env.kindOf binds fun _ => none) s' → Q env s') :
    wpAny M A (newFunctionEnv scope globals clo binds qual func code none builtins) Q E s := by
  simp only [newFunctionEnv, Option.isSome_none, Bool.false_eq_true, if_false]
  refine wpAny_bind (wpAny_alloc ?_)
  refine wpAny_bind (wpAny_layCells _ (fun name kind cells => by cases hkc : kind == NameKind.cell <;> simp [hkc]) _ _ _ _ ?_)
  have ok := cellsFrom_ok scope.names (s.heap.push { cls := .type "frame", data := .dict #[] }) (s.heap.objs.size + 1) [] ⟨fun _ _ hm => (nomatch hm), List.Pairwise.nil⟩ (by rw [Heap.size_push]; exact Nat.le_refl _)
  rw [Heap.size_push] at ok
  rw [show ({ s with heap := s.heap.push { cls := .type "frame", data := .dict #[] } } : Shared).heap.objs.size = s.heap.objs.size + 1 from Heap.size_push ..]
  refine wpAny_bind (bindParamsN (s₀ := s) (own := cellsFrom (s.heap.objs.size + 1) scope.names []) (env := newEnv scope s.heap.objs.size globals (cellsFrom (s.heap.objs.size + 1) scope.names clo) qual func code none builtins)
    (fun n c h => ?_) _ (fun _ _ _ => rfl) hk binds (fun _ => none) (fun _ => none) _ _
    ⟨⟨⟨_, _, rfl⟩, (Heap.Ns.new s.heap (.type "frame")).keeps (pushCells_keeps _ _), fun b o e => pushCells_keeps _ _ b o (Heap.get?_push_of_some _ e), Nat.le_refl _⟩,
      fun n c hc => (ok.empty n c (PySem.mem_of_lookup hc)).1, ok.apart, fun n c hm => (ok.empty n c hm).2⟩
    hkind fun s' x => wpAny_pure (hQ _ rfl s' x))
  show (cellsFrom (s.heap.objs.size + 1) scope.names clo).lookup n = some c
  rw [cellsFrom_over, List.lookup_append, h]
  rfl
end
/-- its names: the parameters, then the captured ones, then its locals; parameters and locals may be cells -/
structure NScC (N ps fr : List Str) (sc : Scope) : Prop where
  kind : sc.kind = .function
  co : sc.isCoroutine = false
  gen : sc.isGenerator = false
  nd : N.Nodup
  pre : N.take (ps.length + fr.length) = ps ++ fr
  par : ∀ x ∈ ps, sc.names.lookup x = some .local ∨ sc.names.lookup x = some .cell
  cel : ∀ y ∈ sc.names, y.2 = .cell → sc.names.lookup y.1 = some .cell
  free : ∀ y ∈ sc.names, y.2 = .free → y.1 ∈ fr
  frk : ∀ x ∈ fr, sc.names.lookup x = some .free
def nscCB (N ps fr : List Str) (sc : Scope) : Bool :=
  decide (sc.kind = .function) && !sc.isCoroutine && !sc.isGenerator && decide N.Nodup && decide (N.take (ps.length + fr.length) = ps ++ fr) && ps.all (fun x => decide (sc.names.lookup x = some .local) || decide (sc.names.lookup x = some .cell)) && sc.names.all (fun y => !decide (y.2 = .cell) || decide (sc.names.lookup y.1 = some .cell)) && sc.names.all (fun y => !decide (y.2 = .free) || decide (y.1 ∈ fr)) && fr.all (fun x => decide (sc.names.lookup x = some .free))
theorem nscC_by {N ps fr : List Str} {sc : Scope} (h : nscCB N ps fr sc = true) : NScC N ps fr sc := by
  unfold nscCB at h
  simp only [Bool.and_eq_true, Bool.not_eq_true', decide_eq_true_eq, List.all_eq_true, Bool.or_eq_true, decide_eq_false_iff_not] at h
  obtain ⟨⟨⟨⟨⟨⟨⟨⟨h1, h2⟩, h3⟩, h4⟩, h5⟩, h6⟩, h7⟩, h8⟩, h9⟩ := h
  exact ⟨h1, h2, h3, h4, h5, h6, fun y hy e => (h7 y hy).elim (fun z => absurd e z) id, fun y hy e => (h8 y hy).elim (fun z => absurd e z) id, h9⟩
theorem cellsFrom_kind : ∀ {names : List (Str × NameKind)} {n : Nat} {acc : List (Str × Addr)} {x : Str} {c : Addr}, (x, c) ∈ cellsFrom n names acc → (x, c) ∈ acc ∨ (x, NameKind.cell) ∈ names
  | [], _, _, _, _, h => .inl h
  | (nm, k) :: r, n, acc, x, c, h => by
    unfold cellsFrom at h
    split at h
    · rename_i hk
      rcases cellsFrom_kind h with h | h
      · rcases List.mem_cons.mp h with e | h
        · cases e
          have hk : k = .cell := by cases k <;> first | rfl | exact absurd hk (by decide)
          subst hk
          exact .inr List.mem_cons_self
        · exact .inl h
      · exact .inr (List.mem_cons_of_mem _ h)
    · rcases cellsFrom_kind h with h | h
      · exact .inl h
      · exact .inr (List.mem_cons_of_mem _ h)
def isCellK : Option NameKind → Bool
  | some .cell => true
  | _ => false
theorem isCellK_eq {o : Option NameKind} (h : isCellK o = true) : o = some .cell := by
  unfold isCellK at h
  split at h
  · rfl
  · cases h
/-- the context of its body: it may store into its own cells -/
def ncxC (CX : CXT) (P : Program) (w : World) (K : Fg) (mg : Str → Option Value) (base : Heap) (N : List Str) (F : NdefX.NF) (f : Addr) (A : Around) (outer : List Env) (s : Shared) (H : Hp) (E : XK) : Cx :=
  { NdefX.ncx CX P w K mg base N F f A outer s H E with fn := fun y => isCellK (F.scope.names.lookup y) }
section
variable {CX : CXT} {P : Program} {w : World} {K : Fg} {mg : Str → Option Value} {base : Heap} {N ps fr : List Str} {F : NdefX.NF} {f : Addr} {A : Around} {outer : List Env} {s s1 : Shared} {H : Hp} {E : XK} {us : List Value} {vs : List V} {ws : List (Option V)} {kf : Str → Option NameKind}
theorem inv_startNC {cl : List (Str × Addr)} (S : NScC N ps fr F.scope) (hd : A.handled = none) (e0 : Env0 P w K mg base A outer s H) (hl : vs.length = ps.length) (r : Vals vs us) (C : NdefX.CellsAt cl fr ws s.heap H)
    (hcl : F.cl = cellsFrom (s.heap.objs.size + 1) F.scope.names cl) (hkf : kf = fun y => F.scope.names.lookup y)
    (x : InCallC s s.heap.objs.size (bindL kf (ps.zip us) fun _ => none) (cellsFrom (s.heap.objs.size + 1) F.scope.names []) (bindC kf (ps.zip us) fun _ => none) s1) :
    Inv (ncxC CX P w K mg base N F f A outer s H E) [] (NdefX.startF N vs ws) H s1 := by
  subst hkf
  have hpl : ps.length + fr.length ≤ N.length := by
    have q := congrArg List.length S.pre
    rw [List.length_take, List.length_append] at q
    omega
  obtain ⟨h1, tk, rfl, hk⟩ := x.done
  have noA : ∀ b : Addr, b ∉ (ncxC CX P w K mg base N F f A outer s H E).ex := fun b z => absurd (show b ∈ ([] : List Addr) from z) (by simp)
  have cellK : ∀ {c : Addr} {v : Option Value}, s.heap.IsCell c v → h1.IsCell c v := fun {c v} ⟨o, ho, hd⟩ => ⟨o, hk _ _ ho, hd⟩
  have look : ∀ y, F.cl.lookup y = ((cellsFrom (s.heap.objs.size + 1) F.scope.names []).lookup y).or (cl.lookup y) := fun y => by rw [hcl, cellsFrom_over, List.lookup_append]
  have look1 : ∀ {y c}, (cellsFrom (s.heap.objs.size + 1) F.scope.names []).lookup y = some c → F.cl.lookup y = some c := fun {y c} h => by rw [look, h]; rfl
  have ownk : ∀ {y c}, (cellsFrom (s.heap.objs.size + 1) F.scope.names []).lookup y = some c → F.scope.names.lookup y = some .cell := fun {y c} h => by
    rcases cellsFrom_kind (PySem.mem_of_lookup h) with h | h
    · cases h
    · exact S.cel _ h rfl
  have look2 : ∀ {y c}, F.scope.names.lookup y = some .free → cl.lookup y = some c → F.cl.lookup y = some c := fun {y c} h h2 => by
    rw [look]
    cases e : (cellsFrom (s.heap.objs.size + 1) F.scope.names []).lookup y with
    | none => rw [h2]; rfl
    | some c2 => rw [ownk e] at h; cases h
  have cas : ∀ {y c}, F.cl.lookup y = some c → (cellsFrom (s.heap.objs.size + 1) F.scope.names []).lookup y = some c ∨ cl.lookup y = some c := fun {y c} h => by
    rw [look] at h
    cases e : (cellsFrom (s.heap.objs.size + 1) F.scope.names []).lookup y with
    | none => rw [e] at h; exact .inr h
    | some c2 => rw [e] at h; exact .inl h
  have old : ∀ {y c}, cl.lookup y = some c → c < s.heap.objs.size := fun {y c} h => by
    obtain ⟨_, v, z⟩ := C.all y c h
    exact z.lt
  have new : ∀ {y c}, (cellsFrom (s.heap.objs.size + 1) F.scope.names []).lookup y = some c → s.heap.objs.size < c := fun {y c} h => x.above y c (PySem.mem_of_lookup h)
  have owns : ∀ {y}, F.scope.names.lookup y = some .cell → ∃ c, (cellsFrom (s.heap.objs.size + 1) F.scope.names []).lookup y = some c := fun {y} h => cell_has h
  refine ⟨⟨e0.mod, S.kind, rfl, rfl, Nat.le_refl _, fun y z c h1 h2 => ?_, fun y hy => ?_, fun y c z h => ?_, fun _ => hd, Around.frames_deeper e0.frames, .inr ⟨rfl, rfl⟩, fun b z => absurd z (noA b), e0.bs, e0.bsz, fun b _ _ => noA b,
      fun b z => absurd z (noA b), e0.funs, e0.frf⟩,
    rfl, e0.bare, Un.kept hk, ⟨_, x.toInCall.ns, fun i y v e1 e2 e3 => ?_⟩, fun y c e => ?_, e0.hok.fresh (Nat.le_refl _), fun y c e => ?_, fun q hq => absurd (show q ∈ ([] : List (Addr × Obj)) ++ [] from hq) (by simp), e0.hok.kept hk, ?_⟩
  · have h1 : F.cl.lookup y = some c := h1
    have h2 : F.cl.lookup z = some c := h2
    rcases cas h1 with a | a <;> rcases cas h2 with b | b
    · exact name_of_addr x.apart (PySem.mem_of_lookup a) (PySem.mem_of_lookup b)
    · exact absurd (new a) (Nat.lt_asymm (old b))
    · exact absurd (new b) (Nat.lt_asymm (old a))
    · exact C.inj y z c a b
  · have hy : F.scope.names.lookup y = some .cell ∨ F.scope.names.lookup y = some .free := hy
    rcases hy with hy | hy
    · obtain ⟨c, hc⟩ := owns hy
      exact ⟨c, look1 hc⟩
    · obtain ⟨i, hi⟩ := List.mem_iff_getElem?.mp (S.free _ (PySem.mem_of_lookup hy) rfl)
      obtain ⟨c, hc, _⟩ := C.has i y hi
      exact ⟨c, look2 hy hc⟩
  · have z : isCellK (F.scope.names.lookup y) = true := z
    have h : F.cl.lookup y = some c := h
    obtain ⟨c2, hc2⟩ := owns (isCellK_eq z)
    rw [look1 hc2] at h
    cases h
    exact Nat.le_of_lt (new hc2)
  · have e1 : N[i]? = some y := e1
    have clen := C.len
    unfold NdefX.startF at e2
    by_cases h1 : i < ps.length
    · have hq : (ps ++ fr)[i]? = some y := by
        rw [← S.pre, List.getElem?_take_of_lt (by omega)]
        exact e1
      rw [List.getElem?_append_left h1] at hq
      rw [List.getElem?_append_left (by rw [List.length_map]; omega), List.getElem?_map] at e2
      have ha : vs[i]? = some v := by
        cases e : vs[i]? with
        | none => rw [e] at e2; cases e2
        | some a => rw [e] at e2; cases e2; rfl
      obtain ⟨u, hu, rv⟩ := r.get ha
      have ndP : ps.Nodup := by
        have q := S.nd.sublist (List.take_sublist (ps.length + fr.length) N)
        rw [S.pre] at q
        exact (List.nodup_append.mp q).1
      refine ⟨u, rv, ?_⟩
      rcases S.par y (List.mem_of_getElem? hq) with k | k
      · exact .inl ⟨k, bindL_get ndP hq hu k⟩
      · obtain ⟨c, e⟩ := owns k
        refine .inr ⟨.inl k, c, look1 e, ?_⟩
        have q := x.cell y c e
        rw [bindC_get ndP hq hu (by rw [k]; decide)] at q
        exact q
    · rw [List.getElem?_append_right (by rw [List.length_map]; omega), List.length_map] at e2
      by_cases h2 : i < ps.length + fr.length
      · have hq : (ps ++ fr)[i]? = some y := by
          rw [← S.pre, List.getElem?_take_of_lt (by omega)]
          exact e1
        rw [List.getElem?_append_right (by omega)] at hq
        rw [List.getElem?_append_left (by omega), hl] at e2
        obtain ⟨c, hc, hv⟩ := C.has (i - ps.length) y hq
        obtain ⟨u, ru, hu⟩ := hv v e2
        have kf := S.frk y (List.mem_of_getElem? hq)
        exact ⟨u, ru, .inr ⟨.inr kf, c, look2 kf hc, cellK hu⟩⟩
      · rw [List.getElem?_append_right (by omega), List.getElem?_replicate] at e2
        split at e2 <;> cases e2
  · rcases cas (show F.cl.lookup y = some c from e) with a | a
    · exact ⟨_, x.cell y c a⟩
    · obtain ⟨v, z⟩ := (C.all y c a).2
      exact ⟨v, cellK z⟩
  · rcases cas (show F.cl.lookup y = some c from e) with a | a
    · exact e0.hok.fresh (Nat.le_of_lt (new a))
    · exact (C.all y c a).1
  · have clen := C.len
    unfold NdefX.startF
    show _ = N.length
    rw [List.length_append, List.length_append, List.length_map, List.length_replicate]
    omega
end
end Fz
end

section
set_option Elab.async false
set_option linter.all false
set_option maxRecDepth 100000
set_option maxHeartbeats 4000000
/-! F73: what a function that a frame makes answers. -/
namespace Fz
open PySem PySem.Spec PyProof.Rows L2
section
variable {prog : Program} {w : World} {A : Around} {R : Result → Shared → Prop} {s : Shared}
theorem callq_expr {a : Addr} {args : Args} {o : Obj} {fd : FuncData} {body : Expr} {q : Str} (hroom : A.depth < recursionLimit) (ho : s.heap.get? a = some o)
    (hd' : o.data = .func fd) (hco : fd.scope.isCoroutine = false) (hgen : fd.scope.isGenerator = false) (hbody : fd.body = .expr body) (hcd : s.heap.CodeRec fd.code q)
    (h : wpAny (model prog w) A.in1 (bindArgs fd args) (fun binds s₁ =>
      wpAny (model prog w) A.in1 (newFunctionEnv fd.scope fd.globals fd.closure binds (q ++ ".<locals>.") (some a) fd.code none fd.builtins)
        (fun env s₂ => s₂.heap.NoLimit ∧ codeAny (model prog w) A (.expr body env) R s₂) (fun e s' => R (.error e) s') s₁) (fun e s' => R (.error e) s') s) :
    codeAny (model prog w) A (.call (.ref a) args) R s := by
  refine codeAny_of_tree ?_
  show wpAny _ A.in1 (callAny (.ref a) args) _ _ s
  simp only [callAny]
  refine wpAny_bind (wpAny_load ho ?_)
  obtain ⟨c, oc, vs, tq, hc, hoc, hdc, hq⟩ := hcd
  simp only [hd', callFunction, hco, hgen, hbody, hc]
  rw [hc] at h
  refine wpAny_bind (m := field (.ref c) 1) (wpAny_field hoc hdc hq (wpAny_bind (wpAny_pure ?_)))
  exact wpAny_bind (wpAny_mono h (fun binds s₁ h₁ => wpAny_bind (wpAny_mono h₁ (fun env s₂ h₂ => wpAny_bind (wpAny_enterFrame h₂.1 hroom
    (wpAny_pure (And.intro rfl h₂.2)))) fun _ _ h' => h')) fun _ _ h' => h')
theorem callq_stmts {a : Addr} {args : Args} {o : Obj} {fd : FuncData} {body : List Stmt} {q : Str} (hroom : A.depth < recursionLimit) (ho : s.heap.get? a = some o)
    (hd' : o.data = .func fd) (hco : fd.scope.isCoroutine = false) (hgen : fd.scope.isGenerator = false) (hbody : fd.body = .stmts body) (hcd : s.heap.CodeRec fd.code q)
    (h : wpAny (model prog w) A.in1 (bindArgs fd args) (fun binds s₁ =>
      wpAny (model prog w) A.in1 (newFunctionEnv fd.scope fd.globals fd.closure binds (q ++ ".<locals>.") (some a) fd.code none fd.builtins)
        (fun env s₂ => s₂.heap.NoLimit ∧ codeAny (model prog w) A (.func body env) R s₂) (fun e s' => R (.error e) s') s₁) (fun e s' => R (.error e) s') s) :
    codeAny (model prog w) A (.call (.ref a) args) R s := by
  refine codeAny_of_tree ?_
  show wpAny _ A.in1 (callAny (.ref a) args) _ _ s
  simp only [callAny]
  refine wpAny_bind (wpAny_load ho ?_)
  obtain ⟨c, oc, vs, tq, hc, hoc, hdc, hq⟩ := hcd
  simp only [hd', callFunction, hco, hgen, hbody, hc]
  rw [hc] at h
  refine wpAny_bind (m := field (.ref c) 1) (wpAny_field hoc hdc hq (wpAny_bind (wpAny_pure ?_)))
  exact wpAny_bind (wpAny_mono h (fun binds s₁ h₁ => wpAny_bind (wpAny_mono h₁ (fun env s₂ h₂ => wpAny_bind (wpAny_enterFrame h₂.1 hroom
    (wpAny_pure (And.intro rfl h₂.2)))) fun _ _ h' => h')) fun _ _ h' => h')
end
/-! ### cells: out of sight within the function, known to the letter outside -/
/-- C: the addresses of cells -/
noncomputable def offH (C : Addr → Prop) (H : Hp) : Hp := open Classical in fun b => if C b then none else H b
noncomputable def onH (C : Addr → Prop) (H1 H : Hp) : Hp := open Classical in fun b => if C b then H1 b else H b
section
variable {C : Addr → Prop} {H H1 H2 : Hp} {b : Addr} {P : Program} {w : World} {h h' : Heap}
theorem offH_in (k : C b) : offH C H b = none := by unfold offH; rw [if_pos k]
theorem offH_out (k : ¬ C b) : offH C H b = H b := by unfold offH; rw [if_neg k]
theorem onH_in (k : C b) : onH C H1 H b = H1 b := by unfold onH; rw [if_pos k]
theorem onH_out (k : ¬ C b) : onH C H1 H b = H b := by unfold onH; rw [if_neg k]
/-- each of them is known to the letter, as a cell -/
def Cel (C : Addr → Prop) (H1 : Hp) : Prop := ∀ b, C b → ∃ o φ v, H1 b = some (.frz o (.ext φ)) ∧ o.data = .cell v
theorem Cel.off (k : Cel C H1) {u : HO} (e : H1 b = some u) (n : ∀ o φ, u ≠ .frz o (.ext φ)) : ¬ C b := fun c => by
  obtain ⟨o, φ, v, z, _⟩ := k b c
  rw [e] at z; cases z; exact n o φ rfl
theorem hok_off (k : Cel C H1) (hok : HOk P w H1 h) : HOk P w (offH C H1) h := fun b u e => by
  have nb : ¬ C b := fun c => by rw [offH_in c] at e; cases e
  rw [offH_out nb] at e
  exact (hok b u e).stay (fun c v _ q => q) (fun c q => by rw [offH_out (k.off q fun _ _ z => nomatch z)]; exact q) fun c xs q => by rw [offH_out (k.off q fun _ _ z => nomatch z)]; exact q
theorem codeG_off (k : Cel C H1) {cv : Value} (g : CodeG H1 cv) : CodeG (offH C H1) cv := by
  obtain ⟨c, oc, u, vs, q, t, P', h1, h2, h3, h4, h5, h6, h7, h8, ⟨qs, h9, h9'⟩, y, hy⟩ := g
  subst hy
  exact ⟨c, oc, _, vs, q, t, P', h1, by rw [offH_out (k.off h2 fun _ _ z => nomatch z)]; exact h2, h3, h4, h5, h6, h7, h8, ⟨qs, by rw [offH_out (k.off h9 fun _ _ z => nomatch z)]; exact h9, h9'⟩, y, rfl⟩
theorem tabOk_off (k : Cel C H1) {P' : Addr} (t : TabOk H1 P') : TabOk (offH C H1) P' := by
  obtain ⟨ps, e, tr, c⟩ := t
  exact ⟨ps, by rw [offH_out (k.off e fun _ _ z => nomatch z)]; exact e, tr, fun pos cv z => codeG_off k (c pos cv z)⟩
theorem pers_on (n : ∀ b, C b → H b = none) : Pers H (onH C H1 H) :=
  have off : ∀ {b u}, H b = some u → ¬ C b := fun {b u} e c => by rw [n b c] at e; cases e
  ⟨fun a xs e => by rw [onH_out (off e)]; exact e, fun a o u e => by rw [onH_out (off e)]; exact e, fun a ⟨ps, e, t⟩ => ⟨ps, by rw [onH_out (off e)]; exact e, t⟩⟩
end
/-! ### the function's own frame -/
/-- the slots at its entry: its arguments, what it captured -/
def capS (S : FS) (j : Nat) : Option SV := match S[j]? with
  | some (some (.d d)) => some (.d d)
  | some (some (.own ob)) => some (.x (.ro ob))
  | some (some (.pin ob)) => some (.x (.ro ob))
  | some (some (.x (.ro ob))) => some (.x (.ro ob))
  | some (some (.x (.fn k g))) => some (.x (.fn k g))
  | _ => none
def startC (n : Nat) (ds : List D) (cs : List (Option SV)) : FS := ds.map (fun d => some (.d d)) ++ (cs ++ List.replicate (n - ds.length - cs.length) none)
/-- its answer -/
def cloG (n np : Nat) (fe : FS → Res D) (cs : List (Option SV)) : FnD := fun ds => if ds.length = np then (match fe (startC n ds cs) with
  | .ok d _ => some d
  | _ => none) else none
def retD (fb : FS → SRes) : FS → Res D := fun S => match fb S with
  | .rt (.d d) S1 => .ok d S1
  | .nx S1 => .ok .none S1
  | _ => .bad
/-- what the relation knows within it: its own code object -/
def cloI (P : Program) (w : World) (K : Fg) (mg : Str → Option Value) (base : Heap) (T : List Addr) (c : Addr) : ClX where
  clo := CloOk P w K mg base T
  cloM := (cloX P w K mg base T [] []).cloM
  loc := fun _ _ _ => False
  locM := fun _ h => h
  self := fun H => CodeG H (.ref c)
  selfM := fun p h => h.later p
abbrev cloNF (t : FnT) (qual : Str) (cl : List (Str × Addr)) (c : Addr) : NdefX.NF := ⟨t.name, qual, t.params, [], t.scope, cl, c⟩
abbrev cloC (P : Program) (w : World) (K : Fg) (mg : Str → Option Value) (base : Heap) (N : List Str) (t : FnT) (qual : Str) (cl : List (Str × Addr)) (c f : Addr) (A : Around) (outer : List Env) (s : Shared) (H : Hp) (E1 : XK) : Cx :=
  (ncxC CX0 P w K mg base N (cloNF t qual cl c) f A outer s H E1).nox
theorem ro_of {K : Fg} {w : World} {H H1 : Hp} {A : Lks} {b : Addr} {ob : Ob} {o : Obj} (q : A.lookup b = some o) (p : Pers H H1) (h1 : H1 b = some (.frz o ((H b).getD (.ext fun _ => True)))) (h : ObR K w H b ob) : RoR K w H1 b ob := by
  cases ob with
  | lst ds =>
    obtain ⟨vs, e, r⟩ := h
    rw [e] at h1
    exact ⟨o, vs, h1, r.mono p⟩
  | dic kvs =>
    refine ⟨o, DicG.mono (show DicG K w H b (fun u => H b = some u) kvs from h) p fun u e => ?_⟩
    have e : H b = some u := e
    rw [e] at h1; exact h1
mutual
/-- frozen things that are no lists or tuples may go -/
theorem Pd.sel {K : Fg} {H H' : Hp} (t : ∀ b xs, H b = some (.tup xs) → H' b = some (.tup xs)) (f : ∀ b o xs, H b = some (.frz o (.tup xs)) → H' b = some (.frz o (.tup xs))) (l : ∀ b o xs, H b = some (.frz o (.lst xs)) → H' b = some (.frz o (.lst xs))) : ∀ {x : V} {d : D}, Pd K H x d → Pd K H' x d
  | _, _, .non => .non
  | _, _, .bl b => .bl b
  | _, _, .int i => .int i
  | _, _, .str x => .str x
  | _, _, .tup h r => .tup (by
      rcases h with (h | ⟨o, h⟩) | h
      · exact .inl (.inl (t _ _ h))
      · exact .inl (.inr ⟨o, f _ _ _ h⟩)
      · exact .inr h) (PdAll.sel t f l r)
  | _, _, .lst h r => .lst (by
      rcases h with ⟨o, h⟩ | h
      · exact .inl ⟨o, l _ _ _ h⟩
      · exact .inr h) (PdAll.sel t f l r)
theorem PdAll.sel {K : Fg} {H H' : Hp} (t : ∀ b xs, H b = some (.tup xs) → H' b = some (.tup xs)) (f : ∀ b o xs, H b = some (.frz o (.tup xs)) → H' b = some (.frz o (.tup xs))) (l : ∀ b o xs, H b = some (.frz o (.lst xs)) → H' b = some (.frz o (.lst xs))) : ∀ {xs : List V} {ds : List D}, PdAll K H xs ds → PdAll K H' xs ds
  | _, _, .nil => .nil
  | _, _, .cons h r => .cons (Pd.sel t f l h) (PdAll.sel t f l r)
end
theorem pdAll_off {K : Fg} {C : Addr → Prop} {H1 : Hp} (k : Cel C H1) {xs : List V} {ds : List D} (h : PdAll K H1 xs ds) : PdAll K (offH C H1) xs ds :=
  PdAll.sel (fun b xs e => by rw [offH_out (k.off e fun _ _ z => nomatch z)]; exact e) (fun b o xs e => by rw [offH_out (k.off e fun _ _ z => nomatch z)]; exact e) (fun b o xs e => by rw [offH_out (k.off e fun _ _ z => nomatch z)]; exact e) h
theorem startC_get {n i : Nat} {ds : List D} {cs : List (Option SV)} {sv : SV} (h : (startC n ds cs)[i]? = some (some sv)) : (∃ d, ds[i]? = some d ∧ sv = .d d) ∨ (ds.length ≤ i ∧ cs[i - ds.length]? = some (some sv)) := by
  unfold startC at h
  by_cases h1 : i < ds.length
  · rw [List.getElem?_append_left (by simpa using h1), List.getElem?_map] at h
    cases e : ds[i]? with
    | none => rw [e] at h; cases h
    | some d => rw [e] at h; simp at h; exact .inl ⟨d, rfl, h.symm⟩
  · rw [List.getElem?_append_right (by simpa using h1), List.length_map] at h
    by_cases h2 : i - ds.length < cs.length
    · rw [List.getElem?_append_left h2] at h
      exact .inr ⟨by omega, h⟩
    · rw [List.getElem?_append_right (by omega), List.getElem?_replicate] at h
      split at h <;> cases h
theorem startF_arg {N : List Str} {vs : List V} {ws : List (Option V)} {i : Nat} {x : V} (h : vs[i]? = some x) : (NdefX.startF N vs ws)[i]? = some (some x) := by
  unfold NdefX.startF
  have hi : i < vs.length := (List.getElem?_eq_some_iff.mp h).1
  rw [List.getElem?_append_left (by simpa using hi), List.getElem?_map, h]
  rfl
theorem startF_cap {N : List Str} {vs : List V} {ws : List (Option V)} {i : Nat} {x : V} (hi : vs.length ≤ i) (h : ws[i - vs.length]? = some (some x)) : (NdefX.startF N vs ws)[i]? = some (some x) := by
  unfold NdefX.startF
  have hl : i - vs.length < ws.length := (List.getElem?_eq_some_iff.mp h).1
  rw [List.getElem?_append_right (by simpa using hi), List.length_map, List.getElem?_append_left hl]
  exact h
theorem capS_not {S : FS} {j : Nat} {ob : Ob} : capS S j ≠ some (.own ob) ∧ capS S j ≠ some (.pin ob) := by
  unfold capS
  split <;> simp
/-- the body's den, told of its frame -/
def BodyOk (P : Program) (w : World) (K : Fg) (mg : Str → Option Value) (base : Heap) (T : List Addr) (N : List Str) (t : FnT) (k : Nat) (fe : FS → Res D) : Prop := match t.body with
  | .expr e => ∀ (A : Around) (outer : List Env) (s : Shared) (H : Hp) (E1 : XK) (f : Addr) (qual : Str) (cl : List (Str × Addr)) (c : Addr) (H0 : Hp) (pins : List (Nat × Addr)) (E : XK), RoomG k (A.deeper (NdefX.envF (cloNF t qual cl c) f s.heap.objs.size)) → ED (cloC P w K mg base N t qual cl c f A outer s H E1) ⟨H0, pins, T, [], E, w, cloI P w K mg base T c⟩ e fe
  | .stmts b => ∃ fb, fe = retD fb ∧ ∀ (A : Around) (outer : List Env) (s : Shared) (H : Hp) (E1 : XK) (f : Addr) (qual : Str) (cl : List (Str × Addr)) (c : Addr) (H0 : Hp) (pins : List (Nat × Addr)) (E : XK), RoomG k (A.deeper (NdefX.envF (cloNF t qual cl c) f s.heap.objs.size)) → EB (cloC P w K mg base N t qual cl c f A outer s H E1) ⟨H0, pins, T, [], E, w, cloI P w K mg base T c⟩ b fb
theorem clo_spec {X : Cx} {F : Fx} {j k : Nat} {nfs : List FnT} {t : FnT} {N ps fr : List Str} {js : List Nat} {fe : FS → Res D} (hb : BodyOk X.prog X.w X.K X.mg X.base F.tabs N t k fe) (hj : nfs[j]? = some t) (Sc : NScC N ps fr t.scope) (hnd : NdefX.ndefB X.env.scope t.scope fr = true) (hjs : js.map (fun j => X.N[j]?) = fr.map some)
    (hbind : ∀ (qual : Str) (cl : List (Str × Addr)) (pm cdv ct doc : Value) (us : List Value), us.length = ps.length → bindArgs (fnG t qual cl pm cdv ct doc) ⟨us, []⟩ = pure (ps.zip us))
    (hloc : F.cl.loc = LocOk X.env.cells nfs := by rfl) (hw : F.w = X.w := by rfl) (hclo : F.cl.clo = CloOk X.prog X.w X.K X.mg X.base F.tabs := by rfl) :
    CloSpec X F j (fun S => some (k + 1, cloG N.length ps.length fe (js.map (capS S)))) := by
  intro pins σ H s S A x k2 g I r hl L ec
  cases ec
  rw [hloc] at hl
  obtain ⟨t2, ht2, f, qual, pm, cdv, ct, doc, u, rfl, hf, hcd, hu⟩ := hl
  rw [hj] at ht2; cases ht2
  have pl := pers_lockH L.ok
  refine ⟨f, _, _, _, _, u, rfl, pl.frz _ _ _ hf, ?_⟩
  intro H1 p1 A1 outer s1 us vs ds d Q E hr e0 tabs rv hds hg hQ
  have p01 := pl.trans p1
  unfold cloG at hg
  split at hg
  next hlen =>
    cases hfe : fe (startC N.length ds (js.map (capS S))) with
    | bad => rw [hfe] at hg; cases hg
    | exn e3 S3 => rw [hfe] at hg; cases hg
    | ok d2 S2 =>
      rw [hfe] at hg
      cases hg
      -- the cells
      let C : Addr → Prop := fun b => ∃ o, A.lookup b = some o ∧ H b = none
      have h1at : ∀ b o, A.lookup b = some o → H1 b = some (.frz o ((H b).getD (.ext fun _ => True))) := fun b o q => p1.frz _ _ _ (lockH_in q)
      have cel : Cel C H1 := fun b ⟨o, q, n⟩ => by
        obtain ⟨y, hy⟩ := L.bare b o q n
        obtain ⟨v, o2, ho2, hd2⟩ := I.cell y b hy
        have := (L.ok.at_ b o q).1
        rw [ho2] at this
        refine ⟨o, fun _ => True, v, ?_, (Option.some.inj this) ▸ hd2⟩
        have z := h1at b o q
        rw [n] at z; exact z
      have p0i : Pers H (offH C H1) := by
        have nC : ∀ {b u}, H b = some u → ¬ C b := fun {b u} e ⟨o, _, n⟩ => by rw [e] at n; cases n
        refine ⟨fun a xs e => by rw [offH_out (nC e)]; exact p01.tup _ _ e, fun a o u e => by rw [offH_out (nC e)]; exact p01.frz _ _ _ e, fun a q => ?_⟩
        obtain ⟨ps0, e0', _⟩ := id q
        obtain ⟨ps', e', t'⟩ := p01.tbl a q
        exact ⟨ps', by rw [offH_out (nC e0')]; exact e', t'⟩
      have e0i : Env0 X.prog X.w X.K X.mg X.base A1 outer s1 (offH C H1) := by
        have none' : ∀ b, H1 b = none → offH C H1 b = none := fun b n => by
          by_cases c : C b
          · exact offH_in c
          · rw [offH_out c]; exact n
        exact ⟨e0.frames, e0.mod, fun b o e => ⟨(e0.bs b o e).1, none' b (e0.bs b o e).2⟩, e0.bsz, e0.funs, fun b hb => none' b (e0.frf b hb), hok_off cel e0.hok, e0.bare⟩
      have caps := NdefX.Caps.made (X := X) (scope := t.scope) I.ok (NdefX.ndef_free hnd) (NdefX.ndef_fr hnd) hjs
      have C0 := NdefX.cells_of I caps
      have cellT : ∀ {y c v}, (cloFrom X.env.cells t.scope.names []).lookup y = some c → s.heap.IsCell c v → s1.heap.IsCell c v ∧ C c := fun {y c v} e ⟨o, ho, hd⟩ => by
        have hy := caps.sub y c e
        obtain ⟨o2, q⟩ := L.cells y c hy
        have := (L.ok.at_ c o2 q).1
        rw [ho] at this
        exact ⟨⟨o2, (e0.hok c _ (h1at c o2 q)).1, (Option.some.inj this) ▸ hd⟩, o2, q, I.freeC y c hy⟩
      have C1 : NdefX.CellsAt (cloFrom X.env.cells t.scope.names []) fr (js.map (NdefX.slotAt σ)) s1.heap (offH C H1) := by
        refine ⟨C0.len, fun y c e => ?_, C0.inj, fun i y e => ?_⟩
        · obtain ⟨n, v, z⟩ := C0.all y c e
          obtain ⟨z1, z2⟩ := cellT e z
          exact ⟨offH_in z2, v, z1⟩
        · obtain ⟨c, hc, hv⟩ := C0.has i y e
          exact ⟨c, hc, fun v ev => let ⟨u, ru, hu⟩ := hv v ev; ⟨u, ru, (cellT hc hu).1⟩⟩
      have cdH1 : CodeG H1 cdv := hcd.later p01
      obtain ⟨c, oc, uc, vc, q, tk, P', rfl, hc2, hc3, hc4, hc5, hc6, hc7, hc8, hc9, hc10⟩ := id cdH1
      have hoc := (e0.hok c _ hc2).1
      have hof := (e0.hok f _ (p01.frz _ _ _ hf)).1
      have hvl : vs.length = ps.length := hds.length.trans hlen
      have lim : s1.heap.NoLimit := e0.mod.nolimit.keeps fun b o e => (e0.bs b o e).1
      let cl1 : List (Str × Addr) := cellsFrom (s1.heap.objs.size + 1) t.scope.names (cloFrom X.env.cells t.scope.names [])
      have hkind : ∀ y ∈ ps.zip us, t.scope.names.lookup y.1 = some .local ∨ (t.scope.names.lookup y.1 = some .cell ∧ ((cellsFrom (s1.heap.objs.size + 1) t.scope.names []).lookup y.1).isSome = true) := fun ⟨n, v⟩ hy => by
        rcases Sc.par n (List.of_mem_zip hy).1 with q | q
        · exact .inl q
        · exact .inr ⟨q, PySem.W.cellsFrom_some _ _ _ (.inl q)⟩
      let F' : Fx := ⟨offH C H1, [], F.tabs, [], fun _ _ _ => False, X.w, cloI X.prog X.w X.K X.mg X.base F.tabs c⟩
      let Q0 : VK := fun y H2 => ∃ S' σ', Pers (offH C H1) H2 ∧ Rel X.K F' S' σ' H2 ∧ Pd X.K H2 y d
      have hrel : Rel X.K F' (startC N.length ds (js.map (capS S))) (NdefX.startF N vs (js.map (NdefX.slotAt σ))) (offH C H1) := by
        have vl := hds.length
        have noown : ∀ i, ¬ Owned (startC N.length ds (js.map (capS S))) i := fun i ⟨ob, h⟩ => by
          rcases h with h | h
          · rcases startC_get h with ⟨d, _, z⟩ | ⟨_, z⟩
            · cases z
            · rw [List.getElem?_map] at z
              cases e : js[i - ds.length]? with
              | none => rw [e] at z; cases z
              | some j2 => rw [e] at z; exact capS_not.1 (Option.some.inj z)
          · rcases startC_get h with ⟨d, _, z⟩ | ⟨_, z⟩
            · cases z
            · rw [List.getElem?_map] at z
              cases e : js[i - ds.length]? with
              | none => rw [e] at z; cases z
              | some j2 => rw [e] at z; exact capS_not.2 (Option.some.inj z)
        refine ⟨?_, fun i sv h => ?_, fun i j a ne hi => (noown i hi).elim, fun a o e _ _ => e, fun a o e => ⟨o, e⟩, fun P hP => tabOk_off cel (tabs P hP), codeG_off cel cdH1, fun _ h => nomatch h⟩
        · unfold startC NdefX.startF
          simp only [List.length_append, List.length_map, List.length_replicate, vl]
        · rcases startC_get h with ⟨d, hd, rfl⟩ | ⟨hi, z⟩
          · obtain ⟨y, hy, pd⟩ := (pdAll_off cel hds).get hd
            exact ⟨y, startF_arg hy, pd⟩
          · rw [List.getElem?_map] at z
            cases e : js[i - ds.length]? with
            | none => rw [e] at z; cases z
            | some j2 =>
              rw [e] at z
              have z : capS S j2 = some sv := Option.some.inj z
              have fin : ∀ {y : V}, σ[j2]? = some (some y) → SvR X.K F' i (offH C H1) y sv → ∃ y, (NdefX.startF N vs (js.map (NdefX.slotAt σ)))[i]? = some (some y) ∧ SvR X.K F' i (offH C H1) y sv := fun {y} hy hs =>
                ⟨y, startF_cap (by omega) (by rw [List.getElem?_map, show i - vs.length = i - ds.length by omega, e]; exact congrArg some (NdefX.slotAt_of hy)), hs⟩
              unfold capS at z
              split at z
              · rename_i d2 hd; cases z
                obtain ⟨y, hy, pd⟩ := r.slot j2 _ hd
                exact fin hy (Pd.mono p0i pd)
              · rename_i ob hd; cases z
                obtain ⟨y, hy, a, rfl, qo, _⟩ := r.slot j2 _ hd
                obtain ⟨u2, hu2, mu2, _⟩ := qo.there
                obtain ⟨o2, hA⟩ := L.objs j2 a u2 hy hu2 mu2
                refine fin hy ⟨a, rfl, ?_⟩
                rw [hw] at qo
                exact ro_of hA p0i (by rw [offH_out (fun ⟨o3, _, n⟩ => by rw [hu2] at n; cases n)]; exact h1at a o2 hA) qo
              · rename_i ob hd; cases z
                obtain ⟨y, hy, a, rfl, qo, _⟩ := r.slot j2 _ hd
                obtain ⟨u2, hu2, mu2, _⟩ := qo.there
                obtain ⟨o2, hA⟩ := L.objs j2 a u2 hy hu2 mu2
                refine fin hy ⟨a, rfl, ?_⟩
                rw [hw] at qo
                exact ro_of hA p0i (by rw [offH_out (fun ⟨o3, _, n⟩ => by rw [hu2] at n; cases n)]; exact h1at a o2 hA) qo
              · rename_i ob hd; cases z
                obtain ⟨y, hy, a, rfl, qo⟩ := r.slot j2 _ hd
                rw [hw] at qo
                exact fin hy ⟨a, rfl, qo.mono p0i⟩
              · rename_i k3 g3 hd; cases z
                obtain ⟨y, hy, cg⟩ := r.slot j2 _ hd
                have cg : F.cl.clo H y k3 g3 := cg
                rw [hclo] at cg
                exact fin hy (show CloOk X.prog X.w X.K X.mg X.base F.tabs (offH C H1) y k3 g3 from (cloX X.prog X.w X.K X.mg X.base F.tabs [] []).cloM p0i cg)
              · cases z
      -- its end
      have done : ∀ {σ' : Sl} {E1 : XK} {s2 : Shared} {y : V} {u2 : Value} {H2 : Hp}, Inv (ncxC CX0 X.prog X.w X.K X.mg X.base N (cloNF t q cl1 c) f A1 outer s1 (offH C H1) E1) [] σ' H2 s2 → L2.RelV y u2 → Q0 y H2 → CE outer X.prog X.w H1 s1 Q u2 s2 := by
        intro σ' E1 s2 y u2 H2 J ry ⟨S', σ2, p2, r2, pd⟩
        have jb : Un (frs outer) [] (offH C H1) H2 s1.heap s2.heap := J.base
        have cin : ∀ b, C b → ∃ o, s1.heap.get? b = some o ∧ H1 b = some (.frz o (.ext fun _ => True)) := fun b ⟨o, q, n⟩ => by
          have z := h1at b o q
          rw [n] at z
          exact ⟨o, (e0.hok b _ z).1, z⟩
        have none2 : ∀ b, C b → H2 b = none := fun b cb => by
          obtain ⟨o, g, _⟩ := cin b cb
          exact jb.free b o g (offH_in cb) (by simp)
        have off2 : ∀ {b u}, H2 b = some u → ¬ C b := fun {b u} e cb => by rw [none2 b cb] at e; cases e
        have offn : ∀ {b}, H1 b = none → ¬ C b := fun {b} e cb => by
          obtain ⟨o, _, z⟩ := cin b cb
          rw [e] at z; cases z
        have pon := pers_on (H1 := H1) none2
        have kp : ∀ a o, H1 a = some o → isTbl o = false → onH C H1 H2 a = some o := fun a o e nt => by
          by_cases ca : C a
          · rw [onH_in ca]; exact e
          · rw [onH_out ca]; exact r2.keep a o (show offH C H1 a = some o by rw [offH_out ca]; exact e) (by simp [F']) nt
        refine ⟨y, onH C H1 H2, J.os, J.bare, ⟨fun b o g n hb hx => jb.keep b o g (by rw [offH_out (offn n)]; exact n) hb hx, fun b o g n hb hx => jb.slot b o g (by rw [offH_out (offn n)]; exact n) hb hx, fun b o g n hx => by rw [onH_out (offn n)]; exact jb.free b o g (by rw [offH_out (offn n)]; exact n) hx, jb.there,
          fun b xs e => kp b _ e rfl, fun b o u e => kp b _ e rfl, fun b ps e => ?_⟩, fun b u e => ?_, ry, hQ y _ ⟨fun b xs e => kp b _ e rfl, fun b o u e => kp b _ e rfl, fun b qt => ?_⟩ kp (fun a o e => ?_) (fun P hP => ?_) (pd.mono pon)⟩
        · have cb := cel.off e fun _ _ z => nomatch z
          obtain ⟨m, z⟩ := jb.tbls b ps (by rw [offH_out cb]; exact e)
          exact ⟨m, by rw [onH_out cb]; exact z⟩
        · by_cases cb : C b
          · rw [onH_in cb] at e
            obtain ⟨o, g, z⟩ := cin b cb
            rw [z] at e; cases e
            have nf : b ∉ frs outer := fun hb => by
              have := e0.frf b hb
              rw [z] at this; cases this
            have g2 := jb.keep b o g (offH_in cb) nf (by simp)
            exact ⟨g2, trivial, ⟨o, g2⟩, fun _ _ _ _ => trivial⟩
          · rw [onH_out cb] at e
            exact (J.hok b u e).stay (fun c v _ q => q) (fun c q => by rw [onH_out (off2 q)]; exact q) fun c xs q => by rw [onH_out (off2 q)]; exact q
        · obtain ⟨ps, e, t'⟩ := qt
          have cb := cel.off e fun _ _ z => nomatch z
          obtain ⟨ps', e', t''⟩ := p2.tbl b ⟨ps, by rw [offH_out cb]; exact e, t'⟩
          exact ⟨ps', by rw [onH_out cb]; exact e', t''⟩
        · by_cases ca : C a
          · exact ⟨o, by rw [onH_in ca]; exact e⟩
          · obtain ⟨u3, e3⟩ := r2.there a o (show offH C H1 a = some o by rw [offH_out ca]; exact e)
            exact ⟨u3, by rw [onH_out ca]; exact e3⟩
        · exact (r2.tabs P hP).later pon fun b ps e => by rw [onH_out (off2 e)]; exact e
      have hrd : rdG X.K F' PR fe (NdefX.startF N vs (js.map (NdefX.slotAt σ))) (offH C H1) Q0 := ⟨_, hrel, by rw [hfe]; exact fun y H2 p2 r2 v2 => ⟨_, _, p2, r2, v2⟩⟩
      have kp1 : ∀ {h₁ : Heap}, Heap.SameBut s1.heap.objs.size (s1.heap.push { cls := .type "frame", data := .dict #[] }) h₁ → ∀ b o, s1.heap.get? b = some o → h₁.get? b = some o := fun hsb b o e => hsb.extBut b o (Nat.ne_of_lt (Heap.lt_size e)) (Heap.get?_push_of_some _ e)
      have hcrec : s1.heap.CodeRec (.ref c) q := ⟨c, oc, vc, tk, rfl, hoc, hc4, hc5⟩
      unfold BodyOk at hb
      cases hbd : t.body with
      | expr e =>
        rw [hbd] at hb
        have hbd' : (fnG t qual (cloFrom X.env.cells t.scope.names []) pm (.ref c) ct doc).body = .expr e := hbd
        refine callq_expr hr.rm.depth hof rfl Sc.co Sc.gen hbd' hcrec ?_
        rw [hbind _ _ _ _ _ _ us (by rw [← rv.length]; exact hvl)]
        refine wpAny_pure (newFunctionEnvN Sc.kind hkind fun env he s1' x => ?_)
        subst he
        refine ⟨lim.keeps x.toInCall.keep, ?_⟩
        have I2 := inv_startNC (CX := CX0) (F := cloNF t q cl1 c) (f := f) (E := fun _ _ _ => False) Sc hr.rm.hd e0i hvl rv C1 rfl rfl x
        refine PySem.W.kla_codeExpr (wpAny_mono ((PE.nox (hb A1 outer s1 (offH C H1) (fun _ _ _ => False) f q cl1 c (offH C H1) [] (fun _ _ _ => False) (hr.deeper _))).run [] _ _ _ Q0 I2 hrd) (fun v s' hq => ?_) fun e' s' hq => hq)
        obtain ⟨y, H2, J, ry, q0⟩ := hq
        exact done J ry q0
      | stmts b =>
        rw [hbd] at hb
        obtain ⟨fb, efb, hb⟩ := hb
        have hbd' : (fnG t qual (cloFrom X.env.cells t.scope.names []) pm (.ref c) ct doc).body = .stmts b := hbd
        refine callq_stmts hr.rm.depth hof rfl Sc.co Sc.gen hbd' hcrec ?_
        rw [hbind _ _ _ _ _ _ us (by rw [← rv.length]; exact hvl)]
        refine wpAny_pure (newFunctionEnvN Sc.kind hkind fun env he s1' x => ?_)
        subst he
        refine ⟨lim.keeps x.toInCall.keep, ?_⟩
        have I2 := inv_startNC (CX := CX0) (F := cloNF t q cl1 c) (f := f) (E := fun _ _ _ => False) Sc hr.rm.hd e0i hvl rv C1 rfl rfl x
        have body_ := PSs.nox (hb A1 outer s1 (offH C H1) (fun _ _ _ => False) f q cl1 c (offH C H1) [] (fun _ _ _ => False) (hr.deeper _))
        have hrs : rdS X.K F' fb { nx := fun _ H' => Q0 .non H', rt := Q0 } (NdefX.startF N vs (js.map (NdefX.slotAt σ))) (offH C H1) := by
          refine ⟨_, hrel, ?_⟩
          subst efb
          unfold retD at hfe
          cases efb : fb (startC N.length ds (js.map (capS S))) with
          | rt v S3 =>
            rw [efb] at hfe
            cases v with
            | d d3 => cases hfe; exact fun x σ3 H3 p3 r3 v3 => ⟨_, _, p3, r3, v3⟩
            | own o => cases hfe
            | pin o => cases hfe
            | x o => cases hfe
          | nx S3 => rw [efb] at hfe; cases hfe; exact fun σ3 H3 p3 r3 => ⟨_, _, p3, r3, .non⟩
          | bk S3 => rw [efb] at hfe; cases hfe
          | ct S3 => rw [efb] at hfe; cases hfe
          | exn e3 S3 => rw [efb] at hfe; cases hfe
          | bad => rw [efb] at hfe; cases hfe
        refine codeAny_func ?_
        refine wpAny_mono (body_.run [] _ _ _ _ I2 hrs) (fun fl s' hq => ?_) fun _ _ hq => hq
        cases fl with
        | next => obtain ⟨σ2, H2, J, z⟩ := hq; exact done (y := .non) (u2 := .none) J rfl z
        | ret u => obtain ⟨v, σ2, H2, J, rr, z⟩ := hq; exact done J rr z
        | brk => obtain ⟨_, _, _, z⟩ := hq; exact z.elim
        | cont => obtain ⟨_, _, _, z⟩ := hq; exact z.elim
  next => cases hg
end Fz
end

section
set_option Elab.async false
set_option linter.all false
set_option maxRecDepth 100000
set_option maxHeartbeats 4000000
/-! F74: a def within a def; the call of a function of a slot; generator expressions within functions that a frame makes. -/
namespace Fz
open PySem PySem.Spec PyProof.Rows L2
/-- a slot is stored with what no one owns -/
theorem Rel.setX {K : Fg} {F : Fx} {S : FS} {σ : Sl} {H : Hp} (r : Rel K F S σ H) {i : Nat} {x : V} {e : SX} (v : SxR K F H x e) : Rel K F (S.set i (some (.x e))) (σ.set i (some x)) H := by
  have e0 : ∀ j, j ≠ i → (S.set i (some (.x e)))[j]? = S[j]? := fun j h => List.getElem?_set_ne (Ne.symm h)
  have e1 : ∀ j, j ≠ i → (σ.set i (some x))[j]? = σ[j]? := fun j h => List.getElem?_set_ne (Ne.symm h)
  have own : ∀ j, Owned (S.set i (some (.x e))) j → j ≠ i ∧ Owned S j := fun j ⟨ob, h⟩ => by
    by_cases hj : j = i
    · subst hj
      by_cases hl : j < S.length
      · rw [List.getElem?_set_self hl] at h
        rcases h with h | h <;> cases h
      · have q : (S.set j (some (.x e)))[j]? = none := List.getElem?_eq_none (by rw [List.length_set]; omega)
        rw [q] at h
        rcases h with h | h <;> cases h
    · rw [e0 j hj] at h; exact ⟨hj, ob, h⟩
  refine ⟨by rw [List.length_set, List.length_set]; exact r.len, fun j sv e2 => ?_, fun j k a ne hj hk => ?_, r.keep, r.there, r.tabs, r.self, fun p hp => ⟨(r.held p hp).1, (r.held p hp).2.1, fun j hj => by
    obtain ⟨nj, oj⟩ := own j hj
    rw [e1 j nj]
    exact (r.held p hp).2.2 j oj⟩⟩
  · by_cases hj : j = i
    · subst hj
      have hl : j < S.length := by
        have := List.getElem?_eq_some_iff.mp e2
        obtain ⟨h, _⟩ := this
        rw [List.length_set] at h; exact h
      rw [List.getElem?_set_self hl] at e2
      cases e2
      exact ⟨x, List.getElem?_set_self (by rw [← r.len]; exact hl), v⟩
    · rw [e0 j hj] at e2
      rw [e1 j hj]
      exact r.slot j sv e2
  · obtain ⟨nj, oj⟩ := own j hj
    obtain ⟨nk, ok⟩ := own k hk
    rw [e1 j nj, e1 k nk]
    exact r.apart j k a ne oj ok
/-- def f(..): .. -/
def fDef (i j : Nat) : FS → SRes := fun S => .nx (S.set i (some (.x (.loc j))))
section
variable {X : Cx} {F : Fx}
theorem s_def {name : Str} {params : Arguments} {body : List Stmt} {scope : Scope} {pos : Pos} {i j : Nat} {nfs : List FnT} {c P : Addr} (TB : GxR.TabB X.base X.mg c P) (hcode : X.env.code = .ref c) (hP : P ∈ F.tabs)
    (hfree : ∀ y ∈ scope.names, y.2 = .free → X.env.scope.names.lookup y.1 = some .cell ∨ X.env.scope.names.lookup y.1 = some .free) (hj : nfs[j]? = some ⟨name, params, .stmts body, scope⟩)
    (hN : X.N.Nodup) (hi : X.N[i]? = some name) (hx : Loc X.env.scope name) (hf : X.fn name = true ∨ X.env.scope.names.lookup name = some .local)
    (hloc : F.cl.loc = LocOk X.env.cells nfs := by rfl) (hd0 : params.defaults = [] := by rfl) (hk0 : params.kw_defaults = [] := by rfl) (ha : annTrees params none X.env = [] := by rfl) :
    ES X F (.FunctionDef name params body [] none [] scope none name pos) (fDef i j) := by
  refine ⟨fun pins s σ H D I ⟨S, r, p⟩ => ?_⟩
  have hq : qualnameIn X.env name name = X.env.qual ++ name := by
    have hk : X.env.kindOf name = some .local ∨ X.env.kindOf name = some .cell := hx
    unfold qualnameIn
    rcases hk with k | k <;> rw [k] <;> first | rfl | exact if_neg (by decide)
  refine PySem.W.nestDef_K hd0 hk0 ha ?_
  rw [hq]
  have hfr : ∀ y ∈ scope.names, y.2 = .free → ∃ c, X.env.cells.lookup y.1 = some c := fun y hy e => (hfree y hy e).elim (fun z => I.ok.has _ (.inl z)) fun z => I.ok.has _ (.inr z)
  refine mk_fn (t := ⟨name, params, .stmts body, scope⟩) TB hcode hP I r hfr fun f H1 s1 I1 r1 p1 m n => ?_
  refine store_ok I1 hN hi hx (v := .ref f) rfl (fun s'' J => ⟨_, _, J, p _ _ p1 (r1.setX (e := .loc j) ?_)⟩) hf
  show F.cl.loc H1 (.ref f) j
  rw [hloc]; exact ⟨_, hj, m⟩
/-- f(..), f a name that holds a function -/
def fCallL (kmax i : Nat) (f : FS → Res (List D)) : FS → Res D := fun S => match S[i]? with
  | some (some (.x (.fn _ _))) => bnd f (fun ds S => match S[i]? with
    | some (some (.x (.fn k g))) => if k ≤ kmax then (match g ds with
      | some d => .ok d S
      | none => .bad) else .bad
    | _ => .bad) S
  | _ => .bad
theorem e_callL {i j kmax : Nat} {x : Str} {e : Expr} {es : List Expr} {p pos : Pos} {f : FS → Res (List D)} (hr : RoomG j X.A) (hk : kmax ≤ j) (ho : PE X (.Name x p) (tVar i)) (ha : EA X F (e :: es) f)
    (hclo : F.cl.clo = CloOk X.prog X.w X.K X.mg X.base F.tabs := by rfl)
    (he : starEach (e :: es) X.env = (false, eval e X.env) :: starEach es X.env := by rfl) (hpl : (backTo pos (starEach es X.env)).any (·.1) = false := by rfl) :
    ED X F (.Call (.Name x p) (e :: es) [] pos) (fCallL kmax i f) := by
  refine ⟨fun pins s σ H Q I ⟨S, r, q⟩ => ?_⟩
  unfold fCallL at q
  split at q
  · rename_i k0 g0 hs0
    obtain ⟨y, ey, cy⟩ := r.slot i _ hs0
    have cy : F.cl.clo H y k0 g0 := cy
    rw [hclo] at cy
    obtain ⟨fa, oc, od, fd, sl, u0, rfl, hf0, _⟩ := cy
    refine wpAny_Call_Name_kw (thn (ho.run pins s σ H (fun v H1 => v = .ref fa ∧ H1 = H) I ⟨.ref fa, ey, rfl, rfl⟩) fun u s1 ⟨v, H1, I1, r1, q1⟩ => ?_)
    obtain ⟨ev, eH⟩ := q1
    subst ev
    rw [eH] at I1
    obtain rfl : u = Value.ref fa := r1
    have fnat : ∀ {H' : Hp} {s' : Shared} {σ' : Sl} {pins'}, Inv X pins' σ' H' s' → Pers H H' → PySem.W.FnAt fa s'.heap := fun I' p' => ⟨oc, od, fd, sl, (I'.hok fa _ (p'.frz _ _ _ hf0)).1⟩
    refine PySem.W.callWith_F (first := []) (fnat I1 (.refl H)) (thn (ha.run pos pins s1 σ H _ I1 (rdG.bind (R' := PR) ⟨S, r, q⟩)) fun us s2 ⟨vs, H2, I2, rv, ds, S2, r2, v2, p2, q2⟩ => ⟨fnat I2 p2, ?_⟩) he hpl
    show wpAny _ _ (call (.ref fa) us) _ _ _
    split at q2
    · rename_i k g hs2
      obtain ⟨y2, ey2, cy2⟩ := r2.slot i _ hs2
      rw [ey] at ey2; cases ey2
      have cy2 : F.cl.clo H2 (.ref fa) k g := cy2
      rw [hclo] at cy2
      obtain ⟨fa2, _, _, _, _, _, e2, _, go⟩ := cy2
      cases e2
      by_cases hkk : k ≤ kmax
      · rw [if_pos hkk] at q2
        cases hg : g ds with
        | none => rw [hg] at q2; exact q2.elim
        | some d =>
          rw [hg] at q2
          refine wpAny_call (codeAny_mono (go H2 (.refl H2) X.A X.stack s2 us vs ds d (fun y H3 => Q y H3) (fun _ _ _ => False) (hr.mono (Nat.le_trans hkk hk)) I2.env0 r2.tabs rv v2 hg fun y H3 p3 kp th tb pd => ?_) fun rr s' z => ?_)
          · exact q2 y H3 p3 (r2.stay p3 kp th tb) pd
          · cases rr with
            | error e3 => exact z.elim
            | ok fl =>
              cases fl with
              | ret u => exact I2.after z
              | next => exact z.elim
              | brk => exact z.elim
              | cont => exact z.elim
      · rw [if_neg hkk] at q2; exact q2.elim
    · exact q2.elim
  · exact q.elim
end
/-! ### readings -/
section
variable {S : FS} {f : FS → Res D} {Q : D → FS → Prop} {QA : List AC → FS → Prop} {N B C : FS → Prop} {R : SV → FS → Prop}
@[simp] theorem wS_fDef {i j : Nat} : wS (fDef i j S) N R B C = N (S.set i (some (.x (.loc j)))) := rfl
@[simp] theorem wE_fCD {g : FS → Res (List AC)} : wE (fCD f g S) QA = wE (f S) fun d S1 => wE (g S1) fun as S2 => QA (.d d :: as) S2 := by
  unfold fCD; rw [wE_bnd]; congr; funext d S1; rw [wE_bnd]; rfl
@[simp] theorem wE_fCM {j : Nat} {g : FS → Res (List AC)} : wE (fCM j g S) QA = wE (g S) fun as S2 => QA (.l j :: as) S2 := by
  unfold fCM; rw [wE_bnd]; rfl
def fnAC : Option (Option SV) → Option AC
  | some (some (.x (.fn k h))) => some (.p k h)
  | some (some (.x (.loc j))) => some (.l j)
  | _ => none
@[simp] theorem fnAC_fn {k : Nat} {h : FnD} : fnAC (some (some (.x (.fn k h)))) = some (.p k h) := rfl
@[simp] theorem fnAC_loc {j : Nat} : fnAC (some (some (.x (.loc j)))) = some (.l j) := rfl
@[simp] theorem wE_fCS {i : Nat} {g : FS → Res (List AC)} : wE (fCS i g S) QA = wO (fnAC S[i]?) fun a => wE (g S) fun as S2 => QA (a :: as) S2 := by
  unfold fCS fnAC
  split <;> simp_all [wE_bnd]
def isFn : Option (Option SV) → Prop
  | some (some (.x (.fn _ _))) => True
  | _ => False
@[simp] theorem isFn_fn {k : Nat} {g : FnD} : isFn (some (some (.x (.fn k g)))) = True := rfl
def wFn : Option (Option SV) → (Nat → FnD → Prop) → Prop
  | some (some (.x (.fn k g))), q => q k g
  | _, _ => False
@[simp] theorem wFn_fn {k : Nat} {g : FnD} {q : Nat → FnD → Prop} : wFn (some (some (.x (.fn k g)))) q = q k g := rfl
@[simp] theorem wE_fCallL {kmax i : Nat} {g : FS → Res (List D)} : wE (fCallL kmax i g S) Q = (isFn S[i]? ∧ wE (g S) fun ds S1 => wFn S1[i]? fun k h => k ≤ kmax ∧ wO (h ds) fun d => Q d S1) := by
  unfold fCallL isFn
  split
  · rw [wE_bnd]
    simp only [true_and]
    congr; funext ds S1
    generalize S1[i]? = o
    match o with
    | none => rfl
    | some none => rfl
    | some (some (.d _)) => rfl
    | some (some (.own _)) => rfl
    | some (some (.pin _)) => rfl
    | some (some (.x (.ro _))) => rfl
    | some (some (.x (.loc _))) => rfl
    | some (some (.x (.fn k h))) =>
      simp only [wFn_fn]
      by_cases hk : k ≤ kmax
      · rw [if_pos hk]
        cases e : h ds <;> simp [hk]
      · rw [if_neg hk]; simp [hk]
  · simp
theorem wE_fCallC {den : Den} {n : Nat} {cl : Nat → FS → Option (Nat × FnD)} {g : FS → Res (List AC)} : wE (fCallC den n cl g S) Q = wE (g S) fun as S1 => as.length = n ∧ wO (resolveC cl S1 as) fun svs => wC (den svs) fun ret _ => ∃ d, ret = .d d ∧ noL d = true ∧ Q d S1 := by
  unfold fCallC
  rw [wE_bnd]
  congr; funext as S1
  by_cases hn : as.length = n
  · rw [if_pos hn]
    unfold callC
    cases e1 : resolveC cl S1 as with
    | none => simp [hn]
    | some svs =>
      cases e2 : den svs with
      | bad => simp [hn, e2, wC]
      | exn e3 l => simp [hn, e2, wC]
      | ok ret l =>
        cases ret with
        | d d =>
          by_cases nd : noL d = true
          · simp [hn, e2, wC, nd]
          · simp [hn, e2, wC, nd]
        | own o => simp [hn, e2, wC]
        | pin o => simp [hn, e2, wC]
        | x o => simp [hn, e2, wC]
  · rw [if_neg hn]; simp [hn]
end
end Fz
end

section
set_option Elab.async false
set_option linter.all false
set_option maxRecDepth 100000
set_option maxHeartbeats 4000000
/-! F75: d.setdefault(k, x), xs.pop(), xs.pop(i); where functions stand in a text. -/
namespace Fz
open PySem PySem.Spec PyProof.Rows L2
section
variable {X : Cx} {pins : List (Addr × Obj)} {σ : L2.St} {H : Hp} {s : Shared} {a : Addr} {kvs : List (D × D)} {k v : D} {y z : V} {u r : Value} {A : Around} {E : Value → Shared → Prop}
theorem dr_setd {d : D} {Q : Value → Shared → Prop} (hu : A.units + 70 < cLine) (I : Inv X pins σ H s) (g : DicR X.K X.w H a kvs) (ok : kOk kvs k = true) (hl : kvs.length < sizeLine) (pk : Pd X.K H y k) (ry : RelV y u) (pz : Pd X.K H z d) (rz : RelV z r)
    (h1 : ∀ x v w' s', dAt kvs k = some v → Inv X pins σ H s' → Pd X.K H x v → RelV x w' → Q w' s')
    (h2 : dAt kvs k = none → ∀ ob w' s', Mut (H a) → Inv X pins σ (upd H a ob) s' → DicR X.K X.w (upd H a ob) a (dPut kvs k d) → RelV z w' → Q w' s') : wpAny (model X.prog X.w) A (call (.builtin "dict.setdefault") [.ref a, u, r]) Q E s := by
  rcases dic_cases (fun u h => Rd.of h) I g ok pk ry with ⟨raw, j, e, f, hj, rfl⟩ | ⟨xs, j, b, dd, f, zl, hd, ⟨u0, eu, mu0⟩, hj, rfl, rfl, hkey⟩
  · have mu : Mut (H a) := by rw [show H a = some (.dK raw) from e]; trivial
    refine d_setd I e ry rz (by rw [paired_len f]; exact hl) (fun v hv w' s' I' rw' => ?_) fun hn w' s' I' rw' => ?_
    · rcases f2_at hj f with ⟨q1, q2⟩ | ⟨d2, x, q1, q2, q3⟩
      · rw [q2] at hv; cases hv
      · rw [q2] at hv
        obtain rfl : x = v := Option.some.inj hv
        exact h1 x d2 w' s' q1 I' q3 rw'
    · rcases f2_at hj f with ⟨q1, q2⟩ | ⟨d2, x, q1, q2, q3⟩
      · exact h2 q1 _ w' s' mu I' (.inl ⟨_, upd_same, Paired.mapP (f2_put hj pz f) fun _ _ z => ⟨z.1, z.2.mono (Pers.put (.inl mu))⟩⟩) rw'
      · rw [q2] at hn; cases hn
  · have mu : Mut (H a) := by rw [show H a = some u0 from eu]; exact mu0
    refine call_setdefault_heap (hsz := zl) (by show _ + 8 < _; simp only [Around.in1]; omega) hkey hd dd (fun p hp => ?_) fun hn h' dd' hs => ?_
    · rcases e3_at hj f with ⟨q1, q2⟩ | ⟨d2, p2, x, q1, q2, q3, q4⟩
      · rw [q2] at hp; cases hp
      · rw [q2] at hp; cases hp; exact h1 x d2 _ _ q1 (I.tok _) q3 q4
    · have q1 : dAt kvs k = none := by
        rcases e3_at hj f with ⟨q1, q2⟩ | ⟨d2, p2, x, q1, q2, q3, q4⟩
        · exact q1
        · rw [q2] at hn; cases hn
      have f' : Paired (E3 X.K H) (dPut kvs k d) (storedH xs j b r) := e3_put hj pk pz rz f
      obtain ⟨raw, r1, r2⟩ := e3_split f'
      obtain ⟨o, es, ep, g1, g2, g3, g4, _, g5⟩ := dd'
      have hz : raw.length ≤ sizeLine := by
        have := dPut_length kvs k d
        rw [paired_len r1]; omega
      have new : DicP X.w a raw h' := ⟨hz, hd, storedH xs j b r, r2, o, es, ep, g1, g2, g3, g4, g5⟩
      refine h2 q1 (DicT X.w a raw) _ _ mu (d_write I mu hs ⟨o, g1⟩ (DicT.ok new)) (.inr ⟨raw, dPut_ne kvs k d, upd_same, ?_⟩) rz
      exact Paired.mapP r1 fun _ _ z => ⟨z.1, z.2.1.mono (Pers.put (.inl mu)), z.2.2.mono (Pers.put (.inl mu))⟩
end
def wDicC {α : Type} (i : Nat) (k : List (D × D) → FS → Res α) : FS → Res α := fun S => match dicAt S i with
  | some kvs => k kvs S
  | none => .bad
/-- d.setdefault(k, x) -/
def fDSetd (i : Nat) (fk fx : FS → Res D) : FS → Res D := wDicC i fun _ => bnd fk fun k => bnd fx fun x => wDicC i fun kvs S => match kOk kvs k, decide (kvs.length < sizeLine) with
  | true, true => (match dAt kvs k with
    | some v => .ok v S
    | none => .ok x (setOb S i (.dic (dPut kvs k x))))
  | _, _ => .bad
section
variable {X : Cx} {F : Fx} {o e ke : Expr} {i : Nat} {pos apos cpos p1 : Pos} {f fe fk fx : FS → Res D}
theorem e_dsetd (hu : X.A.units + 70 < cLine) (ho : PE X o (tVar i)) (hk : ED X F ke fk) (hx : ED X F e fx) (m : M2 X o "setdefault" apos ke e cpos) (hw : F.w = X.w := by rfl) : ED X F (.Call (.Attribute o "setdefault" apos) [ke, e] [] cpos) (fDSetd i fk fx) := by
  refine ⟨fun pins s σ H Q I ⟨S, r, p⟩ => ?_⟩
  unfold fDSetd wDicC at p
  cases e0 : dicAt S i with
  | none => rw [e0] at p; exact p.elim
  | some kvs0 =>
  rw [e0] at p
  simp only at p
  obtain ⟨a, ea, g0, _⟩ := r.dic e0
  rw [hw] at g0
  refine wpAny_Call_method m.base m.few m.line PySem.F.plainAttrs_dict PySem.F.slot_dict_setdefault PySem.F.type_dict_setdefault (thn (ho.run pins s σ H (fun x H' => x = .ref a ∧ H' = H) I ⟨_, ea, rfl, rfl⟩) fun u s1 ⟨x, H1, I1, rx, ex, eH⟩ => ?_)
  subst ex eH
  obtain rfl : u = Value.ref a := rx
  obtain ⟨_, _, ob, es, ep, h1, h2, _⟩ := dic_raw (T := fun u => H1 a = some u) (fun _ h => .inl h) I1 g0
  refine ⟨⟨ob, h1, h2.1⟩, fun b q => by cases q; exact ⟨ob, h1, h2.2.1⟩, ?_⟩
  rw [m.trees]
  refine Calls.callWith_builtin rfl (Calls.evalArgs_plain (Calls.spliced_cons (thn (hk.run pins s1 σ H1 _ I1 (rdG.bind (R' := PR) ⟨S, r, p⟩)) fun iv s2 ⟨y, H2, I2, ry, k, S2, r2, v2, p2, q2⟩ => ?_)))
  refine Calls.spliced_cons (thn (hx.run pins s2 σ H2 _ I2 (rdG.bind (R' := PR) ⟨S2, r2, q2⟩)) fun fv s3 ⟨z, H3, I3, rz, x, S3, r3, v3, p3, q3⟩ => Calls.spliced_nil ?_)
  cases e3 : dicAt S3 i with
  | none => rw [e3] at q3; exact q3.elim
  | some kvs =>
  rw [e3] at q3
  simp only at q3
  obtain ⟨a2, ea2, g, put⟩ := r3.dic e3
  rw [ea] at ea2; cases ea2
  rw [hw] at g put
  cases ok : kOk kvs k with
  | false => rw [ok] at q3; exact q3.elim
  | true =>
    cases hl : decide (kvs.length < sizeLine) with
    | false => rw [ok, hl] at q3; exact q3.elim
    | true =>
      rw [ok, hl] at q3
      refine dr_setd hu I3 g ok (of_decide_eq_true hl) (Pd.mono p3 v2) ry v3 rz (fun w v w' s4 hv I4 pw rw' => ?_) fun hn ob w' s4 mu I4 g4 rw' => ?_
      · rw [hv] at q3; exact ⟨w, H3, I4, rw', q3.ok r3 pw⟩
      · rw [hn] at q3
        obtain ⟨r4, p4⟩ := put ob _ mu g4
        exact ⟨z, _, I4, rw', q3 z _ p4 r4 (Pd.mono p4 v3)⟩
end
/-! ### readings -/
section
variable {S : FS} {fk fx : FS → Res D} {Q : D → FS → Prop} {i : Nat}
theorem wE_wDicC {α : Type} {k : List (D × D) → FS → Res α} {Q : α → FS → Prop} : wE (wDicC i k S) Q = wO (dcO S[i]?) fun kvs => wE (k kvs S) Q := by
  unfold wDicC
  rw [dicAt_eq]
  cases dcO S[i]? <;> rfl
def wSetd (o : Option D) (x : D) (Q1 : D → Prop) (Q2 : Prop) : Prop := match o with
  | some v => Q1 v
  | none => Q2
@[simp] theorem wSetd_some {v x : D} {Q1 : D → Prop} {Q2 : Prop} : wSetd (some v) x Q1 Q2 = Q1 v := rfl
@[simp] theorem wSetd_none {x : D} {Q1 : D → Prop} {Q2 : Prop} : wSetd none x Q1 Q2 = Q2 := rfl
@[simp] theorem wE_fDSetd : wE (fDSetd i fk fx S) Q = wO (dcO S[i]?) fun _ => wE (fk S) fun k S1 => wE (fx S1) fun x S2 => wO (dcO S2[i]?) fun kvs => kOk kvs k = true ∧ kvs.length < sizeLine ∧ wSetd (dAt kvs k) x (fun v => Q v S2) (Q x (S2.set i (some (mkO S2[i]? (.dic (dPut kvs k x)))))) := by
  unfold fDSetd
  rw [wE_wDicC]
  congr 1; funext kvs0
  rw [wE_bnd]
  congr 1; funext k S1
  rw [wE_bnd]
  congr 1; funext x S2
  rw [wE_wDicC]
  congr 1; funext kvs
  rw [← setOb_eq]
  by_cases h : kvs.length < sizeLine
  · cases kOk kvs k <;> cases dAt kvs k <;> simp [h]
  · cases kOk kvs k <;> simp [h]
end
/-! ### where functions stand in a text -/
def lamT (e : Expr) : FnT := match e with
  | .Lambda p b sc _ => ⟨"<lambda>", p, .expr b, sc⟩
  | _ => ⟨"", ⟨[], [], none, [], [], none, []⟩, .stmts [], ⟨.function, [], false, false, []⟩⟩
def ndT (st : Stmt) : FnT := match st with
  | .FunctionDef n p b _ _ _ sc _ _ _ => ⟨n, p, .stmts b, sc⟩
  | _ => ⟨"", ⟨[], [], none, [], [], none, []⟩, .stmts [], ⟨.function, [], false, false, []⟩⟩
abbrev pos0 : Pos := ⟨0, 0, 0, 0⟩
/-- the expression of a statement -/
def stE (st : Stmt) : Expr := match st with
  | .Return (some e) _ => e
  | .Assign _ e _ => e
  | .AugAssign _ _ e _ => e
  | .Expr e _ => e
  | .For _ e _ _ _ => e
  | .While e _ _ _ => e
  | .If e _ _ _ => e
  | _ => .Name "" pos0
/-- the i-th part of an expression; the i-th keyword's value -/
def exA (e : Expr) (i : Nat) : Expr := (match e with
  | .Call _ as _ _ => as
  | .Tuple as _ _ => as
  | .List as _ => as
  | .BoolOp _ as _ => as
  | .Compare a _ bs _ => a :: bs
  | .BinOp a _ b _ => [a, b]
  | .Subscript a b _ => [a, b]
  | .UnaryOp _ a _ => [a]
  | .IfExp a b c _ => [a, b, c]
  | _ => []).getD i (.Name "" pos0)
end Fz
end

section
set_option Elab.async false
set_option linter.all false
set_option maxRecDepth 100000
set_option maxHeartbeats 4000000
/-! F76: the functions of a frame, told one by one. -/
namespace Fz
open PySem PySem.Spec PyProof.Rows L2
theorem bodyOk_e {P : Program} {w : World} {K : Fg} {mg : Str → Option Value} {base : Heap} {T : List Addr} {N : List Str} {t : FnT} {k : Nat} {fe : FS → Res D} {e : Expr} (he : t.body = .expr e)
    (h : ∀ (A : Around) (outer : List Env) (s : Shared) (H : Hp) (E1 : XK) (f : Addr) (qual : Str) (cl : List (Str × Addr)) (c : Addr) (H0 : Hp) (pins : List (Nat × Addr)) (E : XK), RoomG k (A.deeper (NdefX.envF (cloNF t qual cl c) f s.heap.objs.size)) → ED (cloC P w K mg base N t qual cl c f A outer s H E1) ⟨H0, pins, T, [], E, w, cloI P w K mg base T c⟩ e fe) : BodyOk P w K mg base T N t k fe := by
  unfold BodyOk; rw [he]; exact h
theorem bodyOk_s {P : Program} {w : World} {K : Fg} {mg : Str → Option Value} {base : Heap} {T : List Addr} {N : List Str} {t : FnT} {k : Nat} {fb : FS → SRes} {b : List Stmt} (he : t.body = .stmts b)
    (h : ∀ (A : Around) (outer : List Env) (s : Shared) (H : Hp) (E1 : XK) (f : Addr) (qual : Str) (cl : List (Str × Addr)) (c : Addr) (H0 : Hp) (pins : List (Nat × Addr)) (E : XK), RoomG k (A.deeper (NdefX.envF (cloNF t qual cl c) f s.heap.objs.size)) → EB (cloC P w K mg base N t qual cl c f A outer s H E1) ⟨H0, pins, T, [], E, w, cloI P w K mg base T c⟩ b fb) : BodyOk P w K mg base T N t k (retD fb) := by
  unfold BodyOk; rw [he]; exact ⟨fb, rfl, h⟩
/-- a function's answers, in the frame that makes it -/
def cloAt (k n np : Nat) (fe : FS → Res D) (js : List Nat) : FS → Option (Nat × FnD) := fun S => some (k, cloG n np fe (js.map (capS S)))
def clAt (cls : List (FS → Option (Nat × FnD))) (j : Nat) : FS → Option (Nat × FnD) := fun S => match cls[j]? with
  | some c => c S
  | none => none
def Specs (X : Cx) (F : Fx) (n : Nat) (cls : List (FS → Option (Nat × FnD))) : Prop := ∀ j c, cls[j]? = some c → CloSpec X F (n + j) c
section
variable {X : Cx} {F : Fx}
theorem specs_nil {n : Nat} : Specs X F n [] := fun j c e => by simp at e
theorem specs_cons {n : Nat} {c : FS → Option (Nat × FnD)} {cls : List (FS → Option (Nat × FnD))} (h : CloSpec X F n c) (t : Specs X F (n + 1) cls) : Specs X F n (c :: cls) := fun j c' e => by
  cases j with
  | zero => simp at e; subst e; exact h
  | succ j =>
    have z : CloSpec X F (n + 1 + j) c' := t j c' (by simpa using e)
    rw [show n + (j + 1) = n + 1 + j by omega]
    exact @z
theorem clAt_ok {cls : List (FS → Option (Nat × FnD))} (h : Specs X F 0 cls) : ∀ j, CloSpec X F j (clAt cls j) := fun j => by
  intro pins σ H s S A x k g I r hl L e
  unfold clAt at e
  cases ej : cls[j]? with
  | none => rw [ej] at e; cases e
  | some c =>
    rw [ej] at e
    have z : CloSpec X F (0 + j) c := h j c ej
    rw [Nat.zero_add] at z
    exact z I r hl L e
end
@[simp] theorem resolveC_nil {cl : Nat → FS → Option (Nat × FnD)} {S : FS} : resolveC cl S [] = some [] := rfl
@[simp] theorem resolveC_d {cl : Nat → FS → Option (Nat × FnD)} {S : FS} {d : D} {r : List AC} : resolveC cl S (.d d :: r) = (resolveC cl S r).map (.d d :: ·) := rfl
@[simp] theorem resolveC_p {cl : Nat → FS → Option (Nat × FnD)} {S : FS} {k : Nat} {g : FnD} {r : List AC} : resolveC cl S (.p k g :: r) = (resolveC cl S r).map (.x (.fn k g) :: ·) := rfl
theorem resolveC_l {cls : List (FS → Option (Nat × FnD))} {S : FS} {j : Nat} {r : List AC} {k n np : Nat} {fe : FS → Res D} {js : List Nat} (h : cls[j]? = some (cloAt k n np fe js)) : resolveC (clAt cls) S (.l j :: r) = (resolveC (clAt cls) S r).map (.x (.fn k (cloG n np fe (js.map (capS S)))) :: ·) := by
  simp only [resolveC]
  have e : clAt cls j S = some (k, cloG n np fe (js.map (capS S))) := by unfold clAt; rw [h]; rfl
  rw [e]
/-- what a function answers, by its body's reading -/
theorem cloG_w {n np : Nat} {fe : FS → Res D} {cs : List (Option SV)} {ds : List D} {P : D → Prop} (hl : ds.length = np) (h : wE (fe (startC n ds cs)) fun d _ => P d) : wO (cloG n np fe cs ds) P := by
  unfold cloG
  rw [if_pos hl]
  cases e : fe (startC n ds cs) with
  | ok d S => rw [e] at h; exact h
  | exn e2 S => rw [e] at h; exact h.elim
  | bad => rw [e] at h; exact h.elim
@[simp] theorem wE_retD {fb : FS → SRes} {S : FS} {Q : D → FS → Prop} : wE (retD fb S) Q = wS (fb S) (fun S => Q .none S) (fun v S => ∃ d, v = .d d ∧ Q d S) (fun _ => False) (fun _ => False) := by
  unfold retD
  cases fb S with
  | rt v S1 =>
    cases v with
    | d d => simp
    | own o => simp
    | pin o => simp
    | x o => simp
  | nx S1 => rfl
  | bk S1 => rfl
  | ct S1 => rfl
  | exn e S1 => rfl
  | bad => rfl
end Fz
end

section
set_option Elab.async false
set_option linter.all false
set_option maxRecDepth 100000
set_option maxHeartbeats 4000000
/-! F77: len(d). -/
namespace PySem
open PyProof.Rows PySem.Spec
section
variable {prog : Program} {w : World} {A : Around} {E : Value → Shared → Prop} {s : Shared} {d : Addr} {es : Array DictEntry} {ep : Nat}
theorem len_body_dictRaw {Q : Value → Shared → Prop} (hd : (d == sysModules) = false) (hm : s.heap.DictRaw d es ep) (hfit : (es.size : Int) < 2 ^ 63)
    (h : Q (.int es.size (s.toks + 1)) { s with toks := s.toks + 1 + 1 }) : wpAny (model prog w) A (Builtin.«len» ⟨[.ref d], []⟩) (fun fin s' => ∃ r, fin = .done (.ret r) ∧ Q r s') E s := by
  unfold Builtin.«len»
  refine wpAny_bind (m := oneArg "len" _) (wpAny_pure ?_)
  refine wpAny_bind (m := callSpecial? (.ref d) (Str.ofString "__len__")) (wpAny_callSpecial?_slot (name := Str.ofString "__len__") hm.typeIs F.slot_dict_len
    (call_meetsIn F.slot_dict_len hm.typeIs F.entry_dict_len (F.args_dict_len_1 _) (meets_dict_len_raw d hd) ⟨es, ep, hm, ?_⟩))
  show wpAny _ _ _ _ _ { s with toks := s.toks + 1 }
  refine wpAny_bind (wpAny_holding (wpAny_pure ?_))
  refine wpAny_bind (wpAny_letGo ?_)
  show wpAny _ _ (if ((es.size : Nat) : Int) < 0 then _ else _) _ _ _
  rw [if_neg (by omega)]
  show wpAny _ _ (if ((es.size : Nat) : Int) ≥ 2 ^ 63 then _ else _) _ _ _
  rw [if_neg (by omega)]
  exact wpAny_bind (wpAny_mkInt (wpAny_pure ⟨_, rfl, h⟩))
theorem call_len_dictRaw {Q : Value → Shared → Prop} (hd : (d == sysModules) = false) (hm : s.heap.DictRaw d es ep) (hfit : (es.size : Int) < 2 ^ 63)
    (h : Q (.int es.size (s.toks + 1)) { s with toks := s.toks + 1 + 1 }) : wpAny (model prog w) A (call (.builtin "len") [.ref d]) Q E s :=
  Calls.call_function_entry kind_len plain_len entry_len (args_len1 _) (len_body_dictRaw hd hm hfit h)
end
end PySem
namespace Fz
open PySem PySem.Spec PyProof.Rows L2
section
variable {X : Cx} {F : Fx}
def rLenDV (X : Cx) : List V → Hp → VK → Prop := fun vs H Q => ∃ (a : Addr) (kvs : List (D × D)), vs = [.ref a] ∧ DicV X.K X.w H a kvs ∧ Q (.int kvs.length) H
theorem cr_lenDV : CallR X (.builtin "len") (rLenDV X) := by
  intro pins s σ H vs us Q I r h
  obtain ⟨a, kvs, rfl, g, q⟩ := h
  obtain ⟨u, rfl, ru⟩ := vals1 r
  obtain rfl : u = Value.ref a := ru
  obtain ⟨hz, hd, o, es, ep, h1, h2, h3, h4⟩ := dic_raw (fun _ h => h) I g
  refine call_len_dictRaw hd ⟨o, h1, h2, h3⟩ (by rw [h4]; rw [sizeLine_eq] at hz; omega) ?_
  rw [h4]
  exact ⟨.int kvs.length, H, I.tok _, ⟨_, rfl⟩, q⟩
def fLenDic (i : Nat) : FS → Res D := wDic i fun kvs S => .ok (.int kvs.length) S
variable {o : Expr} {i : Nat} {pos p : Pos}
theorem e_lenDic (hg : Gl X "len") (hm : X.mg "len" = none) (ho : PE X o (tVar i)) (hw : F.w = X.w := by rfl)
    (he : starEach [o] X.env = (false, eval o X.env) :: starEach [] X.env := by rfl) : ED X F (.Call (.Name "len" p) [o] [] pos) (fLenDic i) :=
  (pe_callB cr_lenDV hg hm bt_len (pa_cons ho pa_nil he) (by decide) (by decide) he rfl).via fun σ H Q ⟨S, r, q⟩ => by
    obtain ⟨kvs, e, q⟩ := wDic_in q
    obtain ⟨a, ea, g⟩ := r.dicV e
    rw [hw] at g
    exact ⟨_, ea, a, kvs, rfl, g, q.ok r (Pd.int _)⟩
end
section
variable {S : FS} {Q : D → FS → Prop} {i : Nat}
@[simp] theorem wE_fLenDic : wE (fLenDic i S) Q = wO (dcR S[i]?) fun kvs => Q (.int kvs.length) S := by
  unfold fLenDic
  rw [wE_wDic]; rfl
end
end Fz
end

section
set_option Elab.async false
set_option linter.all false
set_option maxRecDepth 100000
set_option maxHeartbeats 4000000
/-! dens, new with k08 -/
namespace DL
open PySem L2 Fz
/-- slots: 0 k, 1 start, 2 follow, 3 is_end, 4 index, 5 order, 6 rows, 7 node, 8 row, 9 letter, 10 child -/
noncomputable def b_machine_from : FS → SRes :=
 fSeq (fPars [4, 5, 6] (fConsV (fDisp1 (fVar 1) (fC (.int 0))) (fConsV (fLst (fCons (fVar 1) (fC []))) (fConsV (fLst (fC [])) (fC [])))))
        (fSeq (whileF (fT (fOp pLt (fCall (one pLen) (fCons (fPeek 6) (fC []))) (fCall (one pLen) (fCons (fPeek 5) (fC []))))) (fSeq (fPars [7, 8] (fConsV (fV (fOpN pIx 5 (fCall (one pLen) (fCons (fPeek 6) (fC []))))) (fConsV (fLst (fC [])) (fC []))))
        (fSeq (fFor (fRange1 (fVar 0)) (gN 9) (fSeq (fSetD 10 (fCallL 12 2 (fCons (fVar 7) (fCons (fVar 9) (fC [])))))
        (fSeq (fIf (fT (fDIn false 4 (fVar 10))) (fSeq (fDPut 4 (fCall (one pLen) (fCons (fPeek 5) (fC []))) (fVar 10))
        (fAppend 5 (fVar 10))) (fun S => .nx S))
        (fAppend 8 (fDIx 4 (fVar 10))))))
        (fAppend 6 (fCall (one pTuple) (fCons (fPeek 8) (fC [])))))))
        (fRetD (fTup (fCons (fVar 0) (fCons (fCall (one pTuple) (fCons (fPeek 6) (fC []))) (fCons (fThawD 5 (fCall (one pTuple) (fCons (fFrz (fLc (fItems (fVar 5)) (gN 7) (fC true) (fCall (one pToInt) (fCons (fCallL 12 3 (fCons (fVar 7) (fC []))) (fC []))) [7])) (fC [])))) (fC [])))))))
@[irreducible] noncomputable def d_machine_from : Den := denOf 11 b_machine_from
/-- slots: 0 machine, 1 _, 2 rows, 3 ends, 4 sorts, 5 many, 6 names, 7 told, 8 state, 9 row, 10 child, 11 key -/
noncomputable def b_sorts_of : FS → SRes :=
 fSeq (fAsg (gTp 3 (gCs (gN 1) (gCs (gN 2) (gCs (gN 3) (gNl))))) (fVar 0))
        (fSeq (fPars [4, 5] (fConsV (fCall (one pList) (fCons (fPeek 3) (fC []))) (fConsV (fV (fLenSet (fPeek 3))) (fC []))))
        (whileF (fTru (fC (.bool true))) (fSeq (fSet 6 (fDNew))
        (fSeq (fSet 7 (fLc (fEnum (fVar 2)) (gTp 2 (gCs (gN 8) (gCs (gN 9) (gNl)))) (fC true) (fFrz (fOp pAdd (fTup (fCons (fOpN pIx 4 (fVar 8)) (fC []))) (fCall (one pTuple) (fCons (fFrz (fLc (fItems (fVar 9)) (gN 10) (fC true) (fOpN pIx 4 (fVar 10)) [10])) (fC []))))) [8, 9]))
        (fSeq (fSet 4 (fLc (fItems (fVar 7)) (gN 11) (fC true) (fDSetd 6 (fVar 11) (fLenDic 6)) [11]))
        (fSeq (fIf (fT (fOp pEq (fLenDic 6) (fPeek 5))) (fRetD (fVar 4)) (fun S => .nx S))
        (fSetD 5 (fLenDic 6))))))))
@[irreducible] noncomputable def d_sorts_of : Den := denOf 12 b_sorts_of
/-- slots: 0 machine, 1 k, 2 state, 3 sort, 4 follow, 5 ends, 6 first, 7 rows, 8 sorts -/
noncomputable def b_least_in : FS → SRes :=
 fSeq (fAsg (gTp 3 (gCs (gN 1) (gCs (gN 7) (gCs (gN 5) (gNl))))) (fVar 0))
        (fSeq (fSet 8 (fCallP d_sorts_of 1 (fAD (fVar 0) (fC []))))
        (fSeq (fSet 6 (fDNew))
        (fSeq (fFor (fEnum (fVar 8)) (gTp 2 (gCs (gN 2) (gCs (gN 3) (gNl)))) (fDrop (fDSetd 6 (fVar 3) (fVar 2))))
        (fSeq (fDef 4 0)
        (fRet (fV (fCallC d_machine_from 4 (clAt [cloAt 8 5 2 (retD (fRetD (fOpN pIx 4 (fOp pIx (fOpN pIx 3 (fDIx 2 (fVar 0))) (fVar 1))))) [6, 7, 8], cloAt 8 3 1 (fOp pEq (fOpN pIx 1 (fDIx 2 (fVar 0))) (fC (.int 1))) [5, 6]]) (fCD (fVar 1) (fCD (fOpN pIx 8 (fC (.int 0))) (fCS 4 (fCM 1 (fC []))))))))))))
@[irreducible] noncomputable def d_least_in : Den := denOf 9 b_least_in
/-- slots: 0 machine -/
noncomputable def b_least_machine : FS → SRes :=
 fSeq (fDrop (fCallP d_check_machine 1 (fAD (fVar 0) (fC []))))
        (fRet (fCallP d_least_in 1 (fAD (fVar 0) (fC []))))
@[irreducible] noncomputable def d_least_machine : Den := denOf 1 b_least_machine
/-- slots: 0 one, 1 other -/
noncomputable def b_check_two : FS → SRes :=
 fSeq (fDrop (fCallP d_check_machine 1 (fAD (fVar 0) (fC []))))
        (fSeq (fDrop (fCallP d_check_machine 1 (fAD (fVar 1) (fC []))))
        (fIf (fT (fOp pNe (fOpN pIx 0 (fC (.int 0))) (fOpN pIx 1 (fC (.int 0))))) (fun _ => .bad) (fun S => .nx S)))
@[irreducible] noncomputable def d_check_two : Den := denOf 2 b_check_two
/-- slots: 0 one, 1 other, 2 rule, 3 follow -/
noncomputable def b_paired : FS → SRes :=
 fSeq (fDef 3 0)
        (fRet (fV (fCallC d_machine_from 4 (clAt [cloAt 8 4 2 (retD (fRetD (fTup (fCons (fOp pIx (fOp pIx (fOpN pIx 2 (fC (.int 1))) (fOpN pIx 0 (fC (.int 0)))) (fVar 1)) (fCons (fOp pIx (fOp pIx (fOpN pIx 3 (fC (.int 1))) (fOpN pIx 0 (fC (.int 1)))) (fVar 1)) (fC [])))))) [0, 1], cloAt 12 4 1 (fCallL 8 3 (fCons (fOp pIx (fOpN pIx 1 (fC (.int 2))) (fOpN pIx 0 (fC (.int 0)))) (fCons (fOp pIx (fOpN pIx 2 (fC (.int 2))) (fOpN pIx 0 (fC (.int 1)))) (fC [])))) [0, 1, 2]]) (fCD (fOpN pIx 0 (fC (.int 0))) (fCD (fTup (fCons (fC (.int 0)) (fCons (fC (.int 0)) (fC [])))) (fCS 3 (fCM 1 (fC []))))))))
@[irreducible] noncomputable def d_paired : Den := denOf 4 b_paired
end DL
end

section
set_option Elab.async false
set_option linter.all false
set_option maxRecDepth 100000
set_option maxHeartbeats 4000000
/-! S34: machine_from, walked. -/
namespace DL
open PySem L2 Fz SrtO
theorem noLs_map {β : Type} {code : β → D} : ∀ {ord : List β}, (∀ x ∈ ord, noL (code x) = true) → noLs (ord.map code) = true
  | [], _ => rfl
  | x :: r, h => by
    simp only [List.map_cons, noLs, Bool.and_eq_true]
    exact ⟨h x (by simp), noLs_map fun y hy => h y (by simp [hy])⟩
theorem noLs_DK {β : Type} {code : β → D} : ∀ {ord : List β} {n : Nat}, (∀ x ∈ ord, noL (code x) = true) → noLOb (.dic (DK code ord n)) = true := fun {ord n} h => by
  have h2 : ∀ {ord : List β} {n : Nat}, noLs ((DK code ord n).map (·.2)) = true := fun {ord} => by
    induction ord with
    | nil => intro n; rfl
    | cons x r ih => intro n; simp only [DK, List.map_cons, noLs, Bool.and_eq_true]; exact ⟨rfl, ih⟩
  show (noLs ((DK code ord n).map (·.1)) && noLs ((DK code ord n).map (·.2))) = true
  rw [DK_keys, noLs_map h, h2]; rfl
theorem machine_from_w {β : Type} {U : List β} {code : β → D} (O : NodeOk U code) {k : Nat} {st : β} {δ : β → Nat → β} {fin : β → Bool} (hst : st ∈ U) (hU : ∀ x ∈ U, ∀ l, l < k → δ x l ∈ U) (hk1 : 1 ≤ k) (hk3 : k ≤ 3) (hn : U.length ≤ 3000) {kf ke : Nat} {gf ge : FnD} (h12 : kf ≤ 12) (h12' : ke ≤ 12)
    (hf : ∀ x ∈ U, ∀ l, l < k → gf [code x, .int (l : Int)] = some (code (δ x l))) (he : ∀ x ∈ U, ge [code x] = some (.bool (fin x))) {Q : SV → List SV → Prop}
    (h : ∀ M ord, BfsM k st δ fin M ord → (∀ x ∈ ord, x ∈ U) → Q (.d M.d) [.d (.int (k : Int)), .d (code st), .x (.fn kf gf), .x (.fn ke ge)]) : wC (d_machine_from [.d (.int (k : Int)), .d (code st), .x (.fn kf gf), .x (.fn ke ge)]) Q := by
  unfold d_machine_from
  rw [wC_denOf]
  simp [b_machine_from]
  have hol : ∀ ord : List β, (∀ x ∈ ord, x ∈ U) → ord.Nodup → ord.length ≤ 3000 := fun ord h nd => by have := nodup_len nd h; omega
  refine ⟨kOk_DK (ord := []) (n := 0) O (by simp) hst, ?_⟩
  refine wS_while (fun m S => ∃ (ord : List β) (rws : List (List Int)) (c7 c8 c9 c10 : Option SV), Bi k st δ ord rws [] ∧ (∀ x ∈ ord, x ∈ U) ∧ m = 3000 - rws.length ∧ noLSv c7 = true ∧ keepD c7 = c7 ∧ noLSv c8 = true ∧ noLSv c9 = true ∧ noLSv c10 = true ∧ S = [some (.d (.int (k : Int))), some (.d (code st)), some (.x (.fn kf gf)), some (.x (.fn ke ge)), some (.own (.dic (DK code ord 0))), some (.own (.lst (ord.map code))), some (.own (.lst (rws.map W))), c7, c8, c9, c10]) 3000 ⟨[st], [], none, none, none, none, Bi.start, by simpa using hst, rfl, rfl, rfl, rfl, rfl, rfl, rfl⟩ ?_
  rintro m S ⟨ord, rws, c7, c8, c9, c10, b, ho, rfl, n7, k7, n8, n9, n10, rfl⟩
  have hbig := hol ord ho b.nd
  simp
  refine ⟨fun hlt => ?_, fun hge => ?_⟩
  · obtain ⟨x, hx⟩ : ∃ x, ord[rws.length]? = some x := ⟨_, List.getElem?_eq_getElem hlt⟩
    have hxU := ho x (List.mem_of_getElem? hx)
    simp [hx]
    refine ⟨by omega, ?_⟩
    refine wS_forF (fun i S => ∃ (ord : List β) (row : List Int) (c9 c10 : Option SV), Bi k st δ ord rws row ∧ (∀ x ∈ ord, x ∈ U) ∧ ord[rws.length]? = some x ∧ row.length = i ∧ i ≤ k ∧ noLSv c9 = true ∧ noLSv c10 = true ∧ S = [some (.d (.int (k : Int))), some (.d (code st)), some (.x (.fn kf gf)), some (.x (.fn ke ge)), some (.own (.dic (DK code ord 0))), some (.own (.lst (ord.map code))), some (.own (.lst (rws.map W))), some (.d (code x)), some (.own (.lst (row.map .int))), c9, c10]) ⟨ord, [], _, _, b, ho, hx, rfl, Nat.zero_le _, n9, n10, rfl⟩ ?_ ?_
    · rintro i d S hd ⟨ord, row, c9, c10, b, ho, hx, rfl, hi, n9, n10, rfl⟩
      have hbig := hol ord ho b.nd
      obtain ⟨hik, rfl⟩ := rngD_get hd
      have hc := hU x hxU row.length hik
      have hfc := hf x hxU row.length hik
      have hkk := kOk_DK (n := 0) O ho hc
      simp [hfc, hkk, h12]
      have hlt2 : rws.length < ord.length := (List.getElem?_eq_some_iff.mp hx).1
      by_cases hm : δ x row.length ∈ ord
      · obtain ⟨j, hj⟩ := List.getElem?_of_mem hm
        have ea := dAt_DK (n := 0) O b.nd ho hj
        have eh : dHas (DK code ord 0) (code (δ x row.length)) = true := by unfold dHas; rw [ea]; rfl
        rw [eh, ea]
        simp
        refine ⟨szS (by omega), ord, row ++ [(j : Int)], Bi.old b hik hx hj, ho, hx, by simp, by omega, some (.d _), rfl, some (.d _), rfl, rfl, rfl, by simp, rfl, rfl⟩
      · have ea := dAt_DK_none (n := 0) O ho hc hm
        have eh : dHas (DK code ord 0) (code (δ x row.length)) = false := by unfold dHas; rw [ea]; rfl
        have b2 := Bi.new b hik hx hm
        have ho2 : ∀ z ∈ ord ++ [δ x row.length], z ∈ U := fun z hz => by
          rcases List.mem_append.mp hz with hz | hz
          · exact ho z hz
          · rw [List.mem_singleton.mp hz]; exact hc
        have ea2 := dAt_DK (n := 0) O (ord := ord ++ [δ x row.length]) (j := ord.length) (y := δ x row.length) b2.nd ho2 (by simp)
        rw [eh, dPut_DK O ho hc hm, ea2]
        simp [DK_len, kOk_DK O ho2 hc]
        refine ⟨szS (by omega), szS (by omega), ord ++ [δ x row.length], row ++ [(ord.length : Int)], b2, ho2, get_app hx, by simp, by omega, some (.d _), rfl, some (.d _), rfl, rfl, by simp, by simp, rfl, rfl⟩
    · rintro S ⟨ord, row, c9, c10, b, ho, hx, hr, hi, n9, n10, rfl⟩
      simp
      have hbig := hol ord ho b.nd
      have hlt2 : rws.length < ord.length := (List.getElem?_eq_some_iff.mp hx).1
      exact ⟨szS (by omega), 3000 - (rws.length + 1), by omega, ord, rws ++ [row], Bi.next b (by simpa using hr) hlt2, ho, by simp, some (.d (code x)), rfl, rfl, some (.own (.lst (row.map .int))), noLs_ints row, _, n9, _, n10, by simp⟩
  · have n0 : noLs (ord.map code) = true := noLs_map fun x hx => O.nol x (ho x hx)
    refine thaw_w (ds := ord.map code) rfl ?_ ?_
    · have q4 : noLSv (some (.own (.dic (DK code ord 0)))) = true := noLs_DK fun x hx => O.nol x (ho x hx)
      have q5 : noLSv (some (.own (.lst (ord.map code)))) = true := n0
      have q6 : noLSv (some (.own (.lst (rws.map W)))) = true := noLs_LW
      simp [noLS, q4, q5, q6, n7, n8, n9, n10]
      exact ⟨rfl, rfl, rfl, rfl⟩
    simp
    refine lc_w (fun _ => true) (fun x => PyData.int (if fin x then 1 else 0)) (fun S => S = [some (.d (.int (k : Int))), some (.d (code st)), some (.x (.fn kf gf)), some (.x (.fn ke ge)), some (.own (.dic (DK code ord 0))), some (.d (.list (ord.map code))), some (.own (.lst (rws.map W))), c7, c8, c9, c10]) rfl (by omega) ?_ ?_
    · rintro x hx S rfl
      simp [he x (ho x hx), h12', k7]
    · rintro S rfl
      simp
      refine ⟨noLs_map fun _ _ => rfl, ?_⟩
      have := h _ ord (b.done (fin := fin) (by omega)) ho
      simp only [Mc.d, W] at this
      rw [List.map_map] at this
      exact this
end DL
end

section
set_option Elab.async false
set_option linter.all false
set_option maxRecDepth 100000
set_option maxHeartbeats 4000000
/-! M12: states sorted by what they take. -/
namespace DL
open PySem L2 Fz SrtO
theorem ddD_ints : ∀ ns : List Int, ∃ vs : List Int, ddD (ns.map .int) = vs.map .int ∧ vs.Nodup ∧ ∀ v, v ∈ ns ↔ v ∈ vs
  | [] => ⟨[], rfl, by simp, by simp⟩
  | n :: ns => by
    obtain ⟨vs, h1, h2, h3⟩ := ddD_ints ns
    have e : ((ns.map PyData.int).any fun e => decide (nk e = nk (.int n))) = decide (n ∈ ns) := by
      rw [Bool.eq_iff_iff, List.any_eq_true, decide_eq_true_eq]
      constructor
      · rintro ⟨d, hd, he⟩
        obtain ⟨x, hx, rfl⟩ := List.mem_map.mp hd
        have : x = n := by simpa [nk] using he
        rw [← this]; exact hx
      · intro h
        exact ⟨_, List.mem_map.mpr ⟨n, h, rfl⟩, by simp⟩
    rw [List.map_cons, ddD, e]
    by_cases hn : n ∈ ns
    · refine ⟨vs, by simp [hn, h1], h2, fun v => ?_⟩
      rw [← h3]
      simp only [List.mem_cons]
      exact ⟨fun z => z.elim (fun z => z ▸ hn) id, .inr⟩
    · refine ⟨n :: vs, by simp [hn, h1], List.nodup_cons.mpr ⟨fun z => hn ((h3 n).mpr z), h2⟩, fun v => ?_⟩
      simp only [List.mem_cons, h3]
theorem nodup_of_len {α : Type} [DecidableEq α] : ∀ {m l : List α}, l.Nodup → (∀ x ∈ l, x ∈ m) → m.length ≤ l.length → m.Nodup
  | [], _, _, _, _ => List.nodup_nil
  | a :: m, l, nd, h, hl => by
    have ha : a ∉ m := fun z => by
      have h2 : ∀ x ∈ l, x ∈ m := fun x hx => by
        rcases List.mem_cons.mp (h x hx) with rfl | q
        · exact z
        · exact q
      have := nodup_len nd h2
      simp at hl; omega
    refine List.nodup_cons.mpr ⟨ha, ?_⟩
    refine nodup_of_len (l := l.erase a) (nd.erase a) (fun x hx => ?_) ?_
    · have h1 := List.mem_of_mem_erase hx
      rcases List.mem_cons.mp (h x h1) with rfl | q
      · exact (((List.Nodup.mem_erase_iff nd).mp hx).1 rfl).elim
      · exact q
    · have : (l.erase a).length ≥ l.length - 1 := by
        rw [List.length_erase]; split <;> omega
      simp at hl; omega
def keyM (M : Mc) (c : List Int) (s : Nat) : List Int := (c[s]?).getD 0 :: ((M.rows[s]?).getD []).map fun z => (c[z.toNat]?).getD 0
structure Sr (M : Mc) (c : List Int) (many : Nat) : Prop where
  len : c.length = M.rows.length
  lo : ∀ s t, s < M.rows.length → t < M.rows.length → lng M s = lng M t → c[s]? = c[t]?
  hi : ∀ s t, s < M.rows.length → t < M.rows.length → c[s]? = c[t]? → M.fin s = M.fin t
  vs : ∃ vs : List Int, vs.Nodup ∧ vs.length = many ∧ ∀ v, v ∈ c ↔ v ∈ vs
/-- numbers of keys -/
structure Nm (keys : List (List Int)) (i : Nat) (ks : List (List Int)) (cs : List Int) : Prop where
  len : cs.length = i
  nd : ks.Nodup
  at_ : ∀ (s : Nat) (key : List Int), s < i → keys[s]? = some key → ∃ j : Nat, cs[s]? = some (j : Int) ∧ ks[j]? = some key
  of_ : ∀ key ∈ ks, ∃ s, s < i ∧ keys[s]? = some key
theorem Nm.start {keys : List (List Int)} : Nm keys 0 [] [] := ⟨rfl, by simp, fun s key h => by omega, fun key h => by simp at h⟩
theorem Nm.old {keys ks : List (List Int)} {i : Nat} {cs : List Int} (b : Nm keys i ks cs) {key : List Int} (hk : keys[i]? = some key) {j : Nat} (hj : ks[j]? = some key) : Nm keys (i + 1) ks (cs ++ [(j : Int)]) := by
  refine ⟨by simp [b.len], b.nd, fun s key2 hs hk2 => ?_, fun key2 h => ?_⟩
  · by_cases e : s = i
    · subst e
      rw [hk] at hk2; cases hk2
      exact ⟨j, by rw [← b.len]; simp, hj⟩
    · obtain ⟨j2, h1, h2⟩ := b.at_ s key2 (by omega) hk2
      exact ⟨j2, get_app h1, h2⟩
  · obtain ⟨s, h1, h2⟩ := b.of_ key2 h
    exact ⟨s, by omega, h2⟩
theorem Nm.new {keys ks : List (List Int)} {i : Nat} {cs : List Int} (b : Nm keys i ks cs) {key : List Int} (hk : keys[i]? = some key) (hn : key ∉ ks) : Nm keys (i + 1) (ks ++ [key]) (cs ++ [(ks.length : Int)]) := by
  refine ⟨by simp [b.len], ?_, fun s key2 hs hk2 => ?_, fun key2 h => ?_⟩
  · refine List.nodup_append.mpr ⟨b.nd, by simp, fun a ha c hc e => ?_⟩
    rw [List.mem_singleton.mp hc] at e
    rw [e] at ha; exact hn ha
  · by_cases e : s = i
    · subst e
      rw [hk] at hk2; cases hk2
      exact ⟨ks.length, by rw [← b.len]; simp, by simp⟩
    · obtain ⟨j2, h1, h2⟩ := b.at_ s key2 (by omega) hk2
      exact ⟨j2, get_app h1, get_app h2⟩
  · rcases List.mem_append.mp h with h | h
    · obtain ⟨s, h1, h2⟩ := b.of_ key2 h
      exact ⟨s, by omega, h2⟩
    · rw [List.mem_singleton.mp h]
      exact ⟨i, by omega, hk⟩
section
variable {M : Mc} {c cs : List Int} {many : Nat} {keys ks : List (List Int)}
theorem keyM_head {s : Nat} : (keyM M c s).head? = some ((c[s]?).getD 0) := rfl
theorem keyM_nx (ok : M.Ok) {s l : Nat} (hs : s < M.rows.length) (hl : l < M.k) : (keyM M c s)[l + 1]? = some ((c[M.nx s l]?).getD 0) := by
  obtain ⟨r, h1, h2, h3⟩ := Mc.cell_at ok hs (l := (l : Int)) (by omega) (by omega)
  rw [Fz.atI_nat] at h2
  unfold keyM
  rw [h1]
  simp [h2]
theorem opt_of_getD {l : List Int} {a b : Nat} (ha : a < l.length) (hb : b < l.length) (h : (l[a]?).getD 0 = (l[b]?).getD 0) : l[a]? = l[b]? := by
  rw [List.getElem?_eq_getElem ha, List.getElem?_eq_getElem hb] at h ⊢
  simpa using h
theorem keyM_eq (ok : M.Ok) (S : Sr M c many) {s t : Nat} (hs : s < M.rows.length) (ht : t < M.rows.length) : keyM M c s = keyM M c t ↔ c[s]? = c[t]? ∧ ∀ l, l < M.k → c[M.nx s l]? = c[M.nx t l]? := by
  have bs := S.len
  constructor
  · intro h
    refine ⟨?_, fun l hl => ?_⟩
    · have := congrArg List.head? h
      rw [keyM_head, keyM_head] at this
      exact opt_of_getD (by omega) (by omega) (Option.some.inj this)
    · have := congrArg (fun k => k[l + 1]?) h
      simp only [keyM_nx ok hs hl, keyM_nx ok ht hl] at this
      obtain ⟨_, _, _, h3⟩ := Mc.cell_at ok hs (l := (l : Int)) (by omega) (by omega)
      obtain ⟨_, _, _, h4⟩ := Mc.cell_at ok ht (l := (l : Int)) (by omega) (by omega)
      exact opt_of_getD (by omega) (by omega) (Option.some.inj this)
  · rintro ⟨h1, h2⟩
    refine List.ext_getElem? fun i => ?_
    cases i with
    | zero => show some ((c[s]?).getD 0) = some ((c[t]?).getD 0); rw [h1]
    | succ l =>
      by_cases hl : l < M.k
      · rw [keyM_nx ok hs hl, keyM_nx ok ht hl, h2 l hl]
      · obtain ⟨r, e1, e2, _⟩ := Mc.row_at ok hs
        obtain ⟨r', e1', e2', _⟩ := Mc.row_at ok ht
        unfold keyM
        rw [e1, e1', List.getElem?_eq_none (by simp; omega), List.getElem?_eq_none (by simp; omega)]
theorem lng_nx {s t l : Nat} (hl : l < M.k) (h : lng M s = lng M t) : lng M (M.nx s l) = lng M (M.nx t l) := by
  rw [← lng_res hl, ← lng_res hl, h]
theorem lng_fin_eq (ok : M.Ok) {s t : Nat} (hs : s < M.rows.length) (ht : t < M.rows.length) (h : lng M s = lng M t) : M.fin s = M.fin t := by
  have := congrArg finL h
  rw [lng_fin, lng_fin] at this
  obtain ⟨_, a1, a2⟩ := Mc.fin_at ok hs
  obtain ⟨_, b1, b2⟩ := Mc.fin_at ok ht
  by_cases e : M.fin s = 1
  · have : M.fin t = 1 := by simpa [e] using this
    omega
  · have : ¬ M.fin t = 1 := by simpa [e] using this
    omega
theorem Sr.start (ok : M.Ok) : Sr M M.ends (ddD (M.ends.map .int)).length := by
  have hfin : ∀ s, s < M.rows.length → M.ends[s]? = some (M.fin s) := fun s hs => (Mc.fin_at ok hs).1
  refine ⟨ok.en, fun s t hs ht h => ?_, fun s t hs ht h => ?_, ?_⟩
  · rw [hfin s hs, hfin t ht, lng_fin_eq ok hs ht h]
  · rw [hfin s hs, hfin t ht] at h
    exact Option.some.inj h
  · obtain ⟨vs, h1, h2, h3⟩ := ddD_ints M.ends
    exact ⟨vs, h2, by rw [h1, List.length_map], h3⟩
theorem keyM_at (hk : keys = (List.range M.rows.length).map (keyM M c)) {s : Nat} (hs : s < M.rows.length) : keys[s]? = some (keyM M c s) := by
  subst hk; simp [hs]
theorem Nm.same (S : Sr M c many) (hk : keys = (List.range M.rows.length).map (keyM M c)) (b : Nm keys M.rows.length ks cs) {s t : Nat} (hs : s < M.rows.length) (ht : t < M.rows.length) : cs[s]? = cs[t]? ↔ keyM M c s = keyM M c t := by
  obtain ⟨j, h1, h2⟩ := b.at_ s _ hs (keyM_at hk hs)
  obtain ⟨j', h1', h2'⟩ := b.at_ t _ ht (keyM_at hk ht)
  constructor
  · intro h
    rw [h1, h1'] at h
    have : j = j' := by have := Option.some.inj h; omega
    subst this
    rw [h2] at h2'
    exact Option.some.inj h2'
  · intro h
    rw [h] at h2
    rw [h1, h1', nodup_ix_eq b.nd h2 h2']
theorem Nm.heads (S : Sr M c many) (hk : keys = (List.range M.rows.length).map (keyM M c)) (b : Nm keys M.rows.length ks cs) {vs : List Int} (hv : ∀ v, v ∈ c ↔ v ∈ vs) : ∀ v ∈ vs, v ∈ ks.map fun k => k.head?.getD 0 := fun v hm => by
  obtain ⟨s, hs⟩ := List.getElem?_of_mem ((hv v).mpr hm)
  have hl := (List.getElem?_eq_some_iff.mp hs).1
  rw [S.len] at hl
  obtain ⟨j, _, h2⟩ := b.at_ s _ hl (keyM_at hk hl)
  refine List.mem_map.mpr ⟨_, List.mem_of_getElem? h2, ?_⟩
  rw [keyM_head, hs]; rfl
theorem Nm.more (S : Sr M c many) (hk : keys = (List.range M.rows.length).map (keyM M c)) (b : Nm keys M.rows.length ks cs) : many ≤ ks.length := by
  obtain ⟨vs, h1, h2, h3⟩ := S.vs
  have := nodup_len h1 (Nm.heads S hk b h3)
  simpa [h2] using this
theorem Nm.le (hk : keys = (List.range M.rows.length).map (keyM M c)) (b : Nm keys M.rows.length ks cs) : ks.length ≤ M.rows.length := by
  have := nodup_len (m := keys) b.nd fun k h => by
    obtain ⟨s, _, e⟩ := b.of_ k h
    exact List.mem_of_getElem? e
  rw [hk] at this
  simpa using this
theorem Sr.next (ok : M.Ok) (S : Sr M c many) (hk : keys = (List.range M.rows.length).map (keyM M c)) (b : Nm keys M.rows.length ks cs) : Sr M cs ks.length := by
  refine ⟨b.len, fun s t hs ht h => ?_, fun s t hs ht h => ?_, (List.range ks.length).map (fun i : Nat => (i : Int)), ?_, by simp, fun v => ?_⟩
  · rw [Nm.same S hk b hs ht, keyM_eq ok S hs ht]
    refine ⟨S.lo s t hs ht h, fun l hl => ?_⟩
    obtain ⟨_, _, _, h3⟩ := Mc.cell_at ok hs (l := (l : Int)) (by omega) (by omega)
    obtain ⟨_, _, _, h4⟩ := Mc.cell_at ok ht (l := (l : Int)) (by omega) (by omega)
    exact S.lo _ _ h3 h4 (lng_nx hl h)
  · rw [Nm.same S hk b hs ht, keyM_eq ok S hs ht] at h
    exact S.hi s t hs ht h.1
  · rw [List.nodup_iff_pairwise_ne, List.pairwise_map]
    have := List.nodup_range (n := ks.length)
    rw [List.nodup_iff_pairwise_ne] at this
    exact this.imp fun n e => n (by omega)
  · simp only [List.mem_map, List.mem_range]
    constructor
    · intro h
      obtain ⟨s, hs⟩ := List.getElem?_of_mem h
      have hl := (List.getElem?_eq_some_iff.mp hs).1
      rw [b.len] at hl
      obtain ⟨j, h1, h2⟩ := b.at_ s _ hl (keyM_at hk hl)
      rw [hs] at h1; cases h1
      exact ⟨j, (List.getElem?_eq_some_iff.mp h2).1, rfl⟩
    · rintro ⟨j, hj, rfl⟩
      have e : ks[j]? = some ks[j] := List.getElem?_eq_getElem hj
      obtain ⟨s, h1, h2⟩ := b.of_ _ (List.mem_of_getElem? e)
      obtain ⟨j', h3, h4⟩ := b.at_ s _ h1 h2
      rw [nodup_ix_eq b.nd e h4]
      exact List.mem_of_getElem? h3
/-- the states' sorts -/
structure Srt (M : Mc) (c : List Int) : Prop where
  len : c.length = M.rows.length
  eq : ∀ s t, s < M.rows.length → t < M.rows.length → (c[s]? = c[t]? ↔ lng M s = lng M t)
theorem Sr.done (ok : M.Ok) (S : Sr M c many) (hk : keys = (List.range M.rows.length).map (keyM M c)) (b : Nm keys M.rows.length ks cs) (he : ks.length = many) : Srt M cs := by
  obtain ⟨vs, h1, h2, h3⟩ := S.vs
  have nd := nodup_of_len h1 (Nm.heads S hk b h3) (by rw [List.length_map, he, h2]; exact Nat.le_refl _)
  have same : ∀ s t, s < M.rows.length → t < M.rows.length → c[s]? = c[t]? → keyM M c s = keyM M c t := fun s t hs ht h => by
    obtain ⟨j, _, e1⟩ := b.at_ s _ hs (keyM_at hk hs)
    obtain ⟨j', _, e2⟩ := b.at_ t _ ht (keyM_at hk ht)
    have f1 : (ks.map fun k => k.head?.getD 0)[j]? = some ((c[s]?).getD 0) := by rw [List.getElem?_map, e1]; rfl
    have f2 : (ks.map fun k => k.head?.getD 0)[j']? = some ((c[s]?).getD 0) := by rw [List.getElem?_map, e2, h]; rfl
    rw [nodup_ix_eq nd f1 f2, e2] at e1
    exact (Option.some.inj e1).symm
  have stay : ∀ (w : List Int) (s t : Nat), IsW M.k w → s < M.rows.length → t < M.rows.length → c[s]? = c[t]? → M.fin (M.run s w) = M.fin (M.run t w) := by
    intro w
    induction w with
    | nil => intro s t _ hs ht h; exact S.hi s t hs ht h
    | cons l w ih =>
      intro s t hw hs ht h
      have hl := hw l (by simp)
      obtain ⟨_, _, _, g1⟩ := Mc.cell_at ok hs hl.1 hl.2
      obtain ⟨_, _, _, g2⟩ := Mc.cell_at ok ht hl.1 hl.2
      refine ih _ _ (fun x hx => hw x (by simp [hx])) g1 g2 ?_
      have := ((keyM_eq ok S hs ht).mp (same s t hs ht h)).2 l.toNat (by omega)
      have e : ((l.toNat : Nat) : Int) = l := by omega
      rw [e] at this
      exact this
  have N := Sr.next ok S hk b
  refine ⟨N.len, fun s t hs ht => ⟨fun h => ?_, N.lo s t hs ht⟩⟩
  rw [Nm.same S hk b hs ht, keyM_eq ok S hs ht] at h
  funext w
  unfold lng
  by_cases hw : IsW M.k w
  · simp only [hw, true_and, stay w s t hw hs ht h.1]
  · simp only [hw, false_and]
end
end DL
end

section
set_option Elab.async false
set_option linter.all false
set_option maxRecDepth 100000
set_option maxHeartbeats 4000000
/-! S35: sorts_of, walked. -/
namespace DL
open PySem L2 Fz SrtO
theorem nodeW {U : List (List Int)} : NodeOk U W := ⟨.inr fun x _ => by simp, fun x _ y _ h => nkW_iff.mp h, fun x _ => by simp⟩
theorem sorts_of_w {M : Mc} (ok : M.Ok) {Q : SV → List SV → Prop} (h : ∀ c, Srt M c → Q (.d (.list (c.map .int))) [.d M.d]) : wC (d_sorts_of [.d M.d]) Q := by
  have n40 := ok.n40
  have hen := ok.en
  unfold d_sorts_of
  rw [wC_denOf]
  simp [b_sorts_of]
  have hd : M.d = .tuple [.int (M.k : Int), .tuple (M.rows.map W), W M.ends] := rfl
  simp [hd]
  have e1 : seqD (W M.ends) = some (M.ends.map .int) := rfl
  rw [e1]
  simp
  refine ⟨.inl ⟨⟨_, rfl⟩, by simp; omega⟩, ?_⟩
  rw [← hd]
  generalize hm0 : (ddD (M.ends.map PyData.int)).length = m0
  have S0 := Sr.start ok
  rw [hm0] at S0
  refine wS_while (fun m S => ∃ (c : List Int) (many : Nat) (c6 c7 c8 c9 c10 c11 : Option SV), Sr M c many ∧ m = M.rows.length + 1 - many ∧ S = [some (.d M.d), some (.d (.int (M.k : Int))), some (.d (.tuple (M.rows.map W))), some (.d (W M.ends)), some (.own (.lst (c.map .int))), some (.d (.int (many : Int))), c6, c7, c8, c9, c10, c11]) (M.rows.length + 1 - m0) ⟨M.ends, m0, _, _, _, _, _, _, S0, rfl, rfl⟩ ?_
  rintro m S ⟨c, many, c6, c7, c8, c9, c10, c11, S1, rfl, rfl⟩
  simp
  refine wE_lcF (fun i acc S => ∃ (c8 c9 c10 : Option SV), acc = ((List.range i).map (keyM M c)).map W ∧ S = [some (.d M.d), some (.d (.int (M.k : Int))), some (.d (.tuple (M.rows.map W))), some (.d (W M.ends)), some (.own (.lst (c.map .int))), some (.d (.int (many : Int))), some (.own (.dic [])), c7, c8, c9, c10, c11]) ⟨_, _, _, rfl, rfl⟩ ?_ ?_
  · rintro i d acc S hd2 ⟨c8, c9, c10, rfl, rfl⟩
    obtain ⟨y, rfl, hy⟩ := enumD_get hd2
    rw [List.getElem?_map] at hy
    obtain ⟨r, hr, rfl⟩ := Option.map_eq_some_iff.mp hy
    have hi := (List.getElem?_eq_some_iff.mp hr).1
    obtain ⟨r2, q1, hrl, hrw⟩ := Mc.row_at ok hi
    rw [hr] at q1; cases q1
    have hci : c[i]? = some ((c[i]?).getD 0) := by
      have : i < c.length := by rw [S1.len]; exact hi
      rw [List.getElem?_eq_getElem this]; rfl
    have eW : W r = .tuple (r.map .int) := rfl
    rw [eW]
    simp
    rw [hci]
    simp
    refine lc_w (fun _ => true) (fun z : Int => PyData.int ((c[z.toNat]?).getD 0)) (fun S => ∃ (c10 : Option SV), S = [some (.d M.d), some (.d (.int (M.k : Int))), some (.d (.tuple (M.rows.map W))), some (.d (W M.ends)), some (.own (.lst (c.map .int))), some (.d (.int (many : Int))), some (.own (.dic [])), c7, some (.d (.int (i : Int))), some (.d (.tuple (r.map .int))), c10, c11]) ⟨_, rfl⟩ (by have := ok.k3; omega) ?_ ?_
    · rintro z hz S ⟨c10, rfl⟩
      have hzz := hrw z hz
      obtain ⟨j, rfl⟩ : ∃ j : Nat, z = (j : Int) := ⟨z.toNat, by omega⟩
      have hj : j < c.length := by rw [S1.len]; omega
      simp [List.getElem?_eq_getElem hj]
    · rintro S ⟨c10, rfl⟩
      simp
      have k3 := ok.k3
      refine ⟨szL (by omega), szS (by omega), ?_⟩
      rw [List.range_succ, List.map_append]
      congr 1
      simp [keyM, W, hr]
  · rintro acc S ⟨c8, c9, c10, rfl, rfl⟩
    simp
    have hel : (enumD (M.rows.map W)).length = M.rows.length := by rw [enumD_len, List.length_map]
    rw [hel, ← List.map_map]
    generalize hk : (List.range M.rows.length).map (keyM M c) = keys
    have hkl : keys.length = M.rows.length := by rw [← hk]; simp
    refine wE_lcF (fun i acc S => ∃ (ks : List (List Int)) (cs : List Int) (c11 : Option SV), Nm keys i ks cs ∧ acc = cs.map .int ∧ S = [some (.d M.d), some (.d (.int (M.k : Int))), some (.d (.tuple (M.rows.map W))), some (.d (W M.ends)), some (.own (.lst (c.map .int))), some (.d (.int (many : Int))), some (.own (.dic (DK W ks 0))), some (.d (.list (keys.map W))), c8, c9, c10, c11]) ⟨[], [], _, .start, rfl, rfl⟩ ?_ ?_
    · rintro i d acc S hd3 ⟨ks, cs, c11, b, rfl, rfl⟩
      rw [List.getElem?_map] at hd3
      obtain ⟨key, hkey, rfl⟩ := Option.map_eq_some_iff.mp hd3
      have hi := (List.getElem?_eq_some_iff.mp hkey).1
      have hko : ∀ x ∈ ks, x ∈ keys := fun x hx => by obtain ⟨s, _, e⟩ := b.of_ x hx; exact List.mem_of_getElem? e
      have hkm := List.mem_of_getElem? hkey
      have hkl2 : ks.length ≤ keys.length := nodup_len b.nd hko
      simp [kOk_DK (nodeW (U := keys)) hko hkm, DK_len]
      refine ⟨szS (by omega), ?_⟩
      by_cases hm : key ∈ ks
      · obtain ⟨j, hj⟩ := List.getElem?_of_mem hm
        rw [dAt_DK (n := 0) (nodeW (U := keys)) b.nd hko hj]
        simp
        exact ⟨szS (by rw [b.len]; omega), ks, cs ++ [(j : Int)], b.old hkey hj, by simp, rfl⟩
      · rw [dAt_DK_none (n := 0) (nodeW (U := keys)) hko hkm hm, dPut_DK (nodeW (U := keys)) hko hkm hm]
        simp
        exact ⟨szS (by rw [b.len]; omega), ks ++ [key], cs ++ [(ks.length : Int)], b.new hkey hm, by simp, rfl⟩
    · rintro acc S ⟨ks, cs, c11, b, rfl, rfl⟩
      rw [List.length_map, hkl] at b
      have hmore := Nm.more S1 hk.symm b
      have hle := Nm.le hk.symm b
      simp [DK_len]
      refine ⟨fun e => ?_, fun e => ?_⟩
      · exact h cs (Sr.done ok S1 hk.symm b (by omega))
      · exact ⟨M.rows.length + 1 - ks.length, by omega, cs, ks.length, Sr.next ok S1 hk.symm b, rfl, rfl, rfl⟩
end DL
end

section
set_option Elab.async false
set_option linter.all false
set_option maxRecDepth 100000
set_option maxHeartbeats 4000000
/-! S36: the least machine, walked. -/
namespace DL
open PySem L2 Fz SrtO
theorem wO_some_of {α : Type} {o : Option α} {x : α} (h : wO o fun d => d = x) : o = some x := by
  cases o with
  | none => exact h.elim
  | some y => exact congrArg some h
abbrev Fp := List (Int × Nat)
def FD (ps : Fp) : List (D × D) := ps.map fun p => (.int p.1, .int (p.2 : Int))
theorem kOk_FD {ps : Fp} {s : Int} : kOk (FD ps) (.int s) = true := by
  unfold kOk FD
  simp [fk]
theorem dAt_FD : ∀ {ps : Fp} {v : Int} {s : Nat}, (ps.map (·.1)).Nodup → (v, s) ∈ ps → dAt (FD ps) (.int v) = some (.int (s : Int))
  | q :: ps, v, s, hn, h => by
    have hn' := List.nodup_cons.mp hn
    unfold dAt FD
    by_cases e : q.1 = v
    · have : q = (v, s) := by
        rcases List.mem_cons.mp h with h | h
        · exact h.symm
        · exact (hn'.1 (List.mem_map.mpr ⟨_, h, e.symm⟩)).elim
      subst this
      simp [List.find?_cons]
    · have hm : (v, s) ∈ ps := by
        rcases List.mem_cons.mp h with h | h
        · rw [← h] at e; exact (e rfl).elim
        · exact h
      have ih := dAt_FD hn'.2 hm
      unfold dAt FD at ih
      have ne : ¬ nk (PyData.int q.1) = nk (PyData.int v) := fun z => e (by simpa [nk] using z)
      simp only [List.map_cons, List.find?_cons, ne, decide_false]
      exact ih
theorem dAt_FD_none : ∀ {ps : Fp} {v : Int}, v ∉ ps.map (·.1) → dAt (FD ps) (.int v) = none
  | [], v, _ => rfl
  | q :: ps, v, h => by
    have ih := dAt_FD_none (ps := ps) (v := v) (fun z => h (by rw [List.map_cons]; exact List.mem_cons_of_mem _ z))
    unfold dAt FD at ih ⊢
    have ne : ¬ nk (PyData.int q.1) = nk (PyData.int v) := fun z => h (by
      have : q.1 = v := by simpa [nk] using z
      rw [List.map_cons, this]; exact List.mem_cons_self)
    simp only [List.map_cons, List.find?_cons, ne, decide_false]
    exact ih
theorem dPut_FD {ps : Fp} {v : Int} {s : Nat} (h : v ∉ ps.map (·.1)) : dPut (FD ps) (.int v) (.int (s : Int)) = FD (ps ++ [(v, s)]) := by
  unfold dPut dHas
  rw [dAt_FD_none h]
  simp [FD]
theorem nodeI {U : List Int} : NodeOk U PyData.int := ⟨.inl fun x _ => rfl, fun x _ y _ h => by simpa [nk] using h, fun x _ => rfl⟩
/-- the first states of the sorts -/
structure Fs (c : List Int) (i : Nat) (ps : Fp) : Prop where
  nd : (ps.map (·.1)).Nodup
  at_ : ∀ p ∈ ps, c[p.2]? = some p.1
  all : ∀ (s : Nat) (v : Int), s < i → c[s]? = some v → v ∈ ps.map (·.1)
theorem Fs.len {c : List Int} {i : Nat} {ps : Fp} (b : Fs c i ps) : ps.length ≤ c.length := by
  have := nodup_len (m := c) b.nd fun v hv => by
    obtain ⟨p, hp, rfl⟩ := List.mem_map.mp hv
    exact List.mem_of_getElem? (b.at_ p hp)
  simpa using this
theorem Fs.ex {c : List Int} {ps : Fp} (b : Fs c c.length ps) {v : Int} (h : v ∈ c) : ∃ s, (v, s) ∈ ps ∧ c[s]? = some v := by
  obtain ⟨s, hs⟩ := List.getElem?_of_mem h
  obtain ⟨p, hp, rfl⟩ := List.mem_map.mp (b.all s v (List.getElem?_eq_some_iff.mp hs).1 hs)
  exact ⟨p.2, hp, b.at_ p hp⟩
def LeastOf (M M' : Mc) : Prop := Least M.k (lng M 0) M' ∧ M'.Ok ∧ M'.rows.length ≤ M.rows.length ∧ M'.k = M.k
theorem noL_mc {M : Mc} : noL M.d = true := by
  unfold Mc.d
  simp only [noL, noLs, Bool.and_eq_true]
  exact ⟨trivial, noLs_LW, noL_W, trivial⟩
open Classical in
theorem least_in_w {M : Mc} (ok : M.Ok) {Q : SV → List SV → Prop} (h : ∀ M', LeastOf M M' → Q (.d M'.d) [.d M.d]) : wC (d_least_in [.d M.d]) Q := by
  have n40 := ok.n40
  have hen := ok.en
  have k1 := ok.k1
  have k3 := ok.k3
  have n1 := ok.n1
  unfold d_least_in
  rw [wC_denOf]
  simp [b_least_in]
  have hd : M.d = .tuple [.int (M.k : Int), .tuple (M.rows.map W), W M.ends] := rfl
  simp [hd]
  rw [← hd]
  simp [wE_callD]
  refine sorts_of_w ok ?_
  intro c T
  simp
  refine wS_forF (fun i S => ∃ (ps : Fp) (c2 c3 : Option SV), Fs c i ps ∧ S = [some (.d M.d), some (.d (.int (M.k : Int))), c2, c3, none, some (.d (W M.ends)), some (.own (.dic (FD ps))), some (.d (.tuple (M.rows.map W))), some (.d (.list (c.map .int)))]) ⟨[], _, _, ⟨by simp, by simp, by simp⟩, rfl⟩ ?_ ?_
  · rintro i d S hd2 ⟨ps, c2, c3, b, rfl⟩
    obtain ⟨y, rfl, hy⟩ := enumD_get hd2
    rw [List.getElem?_map] at hy
    obtain ⟨v, hv, rfl⟩ := Option.map_eq_some_iff.mp hy
    have hi := (List.getElem?_eq_some_iff.mp hv).1
    have hpl := b.len
    have hcl := T.len
    have hfl : (FD ps).length = ps.length := by simp [FD]
    simp [kOk_FD, hfl]
    refine ⟨szS (by omega), ?_⟩
    by_cases hm : v ∈ ps.map (·.1)
    · obtain ⟨p, hp, rfl⟩ := List.mem_map.mp hm
      rw [dAt_FD b.nd hp]
      simp
      refine ⟨ps, ⟨b.nd, b.at_, fun s w hs hw => ?_⟩, rfl⟩
      by_cases e : s = i
      · subst e
        rw [hv] at hw; cases hw
        exact hm
      · exact b.all s w (by omega) hw
    · rw [dAt_FD_none hm, dPut_FD hm]
      simp
      refine ⟨ps ++ [(v, i)], ⟨?_, fun p hp => ?_, fun s w hs hw => ?_⟩, rfl⟩
      · rw [List.map_append]
        refine List.nodup_append.mpr ⟨b.nd, by simp, fun a ha c hc e => ?_⟩
        simp at hc
        rw [hc] at e
        rw [e] at ha; exact hm ha
      · rcases List.mem_append.mp hp with hp | hp
        · exact b.at_ p hp
        · rw [List.mem_singleton.mp hp]; exact hv
      · by_cases e : s = i
        · subst e
          rw [hv] at hw; cases hw
          simp
        · have := b.all s w (by omega) hw
          rw [List.map_append]
          exact List.mem_append_left _ this
  · rintro S ⟨ps, c2, c3, b, rfl⟩
    have hel : (enumD (c.map PyData.int)).length = c.length := by rw [enumD_len, List.length_map]
    rw [hel] at b
    have hcl := T.len
    have hbl := b.len
    obtain ⟨c0, hc0⟩ : ∃ v, c[0]? = some v := ⟨_, List.getElem?_eq_getElem (by omega)⟩
    simp [wE_fCallC, hc0]
    rw [resolveC_l (h := rfl), resolveC_l (h := rfl)]
    simp
    let fst : Int → Nat := fun v => if h : v ∈ c then Classical.choose (b.ex h) else 0
    have hfst : ∀ v ∈ c, (v, fst v) ∈ ps ∧ c[fst v]? = some v := fun v hv => by
      have := Classical.choose_spec (b.ex hv)
      have e : fst v = Classical.choose (b.ex hv) := by show (if h : v ∈ c then Classical.choose (b.ex h) else 0) = _; rw [dif_pos hv]
      rw [e]; exact this
    have hfl : ∀ v ∈ c, fst v < M.rows.length := fun v hv => by
      have := (List.getElem?_eq_some_iff.mp (hfst v hv).2).1
      omega
    let δ : Int → Nat → Int := fun v l => (c[M.nx (fst v) l]?).getD 0
    have hδ : ∀ v ∈ c, ∀ l, l < M.k → c[M.nx (fst v) l]? = some (δ v l) ∧ M.nx (fst v) l < M.rows.length := fun v hv l hl => by
      obtain ⟨_, _, _, h3⟩ := Mc.cell_at ok (hfl v hv) (l := (l : Int)) (by omega) (by omega)
      refine ⟨?_, h3⟩
      show c[M.nx (fst v) l]? = some ((c[M.nx (fst v) l]?).getD 0)
      rw [List.getElem?_eq_getElem (by omega)]; rfl
    have hc0m : c0 ∈ c := List.mem_of_getElem? hc0
    refine machine_from_w (β := Int) (U := c) (code := PyData.int) (st := c0) (δ := δ) (fin := fun v => decide (M.fin (fst v) = 1)) nodeI hc0m (fun v hv l hl => List.mem_of_getElem? (hδ v hv l hl).1) k1 k3 (by omega) (by decide) (by decide) ?_ ?_ ?_
    · intro v hv l hl
      obtain ⟨f1, f2⟩ := hfst v hv
      obtain ⟨d1, d2⟩ := hδ v hv l hl
      obtain ⟨r, q1, q2, q3⟩ := Mc.cell_at ok (hfl v hv) (l := (l : Int)) (by omega) (by omega)
      rw [Fz.atI_nat] at q2
      refine wO_some_of (cloG_w rfl ?_)
      simp [capS, startC, kOk_FD]
      rw [dAt_FD b.nd f1]
      simp [q1]
      simp [q2, d1]
    · intro v hv
      obtain ⟨f1, f2⟩ := hfst v hv
      have hfin := (Mc.fin_at ok (hfl v hv)).1
      refine wO_some_of (cloG_w rfl ?_)
      simp [capS, startC, kOk_FD]
      rw [dAt_FD b.nd f1]
      simp [hfin]
    · intro M' ord B ho
      simp
      have hord : ord.length ≤ M.rows.length := by have := nodup_len B.nd ho; omega
      have lfs : ∀ s, s < M.rows.length → ∀ v, c[s]? = some v → lng M (fst v) = lng M s := fun s hs v hv => by
        have hm := List.mem_of_getElem? hv
        rw [← T.eq _ _ (hfl v hm) hs, (hfst v hm).2, hv]
      refine ⟨noL_mc, h M' ⟨⟨ord.map fun v => lng M (fst v), ?_⟩, bfs_ok B k1 k3 (by omega), by rw [B.rl]; exact hord, B.hk⟩⟩
      have := bfs_map (φ := fun v => lng M (fst v)) (δ' := resL) (fin' := finL) B (fun x hx y hy e => ?_) (fun x hx l hl => ?_) fun x hx => ?_
      · rw [show lng M (fst c0) = lng M 0 from lfs 0 (by omega) c0 hc0] at this
        exact this
      · have := (T.eq _ _ (hfl x (ho x hx)) (hfl y (ho y hy))).mpr e
        rw [(hfst x (ho x hx)).2, (hfst y (ho y hy)).2] at this
        exact Option.some.inj this
      · obtain ⟨d1, d2⟩ := hδ x (ho x hx) l hl
        show lng M (fst (δ x l)) = resL (lng M (fst x)) l
        rw [lng_res hl, lfs _ d2 _ d1]
      · show finL (lng M (fst x)) = decide (M.fin (fst x) = 1)
        exact lng_fin
theorem least_machine_w {M : Mc} (ok : M.Ok) {Q : SV → List SV → Prop} (h : ∀ M', LeastOf M M' → Q (.d M'.d) [.d M.d]) : wC (d_least_machine [.d M.d]) Q := by
  unfold d_least_machine
  rw [wC_denOf]
  simp [b_least_machine, wE_callD]
  refine check_machine_w ok ?_
  simp [wE_callD]
  refine least_in_w ok ?_
  intro M' hM
  simpa using h M' hM
end DL
end

section
set_option Elab.async false
set_option linter.all false
set_option maxRecDepth 100000
set_option maxHeartbeats 4000000
/-! S37: two machines walked side by side. -/
namespace DL
open PySem L2 Fz SrtO
def codeP (p : Nat × Nat) : D := .tuple [.int (p.1 : Int), .int (p.2 : Int)]
theorem nodeP {U : List (Nat × Nat)} : NodeOk U codeP := by
  have e : ∀ p : Nat × Nat, codeP p = W [(p.1 : Int), (p.2 : Int)] := fun p => rfl
  refine ⟨.inr fun x _ => by rw [e]; simp, fun x _ y _ h => ?_, fun x _ => by rw [e]; simp⟩
  rw [e, e] at h
  have := nkW_iff.mp h
  simp at this
  exact Prod.ext (by omega) (by omega)
/-- P takes what the rule says of both -/
structure PairOf (M N : Mc) (rl : Bool → Bool → Bool) (P : Mc) : Prop where
  ok : P.Ok
  hk : P.k = M.k
  le : P.rows.length ≤ M.rows.length * N.rows.length
  tk : ∀ w, IsW M.k w → P.tk w = rl (M.tk w) (N.tk w)
def δP (M N : Mc) : Nat × Nat → Nat → Nat × Nat := fun p l => (M.nx p.1 (l : Int), N.nx p.2 (l : Int))
theorem runδ_pair {M N : Mc} : ∀ {w : List Int} {s t : Nat}, (∀ x ∈ w, 0 ≤ x) → runδ (δP M N) (s, t) w = (M.run s w, N.run t w)
  | [], s, t, _ => rfl
  | l :: w, s, t, h => by
    have h0 := h l (by simp)
    have e : ((l.toNat : Nat) : Int) = l := by omega
    have e3 : runδ (δP M N) (s, t) (l :: w) = runδ (δP M N) (M.nx s (l.toNat : Int), N.nx t (l.toNat : Int)) w := rfl
    rw [e3, runδ_pair fun x hx => h x (by simp [hx]), e]
    rfl
theorem paired_w {M N : Mc} (ok : M.Ok) (ok2 : N.Ok) (hk : N.k = M.k) (hn : M.rows.length * N.rows.length ≤ 3000) {kr : Nat} {gr : FnD} (h8 : kr ≤ 8) {rl : Bool → Bool → Bool}
    (hr : ∀ a b : Int, 0 ≤ a → a < 2 → 0 ≤ b → b < 2 → gr [.int a, .int b] = some (.bool (rl (decide (a = 1)) (decide (b = 1))))) {Q : SV → List SV → Prop}
    (h : ∀ P, PairOf M N rl P → Q (.d P.d) [.d M.d, .d N.d, .x (.fn kr gr)]) : wC (d_paired [.d M.d, .d N.d, .x (.fn kr gr)]) Q := by
  have k1 := ok.k1
  have k3 := ok.k3
  have n1 := ok.n1
  have n2 := ok2.n1
  unfold d_paired
  rw [wC_denOf]
  simp [b_paired, wE_fCallC, ix0_mc]
  rw [resolveC_l (h := rfl), resolveC_l (h := rfl)]
  simp
  let U : List (Nat × Nat) := (List.range M.rows.length).flatMap fun s => (List.range N.rows.length).map fun t => (s, t)
  have hU : ∀ p : Nat × Nat, p ∈ U ↔ p.1 < M.rows.length ∧ p.2 < N.rows.length := fun p => by
    show p ∈ (List.range M.rows.length).flatMap _ ↔ _
    simp only [List.mem_flatMap, List.mem_map, List.mem_range]
    exact ⟨fun ⟨s, hs, t, ht, e⟩ => by rw [← e]; exact ⟨hs, ht⟩, fun ⟨h1, h2⟩ => ⟨p.1, h1, p.2, h2, rfl⟩⟩
  have hUl : U.length = M.rows.length * N.rows.length := by
    show ((List.range M.rows.length).flatMap fun s => (List.range N.rows.length).map fun t => (s, t)).length = _
    rw [List.length_flatMap]
    have : (List.range M.rows.length).map (fun s => ((List.range N.rows.length).map fun t => (s, t)).length) = List.replicate M.rows.length N.rows.length := by
      rw [List.eq_replicate_iff]
      refine ⟨by simp, fun b hb => ?_⟩
      obtain ⟨s, _, rfl⟩ := List.mem_map.mp hb
      simp
    rw [this, List.sum_replicate_nat]
  have e0 : PyData.tuple [PyData.int 0, .int 0] = codeP (0, 0) := rfl
  rw [e0]
  refine machine_from_w (β := Nat × Nat) (U := U) (code := codeP) (st := (0, 0)) (δ := δP M N) (fin := fun p => rl (decide (M.fin p.1 = 1)) (decide (N.fin p.2 = 1))) nodeP ((hU _).mpr ⟨n1, n2⟩) (fun p hp l hl => ?_) k1 k3 (by omega) (by decide) (by decide) ?_ ?_ ?_
  · obtain ⟨h1, h2⟩ := (hU p).mp hp
    obtain ⟨_, _, _, a3⟩ := Mc.cell_at ok h1 (l := (l : Int)) (by omega) (by omega)
    obtain ⟨_, _, _, b3⟩ := Mc.cell_at ok2 h2 (l := (l : Int)) (by omega) (by omega)
    exact (hU _).mpr ⟨a3, b3⟩
  · intro p hp l hl
    obtain ⟨h1, h2⟩ := (hU p).mp hp
    obtain ⟨r, a1, a2, a3⟩ := Mc.cell_at ok h1 (l := (l : Int)) (by omega) (by omega)
    obtain ⟨r', b1, b2, b3⟩ := Mc.cell_at ok2 h2 (l := (l : Int)) (by omega) (by omega)
    rw [Fz.atI_nat] at a2 b2
    refine wO_some_of (cloG_w rfl ?_)
    simp [capS, startC, codeP, ix1_mc, a1, b1, a2, b2]
    exact ⟨rfl, rfl⟩
  · intro p hp
    obtain ⟨h1, h2⟩ := (hU p).mp hp
    obtain ⟨a1, a2, a3⟩ := Mc.fin_at ok h1
    obtain ⟨b1, b2, b3⟩ := Mc.fin_at ok2 h2
    have := hr _ _ a2 a3 b2 b3
    refine wO_some_of (cloG_w rfl ?_)
    simp [capS, startC, codeP, ix2_mc, a1, b1, h8, this]
  · intro P ord B ho
    simp
    have hord : ord.length ≤ M.rows.length * N.rows.length := by have := nodup_len B.nd ho; omega
    refine ⟨noL_mc, h P ⟨bfs_ok B k1 k3 (by omega), B.hk, by rw [B.rl]; exact hord, fun w hw => ?_⟩⟩
    have := bfs_fin B hw B.s0
    rw [runδ_pair fun x hx => (hw x hx).1] at this
    show decide (P.fin (P.run 0 w) = 1) = rl (decide (M.fin (M.run 0 w) = 1)) (decide (N.fin (N.run 0 w) = 1))
    rw [this]
    cases rl (decide (M.fin (M.run 0 w) = 1)) (decide (N.fin (N.run 0 w) = 1)) <;> simp
theorem check_two_w {M N : Mc} (ok : M.Ok) (ok2 : N.Ok) (hk : N.k = M.k) {Q : SV → List SV → Prop} (h : Q (.d .none) [.d M.d, .d N.d]) : wC (d_check_two [.d M.d, .d N.d]) Q := by
  unfold d_check_two
  rw [wC_denOf]
  simp [b_check_two, wE_callD]
  refine check_machine_w ok ?_
  simp [wE_callD]
  refine check_machine_w ok2 ?_
  simp [ix0_mc, hk]
  exact h
end DL
end

section
set_option Elab.async false
set_option linter.all false
set_option maxRecDepth 100000
set_option maxHeartbeats 4000000
/-! S15: the shell and the turns of a law, where no slot holds a list of lists. -/
namespace DL
open PySem L2 Fz
abbrev Cl (r : FS) : Prop := noLS r = true
theorem Cl.rep {n : Nat} : Cl (List.replicate n none) := by
  unfold Cl noLS
  rw [List.all_eq_true]
  intro x hx
  rw [List.eq_of_mem_replicate hx]; rfl
theorem shellI {n : Nat} {m : Int} {body : FS → SRes} {ns : List Int} (hm : 1 ≤ m) (hm2 : m ≤ 63) (h : ns.length ≤ 63)
    (hb : ∀ (at_ : Nat) (o : Ob) (r : FS), at_ < 63 → Wl o → r.length = n → Cl r → wS (body (some (.d (scriptD ns)) :: some (.d (.int at_)) :: some (.own o) :: r)) (fun S => ∃ b c r', r'.length = n ∧ Cl r' ∧ S = some (.d (scriptD ns)) :: b :: c :: r') (fun _ _ => False) (fun _ => False) (fun _ => False)) :
    ∃ l, denOf (n + 3) (shellF m body) [.d (scriptD ns)] = .ok (.d (.bool true)) l := by
  suffices wC (denOf (n + 3) (shellF m body) [.d (scriptD ns)]) fun v l => v = .d (.bool true) by
    obtain ⟨v, l, e, rfl⟩ := this.ok
    exact ⟨l, e⟩
  rw [wC_denOf]
  unfold shellF
  simp only [wS_fSeq]
  refine wS.imp (N := fun S => ∃ b c r, r.length = n ∧ Cl r ∧ S = some (.d (scriptD ns)) :: b :: c :: r) ?_ ?_ (fun _ _ z => z) (fun _ z => z) (fun _ z => z)
  · have hq : ∃ q : Int, (if 1 < if (ns.length : Int) < m then (ns.length : Int) else m then if (ns.length : Int) < m then (ns.length : Int) else m else 1) = q ∧ 0 ≤ q ∧ q ≤ 63 := ⟨_, rfl, by split <;> (try split) <;> omega, by split <;> (try split) <;> omega⟩
    obtain ⟨q, e, hq0, hq1⟩ := hq
    simp [scriptD, e]
    refine ⟨by omega, ?_⟩
    rw [rng0]
    refine wS_forP (fun _ _ S => ∃ b c r, r.length = n ∧ Cl r ∧ S = some (.d (scriptD ns)) :: b :: c :: r) ⟨none, none, List.replicate n none, by simp, Cl.rep, rfl⟩ ?_ ?_
    · rintro p x r S ee ⟨b, c, r', hr, hc, rfl⟩
      have wo : ∀ {g : Option FS} {x : FS} {k : FS → Prop}, g = some x → k x → wO g k := fun e h => by rw [e]; exact h
      have hx : x < 63 := by
        obtain ⟨rfl, h2⟩ := range_at ee
        omega
      refine wo (x := some (.d (scriptD ns)) :: some (.d (.int (x : Nat))) :: c :: r') rfl ?_
      rw [wS_fSeq]
      refine wS.imp (N := fun S => ∃ o, Wl o ∧ S = some (.d (scriptD ns)) :: some (.d (.int (x : Nat))) :: some (.own o) :: r') ?_ ?_ (fun _ _ z => z) (fun _ z => z) (fun _ z => z)
      · simp [wE_callD]
        refine well_w (by omega) (by omega) h ?_
        intro o ho
        simp
        exact ho
      · rintro S ⟨o, ho, rfl⟩
        exact wS.imp (hb x o r' (by omega) ho hr hc) (fun _ z => z) (fun _ _ z => z.elim) (fun _ z => z.elim) (fun _ z => z.elim)
    · rintro S ⟨b, c, r', hr, hc, rfl⟩
      exact ⟨_, _, _, hr, hc, rfl⟩
  · rintro S ⟨b, c, r, hr, hc, rfl⟩
    simp [scriptD]
/-- the turns of a law: the well in slot 2, the turn in slot 3 -/
theorem turnsI {n N : Nat} {body : FS → SRes} {s0 s1 : Option SV} {o : Ob} {r : FS} {C B : FS → Prop} {R : SV → FS → Prop} {Nx : FS → Prop} (hN : N ≤ 1000) (ho : Wl o) (hr : r.length = n + 1) (hc : Cl r)
    (hb : ∀ (t : Nat) (o : Ob) (r : FS), t < N → Wl o → r.length = n → Cl r → wS (body (s0 :: s1 :: some (.own o) :: some (.d (.int t)) :: r)) (fun S => ∃ o' t' r', Wl o' ∧ r'.length = n ∧ Cl r' ∧ S = s0 :: s1 :: some (.own o') :: some (.d t') :: r') (fun _ _ => False) (fun _ => False) (fun _ => False))
    (hn : ∀ o r, Wl o → r.length = n + 1 → Cl r → Nx (s0 :: s1 :: some (.own o) :: r)) :
    wS (fFor (fRange1 (fC (.int N))) (gN 3) body (s0 :: s1 :: some (.own o) :: r)) Nx R B C := by
  have wo : ∀ {g : Option FS} {x : FS} {k : FS → Prop}, g = some x → k x → wO g k := fun e h => by rw [e]; exact h
  simp
  refine ⟨by omega, ?_⟩
  rw [rng0]
  refine wS_forP (fun _ _ S => ∃ o r, Wl o ∧ r.length = n + 1 ∧ Cl r ∧ S = s0 :: s1 :: some (.own o) :: r) ⟨o, r, ho, hr, hc, rfl⟩ ?_ ?_
  · rintro p x r S e ⟨o, r, ho, hr, hc, rfl⟩
    obtain ⟨rfl, hx⟩ := range_at e
    obtain ⟨c, r, rfl⟩ : ∃ c r', r = c :: r' := by
      cases r with
      | nil => simp at hr
      | cons c r => exact ⟨c, r, rfl⟩
    have hc2 : Cl r := by
      unfold Cl noLS at hc ⊢
      rw [List.all_cons, Bool.and_eq_true] at hc
      exact hc.2
    refine wo (x := s0 :: s1 :: some (.own o) :: some (.d (.int (p.length : Nat))) :: r) rfl ?_
    refine wS.imp (hb p.length o r hx ho (by simpa using hr) hc2) ?_ (fun _ _ z => z.elim) (fun _ z => z.elim) (fun _ z => z.elim)
    rintro S ⟨o', t', r', h1, h2, h3, rfl⟩
    refine ⟨o', some (.d t') :: r', h1, by simp [h2], ?_, rfl⟩
    unfold Cl noLS at h3 ⊢
    rw [List.all_cons, h3]; rfl
  · rintro S ⟨o, r, ho, hr, hc, rfl⟩
    exact hn o r ho hr hc
@[simp] theorem noLSv_d {d : D} : noLSv (some (.d d)) = true := rfl
@[simp] theorem noLSv_n : noLSv none = true := rfl
@[simp] theorem keepD_noL {c : Option SV} : noLSv (keepD c) = true := by
  cases c with
  | none => rfl
  | some v => cases v <;> rfl
end DL
end

section
set_option Elab.async false
set_option linter.all false
set_option maxRecDepth 100000
set_option maxHeartbeats 4000000
/-! M13: machines told apart. -/
namespace DL
open PySem L2 Fz SrtO
section
variable {k n m : Nat} {L L' : List Int → Bool} {f f' : Option (List Int)}
end
instance instMcEq : DecidableEq Mc := fun M N => decidable_of_iff (M.k = N.k ∧ M.rows = N.rows ∧ M.ends = N.ends) ⟨fun ⟨a, b, c⟩ => by
  cases M; cases N
  simp only at a b c
  subst a b c
  rfl, fun e => by subst e; exact ⟨rfl, rfl, rfl⟩⟩
theorem smal_mc {M : Mc} (ok : M.Ok) {k : Nat} : Smal (k + 3) M.d := by
  have k3 := ok.k3
  have hen := ok.en
  have n40 := ok.n40
  refine .tup (by simp) (.cons .int (.cons (.tup (by rw [List.length_map]; omega) (SmalL.of fun d hd => ?_)) (.cons (smalW (by omega)) .nil)))
  obtain ⟨w, hw, rfl⟩ := List.mem_map.mp hd
  exact smalW (k := k) (by have := (ok.rw w hw).1; omega)
theorem lng_ext {M N : Mc} (hk : N.k = M.k) (h : ∀ w, IsW M.k w → M.tk w = N.tk w) : lng M 0 = lng N 0 := by
  funext w
  by_cases hw : IsW M.k w
  · rw [lng_tk hw, lng_tk (by rw [hk]; exact hw), h w hw]
  · unfold lng
    have : ¬ IsW N.k w := by rw [hk]; exact hw
    simp [hw, this]
theorem LeastOf.lng {M M' : Mc} (h : LeastOf M M') : lng M' 0 = lng M 0 := least_lang h.1 lng_sup
theorem LeastOf.tk {M M' : Mc} (h : LeastOf M M') {w : List Int} (hw : IsW M.k w) : M'.tk w = M.tk w := by
  have := congrFun h.lng w
  rwa [lng_tk hw, lng_tk (by rw [h.2.2.2]; exact hw)] at this
end DL
end

section
set_option Elab.async false
set_option linter.all false
set_option maxRecDepth 100000
set_option maxHeartbeats 4000000
/-! dens, new with k09 -/
namespace DL
open PySem L2 Fz
end DL
end

section
set_option Elab.async false
set_option linter.all false
set_option maxRecDepth 100000
set_option maxHeartbeats 4000000
/-! dens, new with k11 -/
namespace DL
open PySem L2 Fz
/-- slots: 0 machine, 1 end -/
noncomputable def b_turned_ends : FS → SRes :=
 fRet (fOp pAdd (fFrz (fSlN 0 (fC none) (fPart (fC (.int 2))))) (fTup (fCons (fCall (one pTuple) (fCons (fFrz (fLc (fItems (fOpN pIx 0 (fC (.int 2)))) (gN 1) (fC true) (fOp pSub (fC (.int 1)) (fPeek 1)) [1])) (fC []))) (fC []))))
@[irreducible] noncomputable def d_turned_ends : Den := denOf 2 b_turned_ends
/-- slots: 0 machine -/
noncomputable def b_contrary_in : FS → SRes :=
 fRet (fCallP d_least_in 1 (fAD (fFrz (fCallP d_turned_ends 1 (fAD (fVar 0) (fC [])))) (fC [])))
@[irreducible] noncomputable def d_contrary_in : Den := denOf 1 b_contrary_in
/-- slots: 0 machine -/
noncomputable def b_complement : FS → SRes :=
 fSeq (fDrop (fCallP d_check_machine 1 (fAD (fVar 0) (fC []))))
        (fRet (fCallP d_contrary_in 1 (fAD (fVar 0) (fC []))))
@[irreducible] noncomputable def d_complement : Den := denOf 1 b_complement
/-- slots: 0 one, 1 other, 2 rule -/
noncomputable def b_join_in : FS → SRes :=
 fRet (fCallP d_least_in 1 (fAD (fCallC d_paired 3 (clAt []) (fCD (fVar 0) (fCD (fVar 1) (fCS 2 (fC []))))) (fC [])))
@[irreducible] noncomputable def d_join_in : Den := denOf 3 b_join_in
/-- slots: 0 one, 1 other -/
noncomputable def b_both_in : FS → SRes :=
 fRet (fV (fCallC d_join_in 3 (clAt [cloAt 8 2 2 (fAndV (fOpN pEq 0 (fC (.int 1))) (fOpN pEq 1 (fC (.int 1)))) []]) (fCD (fVar 0) (fCD (fVar 1) (fCM 0 (fC []))))))
@[irreducible] noncomputable def d_both_in : Den := denOf 2 b_both_in
/-- slots: 0 one, 1 other -/
noncomputable def b_intersection : FS → SRes :=
 fSeq (fDrop (fCallP d_check_two 2 (fAD (fVar 0) (fAD (fVar 1) (fC [])))))
        (fRet (fCallP d_both_in 2 (fAD (fVar 0) (fAD (fVar 1) (fC [])))))
@[irreducible] noncomputable def d_intersection : Den := denOf 2 b_intersection
/-- slots: 0 one, 1 other -/
noncomputable def b_either_in : FS → SRes :=
 fRet (fV (fCallC d_join_in 3 (clAt [cloAt 8 2 2 (fOrV (fOpN pEq 0 (fC (.int 1))) (fOpN pEq 1 (fC (.int 1)))) []]) (fCD (fVar 0) (fCD (fVar 1) (fCM 0 (fC []))))))
@[irreducible] noncomputable def d_either_in : Den := denOf 2 b_either_in
/-- slots: 0 one, 1 other -/
noncomputable def b_union : FS → SRes :=
 fSeq (fDrop (fCallP d_check_two 2 (fAD (fVar 0) (fAD (fVar 1) (fC [])))))
        (fRet (fCallP d_either_in 2 (fAD (fVar 0) (fAD (fVar 1) (fC [])))))
@[irreducible] noncomputable def d_union : Den := denOf 2 b_union
end DL
end

section
set_option Elab.async false
set_option linter.all false
set_option maxRecDepth 100000
set_option maxHeartbeats 4000000
/-! dens, new with k12 -/
namespace DL
open PySem L2 Fz
end DL
end

section
set_option Elab.async false
set_option linter.all false
set_option maxRecDepth 100000
set_option maxHeartbeats 4000000
/-! S39: the algebra of machines. -/
namespace DL
open PySem L2 Fz SrtO
/-- P is the least machine of the words that L tells, and not greater than n -/
structure LM (k : Nat) (L : List Int → Bool) (n : Nat) (P : Mc) : Prop where
  ok : P.Ok
  hk : P.k = k
  least : Least k (lng P 0) P
  tk : ∀ w, IsW k w → P.tk w = L w
  le : P.rows.length ≤ n
section
variable {k n m : Nat} {L L' : List Int → Bool} {P P' M N : Mc}
theorem LM.uniq (h : LM k L n P) (h' : LM k L' m P') (e : ∀ w, IsW k w → L w = L' w) : P = P' := by
  have a := h.least
  have b := h'.least
  have : lng P 0 = lng P' 0 := lng_ext (by rw [h.hk, h'.hk]) fun w hw => by
    rw [h.hk] at hw
    rw [h.tk w hw, h'.tk w hw, e w hw]
  rw [this] at a
  exact least_uniq a b
theorem LeastOf.lm (h : LeastOf M P) (hk : M.k = k) (ht : ∀ w, IsW k w → M.tk w = L w) (hn : M.rows.length ≤ n) : LM k L n P := by
  subst hk
  refine ⟨h.2.1, h.2.2.2, ?_, fun w hw => by rw [h.tk hw, ht w hw], Nat.le_trans h.2.2.1 hn⟩
  rw [h.lng]; exact h.1
theorem LM.cast (h : LM k L n P) (e : ∀ w, IsW k w → L w = L' w) (hn : n ≤ m) : LM k L' m P := ⟨h.ok, h.hk, h.least, fun w hw => by rw [h.tk w hw, e w hw], Nat.le_trans h.le hn⟩
end
section
variable {M N : Mc}
/-- a rule given as a function -/
theorem join_in_w (ok : M.Ok) (ok2 : N.Ok) (hk : N.k = M.k) (hn : M.rows.length * N.rows.length ≤ 3000) {kr : Nat} {gr : FnD} (h8 : kr ≤ 8) {rl : Bool → Bool → Bool}
    (hr : ∀ a b : Int, 0 ≤ a → a < 2 → 0 ≤ b → b < 2 → gr [.int a, .int b] = some (.bool (rl (decide (a = 1)) (decide (b = 1))))) {Q : SV → List SV → Prop}
    (h : ∀ P, LM M.k (fun w => rl (M.tk w) (N.tk w)) (M.rows.length * N.rows.length) P → Q (.d P.d) [.d M.d, .d N.d, .x (.fn kr gr)]) : wC (d_join_in [.d M.d, .d N.d, .x (.fn kr gr)]) Q := by
  unfold d_join_in
  rw [wC_denOf]
  simp [b_join_in, wE_fCallC]
  refine paired_w ok ok2 hk hn h8 hr ?_
  intro P hP
  simp [wE_callD]
  refine ⟨noL_mc, ?_⟩
  refine least_in_w hP.ok ?_
  intro P' hP'
  have := h P' (hP'.lm hP.hk (fun w hw => hP.tk w hw) hP.le)
  simp
  exact this
theorem both_in_w (ok : M.Ok) (ok2 : N.Ok) (hk : N.k = M.k) (hn : M.rows.length * N.rows.length ≤ 3000) {Q : SV → List SV → Prop}
    (h : ∀ P, LM M.k (fun w => M.tk w && N.tk w) (M.rows.length * N.rows.length) P → Q (.d P.d) [.d M.d, .d N.d]) : wC (d_both_in [.d M.d, .d N.d]) Q := by
  unfold d_both_in
  rw [wC_denOf]
  simp [b_both_in, wE_fCallC]
  rw [resolveC_l (h := rfl)]
  simp
  refine join_in_w (rl := fun a b => a && b) ok ok2 hk hn (by decide) (fun a b a0 a1 b0 b1 => ?_) ?_
  · refine wO_some_of (cloG_w rfl ?_)
    by_cases h1 : a = 1 <;> by_cases h2 : b = 1 <;> simp [startC, h1, h2]
  · intro P hP
    simp
    exact ⟨noL_mc, h P hP⟩
theorem either_in_w (ok : M.Ok) (ok2 : N.Ok) (hk : N.k = M.k) (hn : M.rows.length * N.rows.length ≤ 3000) {Q : SV → List SV → Prop}
    (h : ∀ P, LM M.k (fun w => M.tk w || N.tk w) (M.rows.length * N.rows.length) P → Q (.d P.d) [.d M.d, .d N.d]) : wC (d_either_in [.d M.d, .d N.d]) Q := by
  unfold d_either_in
  rw [wC_denOf]
  simp [b_either_in, wE_fCallC]
  rw [resolveC_l (h := rfl)]
  simp
  refine join_in_w (rl := fun a b => a || b) ok ok2 hk hn (by decide) (fun a b a0 a1 b0 b1 => ?_) ?_
  · refine wO_some_of (cloG_w rfl ?_)
    by_cases h1 : a = 1 <;> by_cases h2 : b = 1 <;> simp [startC, h1, h2]
  · intro P hP
    simp
    exact ⟨noL_mc, h P hP⟩
theorem intersection_w (ok : M.Ok) (ok2 : N.Ok) (hk : N.k = M.k) (hn : M.rows.length * N.rows.length ≤ 3000) {Q : SV → List SV → Prop}
    (h : ∀ P, LM M.k (fun w => M.tk w && N.tk w) (M.rows.length * N.rows.length) P → Q (.d P.d) [.d M.d, .d N.d]) : wC (d_intersection [.d M.d, .d N.d]) Q := by
  unfold d_intersection
  rw [wC_denOf]
  simp [b_intersection, wE_callD]
  refine check_two_w ok ok2 hk ?_
  simp [wE_callD]
  refine both_in_w ok ok2 hk hn ?_
  intro P hP
  simpa using h P hP
theorem union_w (ok : M.Ok) (ok2 : N.Ok) (hk : N.k = M.k) (hn : M.rows.length * N.rows.length ≤ 3000) {Q : SV → List SV → Prop}
    (h : ∀ P, LM M.k (fun w => M.tk w || N.tk w) (M.rows.length * N.rows.length) P → Q (.d P.d) [.d M.d, .d N.d]) : wC (d_union [.d M.d, .d N.d]) Q := by
  unfold d_union
  rw [wC_denOf]
  simp [b_union, wE_callD]
  refine check_two_w ok ok2 hk ?_
  simp [wE_callD]
  refine either_in_w ok ok2 hk hn ?_
  intro P hP
  simpa using h P hP
def ctrM (M : Mc) : Mc := ⟨M.k, M.rows, M.ends.map fun e => 1 - e⟩
theorem ctrM_ok (ok : M.Ok) : (ctrM M).Ok := by
  refine ⟨ok.k1, ok.k3, ok.n1, ok.n40, by simp [ctrM, ok.en], ok.rw, fun x hx => ?_⟩
  obtain ⟨e, he, rfl⟩ := List.mem_map.mp hx
  have := ok.ew e he
  constructor <;> omega
theorem ctrM_tk (ok : M.Ok) {w : List Int} (hw : IsW M.k w) : (ctrM M).tk w = !M.tk w := by
  have hl := Mc.run_lt ok (s := 0) (by have := ok.n1; omega) hw
  obtain ⟨h1, h2, h3⟩ := Mc.fin_at ok hl
  have e : (ctrM M).run 0 w = M.run 0 w := rfl
  have e2 : (ctrM M).fin (M.run 0 w) = 1 - M.fin (M.run 0 w) := by
    unfold Mc.fin ctrM at *
    simp only
    rw [List.getElem?_map, h1]
    simp
  unfold Mc.tk
  rw [e, e2]
  rcases (show M.fin (M.run 0 w) = 0 ∨ M.fin (M.run 0 w) = 1 by omega) with z | z <;> rw [z] <;> decide
theorem turned_ends_w (ok : M.Ok) {Q : SV → List SV → Prop} (h : Q (.d (ctrM M).d) [.d M.d]) : wC (d_turned_ends [.d M.d]) Q := by
  have n40 := ok.n40
  have hen := ok.en
  have hd : M.d = .tuple [.int (M.k : Int), .tuple (M.rows.map W), W M.ends] := rfl
  unfold d_turned_ends
  rw [wC_denOf]
  simp [b_turned_ends]
  simp [hd]
  rw [← hd]
  refine lc_w (fun _ => true) (fun e : Int => PyData.int (1 - e)) (fun S => ∃ c, S = [some (.d M.d), c]) ⟨_, rfl⟩ (by omega) ?_ ?_
  · rintro e he S ⟨c, rfl⟩
    have := ok.ew e he
    simp
  · rintro S ⟨c, rfl⟩
    simp
    have := h
    simp only [Mc.d, ctrM, W, List.map_map] at this
    exact this
theorem contrary_in_w (ok : M.Ok) {Q : SV → List SV → Prop} (h : ∀ P, LM M.k (fun w => !M.tk w) M.rows.length P → Q (.d P.d) [.d M.d]) : wC (d_contrary_in [.d M.d]) Q := by
  unfold d_contrary_in
  rw [wC_denOf]
  simp [b_contrary_in, wE_callD]
  refine turned_ends_w ok ?_
  simp [wE_callD]
  refine least_in_w (ctrM_ok ok) ?_
  intro P hP
  have := h P (hP.lm rfl (fun w hw => ctrM_tk ok hw) (Nat.le_refl _))
  simpa using this
theorem complement_w (ok : M.Ok) {Q : SV → List SV → Prop} (h : ∀ P, LM M.k (fun w => !M.tk w) M.rows.length P → Q (.d P.d) [.d M.d]) : wC (d_complement [.d M.d]) Q := by
  unfold d_complement
  rw [wC_denOf]
  simp [b_complement, wE_callD]
  refine check_machine_w ok ?_
  simp [wE_callD]
  refine contrary_in_w ok ?_
  intro P hP
  simpa using h P hP
end
end DL
end

section
set_option Elab.async false
set_option linter.all false
set_option maxRecDepth 100000
set_option maxHeartbeats 4000000
/-! S40: the algebra of machines, told by languages. -/
namespace DL
open PySem L2 Fz SrtO
structure BM (k : Nat) (L : List Int → Bool) (n : Nat) (P : Mc) : Prop where
  ok : P.Ok
  hk : P.k = k
  tk : ∀ w, IsW k w → P.tk w = L w
  le : P.rows.length ≤ n
theorem LM.b {k n : Nat} {L : List Int → Bool} {P : Mc} (h : LM k L n P) : BM k L n P := ⟨h.ok, h.hk, h.tk, h.le⟩
section
variable {k n m : Nat} {L L' : List Int → Bool} {M N : Mc} {Q : SV → List SV → Prop}
theorem mul3 (a : BM k L n M) (b : BM k L' m N) (hn : n * m ≤ 3000) : M.rows.length * N.rows.length ≤ 3000 := Nat.le_trans (Nat.mul_le_mul a.le b.le) hn
theorem least_b (a : BM k L n M) (h : ∀ P, LM k L n P → Q (.d P.d) [.d M.d]) : wC (d_least_machine [.d M.d]) Q :=
  least_machine_w a.ok fun P hP => h P (hP.lm a.hk a.tk a.le)
theorem compl_b (a : BM k L n M) (h : ∀ P, LM k (fun w => !L w) n P → Q (.d P.d) [.d M.d]) : wC (d_complement [.d M.d]) Q :=
  complement_w a.ok fun P hP => h P (by
    rw [a.hk] at hP
    exact hP.cast (fun w hw => by rw [a.tk w hw]) a.le)
theorem int_b (a : BM k L n M) (b : BM k L' m N) (hn : n * m ≤ 3000) (h : ∀ P, LM k (fun w => L w && L' w) (n * m) P → Q (.d P.d) [.d M.d, .d N.d]) : wC (d_intersection [.d M.d, .d N.d]) Q :=
  intersection_w a.ok b.ok (b.hk.trans a.hk.symm) (mul3 a b hn) fun P hP => h P (by
    rw [a.hk] at hP
    exact hP.cast (fun w hw => by rw [a.tk w hw, b.tk w hw]) (Nat.mul_le_mul a.le b.le))
theorem uni_b (a : BM k L n M) (b : BM k L' m N) (hn : n * m ≤ 3000) (h : ∀ P, LM k (fun w => L w || L' w) (n * m) P → Q (.d P.d) [.d M.d, .d N.d]) : wC (d_union [.d M.d, .d N.d]) Q :=
  union_w a.ok b.ok (b.hk.trans a.hk.symm) (mul3 a b hn) fun P hP => h P (by
    rw [a.hk] at hP
    exact hP.cast (fun w hw => by rw [a.tk w hw, b.tk w hw]) (Nat.mul_le_mul a.le b.le))
end
end DL
end

section
set_option Elab.async false
set_option linter.all false
set_option maxRecDepth 100000
set_option maxHeartbeats 4000000
/-! M15: how far one must look to tell states apart; every numbered node is come to. -/
namespace DL
open PySem L2 Fz SrtO
section
variable {M : Mc}
end
section
variable {β : Type} {k : Nat} {st : β} {δ : β → Nat → β} {fin : β → Bool} {M : Mc} {ord : List β}
theorem bfs_reach (B : BfsM k st δ fin M ord) : ∀ n i, i ≤ n → i < ord.length → ∃ w, IsW k w ∧ M.run 0 w = i
  | 0, i, hi, _ => ⟨[], (fun x hx => by cases hx), (by
    have : i = 0 := by omega
    subst this; rfl)⟩
  | n + 1, i, hi, hl => by
    by_cases hin : i ≤ n
    · exact bfs_reach B n i hin hl
    · have : i = n + 1 := by omega
      subst this
      have ey : ord[n + 1]? = some ord[n + 1] := List.getElem?_eq_getElem hl
      obtain ⟨p, hp, ⟨x, hx, hy⟩, _⟩ := B.met n _ ey
      have hk : 0 < k := by
        cases k with
        | zero => simp at hp
        | succ k => omega
      have lt : p / k < n + 1 := Nat.div_lt_of_lt_mul hp
      obtain ⟨w, hw, hr⟩ := bfs_reach B n (p / k) (by omega) (by omega)
      have hm := Nat.mod_lt p hk
      have := bfs_nx B hx (l := ((p % k : Nat) : Int)) (by omega) (by omega)
      rw [Int.toNat_natCast, hy] at this
      have e := nodup_ix_eq B.nd this ey
      refine ⟨w ++ [((p % k : Nat) : Int)], fun z hz => ?_, ?_⟩
      · rcases List.mem_append.mp hz with hz | hz
        · exact hw z hz
        · rw [List.mem_singleton.mp hz]; exact ⟨by omega, by omega⟩
      · rw [Mc.run_app, hr]
        exact e
end
end DL
end

section
set_option Elab.async false
set_option linter.all false
set_option maxRecDepth 100000
set_option maxHeartbeats 4000000
/-! M14: pairs of states marked unlike. -/
namespace DL
open PySem L2 Fz SrtO
section
variable {M : Mc} {ps : Pn}
end
end DL
end

section
set_option Elab.async false
set_option linter.all false
set_option maxRecDepth 100000
set_option maxHeartbeats 4000000
/-! S42: the law's least machine, walked. -/
namespace DL
open PySem L2 Fz SrtO
end DL
end

section
set_option Elab.async false
set_option linter.all false
set_option maxRecDepth 100000
set_option maxHeartbeats 4000000
/-! M16: what each state of a least machine says of all words. -/
namespace DL
open PySem L2 Fz SrtO
section
variable {P : Mc} {e : Nat}
end
end DL
end

section
set_option Elab.async false
set_option linter.all false
set_option maxRecDepth 100000
set_option maxHeartbeats 4000000
/-! M17: sets of things told by injective codes; words in sequence; what is left of some words behind a letter. -/
namespace DL
open PySem L2 Fz SrtO
section
variable {α : Type} [DecidableEq α]
end
/-! ### by length, then by letters -/
end DL
end

section
set_option Elab.async false
set_option linter.all false
set_option maxRecDepth 100000
set_option maxHeartbeats 4000000
/-! dens, new with k13 -/
namespace DL
open PySem L2 Fz
/-- slots: 0 machine, 1 k, 2 ends, 3 follow, 4 start, 5 rows, 6 state, 7 row, 8 end -/
noncomputable def b_turned_in : FS → SRes :=
 fSeq (fAsg (gTp 3 (gCs (gN 1) (gCs (gN 5) (gCs (gN 2) (gNl))))) (fVar 0))
        (fSeq (fDef 3 0)
        (fSeq (fSetD 4 (fCall (one pTuple) (fCons (fFrz (fLc (fEnum (fVar 2)) (gTp 2 (gCs (gN 6) (gCs (gN 8) (gNl)))) (fT (fOpN pEq 8 (fC (.int 1)))) (fVar 6) [6, 8])) (fC []))))
        (fRet (fCallP d_least_in 1 (fAD (fCallC d_machine_from 4 (clAt [cloAt 8 5 2 (retD (fRetD (fCall (one pTuple) (fCons (fFrz (fLc (fEnum (fVar 2)) (gTp 2 (gCs (gN 3) (gCs (gN 4) (gNl)))) (fT (fOp pIn (fOpN pIx 4 (fVar 1)) (fPeek 0))) (fVar 3) [3, 4])) (fC []))))) [5], cloAt 8 1 1 (fOp pIn (fC (.int 0)) (fPeek 0)) []]) (fCD (fVar 1) (fCD (fVar 4) (fCS 3 (fCM 1 (fC [])))))) (fC []))))))
@[irreducible] noncomputable def d_turned_in : Den := denOf 9 b_turned_in
/-- slots: 0 machine -/
noncomputable def b_turned : FS → SRes :=
 fSeq (fDrop (fCallP d_check_machine 1 (fAD (fVar 0) (fC []))))
        (fRet (fCallP d_turned_in 1 (fAD (fVar 0) (fC []))))
@[irreducible] noncomputable def d_turned : Den := denOf 1 b_turned
/-- slots: 0 script, 1 at, 2 well, 3 turn, 4 k, 5 one, 6 other, 7 kept, 8 back, 9 word, 10 told, 11 due -/
noncomputable def b_law13 : FS → SRes :=
 fSeq (fFor (fRange1 (fCall (two pMax2) (fCons (fC (.int 1)) (fCons (fCall (two pMin2) (fCons (fC (.int 2)) (fCons (fCall (one pLen) (fCons (fPeek 0) (fC []))) (fC [])))) (fC []))))) (gN 1) (fSeq (fSet 2 (fCallP d__law_well 2 (fAD (fVar 0) (fAD (fVar 1) (fC [])))))
        (fFor (fRange1 (fC (.int 2))) (gN 3) (fSeq (fSet 4 (fOp pAdd (fC (.int 1)) (fFrz (fCallP d__law_take 2 (fAS 2 (fAD (fC (.int 3)) (fC [])))))))
        (fSeq (fPars [5, 6] (fConsV (fCallP d__law_machine 3 (fAS 2 (fAD (fVar 4) (fAD (fIte (fT (fOpN pLt 4 (fC (.int 3)))) (fC (.int 5)) (fC (.int 4))) (fC []))))) (fConsV (fCallP d__law_machine 3 (fAS 2 (fAD (fVar 4) (fAD (fIte (fT (fOpN pLt 4 (fC (.int 3)))) (fC (.int 4)) (fC (.int 3))) (fC []))))) (fC []))))
        (fSeq (fPars [7, 8] (fConsV (fV (fCall (one pRepr) (fCons (fFrz (fLst (fCons (fVar 5) (fCons (fVar 6) (fC []))))) (fC [])))) (fConsV (fCallP d_turned 1 (fAD (fVar 5) (fC []))) (fC []))))
        (fSeq (fIf (fNotT (fTru (fFrz (fCallP (d__law_same 24) 2 (fAD (fFrz (fLst (fCons (fFrz (fCallK d_turned 1 0 1 [0] (fC []) (fAD (fVar 5) (fC [])))) (fCons (fFrz (fCallP d_least_machine 1 (fAD (fVar 8) (fC [])))) (fCons (fFrz (fCallP d_turned 1 (fAD (fVar 8) (fC [])))) (fC [])))))) (fAD (fFrz (fLst (fCons (fVar 8) (fCons (fVar 8) (fCons (fFrz (fCallP d_least_machine 1 (fAD (fVar 5) (fC [])))) (fC [])))))) (fC []))))))) (fRetD (fC (.bool false))) (fun S => .nx S))
        (fSeq (fFor (fItems (fFrz (fCallP d__law_all 2 (fAD (fVar 4) (fAD (fOp pIx (fFrz (fLst (fCons (fC (.int 0)) (fCons (fC (.int 9)) (fCons (fC (.int 6)) (fCons (fC (.int 4)) (fC []))))))) (fVar 4)) (fC [])))))) (gN 9) (fIf (fT (fOp pNe (fFrz (fCallP d__law_walk 2 (fAD (fVar 8) (fAD (fVar 9) (fC []))))) (fFrz (fCallP d__law_walk 2 (fAD (fVar 5) (fAD (fFrz (fRev (fPeek 9))) (fC []))))))) (fRetD (fC (.bool false))) (fun S => .nx S)))
        (fSeq (fSet 10 (fLst (fCons (fFrz (fCallP d_turned 1 (fAD (fFrz (fCallP d_union 2 (fAD (fVar 5) (fAD (fVar 6) (fC []))))) (fC [])))) (fCons (fFrz (fCallP d_turned 1 (fAD (fFrz (fCallP d_intersection 2 (fAD (fVar 5) (fAD (fVar 6) (fC []))))) (fC [])))) (fCons (fFrz (fCallP d_turned 1 (fAD (fFrz (fCallP d_complement 1 (fAD (fVar 5) (fC [])))) (fC [])))) (fC []))))))
        (fSeq (fSet 11 (fLst (fCons (fFrz (fCallP d_union 2 (fAD (fVar 8) (fAD (fFrz (fCallP d_turned 1 (fAD (fVar 6) (fC [])))) (fC []))))) (fCons (fFrz (fCallP d_intersection 2 (fAD (fVar 8) (fAD (fFrz (fCallP d_turned 1 (fAD (fVar 6) (fC [])))) (fC []))))) (fCons (fFrz (fCallP d_complement 1 (fAD (fVar 8) (fC [])))) (fC []))))))
        (fIf (fOrT (fNotT (fTru (fFrz (fCallP (d__law_same 24) 2 (fAD (fVar 10) (fAD (fVar 11) (fC []))))))) (fT (fOp pNe (fCall (one pRepr) (fCons (fFrz (fLst (fCons (fVar 5) (fCons (fVar 6) (fC []))))) (fC []))) (fPeek 7)))) (fRetD (fC (.bool false))) (fun S => .nx S))))))))))))
        (fRetD (fC (.bool true)))
@[irreducible] noncomputable def d_law13 : Den := denOf 12 b_law13
end DL
end

section
set_option Elab.async false
set_option linter.all false
set_option maxRecDepth 100000
set_option maxHeartbeats 4000000
/-! dens, new with k07 -/
namespace DL
open PySem L2 Fz
end DL
end

section
set_option Elab.async false
set_option linter.all false
set_option maxRecDepth 100000
set_option maxHeartbeats 4000000
/-! dens, new with k98 -/
namespace DL
open PySem L2 Fz
end DL
end

section
set_option Elab.async false
set_option linter.all false
set_option maxRecDepth 100000
set_option maxHeartbeats 4000000
/-! S47: machines turned about, walked. -/
namespace DL
open PySem L2 Fz SrtO
theorem enumD_range {α : Type} {xs : List α} {f : α → D} {g : Nat → α} (hg : ∀ (i : Nat) x, xs[i]? = some x → g i = x) : enumD (xs.map f) = (List.range xs.length).map fun i : Nat => .tuple [.int (i : Int), f (g i)] := by
  refine List.ext_getElem? fun i => ?_
  by_cases hi : i < xs.length
  · have hl : i < (enumD (xs.map f)).length := by rw [enumD_len, List.length_map]; exact hi
    have e := List.getElem?_eq_getElem hl
    obtain ⟨y, hy, hx⟩ := enumD_get e
    rw [List.getElem?_map] at hx
    obtain ⟨x, hx2, hxy⟩ := Option.map_eq_some_iff.mp hx
    rw [e, hy, List.getElem?_map, List.getElem?_range hi, ← hxy, ← hg i x hx2]
    rfl
  · rw [List.getElem?_eq_none (by rw [enumD_len, List.length_map]; omega), List.getElem?_eq_none (by simp; omega)]
section
variable {M : Mc}
/-- the states from which a word leads to an end -/
def nodeM (M : Mc) (w : List Int) : List Int := ((List.range M.rows.length).filter fun s => decide (M.fin (M.run s w) = 1)).map fun s : Nat => (s : Int)
def stepM (M : Mc) (x : List Int) (l : Nat) : List Int := ((List.range M.rows.length).filter fun s => decide (((M.nx s (l : Int) : Nat) : Int) ∈ x)).map fun s : Nat => (s : Int)
theorem nodeM_mem {w : List Int} {s : Nat} : (s : Int) ∈ nodeM M w ↔ s < M.rows.length ∧ M.fin (M.run s w) = 1 := by
  unfold nodeM
  simp only [List.mem_map, List.mem_filter, List.mem_range, decide_eq_true_eq]
  constructor
  · rintro ⟨a, ⟨h1, h2⟩, h3⟩
    have : a = s := by omega
    subst this
    exact ⟨h1, h2⟩
  · intro h
    exact ⟨s, h, rfl⟩
theorem stepM_node (ok : M.Ok) {w : List Int} {l : Nat} (hl : l < M.k) : stepM M (nodeM M w) l = nodeM M ((l : Int) :: w) := by
  unfold stepM
  show _ = ((List.range M.rows.length).filter fun s => decide (M.fin (M.run s ((l : Int) :: w)) = 1)).map fun s : Nat => (s : Int)
  congr 1
  refine List.filter_congr fun s hs => ?_
  rw [List.mem_range] at hs
  obtain ⟨_, _, _, h3⟩ := Mc.cell_at ok hs (l := (l : Int)) (by omega) (by omega)
  rw [decide_eq_decide, nodeM_mem]
  exact ⟨fun z => z.2, fun z => ⟨h3, z⟩⟩
theorem runδ_node (ok : M.Ok) : ∀ {w v : List Int}, IsW M.k w → runδ (stepM M) (nodeM M v) w = nodeM M (w.reverse ++ v)
  | [], v, _ => rfl
  | l :: w, v, h => by
    have h0 := h l (by simp)
    have e : ((l.toNat : Nat) : Int) = l := by omega
    show runδ (stepM M) (stepM M (nodeM M v) l.toNat) w = _
    rw [stepM_node ok (by omega), e, runδ_node ok fun x hx => h x (by simp [hx])]
    simp
theorem node_iff {w v : List Int} : nodeM M w = nodeM M v ↔ ∀ s, s < M.rows.length → (M.fin (M.run s w) = 1 ↔ M.fin (M.run s v) = 1) := by
  constructor
  · intro e s hs
    have := nodeM_mem (M := M) (w := w) (s := s)
    rw [e, nodeM_mem] at this
    exact ⟨fun z => (this.mpr ⟨hs, z⟩).2, fun z => (this.mp ⟨hs, z⟩).2⟩
  · intro h
    unfold nodeM
    congr 1
    refine List.filter_congr fun s hs => ?_
    rw [decide_eq_decide]
    exact h s (List.mem_range.mp hs)
theorem nodeWL {U : List (List Int)} : NodeOk U W := ⟨.inr fun x _ => by rw [tk_W]; rfl, fun x _ y _ h => nkW_iff.mp h, fun x _ => noL_W⟩
theorem lng_node (ok : M.Ok) {P : Mc} {ord : List (List Int)} (B : BfsM M.k (nodeM M []) (stepM M) (fun x => decide ((0 : Int) ∈ x)) P ord) {w : List Int} (hw : IsW M.k w) : P.tk w = M.tk w.reverse := by
  have n1 := ok.n1
  have hw2 : IsW M.k w.reverse := fun x hx => hw x (List.mem_reverse.mp hx)
  unfold Mc.tk
  rw [decide_eq_decide, bfs_fin B hw B.s0, runδ_node ok hw, List.append_nil]
  have := nodeM_mem (M := M) (w := w.reverse) (s := 0)
  by_cases h : (0 : Int) ∈ nodeM M w.reverse
  · have h2 := (this.mp h).2
    simp [h, h2]
  · have h2 : ¬ M.fin (M.run 0 w.reverse) = 1 := fun z => h (this.mpr ⟨by omega, z⟩)
    simp [h, h2]
open Classical in
theorem turned_in_w (ok : M.Ok) {α : Type} (c : List Int → α) (K : List α) (hK : K.length ≤ 3000) (hc : ∀ w, IsW M.k w → c w ∈ K) (hd : ∀ w v, IsW M.k w → IsW M.k v → c w = c v → nodeM M w = nodeM M v)
    {Q : SV → List SV → Prop} (h : ∀ P, LM M.k (fun w => M.tk w.reverse) K.length P → Q (.d P.d) [.d M.d]) : wC (d_turned_in [.d M.d]) Q := by
  have n40 := ok.n40
  have hen := ok.en
  have k1 := ok.k1
  have k3 := ok.k3
  have n1 := ok.n1
  have nil_k : IsW M.k [] := fun x hx => by cases hx
  let rep : α → List Int := fun a => if h : ∃ w, IsW M.k w ∧ c w = a then nodeM M (Classical.choose h) else nodeM M []
  have hrep : ∀ w, IsW M.k w → rep (c w) = nodeM M w := fun w hw => by
    have ex : ∃ v, IsW M.k v ∧ c v = c w := ⟨w, hw, rfl⟩
    have := Classical.choose_spec ex
    show (if h : ∃ v, IsW M.k v ∧ c v = c w then nodeM M (Classical.choose h) else nodeM M []) = _
    rw [dif_pos ex]
    exact hd _ _ this.1 hw this.2
  have hU : ∀ w, IsW M.k w → nodeM M w ∈ K.map rep := fun w hw => List.mem_map.mpr ⟨c w, hc w hw, hrep w hw⟩
  have hUe : ∀ x ∈ K.map rep, ∃ w, IsW M.k w ∧ x = nodeM M w := fun x hx => by
    obtain ⟨a, _, rfl⟩ := List.mem_map.mp hx
    by_cases ex : ∃ w, IsW M.k w ∧ c w = a
    · refine ⟨_, (Classical.choose_spec ex).1, ?_⟩
      show (if h : ∃ v, IsW M.k v ∧ c v = a then nodeM M (Classical.choose h) else nodeM M []) = _
      rw [dif_pos ex]
    · refine ⟨[], nil_k, ?_⟩
      show (if h : ∃ v, IsW M.k v ∧ c v = a then nodeM M (Classical.choose h) else nodeM M []) = _
      rw [dif_neg ex]
  unfold d_turned_in
  rw [wC_denOf]
  simp [b_turned_in]
  have hdd : M.d = .tuple [.int (M.k : Int), .tuple (M.rows.map W), W M.ends] := rfl
  simp [hdd]
  rw [← hdd]
  have eE : ∀ {xs : List Int} {k : List D → Prop}, wEnum (W xs) k = k (enumD (xs.map .int)) := rfl
  rw [eE]
  rw [enumD_range (xs := M.ends) (f := PyData.int) (g := M.fin) (fun i x hx => by unfold Mc.fin; rw [hx]; rfl)]
  refine lc_w (fun s : Nat => decide (M.fin s = 1)) (fun s : Nat => PyData.int (s : Int)) (fun S => ∃ c6 c8, S = [some (.d M.d), some (.d (.int (M.k : Int))), some (.d (W M.ends)), some (.x (.loc 0)), none, some (.d (.tuple (M.rows.map W))), c6, none, c8]) ⟨none, none, rfl⟩ (by simp; omega) ?_ ?_
  · rintro s hs S ⟨c6, c8, rfl⟩
    simp
  · rintro S ⟨c6, c8, rfl⟩
    have e0 : ((List.range M.ends.length).filter fun s => decide (M.fin s = 1)).map (fun s : Nat => PyData.int (s : Int)) = (nodeM M []).map .int := by
      unfold nodeM
      rw [List.map_map, hen]
      rfl
    rw [e0]
    simp [wE_callD, wE_fCallC]
    rw [resolveC_l (h := rfl), resolveC_l (h := rfl)]
    simp
    refine machine_from_w (U := K.map rep) (code := W) (st := nodeM M []) (δ := stepM M) (fin := fun x => decide ((0 : Int) ∈ x)) nodeWL (hU [] nil_k) (fun x hx l hl => ?_) k1 k3 (by simpa using hK) (by decide) (by decide) ?_ ?_ ?_
    · obtain ⟨w, hw, rfl⟩ := hUe x hx
      rw [stepM_node ok hl]
      exact hU _ fun z hz => by
        rcases List.mem_cons.mp hz with rfl | hz
        · exact ⟨by omega, by omega⟩
        · exact hw z hz
    · intro x hx l hl
      refine wO_some_of (cloG_w rfl ?_)
      simp [capS, startC]
      rw [enumD_range (xs := M.rows) (f := W) (g := fun i => (M.rows[i]?).getD []) (fun i x hx => by rw [hx]; rfl)]
      refine lc_w (fun s : Nat => decide (((M.nx s (l : Int) : Nat) : Int) ∈ x)) (fun s : Nat => PyData.int (s : Int)) (fun S => S = [some (.d (W x)), some (.d (.int (l : Int))), some (.d (.tuple (M.rows.map W))), none, none]) rfl (by simp; omega) ?_ ?_
      · rintro s hs S rfl
        have hs2 := List.mem_range.mp hs
        obtain ⟨r, q1, q2, q3⟩ := Mc.cell_at ok hs2 (l := (l : Int)) (by omega) (by omega)
        rw [Fz.atI_nat] at q2
        simp only [q1, Option.getD_some]
        generalize M.nx s (l : Int) = y at *
        simp [q2]
      · rintro S rfl
        have e2 : ((List.range M.rows.length).filter fun s => decide (((M.nx s (l : Int) : Nat) : Int) ∈ x)).map (fun s : Nat => PyData.int (s : Int)) = (stepM M x l).map .int := by
          unfold stepM
          rw [List.map_map]
          rfl
        rw [e2]
        simp
    · intro x hx
      refine wO_some_of (cloG_w rfl ?_)
      simp [capS, startC]
    · intro P0 ord B ho
      simp
      have hord : ord.length ≤ K.length := by have := nodup_len B.nd ho; simpa using this
      refine ⟨noL_mc, ?_⟩
      refine least_in_w (bfs_ok B k1 k3 (by omega)) ?_
      intro P hP
      simp
      exact h P (hP.lm B.hk (fun w hw => lng_node ok B hw) (by rw [B.rl]; exact hord))
theorem turned_w (ok : M.Ok) {α : Type} (c : List Int → α) (K : List α) (hK : K.length ≤ 3000) (hc : ∀ w, IsW M.k w → c w ∈ K) (hd : ∀ w v, IsW M.k w → IsW M.k v → c w = c v → nodeM M w = nodeM M v)
    {Q : SV → List SV → Prop} (h : ∀ P, LM M.k (fun w => M.tk w.reverse) K.length P → Q (.d P.d) [.d M.d]) : wC (d_turned [.d M.d]) Q := by
  unfold d_turned
  rw [wC_denOf]
  simp [b_turned, wE_callD]
  refine check_machine_w ok ?_
  simp [wE_callD]
  refine turned_in_w ok c K hK hc hd ?_
  intro P hP
  simpa using h P hP
end
end DL
end

section
set_option Elab.async false
set_option linter.all false
set_option maxRecDepth 100000
set_option maxHeartbeats 4000000
/-! S38: all words, to a length told by their number. -/
namespace DL
open PySem L2 Fz SrtO
theorem allW_bigB {k : Nat} : ∀ {n : Nat}, (∀ m, m ≤ n → (layW k m).length ≤ 20000) → (allW k n).length ≤ 20000 * (n + 1)
  | 0, _ => by simp [allW]
  | n + 1, h => by
    have := h (n + 1) (Nat.le_refl _)
    have := allW_bigB (n := n) fun m hm => h m (by omega)
    rw [allW, List.length_append]; omega
theorem layW_12 {k n : Nat} (h : (k ≤ 3 ∧ n ≤ 9) ∨ (k ≤ 2 ∧ n ≤ 12) ∨ k ≤ 1) : ∀ m, m ≤ n → (layW k m).length ≤ 20000 := fun m hm => by
  rcases h with ⟨h1, h2⟩ | ⟨h1, h2⟩ | h1
  · exact layW_big h1 (by omega)
  · rw [layW_len]
    have a : k ^ m ≤ 2 ^ m := Nat.pow_le_pow_left h1 m
    have b : 2 ^ m ≤ 2 ^ 12 := Nat.pow_le_pow_right (by decide) (by omega)
    have c : 2 ^ 12 ≤ 20000 := by decide
    omega
  · rw [layW_len]
    have a : k ^ m ≤ 1 ^ m := Nat.pow_le_pow_left h1 m
    rw [Nat.one_pow] at a
    omega
theorem law_all_b {k n : Nat} (hk : k ≤ 3) (hn : n ≤ 12) (hB : ∀ m, m ≤ n → (layW k m).length ≤ 20000) {Q : SV → List SV → Prop} (h : Q (.d (.list (LW (allW k n)))) [.d (.int k), .d (.int n)]) : wC (d__law_all [.d (.int k), .d (.int n)]) Q := by
  unfold d__law_all
  rw [wC_denOf]
  simp [b__law_all]
  refine ⟨by omega, ?_⟩
  rw [rng0]
  refine wS_forP (fun p r S => ∃ sv c4 c5 c6 c7, (sv = .own (.lst (LW (layW k p.length))) ∨ sv = .d (.list (LW (layW k p.length)))) ∧ p.length ≤ n ∧ S = [some (.d (.int k)), some (.d (.int n)), some (.own (.lst (LW (allW k p.length)))), some sv, c4, c5, c6, c7]) ⟨_, none, none, none, none, .inl rfl, Nat.zero_le _, rfl⟩ ?_ ?_
  · rintro p x r S e ⟨sv, c4, c5, c6, c7, hsv, hp, rfl⟩
    have hp2 : p.length + 1 ≤ n := by
      have := congrArg List.length e
      simp at this; omega
    have body : ∀ c4 c6 c7, wS (forF (gN 6) (fExtend 5 (fLc (fRange1 (fVar 0)) (gN 7) (fC true) (fFrz (fOpN pAdd 6 (fTup (fCons (fVar 7) (fC []))))) [7])) (LW (layW k p.length)) [some (.d (.int k)), some (.d (.int n)), some (.own (.lst (LW (allW k p.length)))), some (.d (.list (LW (layW k p.length)))), c4, some (.own (.lst [])), c6, c7])
        (fun S => ∃ c6 c7, S = [some (.d (.int k)), some (.d (.int n)), some (.own (.lst (LW (allW k p.length)))), some (.d (.list (LW (layW k p.length)))), c4, some (.own (.lst (LW (layW k (p.length + 1))))), c6, c7]) (fun _ _ => False) (fun _ => False) (fun _ => False) := by
      intro c4 c6 c7
      unfold LW
      refine wS_forP (fun q r S => ∃ c6 c7, S = [some (.d (.int k)), some (.d (.int n)), some (.own (.lst (LW (allW k p.length)))), some (.d (.list (LW (layW k p.length)))), c4, some (.own (.lst (LW (q.flatMap (ext1 k))))), c6, c7]) ⟨c6, c7, rfl⟩ ?_ ?_
      · rintro q w r S e ⟨c6, c7, rfl⟩
        have hw : w.length = p.length := (layW_mem.mp (by rw [e]; simp)).1
        simp
        refine ⟨by omega, ?_⟩
        rw [rng0]
        refine lc_w (fun _ => true) (fun i : Nat => W (w ++ [(i : Int)])) (fun S => ∃ c7, S = [some (.d (.int k)), some (.d (.int n)), some (.own (.lst (LW (allW k p.length)))), some (.d (.list (LW (layW k p.length)))), c4, some (.own (.lst (LW (q.flatMap (ext1 k))))), some (.d (W w)), c7]) ⟨_, rfl⟩ (by simp; omega) ?_ ?_
        · rintro i hi S ⟨c7, rfl⟩
          simp
          have h8 : w.length + 1 ≤ 16000000 := by omega
          exact szL h8
        · rintro S ⟨c7, rfl⟩
          simp
          refine ⟨szL ?_, ?_⟩
          · have := hB (p.length + 1) hp2
            rw [layW, e, List.flatMap_append, List.length_append, List.flatMap_cons, List.length_append, ext1_len] at this
            simp only [LW, List.length_map]; omega
          · simp [LW, ext1]
      · rintro S ⟨c6, c7, rfl⟩
        exact ⟨c6, c7, rfl⟩
    rcases hsv with rfl | rfl
    all_goals
      simp
      refine (body _ _ _).imp ?_ (fun _ _ z => z.elim) (fun _ z => z.elim) (fun _ z => z.elim)
      rintro S ⟨c6, c7, rfl⟩
      simp
      have b1 := hB (p.length + 1) hp2
      have b2 := allW_bigB (n := p.length) fun m hm => hB m (by omega)
      have b3 : (LW (allW k p.length)).length + (LW (layW k (p.length + 1))).length ≤ 16000000 := by
        simp only [LW, List.length_map]
        have : 20000 * (p.length + 1) ≤ 20000 * 13 := Nat.mul_le_mul_left _ (by omega)
        omega
      exact ⟨szL b3, hp2, by simp [LW, allW]⟩
  · rintro S ⟨sv, c4, c5, c6, c7, hsv, hp, rfl⟩
    simp
    simpa using h
end DL
end

section
set_option Elab.async false
set_option linter.all false
set_option maxRecDepth 100000
set_option maxHeartbeats 4000000
/-! S48: machines turned about, by languages; machines as texts. -/
namespace DL
open PySem L2 Fz SrtO
def subsL {α : Type} : List α → List (List α)
  | [] => [[]]
  | x :: r => subsL r ++ (subsL r).map (x :: ·)
theorem subsL_len {α : Type} : ∀ l : List α, (subsL l).length = 2 ^ l.length
  | [] => rfl
  | x :: r => by
    have := subsL_len r
    simp [subsL, this, Nat.pow_succ]
    omega
theorem subsL_filter {α : Type} {p : α → Bool} : ∀ l : List α, l.filter p ∈ subsL l
  | [] => by simp [subsL]
  | x :: r => by
    have ih := subsL_filter (p := p) r
    unfold subsL
    rw [List.filter_cons]
    split
    · exact List.mem_append_right _ (List.mem_map.mpr ⟨_, ih, rfl⟩)
    · exact List.mem_append_left _ ih
/-- all sets of states -/
def setsM (M : Mc) : List (List Int) := (subsL (List.range M.rows.length)).map fun l => l.map fun s : Nat => (s : Int)
theorem setsM_len {M : Mc} : (setsM M).length = 2 ^ M.rows.length := by unfold setsM; rw [List.length_map, subsL_len, List.length_range]
theorem setsM_mem {M : Mc} {w : List Int} : nodeM M w ∈ setsM M := by
  unfold setsM nodeM
  exact List.mem_map.mpr ⟨_, subsL_filter _, rfl⟩
theorem setsM_le {M : Mc} {n : Nat} (h : M.rows.length ≤ n) : (setsM M).length ≤ 2 ^ n := by rw [setsM_len]; exact Nat.pow_le_pow_right (by decide) h
theorem LM.reach {k n : Nat} {L : List Int → Bool} {P : Mc} (h : LM k L n P) {s : Nat} (hs : s < P.rows.length) : ∃ u, IsW k u ∧ P.run 0 u = s := by
  obtain ⟨ord, B⟩ := h.least
  exact bfs_reach B s s (Nat.le_refl _) (by rw [← B.rl]; exact hs)
theorem tk_app_node {M : Mc} (ok : M.Ok) {w v u : List Int} (hu : IsW M.k u) (h : nodeM M w = nodeM M v) : M.tk (u ++ w) = M.tk (u ++ v) := by
  have hl := Mc.run_lt ok (s := 0) (w := u) (by have := ok.n1; omega) hu
  have := node_iff.mp h _ hl
  unfold Mc.tk
  rw [Mc.run_app, Mc.run_app]
  exact decide_eq_decide.mpr this
section
variable {k n : Nat} {L : List Int → Bool} {M : Mc} {Q : SV → List SV → Prop}
/-- a small machine, turned about -/
theorem turned_small (a : BM k L n M) (hn : n ≤ 11) (h : ∀ P, LM k (fun w => L w.reverse) (2 ^ n) P → Q (.d P.d) [.d M.d]) : wC (d_turned [.d M.d]) Q := by
  have hp : (setsM M).length ≤ 2 ^ n := setsM_le a.le
  have hp2 : 2 ^ n ≤ 2 ^ 11 := Nat.pow_le_pow_right (by decide) hn
  refine turned_w a.ok (nodeM M) (setsM M) (by omega) (fun w _ => setsM_mem) (fun w v _ _ e => e) ?_
  intro P hP
  rw [a.hk] at hP
  exact h P (hP.cast (fun w hw => a.tk _ fun x hx => hw x (List.mem_reverse.mp hx)) hp)
/-- a least machine, turned about -/
theorem turned_lm (a : LM k L n M) {α : Type} (c : List Int → α) (K : List α) (hK : K.length ≤ 3000) (hc : ∀ w, IsW k w → c w ∈ K) (hd : ∀ w v u, IsW k w → IsW k v → IsW k u → c w = c v → L (u ++ w) = L (u ++ v))
    (h : ∀ P, LM k (fun w => L w.reverse) K.length P → Q (.d P.d) [.d M.d]) : wC (d_turned [.d M.d]) Q := by
  refine turned_w a.ok c K hK (fun w hw => hc w (by rw [← a.hk]; exact hw)) (fun w v hw hv e => ?_) ?_
  · rw [a.hk] at hw hv
    refine node_iff.mpr fun s hs => ?_
    obtain ⟨u, hu, rfl⟩ := a.reach hs
    have app : ∀ {x : List Int}, IsW k x → IsW k (u ++ x) := fun {x} hx z hz => by
      rcases List.mem_append.mp hz with hz | hz
      · exact hu z hz
      · exact hx z hz
    have := hd w v u hw hv hu e
    rw [← a.tk _ (app hw), ← a.tk _ (app hv)] at this
    unfold Mc.tk at this
    rw [Mc.run_app, Mc.run_app] at this
    exact decide_eq_decide.mp this
  · intro P hP
    rw [a.hk] at hP
    exact h P (hP.cast (fun w hw => a.tk _ fun x hx => hw x (List.mem_reverse.mp hx)) (Nat.le_refl _))
end
theorem fin_tk {M N : Mc} (ok : M.Ok) (ok2 : N.Ok) {w v : List Int} (hw : IsW M.k w) (hv : IsW N.k v) (h : M.tk w = N.tk v) : M.fin (M.run 0 w) = N.fin (N.run 0 v) := by
  obtain ⟨_, a1, a2⟩ := Mc.fin_at ok (Mc.run_lt ok (s := 0) (by have := ok.n1; omega) hw)
  obtain ⟨_, b1, b2⟩ := Mc.fin_at ok2 (Mc.run_lt ok2 (s := 0) (w := v) (by have := ok2.n1; omega) hv)
  unfold Mc.tk at h
  have := decide_eq_decide.mp h
  omega
theorem show_mcB {M : Mc} (ok : M.Ok) (n40 : M.rows.length ≤ 40) : ShowB 6009 M.d := by
  have k3 := ok.k3
  have hen := ok.en
  have hr : ∀ d ∈ M.rows.map W, ShowB 30 d := fun d hd => by
    obtain ⟨w, hw, rfl⟩ := List.mem_map.mp hd
    refine (ShowB.W fun x hx => ?_).up ?_
    · have := (ok.rw w hw).2 x hx; omega
    · have := (ok.rw w hw).1; omega
  have hb : ∀ d ∈ [PyData.int (M.k : Int), .tuple (M.rows.map W), W M.ends], ShowB 2000 d := fun d hd => by
    simp only [List.mem_cons, List.not_mem_nil, or_false] at hd
    rcases hd with rfl | rfl | rfl
    · exact (ShowB.nat (by omega) (by omega)).up (by omega)
    · exact (ShowB.tup hr).up (by rw [List.length_map]; omega)
    · exact (ShowB.W fun x hx => by have := ok.ew x hx; omega).up (by omega)
  exact (ShowB.tup hb).up (by simp)
theorem show_two {M N : Mc} (ok : M.Ok) (ok2 : N.Ok) (h1 : M.rows.length ≤ 40) (h2 : N.rows.length ≤ 40) : showOk (.list [M.d, N.d]) := by
  have hb : ∀ d ∈ [M.d, N.d], ShowB 6009 d := fun d hd => by
    simp only [List.mem_cons, List.not_mem_nil, or_false] at hd
    rcases hd with rfl | rfl
    · exact show_mcB ok h1
    · exact show_mcB ok2 h2
  exact ShowB.showOk (n := 6011 * 2 + 3) (k := 6) ((ShowB.lst hb).up (by simp)) (by omega) (.lst (by simp) (.cons (smal_mc ok) (.cons (smal_mc ok2) .nil))) (by omega)
end DL
end

section
set_option Elab.async false
set_option linter.all false
set_option maxRecDepth 100000
set_option maxHeartbeats 4000000
namespace K13
open PySem L2 Fz SrtO DL
theorem same_ok {d : D} (hd : Smal 8 d) {Q : SV → List SV → Prop} (h : Q (.d (.bool true)) [.d d, .d d]) : wC (d__law_same 24 [.d d, .d d]) Q := same_w hd (by decide) h
def prK {α β : Type} (A : List α) (B : List β) : List (α × β) := A.flatMap fun a => B.map fun b => (a, b)
theorem prK_len {α β : Type} {B : List β} : ∀ A : List α, (prK A B).length = A.length * B.length
  | [] => by simp [prK]
  | a :: A => by
    have := prK_len (B := B) A
    unfold prK at this ⊢
    rw [List.flatMap_cons, List.length_append, this, List.length_map, List.length_cons, Nat.succ_mul, Nat.add_comm]
theorem prK_mem {α β : Type} {A : List α} {B : List β} {a : α} {b : β} (ha : a ∈ A) (hb : b ∈ B) : (a, b) ∈ prK A B := List.mem_flatMap.mpr ⟨a, ha, List.mem_map.mpr ⟨b, hb, rfl⟩⟩
theorem the_law (ns : List Int) (h : ns.length ≤ 63) (hb : ∀ z ∈ ns, Builtin.Int.intBits z ≤ 1048576) : ∃ l, d_law13 [.d (scriptD ns)] = .ok (.d (.bool true)) l := by
  unfold d_law13
  refine shellI (n := 9) (m := 2) (by decide) (by decide) h ?_
  intro at_ o r hat ho hr hcl
  refine turnsI (n := 8) (N := 2) (by decide) ho hr hcl ?_ ?_
  · intro t o r ht ho hr hcl
    obtain ⟨c4, c5, c6, c7, c8, c9, c10, c11, rfl⟩ : ∃ c4 c5 c6 c7 c8 c9 c10 c11, r = [c4, c5, c6, c7, c8, c9, c10, c11] := by
      match r, hr with
      | [c4, c5, c6, c7, c8, c9, c10, c11], _ => exact ⟨_, _, _, _, _, _, _, _, rfl⟩
    simp [Cl, noLS] at hcl
    obtain ⟨n4, n5, n6, n7, n8, n9, n10, n11⟩ := hcl
    simp [wE_callD]
    refine take_w ho (by omega) (by omega) ?_
    intro o1 k0 ho1 hk0 hk1
    simp
    obtain ⟨k, hk⟩ : ∃ k : Nat, (1 + k0 : Int) = (k : Int) := ⟨(1 + k0).toNat, by omega⟩
    have hkl : 1 ≤ k := by omega
    have hku : k ≤ 3 := by omega
    rw [hk]
    refine ⟨fun _ => ?_, fun _ => ?_⟩
    · refine law_machine_w (most := 5) ho1 hkl hku (by decide) (by decide) ?_
      intro o2 M ho2 ok hMk hMn
      simp
      refine ⟨fun _ => ?_, fun hx => by omega⟩
      refine law_machine_w (most := 4) ho2 hkl hku (by decide) (by decide) ?_
      intro o3 N ho3 okN hNk hNn
      subst hMk
      have a : BM M.k M.tk 5 M := ⟨ok, rfl, fun _ _ => rfl, hMn⟩
      have b : BM M.k N.tk 4 N := ⟨okN, hNk, fun _ _ => rfl, hNn⟩
      have so := show_two ok okN (by omega) (by omega)
      have rv : ∀ {w : List Int}, IsW M.k w → IsW M.k w.reverse := fun {w} hw x hx => hw x (List.mem_reverse.mp hx)
      simp [so, wE_callD]
      refine turned_small a (by decide) ?_
      intro B hB
      simp [wE_callD]
      refine turned_small a (by decide) ?_
      intro B2 hB2
      have e2 : B2 = B := hB2.uniq hB fun w _ => rfl
      subst e2
      simp [wE_callD]
      refine least_b hB.b ?_
      intro B3 hB3
      have e3 : B3 = B2 := hB3.uniq hB fun w _ => rfl
      subst e3
      simp [wE_callD]
      refine turned_lm hB (fun w => M.run 0 w.reverse) (List.range M.rows.length) (by simp; omega) (fun w hw => List.mem_range.mpr (Mc.run_lt ok (by have := ok.n1; omega) (rv hw))) (fun w v u hw hv hu e => ?_) ?_
      · unfold Mc.tk
        rw [List.reverse_append, List.reverse_append, Mc.run_app, Mc.run_app, e]
      intro P hP
      simp [wE_callD]
      refine least_b a ?_
      intro P2 hP2
      have e4 : P2 = P := hP2.uniq hP fun w hw => by rw [List.reverse_reverse]
      subst e4
      simp [wE_callD]
      refine same_ok (.lst (by simp) (.cons (smal_mc hB.ok) (.cons (smal_mc hB.ok) (.cons (smal_mc hP.ok) .nil)))) ?_
      simp
      obtain ⟨n, hn, hnk, en⟩ : ∃ n : Nat, n ≤ 9 ∧ ((M.k ≤ 3 ∧ n ≤ 9) ∨ (M.k ≤ 2 ∧ n ≤ 12) ∨ M.k ≤ 1) ∧ [PyData.int 0, PyData.int 9, .int 6, .int 4][M.k]? = some (PyData.int (n : Nat)) := by
        have : M.k = 1 ∨ M.k = 2 ∨ M.k = 3 := by omega
        rcases this with e | e | e <;> rw [e]
        · exact ⟨9, by decide, by omega, rfl⟩
        · exact ⟨6, by decide, by omega, rfl⟩
        · exact ⟨4, by decide, by omega, rfl⟩
      rw [en]
      simp
      have hB12 := layW_12 hnk
      refine law_all_b (n := n) hku (by omega) hB12 ?_
      simp
      rw [show LW (allW M.k n) = (allW M.k n).map W from rfl]
      refine wS_forP (fun _ _ S => ∃ c9, noLSv c9 = true ∧ S = [some (.d (scriptD ns)), some (.d (.int at_)), some (.own o3), some (.d (.int t)), some (.d (.int (M.k : Int))), some (.d M.d), some (.d N.d), some (.d (.str (PyData.list [M.d, N.d]).shown)), some (.d B3.d), c9, c10, c11]) ⟨c9, n9, rfl⟩ ?_ ?_
      · rintro p u r S e ⟨c9, n9, rfl⟩
        have hu := allW_mem.mp (show u ∈ allW M.k n by rw [e]; simp)
        simp [wE_callD]
        refine law_walk_w hB.ok (by rw [hB.hk]; exact hu.2) ?_
        simp [wE_callD]
        refine law_walk_w ok (rv hu.2) ?_
        have ef := fin_tk hB.ok ok (by rw [hB.hk]; exact hu.2) (rv hu.2) (hB.tk u hu.2)
        simp [ef]
      · rintro S ⟨c9, n9, rfl⟩
        simp [wE_callD]
        have kM : (setsM M).length ≤ 2 ^ 5 := setsM_le hMn
        have kN : (setsM N).length ≤ 2 ^ 4 := setsM_le hNn
        have kP : (prK (setsM M) (setsM N)).length ≤ 2 ^ 5 * 2 ^ 4 := by rw [prK_len]; exact Nat.mul_le_mul kM kN
        have tkN : ∀ {w v u : List Int}, IsW M.k u → nodeM N w = nodeM N v → N.tk (u ++ w) = N.tk (u ++ v) := fun hu e => tk_app_node okN (by rw [hNk]; exact hu) e
        refine uni_b a b (by decide) ?_
        intro U hU
        simp [wE_callD]
        refine turned_lm hU (fun w => (nodeM M w, nodeM N w)) (prK (setsM M) (setsM N)) (by omega) (fun w _ => prK_mem setsM_mem setsM_mem) (fun w v u _ _ hu e => ?_) ?_
        · have e := Prod.mk.inj e
          simp only [tk_app_node ok hu e.1, tkN hu e.2]
        intro U' hU'
        simp [wE_callD]
        refine int_b a b (by decide) ?_
        intro I hI
        simp [wE_callD]
        refine turned_lm hI (fun w => (nodeM M w, nodeM N w)) (prK (setsM M) (setsM N)) (by omega) (fun w _ => prK_mem setsM_mem setsM_mem) (fun w v u _ _ hu e => ?_) ?_
        · have e := Prod.mk.inj e
          simp only [tk_app_node ok hu e.1, tkN hu e.2]
        intro I' hI'
        simp [wE_callD]
        refine compl_b a ?_
        intro C hC
        simp [wE_callD]
        refine turned_lm hC (nodeM M) (setsM M) (by omega) (fun w _ => setsM_mem) (fun w v u _ _ hu e => ?_) ?_
        · simp only [tk_app_node ok hu e]
        intro C' hC'
        simp [wE_callD]
        refine turned_small b (by decide) ?_
        intro T hT
        simp [wE_callD]
        refine uni_b hB.b hT.b (by decide) ?_
        intro U2 hU2
        have eU : U2 = U' := hU2.uniq hU' fun w _ => rfl
        subst eU
        simp [wE_callD]
        refine turned_small b (by decide) ?_
        intro T2 hT2
        simp [wE_callD]
        refine int_b hB.b hT2.b (by decide) ?_
        intro I2 hI2
        have eI : I2 = I' := hI2.uniq hI' fun w _ => rfl
        subst eI
        simp [wE_callD]
        refine compl_b hB.b ?_
        intro C2 hC2
        have eC : C2 = C' := hC2.uniq hC' fun w _ => rfl
        subst eC
        simp [wE_callD]
        refine same_ok (.lst (by simp) (.cons (smal_mc hU2.ok) (.cons (smal_mc hI2.ok) (.cons (smal_mc hC2.ok) .nil)))) ?_
        simp [so]
        exact ⟨o3, ho3, _, _, rfl, by simp [Cl, noLS, n9], rfl, rfl, rfl⟩
    · refine law_machine_w (most := 4) ho1 hkl hku (by decide) (by decide) ?_
      intro o2 M ho2 ok hMk hMn0
      have hMn : M.rows.length ≤ 5 := by omega
      simp
      refine ⟨fun hx => by omega, fun _ => ?_⟩
      refine law_machine_w (most := 3) ho2 hkl hku (by decide) (by decide) ?_
      intro o3 N ho3 okN hNk hNn0
      have hNn : N.rows.length ≤ 4 := by omega
      subst hMk
      have a : BM M.k M.tk 5 M := ⟨ok, rfl, fun _ _ => rfl, hMn⟩
      have b : BM M.k N.tk 4 N := ⟨okN, hNk, fun _ _ => rfl, hNn⟩
      have so := show_two ok okN (by omega) (by omega)
      have rv : ∀ {w : List Int}, IsW M.k w → IsW M.k w.reverse := fun {w} hw x hx => hw x (List.mem_reverse.mp hx)
      simp [so, wE_callD]
      refine turned_small a (by decide) ?_
      intro B hB
      simp [wE_callD]
      refine turned_small a (by decide) ?_
      intro B2 hB2
      have e2 : B2 = B := hB2.uniq hB fun w _ => rfl
      subst e2
      simp [wE_callD]
      refine least_b hB.b ?_
      intro B3 hB3
      have e3 : B3 = B2 := hB3.uniq hB fun w _ => rfl
      subst e3
      simp [wE_callD]
      refine turned_lm hB (fun w => M.run 0 w.reverse) (List.range M.rows.length) (by simp; omega) (fun w hw => List.mem_range.mpr (Mc.run_lt ok (by have := ok.n1; omega) (rv hw))) (fun w v u hw hv hu e => ?_) ?_
      · unfold Mc.tk
        rw [List.reverse_append, List.reverse_append, Mc.run_app, Mc.run_app, e]
      intro P hP
      simp [wE_callD]
      refine least_b a ?_
      intro P2 hP2
      have e4 : P2 = P := hP2.uniq hP fun w hw => by rw [List.reverse_reverse]
      subst e4
      simp [wE_callD]
      refine same_ok (.lst (by simp) (.cons (smal_mc hB.ok) (.cons (smal_mc hB.ok) (.cons (smal_mc hP.ok) .nil)))) ?_
      simp
      obtain ⟨n, hn, hnk, en⟩ : ∃ n : Nat, n ≤ 9 ∧ ((M.k ≤ 3 ∧ n ≤ 9) ∨ (M.k ≤ 2 ∧ n ≤ 12) ∨ M.k ≤ 1) ∧ [PyData.int 0, PyData.int 9, .int 6, .int 4][M.k]? = some (PyData.int (n : Nat)) := by
        have : M.k = 1 ∨ M.k = 2 ∨ M.k = 3 := by omega
        rcases this with e | e | e <;> rw [e]
        · exact ⟨9, by decide, by omega, rfl⟩
        · exact ⟨6, by decide, by omega, rfl⟩
        · exact ⟨4, by decide, by omega, rfl⟩
      rw [en]
      simp
      have hB12 := layW_12 hnk
      refine law_all_b (n := n) hku (by omega) hB12 ?_
      simp
      rw [show LW (allW M.k n) = (allW M.k n).map W from rfl]
      refine wS_forP (fun _ _ S => ∃ c9, noLSv c9 = true ∧ S = [some (.d (scriptD ns)), some (.d (.int at_)), some (.own o3), some (.d (.int t)), some (.d (.int (M.k : Int))), some (.d M.d), some (.d N.d), some (.d (.str (PyData.list [M.d, N.d]).shown)), some (.d B3.d), c9, c10, c11]) ⟨c9, n9, rfl⟩ ?_ ?_
      · rintro p u r S e ⟨c9, n9, rfl⟩
        have hu := allW_mem.mp (show u ∈ allW M.k n by rw [e]; simp)
        simp [wE_callD]
        refine law_walk_w hB.ok (by rw [hB.hk]; exact hu.2) ?_
        simp [wE_callD]
        refine law_walk_w ok (rv hu.2) ?_
        have ef := fin_tk hB.ok ok (by rw [hB.hk]; exact hu.2) (rv hu.2) (hB.tk u hu.2)
        simp [ef]
      · rintro S ⟨c9, n9, rfl⟩
        simp [wE_callD]
        have kM : (setsM M).length ≤ 2 ^ 5 := setsM_le hMn
        have kN : (setsM N).length ≤ 2 ^ 4 := setsM_le hNn
        have kP : (prK (setsM M) (setsM N)).length ≤ 2 ^ 5 * 2 ^ 4 := by rw [prK_len]; exact Nat.mul_le_mul kM kN
        have tkN : ∀ {w v u : List Int}, IsW M.k u → nodeM N w = nodeM N v → N.tk (u ++ w) = N.tk (u ++ v) := fun hu e => tk_app_node okN (by rw [hNk]; exact hu) e
        refine uni_b a b (by decide) ?_
        intro U hU
        simp [wE_callD]
        refine turned_lm hU (fun w => (nodeM M w, nodeM N w)) (prK (setsM M) (setsM N)) (by omega) (fun w _ => prK_mem setsM_mem setsM_mem) (fun w v u _ _ hu e => ?_) ?_
        · have e := Prod.mk.inj e
          simp only [tk_app_node ok hu e.1, tkN hu e.2]
        intro U' hU'
        simp [wE_callD]
        refine int_b a b (by decide) ?_
        intro I hI
        simp [wE_callD]
        refine turned_lm hI (fun w => (nodeM M w, nodeM N w)) (prK (setsM M) (setsM N)) (by omega) (fun w _ => prK_mem setsM_mem setsM_mem) (fun w v u _ _ hu e => ?_) ?_
        · have e := Prod.mk.inj e
          simp only [tk_app_node ok hu e.1, tkN hu e.2]
        intro I' hI'
        simp [wE_callD]
        refine compl_b a ?_
        intro C hC
        simp [wE_callD]
        refine turned_lm hC (nodeM M) (setsM M) (by omega) (fun w _ => setsM_mem) (fun w v u _ _ hu e => ?_) ?_
        · simp only [tk_app_node ok hu e]
        intro C' hC'
        simp [wE_callD]
        refine turned_small b (by decide) ?_
        intro T hT
        simp [wE_callD]
        refine uni_b hB.b hT.b (by decide) ?_
        intro U2 hU2
        have eU : U2 = U' := hU2.uniq hU' fun w _ => rfl
        subst eU
        simp [wE_callD]
        refine turned_small b (by decide) ?_
        intro T2 hT2
        simp [wE_callD]
        refine int_b hB.b hT2.b (by decide) ?_
        intro I2 hI2
        have eI : I2 = I' := hI2.uniq hI' fun w _ => rfl
        subst eI
        simp [wE_callD]
        refine compl_b hB.b ?_
        intro C2 hC2
        have eC : C2 = C' := hC2.uniq hC' fun w _ => rfl
        subst eC
        simp [wE_callD]
        refine same_ok (.lst (by simp) (.cons (smal_mc hU2.ok) (.cons (smal_mc hI2.ok) (.cons (smal_mc hC2.ok) .nil)))) ?_
        simp [so]
        exact ⟨o3, ho3, _, _, rfl, by simp [Cl, noLS, n9], rfl, rfl, rfl⟩
  · intro o r ho hr hcl
    exact ⟨_, _, r, by simpa using hr, by simpa using hcl, rfl⟩
end K13
end

section
set_option Elab.async false
set_option linter.all false
set_option maxRecDepth 100000
set_option maxHeartbeats 4000000

/-! the text: its defs -/
namespace K13
open PySem PySem.Spec PyProof.Rows L2 Fz DL
def top (i : Nat) : Stmt := PySem.Challenge.pw_wholestrewn_k13_whole_machines_turned_ab.main.body.getD i (.Pass ⟨0, 0, 0, 0⟩)
def D__law_all : He.DefD := ⟨("_law_all", none), "_law_all", "_law_all", defArgs (top 35), defBody (top 35), defScope (top 35), [], []⟩
def D__law_take : He.DefD := ⟨("_law_take", none), "_law_take", "_law_take", defArgs (top 33), defBody (top 33), defScope (top 33), [], []⟩
def D__law_machine : He.DefD := ⟨("_law_machine", none), "_law_machine", "_law_machine", defArgs (top 37), defBody (top 37), defScope (top 37), [], []⟩
def D__law_same : He.DefD := ⟨("_law_same", none), "_law_same", "_law_same", defArgs (top 34), defBody (top 34), defScope (top 34), [], []⟩
def D__law_walk : He.DefD := ⟨("_law_walk", none), "_law_walk", "_law_walk", defArgs (top 36), defBody (top 36), defScope (top 36), [], []⟩
def D__law_well : He.DefD := ⟨("_law_well", none), "_law_well", "_law_well", defArgs (top 32), defBody (top 32), defScope (top 32), [], []⟩
def D_is_integer : He.DefD := ⟨("is_integer", none), "is_integer", "is_integer", defArgs (top 6), defBody (top 6), defScope (top 6), [], []⟩
def D_is_natural : He.DefD := ⟨("is_natural", none), "is_natural", "is_natural", defArgs (top 7), defBody (top 7), defScope (top 7), [], []⟩
def D_is_below : He.DefD := ⟨("is_below", none), "is_below", "is_below", defArgs (top 8), defBody (top 8), defScope (top 8), [], []⟩
def D_is_between : He.DefD := ⟨("is_between", none), "is_between", "is_between", defArgs (top 9), defBody (top 9), defScope (top 9), [], []⟩
def D_is_k : He.DefD := ⟨("is_k", none), "is_k", "is_k", defArgs (top 10), defBody (top 10), defScope (top 10), [], []⟩
def D_is_machine_of : He.DefD := ⟨("is_machine_of", none), "is_machine_of", "is_machine_of", defArgs (top 12), defBody (top 12), defScope (top 12), [], []⟩
def D_check_machine : He.DefD := ⟨("check_machine", none), "check_machine", "check_machine", defArgs (top 13), defBody (top 13), defScope (top 13), [], []⟩
def D_machine_from : He.DefD := ⟨("machine_from", none), "machine_from", "machine_from", defArgs (top 15), defBody (top 15), defScope (top 15), [], []⟩
def D_sorts_of : He.DefD := ⟨("sorts_of", none), "sorts_of", "sorts_of", defArgs (top 16), defBody (top 16), defScope (top 16), [], []⟩
def D_least_in : He.DefD := ⟨("least_in", none), "least_in", "least_in", defArgs (top 17), defBody (top 17), defScope (top 17), [], []⟩
def D_turned_ends : He.DefD := ⟨("turned_ends", none), "turned_ends", "turned_ends", defArgs (top 21), defBody (top 21), defScope (top 21), [], []⟩
def D_contrary_in : He.DefD := ⟨("contrary_in", none), "contrary_in", "contrary_in", defArgs (top 22), defBody (top 22), defScope (top 22), [], []⟩
def D_complement : He.DefD := ⟨("complement", none), "complement", "complement", defArgs (top 27), defBody (top 27), defScope (top 27), [], []⟩
def D_paired : He.DefD := ⟨("paired", none), "paired", "paired", defArgs (top 18), defBody (top 18), defScope (top 18), [], []⟩
def D_join_in : He.DefD := ⟨("join_in", none), "join_in", "join_in", defArgs (top 23), defBody (top 23), defScope (top 23), [], []⟩
def D_both_in : He.DefD := ⟨("both_in", none), "both_in", "both_in", defArgs (top 24), defBody (top 24), defScope (top 24), [], []⟩
def D_check_two : He.DefD := ⟨("check_two", none), "check_two", "check_two", defArgs (top 14), defBody (top 14), defScope (top 14), [], []⟩
def D_intersection : He.DefD := ⟨("intersection", none), "intersection", "intersection", defArgs (top 28), defBody (top 28), defScope (top 28), [], []⟩
def D_least_machine : He.DefD := ⟨("least_machine", none), "least_machine", "least_machine", defArgs (top 19), defBody (top 19), defScope (top 19), [], []⟩
def D_turned_in : He.DefD := ⟨("turned_in", none), "turned_in", "turned_in", defArgs (top 26), defBody (top 26), defScope (top 26), [], []⟩
def D_turned : He.DefD := ⟨("turned", none), "turned", "turned", defArgs (top 30), defBody (top 30), defScope (top 30), [], []⟩
def D_either_in : He.DefD := ⟨("either_in", none), "either_in", "either_in", defArgs (top 25), defBody (top 25), defScope (top 25), [], []⟩
def D_union : He.DefD := ⟨("union", none), "union", "union", defArgs (top 29), defBody (top 29), defScope (top 29), [], []⟩
def D_law : He.DefD := ⟨("law", none), "law", "law", defArgs (top 38), defBody (top 38), defScope (top 38), [], []⟩
def fn : List He.DefD := [D__law_all, D__law_take, D__law_machine, D__law_same, D__law_walk, D__law_well, D_is_integer, D_is_natural, D_is_below, D_is_between, D_is_k, D_is_machine_of, D_check_machine, D_machine_from, D_sorts_of, D_least_in, D_turned_ends, D_contrary_in, D_complement, D_paired, D_join_in, D_both_in, D_check_two, D_intersection, D_least_machine, D_turned_in, D_turned, D_either_in, D_union, D_law]
def fa : List He.Fa := [.glo "_law_all", .glo "_law_take", .glo "_law_machine", .glo "_law_same", .glo "_law_walk", .glo "_law_well", .glo "is_integer", .glo "is_natural", .glo "is_below", .glo "is_between", .glo "is_k", .glo "is_machine_of", .glo "check_machine", .glo "machine_from", .glo "sorts_of", .glo "least_in", .glo "turned_ends", .glo "contrary_in", .glo "complement", .glo "paired", .glo "join_in", .glo "both_in", .glo "check_two", .glo "intersection", .glo "least_machine", .glo "turned_in", .glo "turned", .glo "either_in", .glo "union", .glo "law", .free "range", .free "int", .free "tuple", .free "isinstance", .free "bool", .free "str", .free "list", .free "len", .free "all", .free "abs", .free "max", .int "MOST_LETTERS" 3, .free "set", .free "enumerate", .free "min", .free "repr"]
def ts : List DP := [("is_machine_of", none), ("least_in", none), ("paired", none), ("both_in", none), ("turned_in", none), ("either_in", none)]
/-! derivations -/
section
variable {P : Program} {w : World} {K : Fg} {mg : Str → Option Value} {base : Heap} {T : List Addr}
theorem sc__law_all : FnScope ["k", "most", "found", "layer", "length", "longer", "word", "letter"] ["k", "most"] D__law_all.scope := ⟨rfl, rfl, rfl, by decide +kernel, rfl, by decide +kernel, by decide +kernel⟩
theorem f__law_all (C : HeadC fa fn ts K mg base T) : FnF P w K mg base T 1 D__law_all "_law_all" ["k", "most"] 2 d__law_all := by
  unfold d__law_all
  refine fn_mk C 0 0 sc__law_all fun cdv A outer s H E1 H0 pins E hr => ?_
  exact s_cons (s_par2 rfl sc__law_all.nd rfl rfl (by decide) rfl rfl (av_cons (e_lst (a_cons (e_tup (a_nil)) (a_nil))) (av_cons (e_lst (a_cons (e_tup (a_nil)) (a_nil))) (av_nil) (fun _ _ => av_nil)) (fun _ _ => av_cons (e_lst (a_cons (e_tup (a_nil)) (a_nil))) (av_nil) (fun _ _ => av_nil))) rfl)
        (s_cons (s_for PassesOwn.never rfl (i_range1 rfl (C.free 30) (e_var (pv 1))) (g_name sc__law_all.nd rfl (.inl rfl)) (s_cons (s_set sc__law_all.nd rfl (.inl rfl) (e_lst (a_nil)))
        (s_cons (s_for PassesOwn.never rfl (i_seq (e_var (pv 3))) (g_name sc__law_all.nd rfl (.inr rfl)) (s_one (s_ext (pv 5) (e_lc (own := [("letter", 7)]) rfl sc__law_all.nd (i_range1 rfl (C.free 30) (e_var (pv 0))) (blkOk_by (by kernel_rfl)) (by decide) (fun _ _ _ _ _ _ _ => g_name sc__law_all.nd rfl (.inl rfl)) (fun _ _ _ _ _ _ _ => ts_nil) (fun _ _ _ _ _ _ _ => EV.frz (e_opN op_addF (pv 6) (ED.q (e_tup (a_cons (e_var (pv 7)) (a_nil))))))))))
        (s_cons (s_setD sc__law_all.nd rfl (.inl rfl) (e_var (pv 5)))
        (s_one (s_set sc__law_all.nd rfl (.inl rfl) (e_opN op_addF (pv 2) (e_peek (pv 3)))))))))
        (s_one (s_retD (e_var (pv 2)))))
theorem g__law_all (C : HeadC fa fn ts K mg base T) : Fn P w K mg base T 1 "_law_all" ["k", "most"] 2 d__law_all := (f__law_all C).toFn (fun _ _ _ _ _ _ us hl => match us, hl with | [_, _], _ => rfl)
theorem sc__law_take : FnScope ["well", "many", "found", "mixed"] ["well", "many"] D__law_take.scope := ⟨rfl, rfl, rfl, by decide +kernel, rfl, by decide +kernel, by decide +kernel⟩
theorem f__law_take (C : HeadC fa fn ts K mg base T) : FnF P w K mg base T 1 D__law_take "_law_take" ["well", "many"] 2 d__law_take := by
  unfold d__law_take
  refine fn_mk C 1 1 sc__law_take fun cdv A outer s H E1 H0 pins E hr => ?_
  exact s_cons (s_if (t_cmp op_gtF (e_ixN (pv 0) (e_int)) (ED.q (e_int)) (nomark _)) (s_cons (s_setD sc__law_take.nd rfl (.inl rfl) (e_op op_modF (e_callTy c_int rfl (C.free 31) bt_int (a_last (ED.q (e_ixN (pv 0) (e_int))))) (e_peek (pv 1))))
        (s_cons (s_setIx (pv 0) (e_op op_divF (e_ixN (pv 0) (e_int)) (e_peek (pv 1))) (e_int) (fun _ => rfl))
        (s_one (s_retD (e_var (pv 2)))))) (s_nil))
        (s_cons (s_setIx (pv 0) (e_op op_modF (e_callTy c_int rfl (C.free 31) bt_int (a_last (EV.q (e_op op_addF (e_op op_mulF (e_ixN (pv 0) (e_int)) (ED.q (e_int))) (ED.q (e_int)))))) (EV.q (e_op op_addF (e_op op_powF (e_int) (ED.q (e_int))) (ED.q (e_int))))) (e_int) (fun _ => rfl))
        (s_cons (s_setD sc__law_take.nd rfl (.inl rfl) (e_op op_modF (e_callTy c_int rfl (C.free 31) bt_int (a_last (EV.q (e_op op_addF (e_op op_divF (e_op op_mulF (e_ixN (pv 0) (e_int)) (ED.q (e_ixN (pv 0) (e_int)))) (ED.q (e_int))) (ED.q (e_ixN (pv 0) (e_int))))))) (ED.q (e_int))))
        (s_one (s_retD (e_op op_modF (e_callTy c_int rfl (C.free 31) bt_int (a_last (ED.q (e_opN op_divF (pv 3) (ED.q (e_int)))))) (e_peek (pv 1)))))))
theorem g__law_take (C : HeadC fa fn ts K mg base T) : Fn P w K mg base T 1 "_law_take" ["well", "many"] 2 d__law_take := (f__law_take C).toFn (fun _ _ _ _ _ _ us hl => match us, hl with | [_, _], _ => rfl)
theorem sc__law_machine : FnScope ["well", "k", "most", "many", "rows", "state", "letter"] ["well", "k", "most"] D__law_machine.scope := ⟨rfl, rfl, rfl, by decide +kernel, rfl, by decide +kernel, by decide +kernel⟩
theorem f__law_machine (C : HeadC fa fn ts K mg base T) : FnF P w K mg base T 2 D__law_machine "_law_machine" ["well", "k", "most"] 3 d__law_machine := by
  unfold d__law_machine
  refine fn_mk C 2 2 sc__law_machine fun cdv A outer s H E1 H0 pins E hr => ?_
  exact s_cons (s_set sc__law_machine.nd rfl (.inr rfl) (e_op op_addF (e_int) (EV.q (e_call (g__law_take C) hr (by decide) rfl (as_s (pv 0) (as_d (e_var (pv 2)) (as_nil)))))))
        (s_cons (s_setLc (own := [("state", 5)]) rfl sc__law_machine.nd rfl rfl (sw_true rfl rfl rfl rfl) (i_range1 rfl (C.free 30) (e_var (pv 3))) (blkOk_by (by kernel_rfl)) (by decide) (fun _ _ _ _ _ _ _ => g_name sc__law_machine.nd rfl (.inl rfl)) (fun _ _ _ _ _ _ _ => ts_nil) (fun _ _ _ _ _ _ _ => e_callTy c_tuple rfl (C.free 32) bt_tuple (a_last (EV.q (e_lc (own := [("letter", 6)]) rfl sc__law_machine.nd (i_range1 rfl (C.free 30) (e_var (pv 1))) (blkOk_by (by kernel_rfl)) (by decide) (fun _ _ _ _ _ _ _ => g_name sc__law_machine.nd rfl (.inl rfl)) (fun _ _ _ _ _ _ _ => ts_nil) (fun _ _ _ _ _ _ _ => EV.frz (e_call (g__law_take C) hr (by decide) rfl (as_s (pv 0) (as_d (e_var (pv 3)) (as_nil))))))))))
        (s_one (s_retD (e_tup (a_cons (e_var (pv 1)) (a_cons (e_callTy c_tuple rfl (C.free 32) bt_tuple (a_last (e_peek (pv 4)))) (a_cons (e_callTy c_tuple rfl (C.free 32) bt_tuple (a_last (EV.q (e_lc (own := [("state", 5)]) rfl sc__law_machine.nd (i_range1 rfl (C.free 30) (e_var (pv 3))) (blkOk_by (by kernel_rfl)) (by decide) (fun _ _ _ _ _ _ _ => g_name sc__law_machine.nd rfl (.inl rfl)) (fun _ _ _ _ _ _ _ => ts_nil) (fun _ _ _ _ _ _ _ => EV.frz (e_call (g__law_take C) hr (by decide) rfl (as_s (pv 0) (as_d (e_int) (as_nil))))))))) (a_nil))))))))
theorem g__law_machine (C : HeadC fa fn ts K mg base T) : Fn P w K mg base T 2 "_law_machine" ["well", "k", "most"] 3 d__law_machine := (f__law_machine C).toFn (fun _ _ _ _ _ _ us hl => match us, hl with | [_, _, _], _ => rfl)
theorem sc__law_same : FnScope ["told", "due", "at"] ["told", "due"] D__law_same.scope := ⟨rfl, rfl, rfl, by decide +kernel, rfl, by decide +kernel, by decide +kernel⟩
theorem f__law_same (C : HeadC fa fn ts K mg base T) : ∀ k, FnF P w K mg base T (0 + k + 1) D__law_same "_law_same" ["told", "due"] 2 (d__law_same k)
  | 0 => by
    rw [d__law_same_0]
    exact fn_bad C 3 3
  | k + 1 => by
    have ih := (f__law_same C k).toFn (fun _ _ _ _ _ _ us hl => match us, hl with | [_, _], _ => rfl)
    rw [d__law_same_s]
    refine fn_mk C 3 3 sc__law_same fun cdv A outer s H E1 H0 pins E hr => ?_
    exact s_cons (s_if (t_cmpN op_isBF (pv 1) (ED.q (e_non)) (nomark _)) (s_one (s_retD (e_cmpN op_isBF (pv 0) (ED.q (e_non)) (nomark _)))) (s_nil))
        (s_cons (s_if (t_tru (ED.q (e_isi rfl (C.free 33) bt_isinstance (e_peek (pv 1)) rfl (C.free 34) bt_bool))) (s_one (s_retD (e_ite (t_tru (e_peek (pv 1))) (e_cmpN op_isBF (pv 0) (ED.q (e_bl)) (nomark _)) (e_cmpN op_isBF (pv 0) (ED.q (e_bl)) (nomark _))))) (s_nil))
        (s_cons (s_if (t_tru (ED.q (e_isi rfl (C.free 33) bt_isinstance (e_peek (pv 1)) rfl (C.free 31) bt_int))) (s_one (s_retD (Fz.v_and (e_isi rfl (C.free 33) bt_isinstance (e_peek (pv 0)) rfl (C.free 31) bt_int) (Fz.v_and (Fz.v_not (ED.q (e_isi rfl (C.free 33) bt_isinstance (e_peek (pv 0)) rfl (C.free 34) bt_bool))) (Fz.v_one (e_cmpN (op_eqF hr.rm.units) (pv 0) (e_peek (pv 1)) (nomark _))))))) (s_nil))
        (s_cons (s_if (t_tru (ED.q (e_isi rfl (C.free 33) bt_isinstance (e_peek (pv 1)) rfl (C.free 35) bt_str))) (s_one (s_retD (Fz.v_and (e_isi rfl (C.free 33) bt_isinstance (e_peek (pv 0)) rfl (C.free 35) bt_str) (Fz.v_one (e_cmpN (op_eqF hr.rm.units) (pv 0) (e_peek (pv 1)) (nomark _)))))) (s_nil))
        (s_cons (s_if (t_bool (w_or (t_cmp (op_neF hr.rm.units) (e_isi rfl (C.free 33) bt_isinstance (e_peek (pv 1)) rfl (C.free 32) bt_tuple) (ED.q (e_isi rfl (C.free 33) bt_isinstance (e_peek (pv 0)) rfl (C.free 32) bt_tuple)) (nomark _)) (w_or1 (t_cmp (op_neF hr.rm.units) (e_isi rfl (C.free 33) bt_isinstance (e_peek (pv 1)) rfl (C.free 36) bt_list) (ED.q (e_isi rfl (C.free 33) bt_isinstance (e_peek (pv 0)) rfl (C.free 36) bt_list)) (nomark _))))) (s_one (s_retD (e_bl))) (s_nil))
        (s_one (s_retD (Fz.v_and (e_cmp (op_eqF hr.rm.units) (e_callB c_len rfl (C.free 37) bt_len (a_last (e_peek (pv 0)))) (ED.q (e_callB c_len rfl (C.free 37) bt_len (a_last (e_peek (pv 1))))) (nomark _)) (Fz.v_one (e_callB (c_all rfl) rfl (C.free 38) bt_all (a_last (EV.q (e_lc (own := [("at", 2)]) rfl sc__law_same.nd (i_range1 rfl (C.free 30) (e_callB c_len rfl (C.free 37) bt_len (a_last (e_peek (pv 1))))) (blkOk_by (by kernel_rfl)) (by decide) (fun _ _ _ _ _ _ _ => g_name sc__law_same.nd rfl (.inl rfl)) (fun _ _ _ _ _ _ _ => ts_nil) (fun _ _ _ _ _ _ _ => EV.frz (e_call ih hr (by omega) rfl (as_d (e_ixN (pv 0) (e_var (pv 2))) (as_d (e_ixN (pv 1) (e_var (pv 2))) (as_nil)))))))))))))))))
theorem g__law_same (C : HeadC fa fn ts K mg base T) (k : Nat) : Fn P w K mg base T (0 + k + 1) "_law_same" ["told", "due"] 2 (d__law_same k) := (f__law_same C k).toFn (fun _ _ _ _ _ _ us hl => match us, hl with | [_, _], _ => rfl)
theorem sc__law_walk : FnScope ["machine", "word", "state", "letter"] ["machine", "word"] D__law_walk.scope := ⟨rfl, rfl, rfl, by decide +kernel, rfl, by decide +kernel, by decide +kernel⟩
theorem f__law_walk (C : HeadC fa fn ts K mg base T) : FnF P w K mg base T 1 D__law_walk "_law_walk" ["machine", "word"] 2 d__law_walk := by
  unfold d__law_walk
  refine fn_mk C 4 4 sc__law_walk fun cdv A outer s H E1 H0 pins E hr => ?_
  exact s_cons (s_setD sc__law_walk.nd rfl (.inl rfl) (e_int))
        (s_cons (s_for PassesOwn.never rfl (i_seq (e_var (pv 1))) (g_name sc__law_walk.nd rfl (.inl rfl)) (s_one (s_setD sc__law_walk.nd rfl (.inl rfl) (e_ix (e_ix (e_ixN (pv 0) (e_int)) (e_var (pv 2))) (e_var (pv 3))))))
        (s_one (s_retD (e_ix (e_ixN (pv 0) (e_int)) (e_var (pv 2))))))
theorem g__law_walk (C : HeadC fa fn ts K mg base T) : Fn P w K mg base T 1 "_law_walk" ["machine", "word"] 2 d__law_walk := (f__law_walk C).toFn (fun _ _ _ _ _ _ us hl => match us, hl with | [_, _], _ => rfl)
theorem sc__law_well : FnScope ["script", "at", "mixed", "cell", "digits"] ["script", "at"] D__law_well.scope := ⟨rfl, rfl, rfl, by decide +kernel, rfl, by decide +kernel, by decide +kernel⟩
theorem f__law_well (C : HeadC fa fn ts K mg base T) : FnF P w K mg base T 1 D__law_well "_law_well" ["script", "at"] 2 d__law_well := by
  unfold d__law_well
  refine fn_mk C 5 5 sc__law_well fun cdv A outer s H E1 H0 pins E hr => ?_
  exact s_cons (s_set sc__law_well.nd rfl (.inl rfl) (e_op op_addF (e_int) (ED.q (e_callB c_len rfl (C.free 37) bt_len (a_last (EV.q (e_slN (pv 0) (o_none) (o_some (e_int)))))))))
        (s_cons (s_for PassesOwn.never rfl (i_seq (EV.frz (e_slN (pv 0) (o_none) (o_some (e_int))))) (g_name sc__law_well.nd rfl (.inl rfl)) (s_one (s_setD sc__law_well.nd rfl (.inl rfl) (e_op op_modF (e_callTy c_int rfl (C.free 31) bt_int (a_last (EV.q (e_op op_addF (EV.frz (e_op op_addF (e_opN op_mulF (pv 2) (ED.q (e_int))) (ED.q (e_op op_modF (e_callTy c_int rfl (C.free 31) bt_int (a_last (e_peek (pv 3)))) (EV.q (e_op op_addF (e_op op_powF (e_int) (ED.q (e_int))) (ED.q (e_int)))))))) (ED.q (e_int)))))) (EV.q (e_op op_addF (e_op op_powF (e_int) (ED.q (e_int))) (ED.q (e_int))))))))
        (s_cons (s_setD sc__law_well.nd rfl (.inl rfl) (e_op op_modF (e_callTy c_int rfl (C.free 31) bt_int (a_last (EV.q (e_op op_addF (EV.frz (e_op op_addF (e_opN op_mulF (pv 2) (ED.q (e_int))) (ED.q (e_opN op_mulF (pv 1) (ED.q (e_int)))))) (ED.q (e_int)))))) (EV.q (e_op op_addF (e_op op_powF (e_int) (ED.q (e_int))) (ED.q (e_int))))))
        (s_cons (s_setD sc__law_well.nd rfl (.inl rfl) (e_int))
        (s_cons (s_if (t_cmpN op_ltF (pv 1) (ED.q (e_callB c_len rfl (C.free 37) bt_len (a_last (e_peek (pv 0))))) (nomark _)) (s_one (s_setD sc__law_well.nd rfl (.inl rfl) (e_callB (c_max2 rfl) rfl (C.free 40) bt_max (a_consQ (e_int) (a_last (ED.q (e_op op_subF (e_callB c_abs rfl (C.free 39) bt_abs (a_last (ED.q (e_callTy c_int rfl (C.free 31) bt_int (a_last (ED.q (e_ixN (pv 0) (e_var (pv 1))))))))) (ED.q (e_op op_powF (e_int) (ED.q (e_int))))))))))) (s_nil))
        (s_one (s_ret (e_lst (a_cons (e_var (pv 4)) (a_cons (e_var (pv 2)) (a_nil))))))))))
theorem g__law_well (C : HeadC fa fn ts K mg base T) : Fn P w K mg base T 1 "_law_well" ["script", "at"] 2 d__law_well := (f__law_well C).toFn (fun _ _ _ _ _ _ us hl => match us, hl with | [_, _], _ => rfl)
theorem sc_is_integer : FnScope ["value"] ["value"] D_is_integer.scope := ⟨rfl, rfl, rfl, by decide +kernel, rfl, by decide +kernel, by decide +kernel⟩
theorem f_is_integer (C : HeadC fa fn ts K mg base T) : FnF P w K mg base T 1 D_is_integer "is_integer" ["value"] 1 d_is_integer := by
  unfold d_is_integer
  refine fn_mk C 6 6 sc_is_integer fun cdv A outer s H E1 H0 pins E hr => ?_
  exact s_one (s_retD (Fz.v_and (e_isi rfl (C.free 33) bt_isinstance (e_peek (pv 0)) rfl (C.free 31) bt_int) (Fz.v_one (Fz.v_not (ED.q (e_isi rfl (C.free 33) bt_isinstance (e_peek (pv 0)) rfl (C.free 34) bt_bool))))))
theorem g_is_integer (C : HeadC fa fn ts K mg base T) : Fn P w K mg base T 1 "is_integer" ["value"] 1 d_is_integer := (f_is_integer C).toFn (fun _ _ _ _ _ _ us hl => match us, hl with | [_], _ => rfl)
theorem sc_is_natural : FnScope ["value"] ["value"] D_is_natural.scope := ⟨rfl, rfl, rfl, by decide +kernel, rfl, by decide +kernel, by decide +kernel⟩
theorem f_is_natural (C : HeadC fa fn ts K mg base T) : FnF P w K mg base T 2 D_is_natural "is_natural" ["value"] 1 d_is_natural := by
  unfold d_is_natural
  refine fn_mk C 7 7 sc_is_natural fun cdv A outer s H E1 H0 pins E hr => ?_
  exact s_one (s_retD (Fz.v_and (EV.frz (e_call (g_is_integer C) hr (by decide) rfl (as_d (e_var (pv 0)) (as_nil)))) (Fz.v_one (e_cmpN op_geF (pv 0) (ED.q (e_int)) (nomark _)))))
theorem g_is_natural (C : HeadC fa fn ts K mg base T) : Fn P w K mg base T 2 "is_natural" ["value"] 1 d_is_natural := (f_is_natural C).toFn (fun _ _ _ _ _ _ us hl => match us, hl with | [_], _ => rfl)
theorem sc_is_below : FnScope ["value", "many"] ["value", "many"] D_is_below.scope := ⟨rfl, rfl, rfl, by decide +kernel, rfl, by decide +kernel, by decide +kernel⟩
theorem f_is_below (C : HeadC fa fn ts K mg base T) : FnF P w K mg base T 3 D_is_below "is_below" ["value", "many"] 2 d_is_below := by
  unfold d_is_below
  refine fn_mk C 8 8 sc_is_below fun cdv A outer s H E1 H0 pins E hr => ?_
  exact s_one (s_retD (Fz.v_and (EV.frz (e_call (g_is_natural C) hr (by decide) rfl (as_d (e_var (pv 0)) (as_nil)))) (Fz.v_one (e_cmpN op_ltF (pv 0) (e_peek (pv 1)) (nomark _)))))
theorem g_is_below (C : HeadC fa fn ts K mg base T) : Fn P w K mg base T 3 "is_below" ["value", "many"] 2 d_is_below := (f_is_below C).toFn (fun _ _ _ _ _ _ us hl => match us, hl with | [_, _], _ => rfl)
theorem sc_is_between : FnScope ["value", "low", "high"] ["value", "low", "high"] D_is_between.scope := ⟨rfl, rfl, rfl, by decide +kernel, rfl, by decide +kernel, by decide +kernel⟩
theorem f_is_between (C : HeadC fa fn ts K mg base T) : FnF P w K mg base T 2 D_is_between "is_between" ["value", "low", "high"] 3 d_is_between := by
  unfold d_is_between
  refine fn_mk C 9 9 sc_is_between fun cdv A outer s H E1 H0 pins E hr => ?_
  exact s_one (s_retD (Fz.v_and (EV.frz (e_call (g_is_integer C) hr (by decide) rfl (as_d (e_var (pv 0)) (as_nil)))) (Fz.v_one (e_chain op_leF op_leF (e_var (pv 1)) (e_var (pv 0)) (e_peek (pv 2))))))
theorem g_is_between (C : HeadC fa fn ts K mg base T) : Fn P w K mg base T 2 "is_between" ["value", "low", "high"] 3 d_is_between := (f_is_between C).toFn (fun _ _ _ _ _ _ us hl => match us, hl with | [_, _, _], _ => rfl)
theorem sc_is_k : FnScope ["value"] ["value"] D_is_k.scope := ⟨rfl, rfl, rfl, by decide +kernel, rfl, by decide +kernel, by decide +kernel⟩
theorem f_is_k (C : HeadC fa fn ts K mg base T) : FnF P w K mg base T 3 D_is_k "is_k" ["value"] 1 d_is_k := by
  unfold d_is_k
  refine fn_mk C 10 10 sc_is_k fun cdv A outer s H E1 H0 pins E hr => ?_
  exact s_one (s_ret (e_call (g_is_between C) hr (by decide) rfl (as_d (e_var (pv 0)) (as_d (e_int) (as_d (e_gint rfl (C.int 41)) (as_nil))))))
theorem g_is_k (C : HeadC fa fn ts K mg base T) : Fn P w K mg base T 3 "is_k" ["value"] 1 d_is_k := (f_is_k C).toFn (fun _ _ _ _ _ _ us hl => match us, hl with | [_], _ => rfl)
theorem sc_is_machine_of : FnScope ["value", "ends", "k", "rows", "row", "state", "end"] ["value"] D_is_machine_of.scope := ⟨rfl, rfl, rfl, by decide +kernel, rfl, by decide +kernel, by decide +kernel⟩
theorem f_is_machine_of (C : HeadC fa fn ts K mg base T) : FnF P w K mg base T 5 D_is_machine_of "is_machine_of" ["value"] 1 d_is_machine_of := by
  unfold d_is_machine_of
  refine fn_mkC C 11 11 0 sc_is_machine_of fun A outer s H E1 H0 pins E hr => ?_
  exact s_cons (s_if (t_bool (w_or (t_not (t_tru (ED.q (e_isi rfl (C.free 33) bt_isinstance (e_peek (pv 0)) rfl (C.free 32) bt_tuple)))) (w_or (t_cmp (op_neF hr.rm.units) (e_callB c_len rfl (C.free 37) bt_len (a_last (e_peek (pv 0)))) (ED.q (e_int)) (nomark _)) (w_or1 (t_not (t_tru (EV.q (e_call (g_is_k C) hr (by decide) rfl (as_d (e_ixN (pv 0) (e_int)) (as_nil)))))))))) (s_one (s_retD (e_bl))) (s_nil))
        (s_cons (s_asg (e_var (pv 0)) (g_tup rfl (gs_cons (g_name sc_is_machine_of.nd rfl (.inr rfl)) (gs_cons (g_name sc_is_machine_of.nd rfl (.inr rfl)) (gs_cons (g_name sc_is_machine_of.nd rfl (.inl rfl)) (gs_nil))))))
        (s_cons (s_if (t_bool (w_or (t_not (t_tru (ED.q (e_isi rfl (C.free 33) bt_isinstance (e_peek (pv 3)) rfl (C.free 32) bt_tuple)))) (w_or (t_not (t_tru (ED.q (e_isi rfl (C.free 33) bt_isinstance (e_peek (pv 1)) rfl (C.free 32) bt_tuple)))) (w_or (t_cmp (op_eqF hr.rm.units) (e_callB c_len rfl (C.free 37) bt_len (a_last (e_peek (pv 3)))) (ED.q (e_int)) (nomark _)) (w_or1 (t_cmp (op_neF hr.rm.units) (e_callB c_len rfl (C.free 37) bt_len (a_last (e_peek (pv 3)))) (ED.q (e_callB c_len rfl (C.free 37) bt_len (a_last (e_peek (pv 1))))) (nomark _))))))) (s_one (s_retD (e_bl))) (s_nil))
        (s_cons (s_if (t_not (t_tru (ED.q (e_any (own := [("row", 4)]) false hr rfl sc_is_machine_of.nd rfl (C.free 38) (C.tab 0).1 rfl (C.tab 0).2 (i_seq (e_var (pv 3))) (blkOk_by (by kernel_rfl)) ⟨rfl, by decide +kernel, rfl⟩ (by decide) (fun _ _ _ _ _ _ _ _ hr => g_name sc_is_machine_of.nd rfl (.inl rfl)) (fun _ _ _ _ _ _ _ _ hr => ts_nil) (fun _ _ _ _ _ _ _ _ hr => Fz.v_and (e_isi rfl (C.free 33) bt_isinstance (e_peek (pv 4)) rfl (C.free 32) bt_tuple) (Fz.v_one (e_cmp (op_eqF hr.rm.units) (e_callB c_len rfl (C.free 37) bt_len (a_last (e_peek (pv 4)))) (e_peek (pv 2)) (nomark _)))))))) (s_one (s_retD (e_bl))) (s_nil))
        (s_cons (s_if (t_not (t_tru (ED.q (e_any2 (own := [("row", 4), ("state", 5)]) (vs1 := [5]) false hr rfl sc_is_machine_of.nd rfl (C.free 38) (C.tab 0).1 rfl (C.tab 0).2 (i_seq (e_var (pv 3))) (blkOk_by (by kernel_rfl)) ⟨rfl, by decide +kernel, rfl⟩ (by decide) (fun _ _ _ _ _ _ _ _ hr => g_name sc_is_machine_of.nd rfl (.inl rfl)) (fun _ _ _ _ _ _ _ _ hr => ts_nil) (fun _ _ _ _ _ _ _ _ hr => EV.frz (e_call (g_is_below C) hr (by decide) rfl (as_d (e_var (pv 5)) (as_d (e_callB c_len rfl (C.free 37) bt_len (a_last (e_peek (pv 3)))) (as_nil))))) (by decide) (by decide) (fun _ _ _ _ _ _ _ _ hr => i_seq (e_var (pv 4))) (fun _ _ _ _ _ _ _ _ hr => g_name sc_is_machine_of.nd rfl (.inl rfl)) (fun _ _ _ _ _ _ _ _ hr => ts_nil))))) (s_one (s_retD (e_bl))) (s_nil))
        (s_one (s_retD (e_any (own := [("end", 6)]) false hr rfl sc_is_machine_of.nd rfl (C.free 38) (C.tab 0).1 rfl (C.tab 0).2 (i_seq (e_var (pv 1))) (blkOk_by (by kernel_rfl)) ⟨rfl, by decide +kernel, rfl⟩ (by decide) (fun _ _ _ _ _ _ _ _ hr => g_name sc_is_machine_of.nd rfl (.inl rfl)) (fun _ _ _ _ _ _ _ _ hr => ts_nil) (fun _ _ _ _ _ _ _ _ hr => EV.frz (e_call (g_is_below C) hr (by decide) rfl (as_d (e_var (pv 6)) (as_d (e_int) (as_nil))))))))))))
theorem g_is_machine_of (C : HeadC fa fn ts K mg base T) : Fn P w K mg base T 5 "is_machine_of" ["value"] 1 d_is_machine_of := (f_is_machine_of C).toFn (fun _ _ _ _ _ _ us hl => match us, hl with | [_], _ => rfl)
theorem sc_check_machine : FnScope ["machine"] ["machine"] D_check_machine.scope := ⟨rfl, rfl, rfl, by decide +kernel, rfl, by decide +kernel, by decide +kernel⟩
theorem f_check_machine (C : HeadC fa fn ts K mg base T) : FnF P w K mg base T 6 D_check_machine "check_machine" ["machine"] 1 d_check_machine := by
  unfold d_check_machine
  refine fn_mk C 12 12 sc_check_machine fun cdv A outer s H E1 H0 pins E hr => ?_
  exact s_one (s_if (t_not (t_tru (EV.q (e_call (g_is_machine_of C) hr (by decide) rfl (as_d (e_var (pv 0)) (as_nil)))))) (s_one (s_never)) (s_nil))
theorem g_check_machine (C : HeadC fa fn ts K mg base T) : Fn P w K mg base T 6 "check_machine" ["machine"] 1 d_check_machine := (f_check_machine C).toFn (fun _ _ _ _ _ _ us hl => match us, hl with | [_], _ => rfl)
theorem sc_machine_from : FnScope ["k", "start", "follow", "is_end", "index", "order", "rows", "node", "row", "letter", "child"] ["k", "start", "follow", "is_end"] D_machine_from.scope := ⟨rfl, rfl, rfl, by decide +kernel, rfl, by decide +kernel, by decide +kernel⟩
theorem f_machine_from (C : HeadC fa fn ts K mg base T) : FnF P w K mg base T 13 D_machine_from "machine_from" ["k", "start", "follow", "is_end"] 4 d_machine_from := by
  unfold d_machine_from
  refine fn_mk C 13 13 sc_machine_from fun cdv A outer s H E1 H0 pins E hr => ?_
  exact s_cons (s_par3 rfl sc_machine_from.nd rfl rfl rfl (by decide) (by decide) (by decide) rfl rfl rfl (av_cons (e_disp1 (room70 hr.rm) (e_var (pv 1)) (e_int)) (av_cons (e_lst (a_cons (e_var (pv 1)) (a_nil))) (av_cons (e_lst (a_nil)) (av_nil) (fun _ _ => av_nil)) (fun _ _ => av_cons (e_lst (a_nil)) (av_nil) (fun _ _ => av_nil))) (fun _ _ => av_cons (e_lst (a_cons (e_var (pv 1)) (a_nil))) (av_cons (e_lst (a_nil)) (av_nil) (fun _ _ => av_nil)) (fun _ _ => av_cons (e_lst (a_nil)) (av_nil) (fun _ _ => av_nil)))) rfl)
        (s_cons (s_while PassesOwn.never (t_cmp op_ltF (e_callB c_len rfl (C.free 37) bt_len (a_last (e_peek (pv 6)))) (ED.q (e_callB c_len rfl (C.free 37) bt_len (a_last (e_peek (pv 5))))) (nomark _)) (s_cons (s_par2 rfl sc_machine_from.nd rfl rfl (by decide) rfl rfl (av_cons (ED.v (e_ixN (pv 5) (e_callB c_len rfl (C.free 37) bt_len (a_last (e_peek (pv 6)))))) (av_cons (e_lst (a_nil)) (av_nil) (fun _ _ => av_nil)) (fun _ _ => av_cons (e_lst (a_nil)) (av_nil) (fun _ _ => av_nil))) rfl)
        (s_cons (s_for PassesOwn.never rfl (i_range1 rfl (C.free 30) (e_var (pv 0))) (g_name sc_machine_from.nd rfl (.inl rfl)) (s_cons (s_setD sc_machine_from.nd rfl (.inl rfl) (e_callL hr (by decide) (pv 2) (a_cons (e_var (pv 7)) (a_cons (e_var (pv 9)) (a_nil)))))
        (s_cons (s_if (t_dnin (room70 hr.rm) (e_var (pv 10)) (pv 4)) (s_cons (s_dput (room70 hr.rm) (pv 4) (e_callB c_len rfl (C.free 37) bt_len (a_last (e_peek (pv 5)))) (e_var (pv 10)))
        (s_one (s_app (pv 5) (e_var (pv 10))))) (s_nil))
        (s_one (s_app (pv 8) (e_dix (room70 hr.rm) (pv 4) (e_var (pv 10))))))))
        (s_one (s_app (pv 6) (e_callTy c_tuple rfl (C.free 32) bt_tuple (a_last (e_peek (pv 8)))))))))
        (s_one (s_retD (e_tup (a_cons (e_var (pv 0)) (a_cons (e_callTy c_tuple rfl (C.free 32) bt_tuple (a_last (e_peek (pv 6)))) (a_cons (e_thawD (e_callTy c_tuple rfl (C.free 32) bt_tuple (a_last (EV.q (e_lc (own := [("node", 7)]) rfl sc_machine_from.nd (i_seq (e_var (pv 5))) (blkOk_by (by kernel_rfl)) (by decide) (fun _ _ _ _ _ _ _ => g_name sc_machine_from.nd rfl (.inl rfl)) (fun _ _ _ _ _ _ _ => ts_nil) (fun _ _ _ _ _ _ _ => e_callTy c_int rfl (C.free 31) bt_int (a_last (ED.q (e_callL hr (by decide) (pv 3) (a_cons (e_var (pv 7)) (a_nil))))))))))) (a_nil))))))))
theorem g_machine_from (C : HeadC fa fn ts K mg base T) : Fn P w K mg base T 13 "machine_from" ["k", "start", "follow", "is_end"] 4 d_machine_from := (f_machine_from C).toFn (fun _ _ _ _ _ _ us hl => match us, hl with | [_, _, _, _], _ => rfl)
theorem sc_sorts_of : FnScope ["machine", "_", "rows", "ends", "sorts", "many", "names", "told", "state", "row", "child", "key"] ["machine"] D_sorts_of.scope := ⟨rfl, rfl, rfl, by decide +kernel, rfl, by decide +kernel, by decide +kernel⟩
theorem f_sorts_of (C : HeadC fa fn ts K mg base T) : FnF P w K mg base T 1 D_sorts_of "sorts_of" ["machine"] 1 d_sorts_of := by
  unfold d_sorts_of
  refine fn_mk C 14 14 sc_sorts_of fun cdv A outer s H E1 H0 pins E hr => ?_
  exact s_cons (s_asg (e_var (pv 0)) (g_tup rfl (gs_cons (g_name sc_sorts_of.nd rfl (.inl rfl)) (gs_cons (g_name sc_sorts_of.nd rfl (.inl rfl)) (gs_cons (g_name sc_sorts_of.nd rfl (.inl rfl)) (gs_nil))))))
        (s_cons (s_pars rfl (by decide) (av_cons (e_callTy c_list rfl (C.free 36) bt_list (a_last (e_peek (pv 3)))) (av_cons (ED.v (e_lenSet rfl (room70 hr.rm) rfl (C.free 37) rfl (C.free 42) (e_peek (pv 3)))) (av_nil) (fun _ _ => av_nil)) (fun _ _ => av_cons (ED.v (e_lenSet rfl (room70 hr.rm) rfl (C.free 37) rfl (C.free 42) (e_peek (pv 3)))) (av_nil) (fun _ _ => av_nil))) (pgs_cons (pg_name (i := 4) sc_sorts_of.nd rfl (.inr rfl)) (pgs_cons (pg_name (i := 5) sc_sorts_of.nd rfl (.inl rfl)) (pgs_nil))))
        (s_one (s_while PassesOwn.never (t_tru (ED.q (e_bl))) (s_cons (s_set sc_sorts_of.nd rfl (.inr rfl) (e_dnew))
        (s_cons (s_setLc (own := [("state", 8), ("row", 9)]) rfl sc_sorts_of.nd rfl rfl (sw_true rfl rfl rfl rfl) (i_enum rfl (C.free 43) (e_var (pv 2))) (blkOk_by (by kernel_rfl)) (by decide) (fun _ _ _ _ _ _ _ => g_tup rfl (gs_cons (g_name sc_sorts_of.nd rfl (.inl rfl)) (gs_cons (g_name sc_sorts_of.nd rfl (.inl rfl)) (gs_nil)))) (fun _ _ _ _ _ _ _ => ts_nil) (fun _ _ _ _ _ _ _ => EV.frz (e_op op_addF (e_tup (a_cons (e_ixN (pv 4) (e_var (pv 8))) (a_nil))) (ED.q (e_callTy c_tuple rfl (C.free 32) bt_tuple (a_last (EV.q (e_lc (own := [("child", 10)]) rfl sc_sorts_of.nd (i_seq (e_var (pv 9))) (blkOk_by (by kernel_rfl)) (by decide) (fun _ _ _ _ _ _ _ => g_name sc_sorts_of.nd rfl (.inl rfl)) (fun _ _ _ _ _ _ _ => ts_nil) (fun _ _ _ _ _ _ _ => e_ixN (pv 4) (e_var (pv 10)))))))))))
        (s_cons (s_set sc_sorts_of.nd rfl (.inr rfl) (e_lc (own := [("key", 11)]) rfl sc_sorts_of.nd (i_seq (e_var (pv 7))) (blkOk_by (by kernel_rfl)) (by decide) (fun _ _ _ _ _ _ _ => g_name sc_sorts_of.nd rfl (.inl rfl)) (fun _ _ _ _ _ _ _ => ts_nil) (fun _ _ _ _ _ _ _ => e_dsetd (room70 hr.rm) (pv 6) (e_var (pv 11)) (e_lenDic rfl (C.free 37) (pv 6)) ⟨rfl, rfl, rfl, rfl⟩)))
        (s_cons (s_if (t_cmp (op_eqF hr.rm.units) (e_lenDic rfl (C.free 37) (pv 6)) (e_peek (pv 5)) (nomark _)) (s_one (s_retD (e_var (pv 4)))) (s_nil))
        (s_one (s_setD sc_sorts_of.nd rfl (.inl rfl) (e_lenDic rfl (C.free 37) (pv 6)))))))))))
theorem g_sorts_of (C : HeadC fa fn ts K mg base T) : Fn P w K mg base T 1 "sorts_of" ["machine"] 1 d_sorts_of := (f_sorts_of C).toFn (fun _ _ _ _ _ _ us hl => match us, hl with | [_], _ => rfl)
theorem sc_least_in : FnScope ["machine", "k", "state", "sort", "follow", "ends", "first", "rows", "sorts"] ["machine"] D_least_in.scope := ⟨rfl, rfl, rfl, by decide +kernel, rfl, by decide +kernel, by decide +kernel⟩
def nf_least_in_0 : FnT := ndT (List.getD D_least_in.body 4 (.Pass pos0))
theorem ns_least_in_0 : NScC ["sort", "letter", "first", "rows", "sorts"] ["sort", "letter"] ["first", "rows", "sorts"] nf_least_in_0.scope := nscC_by (by decide +kernel)
theorem nb_least_in_0 : NdefX.ndefB D_least_in.scope nf_least_in_0.scope ["first", "rows", "sorts"] = true := by decide +kernel
def nf_least_in_1 : FnT := lamT (exA (stE (List.getD D_least_in.body 5 (.Pass pos0))) 3)
theorem ns_least_in_1 : NScC ["sort", "ends", "first"] ["sort"] ["ends", "first"] nf_least_in_1.scope := nscC_by (by decide +kernel)
theorem nb_least_in_1 : NdefX.ndefB D_least_in.scope nf_least_in_1.scope ["ends", "first"] = true := by decide +kernel
def nfs_least_in : List FnT := [nf_least_in_0, nf_least_in_1]
theorem f_least_in (C : HeadC fa fn ts K mg base T) : FnF P w K mg base T 14 D_least_in "least_in" ["machine"] 1 d_least_in := by
  unfold d_least_in
  refine fn_mkCL nfs_least_in C 15 15 1 sc_least_in fun A outer s H E1 H0 pins E hr => ?_
  exact s_cons (s_asg (e_var (pv 0)) (g_tup rfl (gs_cons (g_name sc_least_in.nd rfl (.inl rfl)) (gs_cons (g_name sc_least_in.nd rfl (.inr rfl)) (gs_cons (g_name sc_least_in.nd rfl (.inr rfl)) (gs_nil))))))
        (s_cons (s_set sc_least_in.nd rfl (.inr rfl) (e_call (g_sorts_of C) hr (by decide) rfl (as_d (e_var (pv 0)) (as_nil))))
        (s_cons (s_set sc_least_in.nd rfl (.inr rfl) (e_dnew))
        (s_cons (s_for PassesOwn.never rfl (i_enum rfl (C.free 43) (e_var (pv 8))) (g_tup rfl (gs_cons (g_name sc_least_in.nd rfl (.inl rfl)) (gs_cons (g_name sc_least_in.nd rfl (.inl rfl)) (gs_nil)))) (s_one (s_expr (e_dsetd (room70 hr.rm) (pv 6) (e_var (pv 3)) (e_var (pv 2)) ⟨rfl, rfl, rfl, rfl⟩))))
        (s_cons (s_def (nfs := nfs_least_in) (C.tab 1).1 rfl (C.tab 1).2 (NdefX.ndef_free nb_least_in_0) rfl sc_least_in.nd rfl (.inl rfl) (.inl rfl))
        (s_one (s_ret (ED.v (e_callC (g_machine_from C) hr (by decide) rfl (ac_d (e_var (pv 1)) (ac_d (e_ixN (pv 8) (e_int)) (ac_s (pv 4) (ac_m (e_lam (nfs := nfs_least_in) (C.tab 1).1 rfl (C.tab 1).2 (NdefX.ndef_free nb_least_in_1) rfl) (ac_nil))))) (clAt_ok (specs_cons (clo_spec (nfs := nfs_least_in) (t := nf_least_in_0) (k := 7) (js := [6, 7, 8]) (bodyOk_s rfl fun A outer s H E1 f qual cl c H0 pins E hr => by exact (s_one (s_retD (e_ixN (pv 4) (e_ix (e_ixN (pv 3) (e_dix (room70 hr.rm) (pv 2) (e_var (pv 0)))) (e_var (pv 1))))))) rfl ns_least_in_0 nb_least_in_0 rfl (fun _ _ _ _ _ _ us hl => match us, hl with | [_, _], _ => rfl)) (specs_cons (clo_spec (nfs := nfs_least_in) (t := nf_least_in_1) (k := 7) (js := [5, 6]) (bodyOk_e rfl fun A outer s H E1 f qual cl c H0 pins E hr => by exact (e_cmp (op_eqF hr.rm.units) (e_ixN (pv 1) (e_dix (room70 hr.rm) (pv 2) (e_var (pv 0)))) (ED.q (e_int)) (nomark _))) rfl ns_least_in_1 nb_least_in_1 rfl (fun _ _ _ _ _ _ us hl => match us, hl with | [_], _ => rfl)) (specs_nil))))))))))))
theorem g_least_in (C : HeadC fa fn ts K mg base T) : Fn P w K mg base T 14 "least_in" ["machine"] 1 d_least_in := (f_least_in C).toFn (fun _ _ _ _ _ _ us hl => match us, hl with | [_], _ => rfl)
theorem sc_turned_ends : FnScope ["machine", "end"] ["machine"] D_turned_ends.scope := ⟨rfl, rfl, rfl, by decide +kernel, rfl, by decide +kernel, by decide +kernel⟩
theorem f_turned_ends (C : HeadC fa fn ts K mg base T) : FnF P w K mg base T 1 D_turned_ends "turned_ends" ["machine"] 1 d_turned_ends := by
  unfold d_turned_ends
  refine fn_mk C 16 16 sc_turned_ends fun cdv A outer s H E1 H0 pins E hr => ?_
  exact s_one (s_ret (e_op op_addF (EV.frz (e_slN (pv 0) (o_none) (o_some (e_int)))) (ED.q (e_tup (a_cons (e_callTy c_tuple rfl (C.free 32) bt_tuple (a_last (EV.q (e_lc (own := [("end", 1)]) rfl sc_turned_ends.nd (i_seq (e_ixN (pv 0) (e_int))) (blkOk_by (by kernel_rfl)) (by decide) (fun _ _ _ _ _ _ _ => g_name sc_turned_ends.nd rfl (.inl rfl)) (fun _ _ _ _ _ _ _ => ts_nil) (fun _ _ _ _ _ _ _ => e_op op_subF (e_int) (e_peek (pv 1))))))) (a_nil))))))
theorem g_turned_ends (C : HeadC fa fn ts K mg base T) : Fn P w K mg base T 1 "turned_ends" ["machine"] 1 d_turned_ends := (f_turned_ends C).toFn (fun _ _ _ _ _ _ us hl => match us, hl with | [_], _ => rfl)
theorem sc_contrary_in : FnScope ["machine"] ["machine"] D_contrary_in.scope := ⟨rfl, rfl, rfl, by decide +kernel, rfl, by decide +kernel, by decide +kernel⟩
theorem f_contrary_in (C : HeadC fa fn ts K mg base T) : FnF P w K mg base T 15 D_contrary_in "contrary_in" ["machine"] 1 d_contrary_in := by
  unfold d_contrary_in
  refine fn_mk C 17 17 sc_contrary_in fun cdv A outer s H E1 H0 pins E hr => ?_
  exact s_one (s_ret (e_call (g_least_in C) hr (by decide) rfl (as_d (EV.frz (e_call (g_turned_ends C) hr (by decide) rfl (as_d (e_var (pv 0)) (as_nil)))) (as_nil))))
theorem g_contrary_in (C : HeadC fa fn ts K mg base T) : Fn P w K mg base T 15 "contrary_in" ["machine"] 1 d_contrary_in := (f_contrary_in C).toFn (fun _ _ _ _ _ _ us hl => match us, hl with | [_], _ => rfl)
theorem sc_complement : FnScope ["machine"] ["machine"] D_complement.scope := ⟨rfl, rfl, rfl, by decide +kernel, rfl, by decide +kernel, by decide +kernel⟩
theorem f_complement (C : HeadC fa fn ts K mg base T) : FnF P w K mg base T 16 D_complement "complement" ["machine"] 1 d_complement := by
  unfold d_complement
  refine fn_mk C 18 18 sc_complement fun cdv A outer s H E1 H0 pins E hr => ?_
  exact s_cons (s_expr (e_call (g_check_machine C) hr (by decide) rfl (as_d (e_var (pv 0)) (as_nil))))
        (s_one (s_ret (e_call (g_contrary_in C) hr (by decide) rfl (as_d (e_var (pv 0)) (as_nil)))))
theorem g_complement (C : HeadC fa fn ts K mg base T) : Fn P w K mg base T 16 "complement" ["machine"] 1 d_complement := (f_complement C).toFn (fun _ _ _ _ _ _ us hl => match us, hl with | [_], _ => rfl)
theorem sc_paired : FnScope ["one", "other", "rule", "follow"] ["one", "other", "rule"] D_paired.scope := ⟨rfl, rfl, rfl, by decide +kernel, rfl, by decide +kernel, by decide +kernel⟩
def nf_paired_0 : FnT := ndT (List.getD D_paired.body 0 (.Pass pos0))
theorem ns_paired_0 : NScC ["pair", "letter", "one", "other"] ["pair", "letter"] ["one", "other"] nf_paired_0.scope := nscC_by (by decide +kernel)
theorem nb_paired_0 : NdefX.ndefB D_paired.scope nf_paired_0.scope ["one", "other"] = true := by decide +kernel
def nf_paired_1 : FnT := lamT (exA (stE (List.getD D_paired.body 1 (.Pass pos0))) 3)
theorem ns_paired_1 : NScC ["pair", "one", "other", "rule"] ["pair"] ["one", "other", "rule"] nf_paired_1.scope := nscC_by (by decide +kernel)
theorem nb_paired_1 : NdefX.ndefB D_paired.scope nf_paired_1.scope ["one", "other", "rule"] = true := by decide +kernel
def nfs_paired : List FnT := [nf_paired_0, nf_paired_1]
theorem f_paired (C : HeadC fa fn ts K mg base T) : FnF P w K mg base T 14 D_paired "paired" ["one", "other", "rule"] 3 d_paired := by
  unfold d_paired
  refine fn_mkCL nfs_paired C 19 19 2 sc_paired fun A outer s H E1 H0 pins E hr => ?_
  exact s_cons (s_def (nfs := nfs_paired) (C.tab 2).1 rfl (C.tab 2).2 (NdefX.ndef_free nb_paired_0) rfl sc_paired.nd rfl (.inl rfl) (.inl rfl))
        (s_one (s_ret (ED.v (e_callC (g_machine_from C) hr (by decide) rfl (ac_d (e_ixN (pv 0) (e_int)) (ac_d (e_tup (a_cons (e_int) (a_cons (e_int) (a_nil)))) (ac_s (pv 3) (ac_m (e_lam (nfs := nfs_paired) (C.tab 2).1 rfl (C.tab 2).2 (NdefX.ndef_free nb_paired_1) rfl) (ac_nil))))) (clAt_ok (specs_cons (clo_spec (nfs := nfs_paired) (t := nf_paired_0) (k := 7) (js := [0, 1]) (bodyOk_s rfl fun A outer s H E1 f qual cl c H0 pins E hr => by exact (s_one (s_retD (e_tup (a_cons (e_ix (e_ix (e_ixN (pv 2) (e_int)) (e_ixN (pv 0) (e_int))) (e_var (pv 1))) (a_cons (e_ix (e_ix (e_ixN (pv 3) (e_int)) (e_ixN (pv 0) (e_int))) (e_var (pv 1))) (a_nil))))))) rfl ns_paired_0 nb_paired_0 rfl (fun _ _ _ _ _ _ us hl => match us, hl with | [_, _], _ => rfl)) (specs_cons (clo_spec (nfs := nfs_paired) (t := nf_paired_1) (k := 11) (js := [0, 1, 2]) (bodyOk_e rfl fun A outer s H E1 f qual cl c H0 pins E hr => by exact (e_callL hr (by decide) (pv 3) (a_cons (e_ix (e_ixN (pv 1) (e_int)) (e_ixN (pv 0) (e_int))) (a_cons (e_ix (e_ixN (pv 2) (e_int)) (e_ixN (pv 0) (e_int))) (a_nil))))) rfl ns_paired_1 nb_paired_1 rfl (fun _ _ _ _ _ _ us hl => match us, hl with | [_], _ => rfl)) (specs_nil))))))))
theorem g_paired (C : HeadC fa fn ts K mg base T) : Fn P w K mg base T 14 "paired" ["one", "other", "rule"] 3 d_paired := (f_paired C).toFn (fun _ _ _ _ _ _ us hl => match us, hl with | [_, _, _], _ => rfl)
theorem sc_join_in : FnScope ["one", "other", "rule"] ["one", "other", "rule"] D_join_in.scope := ⟨rfl, rfl, rfl, by decide +kernel, rfl, by decide +kernel, by decide +kernel⟩
theorem f_join_in (C : HeadC fa fn ts K mg base T) : FnF P w K mg base T 15 D_join_in "join_in" ["one", "other", "rule"] 3 d_join_in := by
  unfold d_join_in
  refine fn_mk C 20 20 sc_join_in fun cdv A outer s H E1 H0 pins E hr => ?_
  exact s_one (s_ret (e_call (g_least_in C) hr (by decide) rfl (as_d (e_callC (g_paired C) hr (by decide) rfl (ac_d (e_var (pv 0)) (ac_d (e_var (pv 1)) (ac_s (pv 2) (ac_nil)))) (clAt_ok (specs_nil))) (as_nil))))
theorem g_join_in (C : HeadC fa fn ts K mg base T) : Fn P w K mg base T 15 "join_in" ["one", "other", "rule"] 3 d_join_in := (f_join_in C).toFn (fun _ _ _ _ _ _ us hl => match us, hl with | [_, _, _], _ => rfl)
theorem sc_both_in : FnScope ["one", "other"] ["one", "other"] D_both_in.scope := ⟨rfl, rfl, rfl, by decide +kernel, rfl, by decide +kernel, by decide +kernel⟩
def nf_both_in_0 : FnT := lamT (exA (stE (List.getD D_both_in.body 0 (.Pass pos0))) 2)
theorem ns_both_in_0 : NScC ["end", "further"] ["end", "further"] [] nf_both_in_0.scope := nscC_by (by decide +kernel)
theorem nb_both_in_0 : NdefX.ndefB D_both_in.scope nf_both_in_0.scope [] = true := by decide +kernel
def nfs_both_in : List FnT := [nf_both_in_0]
theorem f_both_in (C : HeadC fa fn ts K mg base T) : FnF P w K mg base T 16 D_both_in "both_in" ["one", "other"] 2 d_both_in := by
  unfold d_both_in
  refine fn_mkCL nfs_both_in C 21 21 3 sc_both_in fun A outer s H E1 H0 pins E hr => ?_
  exact s_one (s_ret (ED.v (e_callC (g_join_in C) hr (by decide) rfl (ac_d (e_var (pv 0)) (ac_d (e_var (pv 1)) (ac_m (e_lam (nfs := nfs_both_in) (C.tab 3).1 rfl (C.tab 3).2 (NdefX.ndef_free nb_both_in_0) rfl) (ac_nil)))) (clAt_ok (specs_cons (clo_spec (nfs := nfs_both_in) (t := nf_both_in_0) (k := 7) (js := []) (bodyOk_e rfl fun A outer s H E1 f qual cl c H0 pins E hr => by exact (Fz.v_and (e_cmpN (op_eqF hr.rm.units) (pv 0) (ED.q (e_int)) (nomark _)) (Fz.v_one (e_cmpN (op_eqF hr.rm.units) (pv 1) (ED.q (e_int)) (nomark _))))) rfl ns_both_in_0 nb_both_in_0 rfl (fun _ _ _ _ _ _ us hl => match us, hl with | [_, _], _ => rfl)) (specs_nil))))))
theorem g_both_in (C : HeadC fa fn ts K mg base T) : Fn P w K mg base T 16 "both_in" ["one", "other"] 2 d_both_in := (f_both_in C).toFn (fun _ _ _ _ _ _ us hl => match us, hl with | [_, _], _ => rfl)
theorem sc_check_two : FnScope ["one", "other"] ["one", "other"] D_check_two.scope := ⟨rfl, rfl, rfl, by decide +kernel, rfl, by decide +kernel, by decide +kernel⟩
theorem f_check_two (C : HeadC fa fn ts K mg base T) : FnF P w K mg base T 7 D_check_two "check_two" ["one", "other"] 2 d_check_two := by
  unfold d_check_two
  refine fn_mk C 22 22 sc_check_two fun cdv A outer s H E1 H0 pins E hr => ?_
  exact s_cons (s_expr (e_call (g_check_machine C) hr (by decide) rfl (as_d (e_var (pv 0)) (as_nil))))
        (s_cons (s_expr (e_call (g_check_machine C) hr (by decide) rfl (as_d (e_var (pv 1)) (as_nil))))
        (s_one (s_if (t_cmp (op_neF hr.rm.units) (e_ixN (pv 0) (e_int)) (ED.q (e_ixN (pv 1) (e_int))) (nomark _)) (s_one (s_never)) (s_nil))))
theorem g_check_two (C : HeadC fa fn ts K mg base T) : Fn P w K mg base T 7 "check_two" ["one", "other"] 2 d_check_two := (f_check_two C).toFn (fun _ _ _ _ _ _ us hl => match us, hl with | [_, _], _ => rfl)
theorem sc_intersection : FnScope ["one", "other"] ["one", "other"] D_intersection.scope := ⟨rfl, rfl, rfl, by decide +kernel, rfl, by decide +kernel, by decide +kernel⟩
theorem f_intersection (C : HeadC fa fn ts K mg base T) : FnF P w K mg base T 17 D_intersection "intersection" ["one", "other"] 2 d_intersection := by
  unfold d_intersection
  refine fn_mk C 23 23 sc_intersection fun cdv A outer s H E1 H0 pins E hr => ?_
  exact s_cons (s_expr (e_call (g_check_two C) hr (by decide) rfl (as_d (e_var (pv 0)) (as_d (e_var (pv 1)) (as_nil)))))
        (s_one (s_ret (e_call (g_both_in C) hr (by decide) rfl (as_d (e_var (pv 0)) (as_d (e_var (pv 1)) (as_nil))))))
theorem g_intersection (C : HeadC fa fn ts K mg base T) : Fn P w K mg base T 17 "intersection" ["one", "other"] 2 d_intersection := (f_intersection C).toFn (fun _ _ _ _ _ _ us hl => match us, hl with | [_, _], _ => rfl)
theorem sc_least_machine : FnScope ["machine"] ["machine"] D_least_machine.scope := ⟨rfl, rfl, rfl, by decide +kernel, rfl, by decide +kernel, by decide +kernel⟩
theorem f_least_machine (C : HeadC fa fn ts K mg base T) : FnF P w K mg base T 15 D_least_machine "least_machine" ["machine"] 1 d_least_machine := by
  unfold d_least_machine
  refine fn_mk C 24 24 sc_least_machine fun cdv A outer s H E1 H0 pins E hr => ?_
  exact s_cons (s_expr (e_call (g_check_machine C) hr (by decide) rfl (as_d (e_var (pv 0)) (as_nil))))
        (s_one (s_ret (e_call (g_least_in C) hr (by decide) rfl (as_d (e_var (pv 0)) (as_nil)))))
theorem g_least_machine (C : HeadC fa fn ts K mg base T) : Fn P w K mg base T 15 "least_machine" ["machine"] 1 d_least_machine := (f_least_machine C).toFn (fun _ _ _ _ _ _ us hl => match us, hl with | [_], _ => rfl)
theorem sc_turned_in : FnScope ["machine", "k", "ends", "follow", "start", "rows", "state", "row", "end"] ["machine"] D_turned_in.scope := ⟨rfl, rfl, rfl, by decide +kernel, rfl, by decide +kernel, by decide +kernel⟩
def nf_turned_in_0 : FnT := ndT (List.getD D_turned_in.body 1 (.Pass pos0))
theorem ns_turned_in_0 : NScC ["some", "letter", "rows", "state", "row"] ["some", "letter"] ["rows"] nf_turned_in_0.scope := nscC_by (by decide +kernel)
theorem nb_turned_in_0 : NdefX.ndefB D_turned_in.scope nf_turned_in_0.scope ["rows"] = true := by decide +kernel
def nf_turned_in_1 : FnT := lamT (exA (exA (stE (List.getD D_turned_in.body 3 (.Pass pos0))) 0) 3)
theorem ns_turned_in_1 : NScC ["some"] ["some"] [] nf_turned_in_1.scope := nscC_by (by decide +kernel)
theorem nb_turned_in_1 : NdefX.ndefB D_turned_in.scope nf_turned_in_1.scope [] = true := by decide +kernel
def nfs_turned_in : List FnT := [nf_turned_in_0, nf_turned_in_1]
theorem f_turned_in (C : HeadC fa fn ts K mg base T) : FnF P w K mg base T 15 D_turned_in "turned_in" ["machine"] 1 d_turned_in := by
  unfold d_turned_in
  refine fn_mkCL nfs_turned_in C 25 25 4 sc_turned_in fun A outer s H E1 H0 pins E hr => ?_
  exact s_cons (s_asg (e_var (pv 0)) (g_tup rfl (gs_cons (g_name sc_turned_in.nd rfl (.inl rfl)) (gs_cons (g_name sc_turned_in.nd rfl (.inr rfl)) (gs_cons (g_name sc_turned_in.nd rfl (.inl rfl)) (gs_nil))))))
        (s_cons (s_def (nfs := nfs_turned_in) (C.tab 4).1 rfl (C.tab 4).2 (NdefX.ndef_free nb_turned_in_0) rfl sc_turned_in.nd rfl (.inl rfl) (.inl rfl))
        (s_cons (s_setD sc_turned_in.nd rfl (.inl rfl) (e_callTy c_tuple rfl (C.free 32) bt_tuple (a_last (EV.q (e_lc (own := [("state", 6), ("end", 8)]) rfl sc_turned_in.nd (i_enum rfl (C.free 43) (e_var (pv 2))) (blkOk_by (by kernel_rfl)) (by decide) (fun _ _ _ _ _ _ _ => g_tup rfl (gs_cons (g_name sc_turned_in.nd rfl (.inl rfl)) (gs_cons (g_name sc_turned_in.nd rfl (.inl rfl)) (gs_nil)))) (fun _ _ _ _ _ _ _ => ts_one (t_cmpN (op_eqF hr.rm.units) (pv 8) (ED.q (e_int)) (nomark _))) (fun _ _ _ _ _ _ _ => e_var (pv 6)))))))
        (s_one (s_ret (e_call (g_least_in C) hr (by decide) rfl (as_d (e_callC (g_machine_from C) hr (by decide) rfl (ac_d (e_var (pv 1)) (ac_d (e_var (pv 4)) (ac_s (pv 3) (ac_m (e_lam (nfs := nfs_turned_in) (C.tab 4).1 rfl (C.tab 4).2 (NdefX.ndef_free nb_turned_in_1) rfl) (ac_nil))))) (clAt_ok (specs_cons (clo_spec (nfs := nfs_turned_in) (t := nf_turned_in_0) (k := 7) (js := [5]) (bodyOk_s rfl fun A outer s H E1 f qual cl c H0 pins E hr => by exact (s_one (s_retD (e_callTy c_tuple rfl (C.free 32) bt_tuple (a_last (EV.q (e_lc (own := [("state", 3), ("row", 4)]) rfl ns_turned_in_0.nd (i_enum rfl (C.free 43) (e_var (pv 2))) (blkOk_by (by kernel_rfl)) (by decide) (fun _ _ _ _ _ _ _ => g_tup rfl (gs_cons (g_name ns_turned_in_0.nd rfl (.inl rfl)) (gs_cons (g_name ns_turned_in_0.nd rfl (.inl rfl)) (gs_nil)))) (fun _ _ _ _ _ _ _ => ts_one (t_cmp (op_inF (room65 hr.rm)) (e_ixN (pv 4) (e_var (pv 1))) (e_peek (pv 0)) rfl)) (fun _ _ _ _ _ _ _ => e_var (pv 3))))))))) rfl ns_turned_in_0 nb_turned_in_0 rfl (fun _ _ _ _ _ _ us hl => match us, hl with | [_, _], _ => rfl)) (specs_cons (clo_spec (nfs := nfs_turned_in) (t := nf_turned_in_1) (k := 7) (js := []) (bodyOk_e rfl fun A outer s H E1 f qual cl c H0 pins E hr => by exact (e_cmp (op_inF (room65 hr.rm)) (e_int) (e_peek (pv 0)) rfl)) rfl ns_turned_in_1 nb_turned_in_1 rfl (fun _ _ _ _ _ _ us hl => match us, hl with | [_], _ => rfl)) (specs_nil))))) (as_nil)))))))
theorem g_turned_in (C : HeadC fa fn ts K mg base T) : Fn P w K mg base T 15 "turned_in" ["machine"] 1 d_turned_in := (f_turned_in C).toFn (fun _ _ _ _ _ _ us hl => match us, hl with | [_], _ => rfl)
theorem sc_turned : FnScope ["machine"] ["machine"] D_turned.scope := ⟨rfl, rfl, rfl, by decide +kernel, rfl, by decide +kernel, by decide +kernel⟩
theorem f_turned (C : HeadC fa fn ts K mg base T) : FnF P w K mg base T 16 D_turned "turned" ["machine"] 1 d_turned := by
  unfold d_turned
  refine fn_mk C 26 26 sc_turned fun cdv A outer s H E1 H0 pins E hr => ?_
  exact s_cons (s_expr (e_call (g_check_machine C) hr (by decide) rfl (as_d (e_var (pv 0)) (as_nil))))
        (s_one (s_ret (e_call (g_turned_in C) hr (by decide) rfl (as_d (e_var (pv 0)) (as_nil)))))
theorem g_turned (C : HeadC fa fn ts K mg base T) : Fn P w K mg base T 16 "turned" ["machine"] 1 d_turned := (f_turned C).toFn (fun _ _ _ _ _ _ us hl => match us, hl with | [_], _ => rfl)
theorem k_turned_0_machine (C : HeadC fa fn ts K mg base T) : FnK P w K mg base T 16 "turned" ["machine"] 1 d_turned 0 ["machine"] [0] := (f_turned C).toFnK fun _ _ _ _ _ _ us ws h1 h2 => match us, ws, h1, h2 with | [], [_], _, _ => rfl
theorem sc_either_in : FnScope ["one", "other"] ["one", "other"] D_either_in.scope := ⟨rfl, rfl, rfl, by decide +kernel, rfl, by decide +kernel, by decide +kernel⟩
def nf_either_in_0 : FnT := lamT (exA (stE (List.getD D_either_in.body 0 (.Pass pos0))) 2)
theorem ns_either_in_0 : NScC ["end", "further"] ["end", "further"] [] nf_either_in_0.scope := nscC_by (by decide +kernel)
theorem nb_either_in_0 : NdefX.ndefB D_either_in.scope nf_either_in_0.scope [] = true := by decide +kernel
def nfs_either_in : List FnT := [nf_either_in_0]
theorem f_either_in (C : HeadC fa fn ts K mg base T) : FnF P w K mg base T 16 D_either_in "either_in" ["one", "other"] 2 d_either_in := by
  unfold d_either_in
  refine fn_mkCL nfs_either_in C 27 27 5 sc_either_in fun A outer s H E1 H0 pins E hr => ?_
  exact s_one (s_ret (ED.v (e_callC (g_join_in C) hr (by decide) rfl (ac_d (e_var (pv 0)) (ac_d (e_var (pv 1)) (ac_m (e_lam (nfs := nfs_either_in) (C.tab 5).1 rfl (C.tab 5).2 (NdefX.ndef_free nb_either_in_0) rfl) (ac_nil)))) (clAt_ok (specs_cons (clo_spec (nfs := nfs_either_in) (t := nf_either_in_0) (k := 7) (js := []) (bodyOk_e rfl fun A outer s H E1 f qual cl c H0 pins E hr => by exact (Fz.v_or (e_cmpN (op_eqF hr.rm.units) (pv 0) (ED.q (e_int)) (nomark _)) (Fz.v_one (e_cmpN (op_eqF hr.rm.units) (pv 1) (ED.q (e_int)) (nomark _))))) rfl ns_either_in_0 nb_either_in_0 rfl (fun _ _ _ _ _ _ us hl => match us, hl with | [_, _], _ => rfl)) (specs_nil))))))
theorem g_either_in (C : HeadC fa fn ts K mg base T) : Fn P w K mg base T 16 "either_in" ["one", "other"] 2 d_either_in := (f_either_in C).toFn (fun _ _ _ _ _ _ us hl => match us, hl with | [_, _], _ => rfl)
theorem sc_union : FnScope ["one", "other"] ["one", "other"] D_union.scope := ⟨rfl, rfl, rfl, by decide +kernel, rfl, by decide +kernel, by decide +kernel⟩
theorem f_union (C : HeadC fa fn ts K mg base T) : FnF P w K mg base T 17 D_union "union" ["one", "other"] 2 d_union := by
  unfold d_union
  refine fn_mk C 28 28 sc_union fun cdv A outer s H E1 H0 pins E hr => ?_
  exact s_cons (s_expr (e_call (g_check_two C) hr (by decide) rfl (as_d (e_var (pv 0)) (as_d (e_var (pv 1)) (as_nil)))))
        (s_one (s_ret (e_call (g_either_in C) hr (by decide) rfl (as_d (e_var (pv 0)) (as_d (e_var (pv 1)) (as_nil))))))
theorem g_union (C : HeadC fa fn ts K mg base T) : Fn P w K mg base T 17 "union" ["one", "other"] 2 d_union := (f_union C).toFn (fun _ _ _ _ _ _ us hl => match us, hl with | [_, _], _ => rfl)
theorem sc_law : FnScope ["script", "at", "well", "turn", "k", "one", "other", "kept", "back", "word", "told", "due"] ["script"] D_law.scope := ⟨rfl, rfl, rfl, by decide +kernel, rfl, by decide +kernel, by decide +kernel⟩
theorem f_law (C : HeadC fa fn ts K mg base T) : FnF P w K mg base T 26 D_law "law" ["script"] 1 d_law13 := by
  unfold d_law13
  refine fn_mk C 29 29 sc_law fun cdv A outer s H E1 H0 pins E hr => ?_
  exact s_cons (s_for PassesOwn.never rfl (i_range1 rfl (C.free 30) (e_callB (c_max2 rfl) rfl (C.free 40) bt_max (a_consQ (e_int) (a_last (ED.q (e_callB (c_min2 rfl) rfl (C.free 44) bt_min (a_consQ (e_int) (a_last (ED.q (e_callB c_len rfl (C.free 37) bt_len (a_last (e_peek (pv 0))))))))))))) (g_name sc_law.nd rfl (.inl rfl)) (s_cons (s_set sc_law.nd rfl (.inl rfl) (e_call (g__law_well C) hr (by decide) rfl (as_d (e_var (pv 0)) (as_d (e_var (pv 1)) (as_nil)))))
        (s_one (s_for PassesOwn.never rfl (i_range1 rfl (C.free 30) (e_int)) (g_name sc_law.nd rfl (.inl rfl)) (s_cons (s_set sc_law.nd rfl (.inl rfl) (e_op op_addF (e_int) (EV.q (e_call (g__law_take C) hr (by decide) rfl (as_s (pv 2) (as_d (e_int) (as_nil)))))))
        (s_cons (s_par2 rfl sc_law.nd rfl rfl (by decide) rfl rfl (av_cons (e_call (g__law_machine C) hr (by decide) rfl (as_s (pv 2) (as_d (e_var (pv 4)) (as_d (e_ite (t_cmpN op_ltF (pv 4) (ED.q (e_int)) (nomark _)) (e_int) (e_int)) (as_nil))))) (av_cons (e_call (g__law_machine C) hr (by decide) rfl (as_s (pv 2) (as_d (e_var (pv 4)) (as_d (e_ite (t_cmpN op_ltF (pv 4) (ED.q (e_int)) (nomark _)) (e_int) (e_int)) (as_nil))))) (av_nil) (fun _ _ => av_nil)) (fun _ _ => av_cons (e_call (g__law_machine C) hr (by decide) rfl (as_s (pv 2) (as_d (e_var (pv 4)) (as_d (e_ite (t_cmpN op_ltF (pv 4) (ED.q (e_int)) (nomark _)) (e_int) (e_int)) (as_nil))))) (av_nil) (fun _ _ => av_nil))) rfl)
        (s_cons (s_par2 rfl sc_law.nd rfl rfl (by decide) rfl rfl (av_cons (ED.v (e_callB (c_repr hr) rfl (C.free 45) bt_repr (a_last (EV.q (e_lst (a_cons (e_var (pv 5)) (a_cons (e_var (pv 6)) (a_nil)))))))) (av_cons (e_call (g_turned C) hr (by decide) rfl (as_d (e_var (pv 5)) (as_nil))) (av_nil) (fun _ _ => av_nil)) (fun _ _ => av_cons (e_call (g_turned C) hr (by decide) rfl (as_d (e_var (pv 5)) (as_nil))) (av_nil) (fun _ _ => av_nil))) rfl)
        (s_cons (s_if (t_not (t_tru (EV.q (e_call (g__law_same C 24) hr (by decide) rfl (as_d (EV.frz (e_lst (a_cons (EV.frz (e_callK0 (k_turned_0_machine C) hr (by decide) rfl (ks_d (e_var (pv 5)) (ks_nil)))) (a_cons (EV.frz (e_call (g_least_machine C) hr (by decide) rfl (as_d (e_var (pv 8)) (as_nil)))) (a_cons (EV.frz (e_call (g_turned C) hr (by decide) rfl (as_d (e_var (pv 8)) (as_nil)))) (a_nil)))))) (as_d (EV.frz (e_lst (a_cons (e_var (pv 8)) (a_cons (e_var (pv 8)) (a_cons (EV.frz (e_call (g_least_machine C) hr (by decide) rfl (as_d (e_var (pv 5)) (as_nil)))) (a_nil)))))) (as_nil))))))) (s_one (s_retD (e_bl))) (s_nil))
        (s_cons (s_for PassesOwn.never rfl (i_seq (EV.frz (e_call (g__law_all C) hr (by decide) rfl (as_d (e_var (pv 4)) (as_d (e_ix (EV.frz (e_lst (a_cons (e_int) (a_cons (e_int) (a_cons (e_int) (a_cons (e_int) (a_nil))))))) (e_var (pv 4))) (as_nil)))))) (g_name sc_law.nd rfl (.inl rfl)) (s_one (s_if (t_cmp (op_neF hr.rm.units) (EV.frz (e_call (g__law_walk C) hr (by decide) rfl (as_d (e_var (pv 8)) (as_d (e_var (pv 9)) (as_nil))))) (EV.q (e_call (g__law_walk C) hr (by decide) rfl (as_d (e_var (pv 5)) (as_d (EV.frz (e_rev (e_peek (pv 9)))) (as_nil))))) (nomark _)) (s_one (s_retD (e_bl))) (s_nil))))
        (s_cons (s_set sc_law.nd rfl (.inl rfl) (e_lst (a_cons (EV.frz (e_call (g_turned C) hr (by decide) rfl (as_d (EV.frz (e_call (g_union C) hr (by decide) rfl (as_d (e_var (pv 5)) (as_d (e_var (pv 6)) (as_nil))))) (as_nil)))) (a_cons (EV.frz (e_call (g_turned C) hr (by decide) rfl (as_d (EV.frz (e_call (g_intersection C) hr (by decide) rfl (as_d (e_var (pv 5)) (as_d (e_var (pv 6)) (as_nil))))) (as_nil)))) (a_cons (EV.frz (e_call (g_turned C) hr (by decide) rfl (as_d (EV.frz (e_call (g_complement C) hr (by decide) rfl (as_d (e_var (pv 5)) (as_nil)))) (as_nil)))) (a_nil))))))
        (s_cons (s_set sc_law.nd rfl (.inl rfl) (e_lst (a_cons (EV.frz (e_call (g_union C) hr (by decide) rfl (as_d (e_var (pv 8)) (as_d (EV.frz (e_call (g_turned C) hr (by decide) rfl (as_d (e_var (pv 6)) (as_nil)))) (as_nil))))) (a_cons (EV.frz (e_call (g_intersection C) hr (by decide) rfl (as_d (e_var (pv 8)) (as_d (EV.frz (e_call (g_turned C) hr (by decide) rfl (as_d (e_var (pv 6)) (as_nil)))) (as_nil))))) (a_cons (EV.frz (e_call (g_complement C) hr (by decide) rfl (as_d (e_var (pv 8)) (as_nil)))) (a_nil))))))
        (s_one (s_if (t_bool (w_or (t_not (t_tru (EV.q (e_call (g__law_same C 24) hr (by decide) rfl (as_d (e_var (pv 10)) (as_d (e_var (pv 11)) (as_nil))))))) (w_or1 (t_cmp (op_neF hr.rm.units) (e_callB (c_repr hr) rfl (C.free 45) bt_repr (a_last (EV.q (e_lst (a_cons (e_var (pv 5)) (a_cons (e_var (pv 6)) (a_nil))))))) (e_peek (pv 7)) (nomark _))))) (s_one (s_retD (e_bl))) (s_nil))))))))))))))
        (s_one (s_retD (e_bl)))
end
end K13
end

section
set_option Elab.async false
set_option linter.all false
set_option maxRecDepth 100000
set_option maxHeartbeats 0
namespace K13
open PySem PySem.Spec PyProof.Rows L2 Fz DL
abbrev R : PySem.W.OpenRow := PySem.W.OpenLaw.row PySem.Challenge.rw_wholestrewn_k13_whole_machines_turned_ab
abbrev hk : PySem.W.Hook := hookC 4 fa fn ts
def ob (s : PySem.W.SharedT) : AlC := obsC 4 fa fn ts (HandSHeadRun.getT s)
theorem ob_eq (s : PySem.W.SharedT) : ob s = hk.obs s.abs := obsC_eq (HandSHeadRun.getT_eq s)
def loose0 : List Str := ["__name__", "StrewnError", "InvalidMachine", "InvalidPair", "MOST_LETTERS", "is_integer", "is_natural", "is_below", "is_between", "is_k", "is_machine_of", "check_machine", "check_two", "machine_from", "sorts_of", "least_in", "paired", "least_machine", "turned_ends", "contrary_in"]
def loose1 : List Str := ["join_in", "both_in", "either_in", "turned_in", "complement", "intersection", "union", "turned", "_law_well", "_law_take", "_law_same", "_law_all", "_law_walk", "_law_machine", "law"]
def loose : List Str := loose0 ++ loose1
theorem run (w : World) : HandSHeadRun.RunEq R (PySem.W.view R.prog [38]) hk ob 3000 loose w := by
  intro os
  kernel_rfl
end K13
open PySem PySem.W PySem.Calls PyProof.Rows
theorem PySem.Challenge.cw_wholestrewn_k13_whole_machines_turned_ab_holds : PySem.Challenge.rw_wholestrewn_k13_whole_machines_turned_ab.Holds := by
  w_on; o_law
  refine HandSHeadRun.head_any (r := K13.R) (q := view K13.R.prog [38]) (H := K13.hk) (ob := K13.ob) (M := 3000) (loose := K13.loose) (d := HandSHeadRun.topDef K13.R.prog 38) (kwd := []) K13.ob_eq
    (by kernel_rfl) (fun s => by kernel_rfl) K13.run (by kernel_rfl) (by kernel_rfl) (by kernel_rfl) (by rfl) (by first | assumption | decide +kernel) (by decide +kernel) ⟨rfl, rfl, rfl, rfl, rfl, by decide +kernel⟩ ?hw ?hc
  case hw => w_witness2
  case hc =>
    refine Fz.walk_F (lw := PySem.Challenge.rw_wholestrewn_k13_whole_machines_turned_ab) (n := 63) (k := 26) (x := "script") rfl (by decide) (by kernel_rfl) ⟨⟨rfl, by decide, by decide⟩, rfl⟩ ?_
    intro w mg fa h Y G hmg0
    obtain ⟨K, KX, c, tb⟩ := Y
    have hmg : mg ("law" : PySem.Str) = some (.ref fa) := by
      have e : (HandSHeadRun.topDef K13.R.prog 38).name = ("law" : PySem.Str) := by kernel_rfl
      rw [← e]
      exact hmg0
    exact Fz.head_close (fa := K13.fa) (fn := K13.fn) (ts := K13.ts) (i := 29) (j := 29) (d := K13.D_law) (y := "law") KX G c tb (fun base C => K13.f_law C) K13.the_law (fun _ _ _ _ _ _ us hl => match us, hl with | [_], _ => rfl) hmg
end
