import PyProof.Rows.All
import Wide.All
import OpenK.AllK
import Wide.FinOn
import HandS.ForMost
import HandS.IsInst
import HandS.Flow
import HandS.Style
import HandS.Wide
import HandS.Defaults
import HandS.Dict
import HandS.DictTup
import KE.KeyNested
import KE.KDictKeyed
import HandS.TupAny
import HandS.GenList
import HandS.AnyAll
import KE.KNestM
import HandS.Head0
import HandS.Head1
import HandS.Head2
import HandS.HeadEnd
import HandS.HeadHook1
import HandS.HeadHook2
import HandS.EndTab
import HandS.HeadWalk
import HandS.Zip
import HandS.Deep
import HandS.TupMul
import HandS.SortRule
import HandS.SortInts
import PyProof.Rows.SortKeyStr
import KE.KSortTup
import KE.KDictSum
import KE.KDictWalk
import KE.SortKeyed
import HandS.SortKw
import KE.KDictDisplayH
import HandS.TupLe
import PyProof.Draws
import PyProof.EnumMake
import HandS.Conv
import HandS.TupSets
import HandS.Iter
import HandS.TryOnly
import HandS.Nested
import KE.KNest
import KE.KLam
import KE.GoesCell
import HandS.SetKeys
import KE.KDictCopyH
import HandS.Comp
import PySem.Challenge.RW_wholestrewn_k63_whole_first_words_and_lo

section
set_option Elab.async false
set_option linter.all false
set_option maxRecDepth 100000
set_option maxHeartbeats 4000000
/-! N0: keys of dicts: data as keys, a dict with tuples as keys as an object of the abstract heap. -/
namespace Fz
open PySem PySem.Spec PyProof.Rows L2
mutual
/-- data as a key: no bools -/
def nk : PyData → Option NestedKey
  | .none => some .none
  | .int i => some (.num i)
  | .str x => some (.text x)
  | .tuple ds => (nks ds).map .tup
  | _ => none
def nks : List PyData → Option (List NestedKey)
  | [] => some []
  | d :: ds => match nk d, nks ds with
    | some k, some ks => some (k :: ks)
    | _, _ => none
end
/-- a flat key -/
def fk : PyData → Option Key
  | .int i => some (.inl i)
  | .str x => some (.inr x)
  | _ => none
/-- a tuple as a key, to depth 8 -/
def tk (d : PyData) : Option NestedKey := match d with
  | .tuple ds => (match nk (.tuple ds) with
    | some k => if k.depth ≤ 8 then some k else none
    | none => none)
  | _ => none
theorem tk_nk {d : PyData} {k : NestedKey} (h : tk d = some k) : nk d = some k ∧ k.depth ≤ 8 ∧ ∃ ds, d = .tuple ds := by
  cases d with
  | tuple ds =>
    simp only [tk] at h
    cases e : nk (.tuple ds) with
    | none => rw [e] at h; cases h
    | some k2 =>
      rw [e] at h
      simp only at h
      split at h
      · cases h; exact ⟨rfl, by assumption, ds, rfl⟩
      · cases h
  | _ => cases h
mutual
theorem nk_inj : ∀ {d e : PyData} {k : NestedKey}, nk d = some k → nk e = some k → d = e
  | .none, e, k, h, g => by
    simp only [nk, Option.some.injEq] at h; subst h
    cases e <;> simp [nk] at g ⊢
  | .int i, e, k, h, g => by
    simp only [nk, Option.some.injEq] at h; subst h
    cases e <;> simp [nk] at g ⊢
    exact g.symm
  | .str i, e, k, h, g => by
    simp only [nk, Option.some.injEq] at h; subst h
    cases e <;> simp [nk] at g ⊢
    exact g.symm
  | .tuple ds, e, k, h, g => by
    simp only [nk, Option.map_eq_some_iff] at h
    obtain ⟨ks, h1, rfl⟩ := h
    cases e with
    | tuple es =>
      simp only [nk, Option.map_eq_some_iff] at g
      obtain ⟨ks2, g1, g2⟩ := g
      cases g2
      rw [nks_inj h1 g1]
    | _ => simp [nk] at g
  | .bool _, _, _, h, _ => by simp [nk] at h
  | .list _, _, _, h, _ => by simp [nk] at h
  | .dict _, _, _, h, _ => by simp [nk] at h
theorem nks_inj : ∀ {ds es : List PyData} {ks : List NestedKey}, nks ds = some ks → nks es = some ks → ds = es
  | [], es, ks, h, g => by
    simp only [nks, Option.some.injEq] at h; subst h
    cases es with
    | nil => rfl
    | cons e es =>
      simp only [nks] at g
      cases e1 : nk e <;> cases e2 : nks es <;> simp [e1, e2] at g
  | d :: ds, es, ks, h, g => by
    simp only [nks] at h
    cases e1 : nk d with
    | none => simp [e1] at h
    | some k1 =>
      cases e2 : nks ds with
      | none => simp [e1, e2] at h
      | some k2 =>
        simp only [e1, e2, Option.some.injEq] at h
        subst h
        cases es with
        | nil => simp [nks] at g
        | cons e es =>
          simp only [nks] at g
          cases f1 : nk e with
          | none => simp [f1] at g
          | some l1 =>
            cases f2 : nks es with
            | none => simp [f1, f2] at g
            | some l2 =>
              simp only [f1, f2, Option.some.injEq, List.cons.injEq] at g
              obtain ⟨g1, g2⟩ := g
              subst g1; subst g2
              rw [nk_inj e1 f1, nks_inj e2 f2]
end
/-- the dict with tuples as keys at a -/
def DicP (w : World) (a : Addr) (raw : List (NestedKey × Addr × V)) (h : Heap) : Prop := raw.length ≤ sizeLine ∧ (a == sysModules) = false ∧ ∃ xs : List (NestedKey × Addr × Value),
  Paired (fun p q => p.1 = q.1 ∧ p.2.1 = q.2.1 ∧ RelV p.2.2 q.2.2) raw xs ∧ ∃ o es ep, h.get? a = some o ∧ o.ExactDict ∧ o.data = .dict es ep ∧ es.toList = xs.map (fun x => (⟨x.1.hash w, .ref x.2.1, x.2.2⟩ : DictEntry)) ∧ (xs.map (·.1)).Nodup
def DicT (w : World) (a : Addr) (raw : List (NestedKey × Addr × V)) : HO := .ext (DicP w a raw)
theorem DicP.stays {w : World} {a : Addr} {raw : List (NestedKey × Addr × V)} {h1 h2 : Heap} (x : DicP w a raw h1) (k : ∀ o, h1.get? a = some o → h2.get? a = some o) : DicP w a raw h2 := by
  obtain ⟨z, hd, xs, r, o, es, ep, e, c⟩ := x
  exact ⟨z, hd, xs, r, o, es, ep, k _ e, c⟩
theorem DicT.ok {P : Program} {w : World} {H : Hp} {a : Addr} {raw : List (NestedKey × Addr × V)} {h : Heap} (x : DicP w a raw h) : ObjOk P w H h a (DicT w a raw) := by
  obtain ⟨_, _, _, _, o, _, _, e, _⟩ := id x
  exact ⟨x, ⟨o, e⟩, fun h1 h2 y k => y.stays k⟩
end Fz
end

section
set_option Elab.async false
set_option linter.all false
set_option maxRecDepth 100000
set_option maxHeartbeats 4000000
/-! F0: pure data, their relation to the abstract heap, the state of a def's slots, the judgements by plain functions. -/
namespace Fz
open PySem PySem.Spec PyProof.Rows L2

abbrev D := PyData
abbrev Sl := L2.St
abbrev Fg := PySem.W.Frag

/-- a list that never changes any more -/
def FrzL (K : Fg) (H : Hp) (a : Addr) (xs : List V) : Prop := (∃ o, H a = some (.frz o (.lst xs))) ∨ SqL K (fun _ => none) a xs
theorem FrzL.sq {K : Fg} {H : Hp} {a : Addr} {xs : List V} (h : FrzL K H a xs) : SqL K H a xs := by
  rcases h with ⟨o, h⟩ | h
  · exact .inl (.inr ⟨o, h⟩)
  · rcases h with (h | ⟨o, h⟩) | h
    · cases h
    · cases h
    · exact .inr h
/-- a table of code objects -/
def TabT (H : Hp) (P : Addr) : Prop := ∃ ps : Array Value, H P = some (.tbl ps) ∧ TriplesOk ps.toList
/-- what never changes is kept, a table stays one -/
structure Pers (H H' : Hp) : Prop where
  tup : ∀ a xs, H a = some (.tup xs) → H' a = some (.tup xs)
  frz : ∀ a o u, H a = some (.frz o u) → H' a = some (.frz o u)
  tbl : ∀ a, TabT H a → TabT H' a
theorem Pers.refl (H : Hp) : Pers H H := ⟨fun _ _ h => h, fun _ _ _ h => h, fun _ h => h⟩
theorem Pers.trans {H H1 H2 : Hp} (a : Pers H H1) (b : Pers H1 H2) : Pers H H2 := ⟨fun p xs h => b.tup p xs (a.tup p xs h), fun p o u h => b.frz p o u (a.frz p o u h), fun p h => b.tbl p (a.tbl p h)⟩
theorem FrzL.mono {K : Fg} {H H' : Hp} {a : Addr} {xs : List V} (p : Pers H H') (h : FrzL K H a xs) : FrzL K H' a xs := by
  rcases h with ⟨o, h⟩ | h
  · exact .inl ⟨o, p.frz _ _ _ h⟩
  · exact .inr h
theorem sqT_mono {K : Fg} {H H' : Hp} {a : Addr} {xs : List V} (p : Pers H H') (h : SqT K H a xs) : SqT K H' a xs := by
  rcases h with (h | ⟨o, h⟩) | h
  · exact .inl (.inl (p.tup _ _ h))
  · exact .inl (.inr ⟨o, p.frz _ _ _ h⟩)
  · exact .inr h
mutual
/-- the value is the data d, and stays it -/
inductive Pd (K : Fg) (H : Hp) : V → D → Prop
  | non : Pd K H .non .none
  | bl (b : Bool) : Pd K H (.bl b) (.bool b)
  | int (i : Int) : Pd K H (.int i) (.int i)
  | str (x : Str) : Pd K H (.str x) (.str x)
  | tup {a : Addr} {xs : List V} {ds : List D} (h : SqT K H a xs) (r : PdAll K H xs ds) : Pd K H (.ref a) (.tuple ds)
  | lst {a : Addr} {xs : List V} {ds : List D} (h : FrzL K H a xs) (r : PdAll K H xs ds) : Pd K H (.ref a) (.list ds)
inductive PdAll (K : Fg) (H : Hp) : List V → List D → Prop
  | nil : PdAll K H [] []
  | cons {x : V} {d : D} {xs : List V} {ds : List D} (h : Pd K H x d) (r : PdAll K H xs ds) : PdAll K H (x :: xs) (d :: ds)
end
mutual
theorem Pd.mono {K : Fg} {H H' : Hp} (p : Pers H H') : ∀ {x : V} {d : D}, Pd K H x d → Pd K H' x d
  | _, _, .non => .non
  | _, _, .bl b => .bl b
  | _, _, .int i => .int i
  | _, _, .str x => .str x
  | _, _, .tup h r => .tup (sqT_mono p h) (PdAll.mono p r)
  | _, _, .lst h r => .lst (h.mono p) (PdAll.mono p r)
theorem PdAll.mono {K : Fg} {H H' : Hp} (p : Pers H H') : ∀ {xs : List V} {ds : List D}, PdAll K H xs ds → PdAll K H' xs ds
  | _, _, .nil => .nil
  | _, _, .cons h r => .cons (Pd.mono p h) (PdAll.mono p r)
end
mutual
theorem Pd.dp {K : Fg} {H : Hp} : ∀ {x : V} {d : D}, Pd K H x d → Dp K H x d
  | _, _, .non => .non
  | _, _, .bl b => .bl b
  | _, _, .int i => .int i
  | _, _, .str x => .str x
  | _, _, .tup h r => .tup h (PdAll.dp r)
  | _, _, .lst h r => .lst h.sq (PdAll.dp r)
theorem PdAll.dp {K : Fg} {H : Hp} : ∀ {xs : List V} {ds : List D}, PdAll K H xs ds → DpAll K H xs ds
  | _, _, .nil => .nil
  | _, _, .cons h r => .cons h.dp (PdAll.dp r)
end

/-! ### objects that one slot owns, what a slot holds -/
inductive Ob where
  | lst (ds : List D)
  | dic (kvs : List (D × D))
/-- d: data for good; own: an object that no one else holds; pin: an object that the caller holds, too (a parameter) -/
abbrev FnD := List D → Option D
/-- ro: an object that no one changes while the frame runs; fn: a function that keeps all, within k levels, and answers g; loc: the j-th function that this frame's text makes -/
inductive SX where
  | ro (o : Ob)
  | fn (k : Nat) (g : FnD)
  | loc (j : Nat)
inductive SV where
  | d (x : D)
  | own (o : Ob)
  | pin (o : Ob)
  | x (e : SX)
abbrev FS := List (Option SV)
structure Exn where
  cls : Str
  val : D
inductive Res (α : Type) where
  | ok (a : α) (S : FS)
  | exn (e : Exn) (S : FS)
  | bad
def Res.bind {α β : Type} (r : Res α) (k : α → FS → Res β) : Res β := match r with
  | .ok a S => k a S
  | .exn e S => .exn e S
  | .bad => .bad
@[simp] theorem Res.bind_ok {α β : Type} (a : α) (S : FS) (k : α → FS → Res β) : (Res.ok a S).bind k = k a S := rfl
@[simp] theorem Res.bind_exn {α β : Type} (e : Exn) (S : FS) (k : α → FS → Res β) : (Res.exn e S : Res α).bind k = .exn e S := rfl
@[simp] theorem Res.bind_bad {α β : Type} (k : α → FS → Res β) : (Res.bad : Res α).bind k = .bad := rfl
/-- one after another -/
def bnd {α β : Type} (fa : FS → Res α) (k : α → FS → Res β) : FS → Res β := fun S => (fa S).bind k

/-- a dict with keys that are flat, or tuples -/
def DicG (K : Fg) (w : World) (H : Hp) (a : Addr) (T : HO → Prop) (kvs : List (D × D)) : Prop :=
  (∃ raw : List (Key × V), T (.dK raw) ∧ Paired (fun (p : Key × V) (q : D × D) => fk q.1 = some p.1 ∧ Pd K H p.2 q.2) raw kvs) ∨
  ∃ raw : List (NestedKey × Addr × V), kvs ≠ [] ∧ T (DicT w a raw) ∧ Paired (fun (p : NestedKey × Addr × V) (q : D × D) => tk q.1 = some p.1 ∧ Pd K H (.ref p.2.1) q.1 ∧ Pd K H p.2.2 q.2) raw kvs
def DicR (K : Fg) (w : World) (H : Hp) (a : Addr) (kvs : List (D × D)) : Prop := DicG K w H a (fun u => H a = some u) kvs
/-- .. as it may be read -/
def DicV (K : Fg) (w : World) (H : Hp) (a : Addr) (kvs : List (D × D)) : Prop := DicG K w H a (Rd H a) kvs
/-- an object that is known to the letter -/
def RoR (K : Fg) (w : World) (H : Hp) (a : Addr) : Ob → Prop
  | .lst ds => ∃ o vs, H a = some (.frz o (.lst vs)) ∧ PdAll K H vs ds
  | .dic kvs => ∃ o, DicG K w H a (fun u => H a = some (.frz o u)) kvs
def ObR (K : Fg) (w : World) (H : Hp) (a : Addr) : Ob → Prop
  | .lst ds => ∃ vs, H a = some (.lst vs) ∧ PdAll K H vs ds
  | .dic kvs => DicR K w H a kvs
def isTbl : HO → Bool
  | .tbl _ => true
  | _ => false
/-- the fields of a code object whose table is at P -/
def CodeFs (vs : Array Value) (P : Addr) : Prop := ∃ file tf flags tg inF text tt, vs.getD 11 .none = .ref P ∧ vs.getD 18 .none = .str file tf ∧ vs.getD 7 .none = .int flags tg ∧ vs.getD 9 .none = .bool inF ∧ vs.getD 10 .none = .int text tt
/-- a code object that is made while the text runs, and its own table -/
def CodeG (H : Hp) (cv : Value) : Prop := ∃ (c : Addr) (oc : Obj) (u : HO) (vs : Array Value) (q : Str) (t : Tok) (P : Addr), cv = .ref c ∧ H c = some (.frz oc u) ∧ oc.cls = .type "code" ∧ oc.data = .fields vs ∧ vs[1]? = some (.str q t) ∧ vs[11]? = some (.ref P) ∧ CodeFs vs P ∧ c ≠ P ∧ TabT H P ∧ ∃ y, u = .own y
theorem mut_tbl : ∀ {u : HO}, Mut (some u) → isTbl u = false
  | .tbl _, h => h.elim
  | .lst _, _ => rfl
  | .tup _, _ => rfl
  | .dK _, _ => rfl
  | .dT _, _ => rfl
  | .set _ _, _ => rfl
  | .ins _ _ _, _ => rfl
  | .own _, _ => rfl
  | .xd _, _ => rfl
  | .met _ _, _ => rfl
  | .rng _ _, _ => rfl
  | .frz _ _, _ => rfl
  | .ext _, _ => rfl
def TabOk (H : Hp) (P : Addr) : Prop := ∃ ps : Array Value, H P = some (.tbl ps) ∧ TriplesOk ps.toList ∧ ∀ pos cv, codeAmong pos ps.toList = some cv → CodeG H cv
theorem CodeG.later {H H' : Hp} {cv : Value} (h : CodeG H cv) (p : Pers H H') : CodeG H' cv :=
  let ⟨c, oc, u, vs, q, t, P, h1, h2, h3, h4, h5, h6, h7, h8, h9, h10⟩ := h
  ⟨c, oc, u, vs, q, t, P, h1, p.frz _ _ _ h2, h3, h4, h5, h6, h7, h8, p.tbl _ h9, h10⟩
/-- all but frozen lists are kept -/
theorem TabOk.thaw {H H' : Hp} {P : Addr} (h : TabOk H P) (k : ∀ b u, H b = some u → (∀ o vs, u ≠ .frz o (.lst vs)) → H' b = some u) : TabOk H' P :=
  let ⟨ps, e, t, c⟩ := h
  ⟨ps, k _ _ e (fun _ _ z => nomatch z), t, fun pos cv z =>
    let ⟨c, oc, u, vs, q, t, P, h1, h2, h3, h4, h5, h6, h7, h8, ⟨qs, h9, h9'⟩, h10⟩ := c pos cv z
    ⟨c, oc, u, vs, q, t, P, h1, k _ _ h2 (fun o vs z => by obtain ⟨y, h10⟩ := h10; rw [h10] at z; cases z), h3, h4, h5, h6, h7, h8, ⟨qs, k _ _ h9 (fun _ _ z => nomatch z), h9'⟩, h10⟩⟩
theorem TabOk.later {H H' : Hp} {P : Addr} (h : TabOk H P) (p : Pers H H') (k : ∀ b ps, H b = some (.tbl ps) → H' b = some (.tbl ps)) : TabOk H' P :=
  let ⟨ps, e, t, c⟩ := h
  ⟨ps, k _ _ e, t, fun pos cv z => (c pos cv z).later p⟩

/-- what a body knows of its frame: the heap at its entry, the pinned parameters by slot, the tables of code objects, the wish about exceptions -/
structure ClX where
  clo : Hp → V → Nat → FnD → Prop
  cloM : ∀ {H H' : Hp} {x : V} {k : Nat} {g : FnD}, Pers H H' → clo H x k g → clo H' x k g
  loc : Hp → V → Nat → Prop
  locM : ∀ {H H' : Hp} {x : V} {j : Nat}, Pers H H' → loc H x j → loc H' x j
  self : Hp → Prop
  selfM : ∀ {H H' : Hp}, Pers H H' → self H → self H'
structure Fx where
  H0 : Hp
  pins : List (Nat × Addr)
  tabs : List Addr
  held : List (Addr × HO)
  E : XK
  w : World
  cl : ClX
def SxR (K : Fg) (F : Fx) (H : Hp) (x : V) : SX → Prop
  | .ro ob => ∃ a, x = .ref a ∧ RoR K F.w H a ob
  | .fn k g => F.cl.clo H x k g
  | .loc j => F.cl.loc H x j
def SvR (K : Fg) (F : Fx) (i : Nat) (H : Hp) (x : V) : SV → Prop
  | .d d => Pd K H x d
  | .own ob => ∃ a, x = .ref a ∧ ObR K F.w H a ob ∧ F.H0 a = none
  | .pin ob => ∃ a, x = .ref a ∧ ObR K F.w H a ob ∧ (i, a) ∈ F.pins
  | .x e => SxR K F H x e
def Owned (S : FS) (i : Nat) : Prop := ∃ ob, S[i]? = some (some (.own ob)) ∨ S[i]? = some (some (.pin ob))
structure Rel (K : Fg) (F : Fx) (S : FS) (σ : Sl) (H : Hp) : Prop where
  len : S.length = σ.length
  slot : ∀ i sv, S[i]? = some (some sv) → ∃ x, σ[i]? = some (some x) ∧ SvR K F i H x sv
  apart : ∀ i j a, i ≠ j → Owned S i → Owned S j → σ[i]? = some (some (.ref a)) → σ[j]? ≠ some (some (.ref a))
  keep : ∀ a o, F.H0 a = some o → a ∉ F.pins.map (·.2) → isTbl o = false → H a = some o
  there : ∀ a o, F.H0 a = some o → ∃ u, H a = some u
  tabs : ∀ P ∈ F.tabs, TabOk H P
  self : F.cl.self H
  held : ∀ p ∈ F.held, (H p.1 = some p.2 ∧ Mut (some p.2)) ∧ F.H0 p.1 = none ∧ ∀ i, Owned S i → σ[i]? ≠ some (some (.ref p.1))
/-- a value behind an expression: data, or a new object that no slot holds -/
def VR (K : Fg) (F : Fx) (S : FS) (σ : Sl) (H : Hp) (x : V) : SV → Prop
  | .d d => Pd K H x d
  | .own ob => ∃ a, x = .ref a ∧ ObR K F.w H a ob ∧ F.H0 a = none ∧ (∀ i, Owned S i → σ[i]? ≠ some (some (.ref a))) ∧ ∀ p ∈ F.held, p.1 ≠ a
  | .pin _ => False
  | .x _ => False
def PR (K : Fg) (_ : Fx) (_ : FS) (_ : Sl) (H : Hp) (x : V) (d : D) : Prop := Pd K H x d
/-- data for the moment: data, or a list that may change later, of data -/
def Qd (K : Fg) (H : Hp) (x : V) (d : D) : Prop := Pd K H x d ∨ ∃ a vs ds, x = .ref a ∧ d = .list ds ∧ SqL K H a vs ∧ PdAll K H vs ds
theorem Qd.dp {K : Fg} {H : Hp} {x : V} {d : D} (h : Qd K H x d) : Dp K H x d := by
  rcases h with h | ⟨a, vs, ds, rfl, rfl, h, r⟩
  · exact h.dp
  · exact .lst h r.dp
/-- a list's items -/
theorem Qd.list {K : Fg} {H : Hp} {x : V} {ds : List D} (h : Qd K H x (.list ds)) : ∃ a vs, x = .ref a ∧ SqL K H a vs ∧ PdAll K H vs ds := by
  rcases h with h | ⟨a, vs, ds, rfl, e, h, r⟩
  · cases h with
    | lst h r => exact ⟨_, _, rfl, h.sq, r⟩
  · cases e; exact ⟨_, _, rfl, h, r⟩
theorem Qd.pd {K : Fg} {H : Hp} {x : V} {d : D} (h : Qd K H x d) (n : ∀ ds, d ≠ .list ds) : Pd K H x d := by
  rcases h with h | ⟨a, vs, ds, rfl, e, h, r⟩
  · exact h
  · exact absurd e (n ds)
theorem Qd.tuple {K : Fg} {H : Hp} {x : V} {ds : List D} (h : Qd K H x (.tuple ds)) : ∃ a vs, x = .ref a ∧ SqT K H a vs ∧ PdAll K H vs ds := by
  cases h.pd (fun _ e => nomatch e) with
  | tup h2 r => exact ⟨_, _, rfl, h2, r⟩
theorem Qd.int {K : Fg} {H : Hp} {x : V} {i : Int} (h : Qd K H x (.int i)) : x = .int i := by
  cases h.pd (fun _ e => nomatch e); rfl
theorem Qd.bl {K : Fg} {H : Hp} {x : V} {i : Bool} (h : Qd K H x (.bool i)) : x = .bl i := by
  cases h.pd (fun _ e => nomatch e); rfl
theorem Qd.str {K : Fg} {H : Hp} {x : V} {i : Str} (h : Qd K H x (.str i)) : x = .str i := by
  cases h.pd (fun _ e => nomatch e); rfl
theorem Qd.non {K : Fg} {H : Hp} {x : V} (h : Qd K H x .none) : x = .non := by
  cases h.pd (fun _ e => nomatch e); rfl
theorem PdAll.length {K : Fg} {H : Hp} : ∀ {xs : List V} {ds : List D}, PdAll K H xs ds → xs.length = ds.length
  | _, _, .nil => rfl
  | _, _, .cons _ r => by rw [List.length_cons, List.length_cons, PdAll.length r]
theorem PdAll.append {K : Fg} {H : Hp} : ∀ {xs ys : List V} {ds es : List D}, PdAll K H xs ds → PdAll K H ys es → PdAll K H (xs ++ ys) (ds ++ es)
  | _, _, _, _, .nil, s => s
  | _, _, _, _, .cons h r, s => .cons h (PdAll.append r s)
theorem PdAll.take {K : Fg} {H : Hp} : ∀ {xs : List V} {ds : List D} (n : Nat), PdAll K H xs ds → PdAll K H (xs.take n) (ds.take n)
  | _, _, 0, _ => .nil
  | _, _, _ + 1, .nil => .nil
  | _, _, n + 1, .cons h r => .cons h (PdAll.take n r)
theorem PdAll.drop {K : Fg} {H : Hp} : ∀ {xs : List V} {ds : List D} (n : Nat), PdAll K H xs ds → PdAll K H (xs.drop n) (ds.drop n)
  | _, _, 0, r => r
  | _, _, _ + 1, .nil => .nil
  | _, _, n + 1, .cons _ r => PdAll.drop n r
theorem PdAll.get {K : Fg} {H : Hp} : ∀ {xs : List V} {ds : List D} {i : Nat} {d : D}, PdAll K H xs ds → ds[i]? = some d → ∃ x, xs[i]? = some x ∧ Pd K H x d
  | _, _, _, _, .nil, e => by simp at e
  | _, _, 0, _, .cons h _, e => by simp at e; subst e; exact ⟨_, rfl, h⟩
  | _, _, i + 1, d, .cons _ r, e => by
    obtain ⟨x, h1, h2⟩ := PdAll.get (i := i) (d := d) r (by simpa using e)
    exact ⟨x, by simpa using h1, h2⟩
theorem PdAll.getV {K : Fg} {H : Hp} : ∀ {xs : List V} {ds : List D} {i : Nat} {x : V}, PdAll K H xs ds → xs[i]? = some x → ∃ d, ds[i]? = some d ∧ Pd K H x d
  | _, _, _, _, .nil, e => by simp at e
  | _, _, 0, _, .cons h _, e => by simp at e; subst e; exact ⟨_, rfl, h⟩
  | _, _, i + 1, d, .cons _ r, e => by
    obtain ⟨x, h1, h2⟩ := PdAll.getV (i := i) r (by simpa using e)
    exact ⟨x, by simpa using h1, h2⟩
theorem PdAll.set {K : Fg} {H : Hp} {x : V} {d : D} (q : Pd K H x d) : ∀ {xs : List V} {ds : List D} (i : Nat), PdAll K H xs ds → PdAll K H (xs.set i x) (ds.set i d)
  | _, _, _, .nil => .nil
  | _, _, 0, .cons _ r => .cons q r
  | _, _, i + 1, .cons h r => .cons h (PdAll.set q i r)
theorem PdAll.rep {K : Fg} {H : Hp} {xs : List V} {ds : List D} (h : PdAll K H xs ds) : ∀ k : Nat, PdAll K H (List.replicate k xs).flatten (List.replicate k ds).flatten
  | 0 => .nil
  | k + 1 => by rw [List.replicate_succ, List.replicate_succ, List.flatten_cons, List.flatten_cons]; exact h.append (PdAll.rep h k)
def QR (K : Fg) (_ : Fx) (_ : FS) (_ : Sl) (H : Hp) (x : V) (d : D) : Prop := Qd K H x d
/-- an exception of a class of the text: told later -/
def ExR (K : Fg) (H : Hp) (e : Exn) (c : Value) (dx : Option Addr) : Prop := False
abbrev GRel (β α : Type) := Fg → Fx → FS → Sl → Hp → β → α → Prop
abbrev VRel (α : Type) := GRel V α
def postG {β α : Type} (K : Fg) (F : Fx) (R : GRel β α) (r : Res α) (σ : Sl) (H : Hp) (Q : β → Hp → Prop) : Prop := match r with
  | .ok d S => ∀ x H', Pers H H' → Rel K F S σ H' → R K F S σ H' x d → Q x H'
  | .exn e S => ∀ c dx H', Pers H H' → Rel K F S σ H' → ExR K H' e c dx → F.E c dx H'
  | .bad => False
def rdG {β α : Type} (K : Fg) (F : Fx) (R : GRel β α) (f : FS → Res α) : Sl → Hp → (β → Hp → Prop) → Prop := fun σ H Q => ∃ S, Rel K F S σ H ∧ postG K F R (f S) σ H Q
/-- an expression's value: data or an own object; data; data for the moment -/
abbrev EV (X : Cx) (F : Fx) (e : Expr) (f : FS → Res SV) : Prop := PE X e (rdG X.K F VR f)
abbrev ED (X : Cx) (F : Fx) (e : Expr) (f : FS → Res D) : Prop := PE X e (rdG X.K F PR f)
abbrev EQ (X : Cx) (F : Fx) (e : Expr) (f : FS → Res D) : Prop := PE X e (rdG X.K F QR f)
def postT (K : Fg) (F : Fx) (r : Res Bool) (σ : Sl) (H : Hp) (Q : Bool → Hp → Prop) : Prop := match r with
  | .ok b S => ∀ H', Pers H H' → Rel K F S σ H' → Q b H'
  | .exn e S => ∀ c dx H', Pers H H' → Rel K F S σ H' → ExR K H' e c dx → F.E c dx H'
  | .bad => False
def rdT (K : Fg) (F : Fx) (f : FS → Res Bool) : TT := fun σ H Q => ∃ S, Rel K F S σ H ∧ postT K F (f S) σ H Q
abbrev ET (X : Cx) (F : Fx) (e : Expr) (f : FS → Res Bool) : Prop := PT X e (rdT X.K F f)

section
variable {α β ι κ : Type} {K : Fg} {F : Fx} {R : GRel ι α} {R' : GRel κ β} {σ : Sl} {H H' : Hp}
theorem postG.later {r : Res α} {Q : ι → Hp → Prop} (p : Pers H H') (h : postG K F R r σ H Q) : postG K F R r σ H' Q := by
  cases r with
  | ok d S => exact fun x H2 q r v => h x H2 (p.trans q) r v
  | exn e S => exact fun c dx H2 q r v => h c dx H2 (p.trans q) r v
  | bad => exact h
theorem postT.later {r : Res Bool} {Q : Bool → Hp → Prop} (p : Pers H H') (h : postT K F r σ H Q) : postT K F r σ H' Q := by
  cases r with
  | ok d S => exact fun H2 q r => h H2 (p.trans q) r
  | exn e S => exact fun c dx H2 q r v => h c dx H2 (p.trans q) r v
  | bad => exact h
theorem postG.imp {r : Res α} {Q Q' : ι → Hp → Prop} (h : postG K F R r σ H Q) (hq : ∀ x H, Q x H → Q' x H) : postG K F R r σ H Q' := by
  cases r with
  | ok d S => exact fun x H2 q r v => hq _ _ (h x H2 q r v)
  | exn e S => exact h
  | bad => exact h
theorem rdG.imp {f : FS → Res α} {Q Q' : ι → Hp → Prop} (h : rdG K F R f σ H Q) (hq : ∀ x H, Q x H → Q' x H) : rdG K F R f σ H Q' :=
  let ⟨S, r, p⟩ := h; ⟨S, r, p.imp hq⟩
/-- the first of two: what is known behind it -/
theorem rdG.bind {fa : FS → Res α} {k : α → FS → Res β} {Q : κ → Hp → Prop} (h : rdG K F R' (bnd fa k) σ H Q) :
    rdG K F R fa σ H fun x H1 => ∃ d S1, Rel K F S1 σ H1 ∧ R K F S1 σ H1 x d ∧ Pers H H1 ∧ postG K F R' (k d S1) σ H1 Q := by
  obtain ⟨S, r, p⟩ := h
  refine ⟨S, r, ?_⟩
  unfold bnd at p
  cases e : fa S with
  | ok d S1 => rw [e] at p; exact fun x H1 q r1 v => ⟨d, S1, r1, v, q, postG.later q p⟩
  | exn e2 S1 => rw [e] at p; exact p
  | bad => rw [e] at p; exact p
theorem rdG.bindT {fa : FS → Res α} {k : α → FS → Res Bool} {Q : Bool → Hp → Prop} (h : rdT K F (bnd fa k) σ H Q) :
    rdG K F R fa σ H fun x H1 => ∃ d S1, Rel K F S1 σ H1 ∧ R K F S1 σ H1 x d ∧ Pers H H1 ∧ postT K F (k d S1) σ H1 Q := by
  obtain ⟨S, r, p⟩ := h
  refine ⟨S, r, ?_⟩
  unfold bnd at p
  cases e : fa S with
  | ok d S1 => rw [e] at p; exact fun x H1 q r1 v => ⟨d, S1, r1, v, q, postT.later q p⟩
  | exn e2 S1 => rw [e] at p; exact p
  | bad => rw [e] at p; exact p
theorem rdT.bind {fa : FS → Res Bool} {k : Bool → FS → Res β} {Q : κ → Hp → Prop} (h : rdG K F R' (bnd fa k) σ H Q) :
    rdT K F fa σ H fun b H1 => ∃ S1, Rel K F S1 σ H1 ∧ Pers H H1 ∧ postG K F R' (k b S1) σ H1 Q := by
  obtain ⟨S, r, p⟩ := h
  refine ⟨S, r, ?_⟩
  unfold bnd at p
  cases e : fa S with
  | ok d S1 => rw [e] at p; exact fun H1 q r1 => ⟨S1, r1, q, postG.later q p⟩
  | exn e2 S1 => rw [e] at p; exact p
  | bad => rw [e] at p; exact p
theorem rdT.bindT {fa : FS → Res Bool} {k : Bool → FS → Res Bool} {Q : Bool → Hp → Prop} (h : rdT K F (bnd fa k) σ H Q) :
    rdT K F fa σ H fun b H1 => ∃ S1, Rel K F S1 σ H1 ∧ Pers H H1 ∧ postT K F (k b S1) σ H1 Q := by
  obtain ⟨S, r, p⟩ := h
  refine ⟨S, r, ?_⟩
  unfold bnd at p
  cases e : fa S with
  | ok d S1 => rw [e] at p; exact fun H1 q r1 => ⟨S1, r1, q, postT.later q p⟩
  | exn e2 S1 => rw [e] at p; exact p
  | bad => rw [e] at p; exact p
theorem rdT.imp {f : FS → Res Bool} {Q Q' : Bool → Hp → Prop} (h : rdT K F f σ H Q) (hq : ∀ x H, Q x H → Q' x H) : rdT K F f σ H Q' := by
  obtain ⟨S, r, p⟩ := h
  refine ⟨S, r, ?_⟩
  cases e : f S with
  | ok d S1 => rw [e] at p; exact fun H1 q r1 => hq _ _ (p H1 q r1)
  | exn e2 S1 => rw [e] at p; exact p
  | bad => rw [e] at p; exact p
/-- the end of a chain, nothing done to the heap -/
theorem postG.ok {d : α} {S : FS} {Q : ι → Hp → Prop} {x : ι} (h : postG K F R (.ok d S) σ H Q) (r : Rel K F S σ H) (v : R K F S σ H x d) : Q x H := h x H (.refl H) r v
theorem postT.ok {b : Bool} {S : FS} {Q : Bool → Hp → Prop} (h : postT K F (.ok b S) σ H Q) (r : Rel K F S σ H) : Q b H := h H (.refl H) r
end
/-- a rule by a weaker reading -/
theorem _root_.L2.PE.via {X : Cx} {e : Expr} {t t' : TE} (h : PE X e t) (hw : ∀ σ H Q, t' σ H Q → t σ H Q) : PE X e t' := ⟨fun pins s σ H Q I q => h.run pins s σ H Q I (hw σ H Q q)⟩
theorem _root_.L2.PT.via {X : Cx} {e : Expr} {t t' : TT} (h : PT X e t) (hw : ∀ σ H Q, t' σ H Q → t σ H Q) : PT X e t' := ⟨fun pins s σ H Q I q => h.run pins s σ H Q I (hw σ H Q q)⟩
theorem _root_.L2.PS.via {X : Cx} {e : Stmt} {t t' : TS} (h : PS X e t) (hw : ∀ D σ H, t' D σ H → t D σ H) : PS X e t' := ⟨fun pins s σ H D I q => h.run pins s σ H D I (hw D σ H q)⟩
end Fz
end

section
set_option Elab.async false
set_option linter.all false
set_option maxRecDepth 100000
set_option maxHeartbeats 4000000
/-! F1: the relation under stores and new objects; names, constants, freezing. -/
namespace Fz
open PySem PySem.Spec PyProof.Rows L2

section
variable {K : Fg} {F : Fx} {S S' : FS} {σ : Sl} {H H' : Hp} {a : Addr} {o : HO}
theorem Pers.put (h : Mut (H a) ∨ H a = none) : Pers H (upd H a o) := by
  have ne : ∀ b u, H b = some u → ¬ Mut (some u) → b ≠ a := fun b u e nm z => by
    subst z
    rcases h with h | h
    · rw [e] at h; exact nm h
    · rw [e] at h; cases h
  exact ⟨fun b xs e => by rw [upd_ne (ne b _ e (fun z => z))]; exact e, fun b ob u e => by rw [upd_ne (ne b _ e (fun z => z))]; exact e, fun b ⟨ps, e, t⟩ => ⟨ps, by rw [upd_ne (ne b _ e (fun z => z))]; exact e, t⟩⟩
theorem ObR.later {w : World} {b : Addr} {ob : Ob} (h : ObR K w H b ob) (p : Pers H H') (e : H' b = H b) : ObR K w H' b ob := by
  cases ob with
  | lst ds => obtain ⟨vs, q, r⟩ := h; exact ⟨vs, e.trans q, r.mono p⟩
  | dic kvs =>
    rcases h with ⟨raw, q, r⟩ | ⟨raw, n, q, r⟩
    · exact .inl ⟨raw, e.trans q, Paired.mapP r fun _ _ z => ⟨z.1, z.2.mono p⟩⟩
    · exact .inr ⟨raw, n, e.trans q, Paired.mapP r fun _ _ z => ⟨z.1, z.2.1.mono p, z.2.2.mono p⟩⟩
theorem DicG.mono {w : World} {b : Addr} {T T' : HO → Prop} {kvs : List (D × D)} (h : DicG K w H b T kvs) (p : Pers H H') (e : ∀ u, T u → T' u) : DicG K w H' b T' kvs := by
  rcases h with ⟨raw, q, r⟩ | ⟨raw, n, q, r⟩
  · exact .inl ⟨raw, e _ q, Paired.mapP r fun _ _ z => ⟨z.1, z.2.mono p⟩⟩
  · exact .inr ⟨raw, n, e _ q, Paired.mapP r fun _ _ z => ⟨z.1, z.2.1.mono p, z.2.2.mono p⟩⟩
theorem DicR.v {w : World} {b : Addr} {kvs : List (D × D)} (h : DicR K w H b kvs) : DicV K w H b kvs := DicG.mono h (.refl H) fun _ e => .inl e
theorem RoR.mono {w : World} {b : Addr} {ob : Ob} (h : RoR K w H b ob) (p : Pers H H') : RoR K w H' b ob := by
  cases ob with
  | lst ds => obtain ⟨o, vs, q, r⟩ := h; exact ⟨o, vs, p.frz _ _ _ q, r.mono p⟩
  | dic kvs => obtain ⟨o, q⟩ := h; exact ⟨o, q.mono p fun u e => p.frz _ _ _ e⟩
theorem SxR.later {x : V} {e : SX} (h : SxR K F H x e) (p : Pers H H') (k : ∀ a o, F.H0 a = some o → a ∉ F.pins.map (·.2) → isTbl o = false → H a = some o) (k' : ∀ a o, F.H0 a = some o → a ∉ F.pins.map (·.2) → isTbl o = false → H' a = some o) : SxR K F H' x e := by
  cases e with
  | ro ob =>
    obtain ⟨a, rfl, q⟩ := h
    exact ⟨a, rfl, q.mono p⟩
  | fn k g => exact F.cl.cloM p h
  | loc j => exact F.cl.locM p h
theorem ObR.there {w : World} {b : Addr} {ob : Ob} (h : ObR K w H b ob) : ∃ u, H b = some u ∧ Mut (some u) ∧ isTbl u = false := by
  cases ob with
  | lst ds => obtain ⟨vs, q, r⟩ := h; exact ⟨_, q, trivial, rfl⟩
  | dic kvs => rcases h with ⟨raw, q, r⟩ | ⟨raw, n, q, r⟩ <;> exact ⟨_, q, trivial, rfl⟩
/-- an owned slot's object -/
theorem Rel.obj (r : Rel K F S σ H) {i : Nat} {ob : Ob} (h : S[i]? = some (some (.own ob)) ∨ S[i]? = some (some (.pin ob))) :
    ∃ a, σ[i]? = some (some (.ref a)) ∧ ObR K F.w H a ob ∧ (F.H0 a = none ∨ a ∈ F.pins.map (·.2)) := by
  rcases h with h | h
  · obtain ⟨x, e, a, rfl, q, n⟩ := r.slot i _ h; exact ⟨a, e, q, .inl n⟩
  · obtain ⟨x, e, a, rfl, q, n⟩ := r.slot i _ h; exact ⟨a, e, q, .inr (List.mem_map.mpr ⟨_, n, rfl⟩)⟩
/-- an object is written (or new): the slots of S' stand as told -/
theorem Rel.put (r : Rel K F S σ H) (hm : Mut (H a) ∨ H a = none) (h0 : F.H0 a = none ∨ a ∈ F.pins.map (·.2)) (hh : ∀ p ∈ F.held, p.1 ≠ a) (hl : S'.length = S.length)
    (hs : ∀ j sv, S'[j]? = some (some sv) → (S[j]? = some (some sv) ∧ (Owned S j → σ[j]? ≠ some (some (.ref a)))) ∨ ∃ x, σ[j]? = some (some x) ∧ SvR K F j (upd H a o) x sv)
    (ho : ∀ j, Owned S' j → Owned S j) : Rel K F S' σ (upd H a o) := by
  have p : Pers H (upd H a o) := Pers.put hm
  have kp : ∀ b u, F.H0 b = some u → b ∉ F.pins.map (·.2) → isTbl u = false → upd H a o b = some u := fun b u e nb nt => by
    have na : b ≠ a := fun h => by
      subst h
      rcases h0 with h0 | h0
      · rw [e] at h0; cases h0
      · exact nb h0
    rw [upd_ne na]; exact r.keep b u e nb nt
  refine ⟨hl.trans r.len, fun j sv e => ?_, fun i j b ne hi hj => r.apart i j b ne (ho i hi) (ho j hj), kp, fun b u e => ?_, fun P hP => ?_, F.cl.selfM p r.self, fun p hp => ?_⟩
  · rcases hs j sv e with ⟨e1, q⟩ | q
    · obtain ⟨x, ex, v⟩ := r.slot j sv e1
      refine ⟨x, ex, ?_⟩
      cases sv with
      | d d => exact Pd.mono p v
      | own ob =>
        obtain ⟨b, rfl, w, z⟩ := v
        have nb : b ≠ a := fun h => q ⟨ob, .inl e1⟩ (h ▸ ex)
        exact ⟨b, rfl, w.later p (upd_ne nb), z⟩
      | pin ob =>
        obtain ⟨b, rfl, w, z⟩ := v
        have nb : b ≠ a := fun h => q ⟨ob, .inr e1⟩ (h ▸ ex)
        exact ⟨b, rfl, w.later p (upd_ne nb), z⟩
      | x e => exact SxR.later v p r.keep kp
    · exact q
  · by_cases hb : b = a
    · subst hb; exact ⟨o, upd_same⟩
    · rw [upd_ne hb]; exact r.there b u e
  · refine (r.tabs P hP).later p fun b ps e => ?_
    have na : b ≠ a := fun h => by
      subst h
      rcases hm with hm | hm
      · rw [e] at hm; exact hm
      · rw [e] at hm; cases hm
    rw [upd_ne na]; exact e
  · obtain ⟨⟨e, em⟩, n, q⟩ := r.held p hp
    exact ⟨⟨by rw [upd_ne (hh p hp)]; exact e, em⟩, n, fun i hi => q i (ho i hi)⟩
theorem Rel.none0 (r : Rel K F S σ H) (hn : H a = none) : F.H0 a = none := by
  cases e : F.H0 a with
  | none => rfl
  | some o => obtain ⟨u, q⟩ := r.there a o e; rw [hn] at q; cases q
theorem Rel.unslot (r : Rel K F S σ H) (hn : H a = none) {j : Nat} (hj : Owned S j) : σ[j]? ≠ some (some (.ref a)) := fun hx => by
  obtain ⟨ob, hj⟩ := hj
  obtain ⟨b, eb, q, _⟩ := r.obj hj
  rw [hx] at eb; cases eb
  obtain ⟨u, e, _⟩ := q.there
  rw [hn] at e; cases e
/-- a new object -/
theorem Rel.new (r : Rel K F S σ H) (hn : H a = none) : Rel K F S σ (upd H a o) :=
  r.put (.inr hn) (.inl (r.none0 hn)) (fun p hp e => by obtain ⟨⟨q, _⟩, _⟩ := r.held p hp; rw [e, hn] at q; cases q) rfl (fun j sv e => .inl ⟨e, fun hj => r.unslot hn hj⟩) fun j h => h
theorem Pers.new (hn : H a = none) : Pers H (upd H a o) := Pers.put (.inr hn)
/-- a slot is stored with data -/
theorem Rel.setD (r : Rel K F S σ H) {i : Nat} {x : V} {d : D} (v : Pd K H x d) : Rel K F (S.set i (some (.d d))) (σ.set i (some x)) H := by
  have e0 : ∀ j, j ≠ i → (S.set i (some (.d d)))[j]? = S[j]? := fun j h => List.getElem?_set_ne (Ne.symm h)
  have e1 : ∀ j, j ≠ i → (σ.set i (some x))[j]? = σ[j]? := fun j h => List.getElem?_set_ne (Ne.symm h)
  have own : ∀ j, Owned (S.set i (some (.d d))) j → j ≠ i ∧ Owned S j := fun j ⟨ob, h⟩ => by
    by_cases hj : j = i
    · subst hj
      by_cases hl : j < S.length
      · rw [List.getElem?_set_self hl] at h
        rcases h with h | h <;> cases h
      · have q : (S.set j (some (.d d)))[j]? = none := List.getElem?_eq_none (by rw [List.length_set]; omega)
        rw [q] at h
        rcases h with h | h <;> cases h
    · rw [e0 j hj] at h; exact ⟨hj, ob, h⟩
  refine ⟨by rw [List.length_set, List.length_set]; exact r.len, fun j sv e => ?_, fun j k a ne hj hk => ?_, r.keep, r.there, r.tabs, r.self, fun p hp => ⟨(r.held p hp).1, (r.held p hp).2.1, fun j hj => by
    obtain ⟨nj, oj⟩ := own j hj
    rw [e1 j nj]
    exact (r.held p hp).2.2 j oj⟩⟩
  · by_cases hj : j = i
    · subst hj
      have hl : j < S.length := by
        have := List.getElem?_eq_some_iff.mp e
        obtain ⟨h, _⟩ := this
        rw [List.length_set] at h; exact h
      rw [List.getElem?_set_self hl] at e
      cases e
      exact ⟨x, List.getElem?_set_self (by rw [← r.len]; exact hl), v⟩
    · rw [e0 j hj] at e
      rw [e1 j hj]
      exact r.slot j sv e
  · obtain ⟨nj, oj⟩ := own j hj
    obtain ⟨nk, ok⟩ := own k hk
    rw [e1 j nj, e1 k nk]
    exact r.apart j k a ne oj ok
/-- a slot takes an own object over -/
theorem Rel.setO (r : Rel K F S σ H) {i : Nat} {x : V} {ob : Ob} (v : VR K F S σ H x (.own ob)) : Rel K F (S.set i (some (.own ob))) (σ.set i (some x)) H := by
  obtain ⟨a, rfl, q, n, nu, nh⟩ := v
  have e0 : ∀ j, j ≠ i → (S.set i (some (.own ob)))[j]? = S[j]? := fun j h => List.getElem?_set_ne (Ne.symm h)
  have e1 : ∀ j, j ≠ i → (σ.set i (some (V.ref a)))[j]? = σ[j]? := fun j h => List.getElem?_set_ne (Ne.symm h)
  have own : ∀ j, j ≠ i → Owned (S.set i (some (.own ob))) j → Owned S j := fun j hj ⟨ob2, h⟩ => by
    rw [e0 j hj] at h; exact ⟨ob2, h⟩
  refine ⟨by rw [List.length_set, List.length_set]; exact r.len, fun j sv e => ?_, fun j k b ne hj hk => ?_, r.keep, r.there, r.tabs, r.self, fun p hp => ⟨(r.held p hp).1, (r.held p hp).2.1, fun j hj => by
    by_cases h1 : j = i
    · subst h1
      intro hx
      by_cases hl : j < σ.length
      · rw [List.getElem?_set_self hl] at hx
        cases hx
        exact nh p hp rfl
      · rw [List.getElem?_eq_none (by rw [List.length_set]; omega)] at hx
        cases hx
    · rw [e1 j h1]
      exact (r.held p hp).2.2 j (own j h1 hj)⟩⟩
  · by_cases hj : j = i
    · subst hj
      have hl : j < S.length := by
        obtain ⟨h, _⟩ := List.getElem?_eq_some_iff.mp e
        rw [List.length_set] at h; exact h
      rw [List.getElem?_set_self hl] at e
      cases e
      exact ⟨_, List.getElem?_set_self (by rw [← r.len]; exact hl), a, rfl, q, n⟩
    · rw [e0 j hj] at e
      rw [e1 j hj]
      exact r.slot j sv e
  · by_cases h1 : j = i
    · subst h1
      have nk : k ≠ j := Ne.symm ne
      rw [e1 k nk]
      intro hx
      by_cases hl : j < σ.length
      · rw [List.getElem?_set_self hl] at hx
        cases hx
        exact nu k (own k nk hk)
      · rw [List.getElem?_eq_none (by rw [List.length_set]; omega)] at hx
        cases hx
    · rw [e1 j h1]
      by_cases h2 : k = i
      · subst h2
        intro hx hy
        by_cases hl : k < σ.length
        · rw [List.getElem?_set_self hl] at hy
          cases hy
          exact nu j (own j h1 hj) hx
        · rw [List.getElem?_eq_none (by rw [List.length_set]; omega)] at hy
          cases hy
      · rw [e1 k h2]
        exact r.apart j k b ne (own j h1 hj) (own k h2 hk)
/-- a list's own slot, frozen -/
theorem Rel.freeze (r : Rel K F S σ H) {i : Nat} {ds : List D} (h : S[i]? = some (some (.own (.lst ds)))) {vs : List V} {od : Obj} (e : σ[i]? = some (some (.ref a))) (hH : H a = some (.lst vs)) (hv : PdAll K H vs ds) :
    Rel K F (S.set i (some (.d (.list ds)))) σ (upd H a (.frz od (.lst vs))) ∧ Pers H (upd H a (.frz od (.lst vs))) ∧ Pd K (upd H a (.frz od (.lst vs))) (.ref a) (.list ds) := by
  have hm : Mut (H a) := by rw [hH]; trivial
  have p : Pers H (upd H a (.frz od (.lst vs))) := Pers.put (.inl hm)
  have pd : Pd K (upd H a (.frz od (.lst vs))) (.ref a) (.list ds) := .lst (.inl ⟨od, upd_same⟩) (hv.mono p)
  have hl : i < S.length := (List.getElem?_eq_some_iff.mp h).1
  have n0 : F.H0 a = none := by
    obtain ⟨x, ex, b, e2, q, n⟩ := r.slot i _ h
    rw [e] at ex; cases ex; cases e2; exact n
  refine ⟨?_, p, pd⟩
  refine r.put (.inl hm) (.inl n0) (fun p hp e' => (r.held p hp).2.2 i ⟨_, .inl h⟩ (e' ▸ e)) (List.length_set ..) (fun j sv ej => ?_) fun j ⟨ob, hj⟩ => ?_
  · by_cases hj : j = i
    · subst hj
      rw [List.getElem?_set_self hl] at ej
      cases ej
      exact .inr ⟨_, e, pd⟩
    · rw [List.getElem?_set_ne (Ne.symm hj)] at ej
      exact .inl ⟨ej, fun oj => r.apart i j a (Ne.symm hj) ⟨_, .inl h⟩ oj e⟩
  · by_cases hj2 : j = i
    · subst hj2; exact ⟨_, .inl h⟩
    · rw [List.getElem?_set_ne (Ne.symm hj2)] at hj; exact ⟨ob, hj⟩
end

/-! ### names, constants -/
section
variable {X : Cx} {F : Fx} {e : Expr}
def fVar (i : Nat) : FS → Res D := fun S => match S[i]? with
  | some (some (.d d)) => .ok d S
  | some (some (.own (.lst ds))) => .ok (.list ds) (S.set i (some (.d (.list ds))))
  | _ => .bad
theorem e_var {i : Nat} (h : PE X e (tVar i)) : ED X F e (fVar i) := by
  refine ⟨fun pins s σ H Q I ⟨S, r, p⟩ => ?_⟩
  unfold fVar at p
  split at p
  · rename_i d hd
    obtain ⟨x, ex, v⟩ := r.slot i _ hd
    exact h.run pins s σ H Q I ⟨x, ex, p.ok r v⟩
  · rename_i ds hd
    obtain ⟨x, ex, a, rfl, ⟨vs, hH, hv⟩, n⟩ := r.slot i _ hd
    obtain ⟨od, I1⟩ := I.lock hH trivial
    obtain ⟨r1, p1, v1⟩ := r.freeze (od := od) hd ex hH hv
    exact h.run pins s σ _ Q I1 ⟨_, ex, p _ _ p1 r1 v1⟩
  · exact p.elim
/-- a look at a name, nothing frozen -/
def fPeek (i : Nat) : FS → Res D := fun S => match S[i]? with
  | some (some (.d d)) => .ok d S
  | some (some (.own (.lst ds))) => .ok (.list ds) S
  | some (some (.pin (.lst ds))) => .ok (.list ds) S
  | some (some (.x (.ro (.lst ds)))) => .ok (.list ds) S
  | _ => .bad
theorem e_peek {i : Nat} (h : PE X e (tVar i)) : EQ X F e (fPeek i) := by
  refine ⟨fun pins s σ H Q I ⟨S, r, p⟩ => ?_⟩
  unfold fPeek at p
  split at p
  · rename_i d hd
    obtain ⟨x, ex, v⟩ := r.slot i _ hd
    exact h.run pins s σ H Q I ⟨x, ex, p.ok r (Or.inl v)⟩
  · rename_i ds hd
    obtain ⟨x, ex, a, rfl, ⟨vs, hH, hv⟩, n⟩ := r.slot i _ hd
    exact h.run pins s σ H Q I ⟨_, ex, p.ok r (Or.inr ⟨a, vs, ds, rfl, rfl, .inl (.inl hH), hv⟩)⟩
  · rename_i ds hd
    obtain ⟨x, ex, a, rfl, ⟨vs, hH, hv⟩, n⟩ := r.slot i _ hd
    exact h.run pins s σ H Q I ⟨_, ex, p.ok r (Or.inr ⟨a, vs, ds, rfl, rfl, .inl (.inl hH), hv⟩)⟩
  · rename_i ds hd
    obtain ⟨x, ex, a, rfl, o, vs, hH, hv⟩ := r.slot i _ hd
    exact h.run pins s σ H Q I ⟨_, ex, p.ok r (Or.inr ⟨a, vs, ds, rfl, rfl, .inl (.inr ⟨o, hH⟩), hv⟩)⟩
  · exact p.elim
def fC {α : Type} (d : α) : FS → Res α := fun S => .ok d S
theorem e_int {i : Int} {j : Nat} {pos : Pos} : ED X F (.Constant (.int i) j pos) (fC (.int i)) := pe_int.via fun σ H Q ⟨S, r, p⟩ => p.ok r (.int i)
theorem e_bl {b : Bool} {j : Nat} {pos : Pos} : ED X F (.Constant (.bool b) j pos) (fC (.bool b)) := pe_bl.via fun σ H Q ⟨S, r, p⟩ => p.ok r (.bl b)
theorem e_non {j : Nat} {pos : Pos} : ED X F (.Constant .none j pos) (fC .none) := pe_non.via fun σ H Q ⟨S, r, p⟩ => p.ok r .non
/-- data as a value; data as data for the moment -/
def fV (f : FS → Res D) : FS → Res SV := bnd f fun d => fC (.d d)
theorem ED.v {f : FS → Res D} (h : ED X F e f) : EV X F e (fV f) := h.via fun σ H Q hw => hw.bind.imp fun x H1 ⟨d, S1, r, v, p, q⟩ => q.ok r v
theorem ED.q {f : FS → Res D} (h : ED X F e f) : EQ X F e f := h.via fun σ H Q ⟨S, r, p⟩ => ⟨S, r, by
  cases e : f S with
  | ok d S1 => rw [e] at p; exact fun x H1 q r1 v => p x H1 q r1 (Or.inl v)
  | exn e2 S1 => rw [e] at p; exact p
  | bad => rw [e] at p; exact p⟩
/-- a value as data: a new list is frozen -/
def fFrz (f : FS → Res SV) : FS → Res D := bnd f fun sv S => match sv with
  | .d d => .ok d S
  | .own (.lst ds) => .ok (.list ds) S
  | _ => .bad
theorem EV.frz {f : FS → Res SV} (h : EV X F e f) : ED X F e (fFrz f) := by
  refine ⟨fun pins s σ H Q I hw => ?_⟩
  refine thn (h.run pins s σ H _ I (rdG.bind hw)) fun u s1 ⟨x, H1, I1, rx, sv, S1, r, v, p, q⟩ => ?_
  cases sv with
  | d d => exact ⟨x, H1, I1, rx, q.ok r v⟩
  | own ob =>
    cases ob with
    | lst ds =>
      obtain ⟨a, rfl, ⟨vs, hH, hv⟩, n, nu, nh⟩ := v
      obtain ⟨od, I2⟩ := I1.lock hH trivial
      have hm : Mut (H1 a) := by rw [hH]; trivial
      have p2 : Pers H1 (upd H1 a (.frz od (.lst vs))) := Pers.put (.inl hm)
      have r2 : Rel X.K F S1 σ (upd H1 a (.frz od (.lst vs))) := r.put (.inl hm) (.inl n) nh rfl (fun j sv e => .inl ⟨e, nu j⟩) fun j h => h
      exact ⟨_, _, I2, rx, q _ _ p2 r2 (Pd.lst (.inl ⟨od, upd_same⟩) (hv.mono p2))⟩
    | dic kvs => exact q.elim
  | pin ob => exact q.elim
  | x e => exact q.elim
/-- .. for the moment: nothing is frozen -/
theorem EV.q {f : FS → Res SV} (h : EV X F e f) : EQ X F e (fFrz f) := h.via fun σ H Q hw => (rdG.bind hw).imp fun x H1 ⟨sv, S1, r, v, p, q⟩ => by
  cases sv with
  | d d => exact q.ok r (Or.inl v)
  | own ob =>
    cases ob with
    | lst ds => obtain ⟨a, rfl, ⟨vs, hH, hv⟩, n, nu, nh⟩ := v; exact q.ok r (Or.inr ⟨a, vs, ds, rfl, rfl, .inl (.inl hH), hv⟩)
    | dic kvs => exact q.elim
  | pin ob => exact q.elim
  | x e => exact q.elim
end
end Fz
end

section
set_option Elab.async false
set_option linter.all false
set_option maxRecDepth 100000
set_option maxHeartbeats 4000000
/-! F2: operators. -/
namespace Fz
open PySem PySem.Spec PyProof.Rows L2
section
variable {X : Cx} {F : Fx} {α : Type} {R : VRel α}
/-- an operation by data: what is asked of the two values -/
def rOp {α : Type} (K : Fg) (F : Fx) (R : VRel α) (g : D → D → FS → Res α) : R2 := fun x y H Q => ∃ S σ d e, Rel K F S σ H ∧ Qd K H x d ∧ Qd K H y e ∧ postG K F R (g d e S) σ H Q
abbrev OpF (X : Cx) (F : Fx) (R : VRel α) (f : Value → Value → Sem Value) (g : D → D → FS → Res α) : Prop := OpR X f (rOp X.K F R g)
/-- by cases of the data: each by a rule of its own -/
theorem opF_by {f : Value → Value → Sem Value} {g : D → D → FS → Res α}
    (h : ∀ S σ d e H, (∃ r : R2, OpR X f r ∧ ∀ x y Q, Rel X.K F S σ H → Qd X.K H x d → Qd X.K H y e → postG X.K F R (g d e S) σ H Q → r x y H Q) ∨ g d e S = .bad) : OpF X F R f g := by
  intro pins s σ0 H x y v u Q I rx ry ⟨S, σ, d, e, r, hx, hy, p⟩
  rcases h S σ d e H with ⟨r2, o, k⟩ | hb
  · exact o pins s σ0 H x y v u Q I rx ry (k x y Q r hx hy p)
  · rw [hb] at p; exact p.elim
/-- sums -/
def pAdd (d e : D) : FS → Res SV := fun S => match d, e with
  | .int i, .int j => .ok (.d (.int (i + j))) S
  | .str a, .str b => if a.length + b.length ≤ sizeLine then .ok (.d (.str (a ++ b))) S else .bad
  | .tuple xs, .tuple ys => if xs.length + ys.length ≤ sizeLine then .ok (.d (.tuple (xs ++ ys))) S else .bad
  | .list xs, .list ys => if xs.length + ys.length ≤ sizeLine then .ok (.own (.lst (xs ++ ys))) S else .bad
  | _, _ => .bad
def rCatQ (K : Fg) : R2 := fun x y H Q => ∃ l b xs zs, x = .ref l ∧ y = .ref b ∧ SqL K H l xs ∧ SqL K H b zs ∧ xs.length + zs.length ≤ sizeLine ∧ ∀ p, H p = none → Q (.ref p) (upd H p (.lst (xs ++ zs)))
theorem op_catQ : OpR X (binaryOp .Add) (rCatQ X.K) := by
  intro pins s σ H x y v u Q I rx ry h
  obtain ⟨l, b, xs, zs, rfl, rfl, hH, hB, hz, q⟩ := h
  cases rx
  cases ry
  obtain ⟨its, r, ⟨⟨c1, dd1, dt1, sl1⟩, n, e, k1, k2, k3⟩, _⟩ := I.list hH
  obtain ⟨its2, r2, ⟨⟨c2, dd2, dt2, sl2⟩, n2, e2, l1, l2, l3⟩, _⟩ := I.list hB
  simp only at k1 k2 k3 l1 l2 l3
  subst k1 k2 k3 l1 l2 l3
  have hz2 : its.length + its2.length ≤ sizeLine := by rw [← r.length, ← r2.length]; exact hz
  refine concat_meets ⟨_, e, rfl⟩ ⟨_, e2, rfl⟩ noFill_list_add seq_list_add PySem.F.slot_list_add PySem.F.entry_list_add (PySem.F.args_list_add_2 _ _)
    (list_addW l b its.toArray its2.toArray n n2 _ _ sl1 sl2 (by simpa using hz2)) ⟨e, e2, ?_⟩
  have ea : its.toArray ++ its2.toArray = (its ++ its2).toArray := by simp
  rw [ea]
  exact ⟨.ref _, _, I.lnew (t' := s.toks) (r.append r2) (by rw [List.length_append]; exact hz), rfl, q _ I.fresh⟩
/-- a new list is an own value -/
theorem newList {K : Fg} {S : FS} {σ : Sl} {H : Hp} {p : Addr} {vs : List V} {ds : List D} {Q : VK} (r : Rel K F S σ H) (hv : PdAll K H vs ds) (hp : H p = none) (q : postG K F VR (.ok (.own (.lst ds)) S) σ H Q) : Q (.ref p) (upd H p (.lst vs)) := by
  have p1 : Pers H (upd H p (.lst vs)) := Pers.new hp
  exact q _ _ p1 (r.new hp) ⟨p, rfl, ⟨vs, upd_same, hv.mono p1⟩, r.none0 hp, fun j hj => r.unslot hp hj, fun b hb e => by obtain ⟨⟨q, _⟩, _⟩ := r.held b hb; rw [e, hp] at q; cases q⟩
theorem newTup {K : Fg} {S : FS} {σ : Sl} {H : Hp} {p : Addr} {vs : List V} {ds : List D} (r : Rel K F S σ H) (hv : PdAll K H vs ds) (hp : H p = none) :
    Pers H (upd H p (.tup vs)) ∧ Rel K F S σ (upd H p (.tup vs)) ∧ Pd K (upd H p (.tup vs)) (.ref p) (.tuple ds) := by
  have p1 : Pers H (upd H p (.tup vs)) := Pers.new hp
  exact ⟨p1, r.new hp, .tup (.inl (.inl upd_same)) (hv.mono p1)⟩
theorem op_addF : OpF X F VR (binaryOp .Add) pAdd := opF_by fun S σ d e H => by
  cases d with
  | int i =>
    cases e with
    | int j => exact .inl ⟨_, op_add, fun x y Q r hx hy p => ⟨i, j, hx.int, hy.int, p.ok r (Pd.int _)⟩⟩
    | _ => exact .inr rfl
  | str a =>
    cases e with
    | str b =>
      by_cases hl : a.length + b.length ≤ sizeLine
      · refine .inl ⟨_, op_add_str, fun x y Q r hx hy p => ⟨a, b, hx.str, hy.str, hl, ?_⟩⟩
        simp only [pAdd, if_pos hl] at p
        exact p.ok r (Pd.str _)
      · exact .inr (if_neg hl)
    | _ => exact .inr rfl
  | tuple xs =>
    cases e with
    | tuple ys =>
      by_cases hl : xs.length + ys.length ≤ sizeLine
      · refine .inl ⟨_, op_catA, fun x y Q r hx hy p => ?_⟩
        simp only [pAdd, if_pos hl] at p
        obtain ⟨a, vs, rfl, h1, r1⟩ := hx.tuple
        obtain ⟨b, ws, rfl, h2, r2⟩ := hy.tuple
        refine ⟨a, b, vs, ws, rfl, rfl, h1, h2, by rw [r1.length, r2.length]; exact hl, fun e0 => ?_, fun _ e0 => ?_, fun _ _ q hq => ?_⟩
        · subst e0
          cases r1
          exact p.ok r (Pd.tup h2 r2)
        · subst e0
          cases r2
          rw [List.append_nil] at p
          exact p.ok r (Pd.tup h1 r1)
        · obtain ⟨p1, r3, v⟩ := newTup r (r1.append r2) hq
          exact p _ _ p1 r3 v
      · exact .inr (if_neg hl)
    | _ => exact .inr rfl
  | list xs =>
    cases e with
    | list ys =>
      by_cases hl : xs.length + ys.length ≤ sizeLine
      · refine .inl ⟨_, op_catQ, fun x y Q r hx hy p => ?_⟩
        simp only [pAdd, if_pos hl] at p
        obtain ⟨a, vs, rfl, h1, r1⟩ := hx.list
        obtain ⟨b, ws, rfl, h2, r2⟩ := hy.list
        exact ⟨a, b, vs, ws, rfl, rfl, h1, h2, by rw [r1.length, r2.length]; exact hl, fun q hq => newList r (r1.append r2) hq p⟩
      · exact .inr (if_neg hl)
    | _ => exact .inr rfl
  | none => exact .inr rfl
  | bool b => exact .inr rfl
  | dict k => exact .inr rfl
/-- ints alone -/
def pInt (g : Int → Int → Option Int) (d e : D) : FS → Res D := fun S => match d, e with
  | .int i, .int j => (match g i j with
    | some k => .ok (.int k) S
    | none => .bad)
  | _, _ => .bad
theorem op_intF {f : Value → Value → Sem Value} {C : Int → Int → Prop} [∀ i j, Decidable (C i j)] {g : Int → Int → Int} (h : OpR X f (rI C fun i j => .int (g i j))) : OpF X F PR f (pInt fun i j => if C i j then some (g i j) else none) := opF_by fun S σ d e H => by
  cases d with
  | int i =>
    cases e with
    | int j =>
      by_cases hc : C i j
      · refine .inl ⟨_, h, fun x y Q r hx hy p => ⟨i, j, hx.int, hy.int, hc, ?_⟩⟩
        simp only [pInt, if_pos hc] at p
        exact p.ok r (Pd.int _)
      · exact .inr (by simp only [pInt, if_neg hc])
    | _ => exact .inr rfl
  | _ => exact .inr rfl
noncomputable instance (i j : Int) : Decidable (CMulW i j) := Classical.propDecidable _
noncomputable instance (i j : Int) : Decidable (CDivW i j) := Classical.propDecidable _
noncomputable instance (i j : Int) : Decidable (CPow i j) := Classical.propDecidable _
abbrev pSub := pInt fun i j => some (i - j)
noncomputable abbrev pDiv := pInt fun i j => if CDivW i j then some (i / j) else none
abbrev pMod := pInt fun i j => if 0 < j then some (i % j) else none
theorem op_int0 {f : Value → Value → Sem Value} {g : Int → Int → Int} (h : OpR X f (rI0 fun i j => .int (g i j))) : OpF X F PR f (pInt fun i j => some (g i j)) := opF_by fun S σ d e H => by
  cases d with
  | int i =>
    cases e with
    | int j => exact .inl ⟨_, h, fun x y Q r hx hy p => ⟨i, j, hx.int, hy.int, p.ok r (Pd.int _)⟩⟩
    | _ => exact .inr rfl
  | _ => exact .inr rfl
theorem op_subF : OpF X F PR (binaryOp .Sub) pSub := op_int0 op_sub
theorem op_divF : OpF X F PR (binaryOp .FloorDiv) pDiv := op_intF op_fdivW
theorem op_modF : OpF X F PR (binaryOp .Mod) pMod := op_intF op_mod
/-- comparisons of ints -/
def pCmp (g : Int → Int → Bool) (d e : D) : FS → Res D := fun S => match d, e with
  | .int i, .int j => .ok (.bool (g i j)) S
  | _, _ => .bad
theorem op_cmpF {f : Value → Value → Sem Value} {g : Int → Int → Bool} (h : OpR X f (rI0 fun i j => .bl (g i j))) : OpF X F PR f (pCmp g) := opF_by fun S σ d e H => by
  cases d with
  | int i =>
    cases e with
    | int j => exact .inl ⟨_, h, fun x y Q r hx hy p => ⟨i, j, hx.int, hy.int, p.ok r (Pd.bl _)⟩⟩
    | _ => exact .inr rfl
  | _ => exact .inr rfl
abbrev pLt := pCmp fun i j => decide (i < j)
abbrev pLe := pCmp fun i j => decide (i ≤ j)
abbrev pGt := pCmp fun i j => decide (j < i)
abbrev pGe := pCmp fun i j => decide (j ≤ i)
theorem op_ltF : OpF X F PR (compareOp .Lt) pLt := op_cmpF op_lt
theorem op_leF : OpF X F PR (compareOp .LtE) pLe := op_cmpF op_le
theorem op_gtF : OpF X F PR (compareOp .Gt) pGt := op_cmpF op_gt
theorem op_geF : OpF X F PR (compareOp .GtE) pGe := op_cmpF op_ge
/-- == and != of data -/
def strs2 : D → D → Bool
  | .str _, .str _ => true
  | _, _ => false
/-- two texts, or data without dicts, of texts that can be written -/
def eqOk (d e : D) : Bool := strs2 d e || (SeqAt.shaped d && SeqAt.shaped e)
def pEq (d e : D) : FS → Res D := fun S => if eqOk d e = true then .ok (.bool (PyData.eqv d e)) S else .bad
def pNe (d e : D) : FS → Res D := fun S => if eqOk d e = true then .ok (.bool (!PyData.eqv d e)) S else .bad
theorem eqOk_cases {d e : D} (h : eqOk d e = true) : (∃ a b, d = .str a ∧ e = .str b) ∨ (SeqAt.shaped d = true ∧ SeqAt.shaped e = true) := by
  unfold eqOk at h
  rcases Bool.or_eq_true_iff.mp h with h | h
  · unfold strs2 at h
    split at h
    · exact .inl ⟨_, _, rfl, rfl⟩
    · cases h
  · exact .inr (Bool.and_eq_true_iff.mp h)
theorem op_eqF (hu : X.A.units + 64 < cLine) : OpF X F PR (compareOp .Eq) pEq := opF_by fun S σ d e H => by
  by_cases hc : eqOk d e = true
  · rcases eqOk_cases hc with ⟨a, b, rfl, rfl⟩ | hs
    · refine .inl ⟨_, op_eq, fun x y Q r hx hy p => ?_⟩
      rw [hx.str, hy.str]
      unfold pEq at p; rw [if_pos hc] at p
      refine ⟨rfl, ?_⟩
      rw [dec_str]
      have q := p.ok r (Pd.bl _)
      simpa only [PyData.eqv] using q
    · refine .inl ⟨_, op_eqD hu, fun x y Q r hx hy p => ⟨d, e, hx.dp, hy.dp, hs.1, hs.2, ?_⟩⟩
      unfold pEq at p; rw [if_pos hc] at p
      exact p.ok r (Pd.bl _)
  · exact .inr (by unfold pEq; rw [if_neg hc])
theorem op_neF (hu : X.A.units + 64 < cLine) : OpF X F PR (compareOp .NotEq) pNe := opF_by fun S σ d e H => by
  by_cases hc : eqOk d e = true
  · rcases eqOk_cases hc with ⟨a, b, rfl, rfl⟩ | hs
    · refine .inl ⟨_, op_ne, fun x y Q r hx hy p => ?_⟩
      rw [hx.str, hy.str]
      unfold pNe at p; rw [if_pos hc] at p
      refine ⟨rfl, ?_⟩
      rw [dec_str]
      have q := p.ok r (Pd.bl _)
      simpa only [PyData.eqv] using q
    · refine .inl ⟨_, op_neD hu, fun x y Q r hx hy p => ⟨d, e, hx.dp, hy.dp, hs.1, hs.2, ?_⟩⟩
      unfold pNe at p; rw [if_pos hc] at p
      exact p.ok r (Pd.bl _)
  · exact .inr (by unfold pNe; rw [if_neg hc])
def dNone : D → Bool
  | .none => true
  | _ => false
theorem Qd.isNone {K : Fg} {H : Hp} {x : V} {d : D} (h : Qd K H x d) : decide (x = .non) = dNone d := by
  rcases h with h | ⟨a, vs, ds, rfl, rfl, h, r⟩
  · cases h <;> rfl
  · rfl
end

/-! ### two operands -/
section
variable {X : Cx} {F : Fx} {α : Type} {R : VRel α} {a b : Expr} {pos : Pos} {fa fb : FS → Res D} {g : D → D → FS → Res α}
def fOp {α : Type} (g : D → D → FS → Res α) (fa fb : FS → Res D) : FS → Res α := bnd fa fun d => bnd fb fun e => g d e
/-- the left one is a name: it is looked at behind the right one -/
def fOpN {α : Type} (g : D → D → FS → Res α) (i : Nat) (fb : FS → Res D) : FS → Res α := bnd (fPeek i) fun _ => bnd fb fun e => bnd (fPeek i) fun d => g d e
theorem tOp_of {σ : Sl} {H : Hp} {Q : VK} (h : rdG X.K F R (fOp g fa fb) σ H Q) : tOp (rOp X.K F R g) (rdG X.K F PR fa) (rdG X.K F QR fb) σ H Q := by
  refine (rdG.bind h).imp fun x H1 ⟨d, S1, r1, v1, p1, q1⟩ => ?_
  refine (rdG.bind (k := fun e => g d e) (⟨S1, r1, q1⟩ : rdG X.K F R (bnd fb fun e => g d e) σ H1 Q)).imp fun y H2 ⟨e, S2, r2, v2, p2, q2⟩ => ?_
  exact ⟨S2, σ, d, e, r2, .inl (Pd.mono p2 v1), v2, q2⟩
theorem peek_val {K : Fg} {S : FS} {σ : Sl} {H : Hp} {i : Nat} {d : D} {S' : FS} (r : Rel K F S σ H) (h : fPeek i S = .ok d S') : S' = S ∧ ∃ x, σ[i]? = some (some x) ∧ Qd K H x d := by
  unfold fPeek at h
  split at h
  · rename_i d' hd
    cases h
    obtain ⟨x, ex, v⟩ := r.slot i _ hd
    exact ⟨rfl, x, ex, .inl v⟩
  · rename_i ds hd
    cases h
    obtain ⟨x, ex, a, rfl, ⟨vs, hH, hv⟩, n⟩ := r.slot i _ hd
    exact ⟨rfl, _, ex, .inr ⟨a, vs, ds, rfl, rfl, .inl (.inl hH), hv⟩⟩
  · rename_i ds hd
    cases h
    obtain ⟨x, ex, a, rfl, ⟨vs, hH, hv⟩, n⟩ := r.slot i _ hd
    exact ⟨rfl, _, ex, .inr ⟨a, vs, ds, rfl, rfl, .inl (.inl hH), hv⟩⟩
  · rename_i ds hd
    cases h
    obtain ⟨x, ex, a, rfl, o, vs, hH, hv⟩ := r.slot i _ hd
    exact ⟨rfl, _, ex, .inr ⟨a, vs, ds, rfl, rfl, .inl (.inr ⟨o, hH⟩), hv⟩⟩
  · cases h
theorem peek_ok {i : Nat} {S : FS} : (∃ d, fPeek i S = .ok d S) ∨ fPeek i S = .bad := by
  unfold fPeek
  split
  · exact .inl ⟨_, rfl⟩
  · exact .inl ⟨_, rfl⟩
  · exact .inl ⟨_, rfl⟩
  · exact .inl ⟨_, rfl⟩
  · exact .inr rfl
/-- behind the right operand: the name's value -/
theorem peek_in {K : Fg} {S : FS} {σ : Sl} {H : Hp} {i : Nat} {k : D → FS → Res α} {Q : VK} (r : Rel K F S σ H) (p : postG K F R (bnd (fPeek i) k S) σ H Q) : ∃ x d, σ[i]? = some (some x) ∧ Qd K H x d ∧ postG K F R (k d S) σ H Q := by
  unfold bnd at p
  rcases peek_ok (i := i) (S := S) with ⟨d, e⟩ | e
  · obtain ⟨_, x, ex, v⟩ := peek_val r e
    rw [e] at p
    exact ⟨x, d, ex, v, p⟩
  · rw [e] at p; exact p.elim
theorem tOpN_of {i : Nat} {σ : Sl} {H : Hp} {Q : VK} (h : rdG X.K F R (fOpN g i fb) σ H Q) : tOp (rOp X.K F R g) (tVar i) (rdG X.K F QR fb) σ H Q := by
  obtain ⟨S, r, p⟩ := h
  obtain ⟨x, d0, ex, _, p⟩ := peek_in (k := fun _ => bnd fb fun e => bnd (fPeek i) fun d => g d e) r p
  refine ⟨x, ex, (rdG.bind (k := fun e => bnd (fPeek i) fun d => g d e) (R' := R) ⟨S, r, p⟩).imp fun y H1 ⟨e, S1, r1, v1, p1, q1⟩ => ?_⟩
  obtain ⟨x', d, ex', vd, q2⟩ := peek_in r1 q1
  rw [ex] at ex'; cases ex'
  exact ⟨S1, σ, d, e, r1, vd, v1, q2⟩
theorem e_op {op : Operator} (ho : OpF X F R (binaryOp op) g) (ha : ED X F a fa) (hb : EQ X F b fb) : PE X (.BinOp a op b pos) (rdG X.K F R (fOp g fa fb)) := (pe_op ho ha hb).via fun _ _ _ h => tOp_of h
theorem e_opN {i : Nat} {op : Operator} (ho : OpF X F R (binaryOp op) g) (ha : PE X a (tVar i)) (hb : EQ X F b fb) : PE X (.BinOp a op b pos) (rdG X.K F R (fOpN g i fb)) := (pe_op ho ha hb).via fun _ _ _ h => tOpN_of h
theorem e_cmp {op : CmpOp} (ho : OpF X F R (compareOp op) g) (ha : ED X F a fa) (hb : EQ X F b fb) (hm : behindInMarks op b = false) : PE X (.Compare a [op] [b] pos) (rdG X.K F R (fOp g fa fb)) := (pe_cmpR ho ha hb hm).via fun _ _ _ h => tOp_of h
theorem e_cmpN {i : Nat} {op : CmpOp} (ho : OpF X F R (compareOp op) g) (ha : PE X a (tVar i)) (hb : EQ X F b fb) (hm : behindInMarks op b = false) : PE X (.Compare a [op] [b] pos) (rdG X.K F R (fOpN g i fb)) := (pe_cmpR ho ha hb hm).via fun _ _ _ h => tOpN_of h
/-- a bool's value as a test -/
def fT (f : FS → Res D) : FS → Res Bool := bnd f fun d S => match d with
  | .bool b => .ok b S
  | _ => .bad
theorem tTest_of {σ : Sl} {H : Hp} {Q : Bool → Hp → Prop} {f : FS → Res D} {t : TE} (h : rdT X.K F (fT f) σ H Q) (ht : ∀ Q, rdG X.K F PR f σ H Q → t σ H Q) : tTest t σ H Q := by
  refine ht _ ((rdG.bindT h).imp fun x H1 ⟨d, S1, r, v, p, q⟩ => ?_)
  cases d with
  | bool b => cases v; exact ⟨b, rfl, q.ok r⟩
  | _ => exact q.elim
theorem t_cmp {op : CmpOp} {g : D → D → FS → Res D} (ho : OpF X F PR (compareOp op) g) (ha : ED X F a fa) (hb : EQ X F b fb) (hm : behindInMarks op b = false) : ET X F (.Compare a [op] [b] pos) (fT (fOp g fa fb)) :=
  (pt_cmpR ho ha hb hm).via fun _ _ _ h => tTest_of h fun _ h => tOp_of h
theorem t_cmpN {i : Nat} {op : CmpOp} {g : D → D → FS → Res D} (ho : OpF X F PR (compareOp op) g) (ha : PE X a (tVar i)) (hb : EQ X F b fb) (hm : behindInMarks op b = false) : ET X F (.Compare a [op] [b] pos) (fT (fOpN g i fb)) :=
  (pt_cmpR ho ha hb hm).via fun _ _ _ h => tTest_of h fun _ h => tOpN_of h
def fOrT (f g : FS → Res Bool) : FS → Res Bool := bnd f fun b => if b = true then fC true else g
def fNotT (f : FS → Res Bool) : FS → Res Bool := bnd f fun b => fC (!b)
abbrev EW (X : Cx) (F : Fx) (e : Expr) (f : FS → Res Bool) : Prop := PW X e (rdT X.K F f)
theorem _root_.L2.PW.via {X : Cx} {e : Expr} {t t' : TT} (h : PW X e t) (hw : ∀ σ H Q, t' σ H Q → t σ H Q) : PW X e t' := ⟨fun wh pins s σ H Q I q => h.run wh pins s σ H Q I (hw σ H Q q)⟩
variable {f f2 : FS → Res Bool} {rest : List Expr}
theorem w_or1 (ha : ET X F a f) : EW X F (.BoolOp .Or [a] pos) f := pw_or1 ha
theorem w_or (ha : ET X F a f) (hb : EW X F (.BoolOp .Or (b :: rest) pos) f2) : EW X F (.BoolOp .Or (a :: b :: rest) pos) (fOrT f f2) :=
  (pw_or ha hb).via fun σ H Q h => (rdT.bindT h).imp fun c H1 ⟨S1, r, p, q⟩ => by
    cases c with
    | true => exact q.ok r
    | false => exact ⟨S1, r, q⟩
theorem t_not (ha : ET X F a f) : ET X F (.UnaryOp .Not a pos) (fNotT f) :=
  (pt_not ha).via fun σ H Q h => (rdT.bindT h).imp fun c H1 ⟨S1, r, p, q⟩ => q.ok r
/-- a value's truth -/
def dTru : D → Option Bool
  | .none => some false
  | .bool b => some b
  | .int i => some (i != 0)
  | .str x => if x.length ≤ sizeLine then some (x.length != 0) else none
  | .tuple ds => some (!ds.isEmpty)
  | .list ds => some (!ds.isEmpty)
  | .dict _ => none
def fTru (f : FS → Res D) : FS → Res Bool := bnd f fun d S => match dTru d with
  | some b => .ok b S
  | none => .bad
theorem PdAll.isEmpty {K : Fg} {H : Hp} {xs : List V} {ds : List D} (h : PdAll K H xs ds) : xs.isEmpty = ds.isEmpty := by cases h <;> rfl
theorem Qd.tru {K : Fg} {H : Hp} {x : V} {d : D} {b : Bool} (h : Qd K H x d) (e : dTru d = some b) : TruV K x H b := by
  cases d with
  | none => cases h.non; cases e; rfl
  | bool k => cases h.bl; cases e; rfl
  | int k => cases h.int; cases e; rfl
  | str k =>
    cases h.str
    by_cases hk : k.length ≤ sizeLine
    · simp only [dTru, if_pos hk] at e; cases e; exact ⟨hk, by rw [Bool.eq_iff_iff]; simp⟩
    · simp only [dTru, if_neg hk] at e; cases e
  | tuple ds =>
    obtain ⟨a, vs, rfl, h1, r1⟩ := h.tuple
    cases e
    exact .inr (.inl ⟨vs, h1, by rw [r1.isEmpty]⟩)
  | list ds =>
    obtain ⟨a, vs, rfl, h1, r1⟩ := h.list
    cases e
    exact .inl ⟨vs, h1, by rw [r1.isEmpty]⟩
  | dict _ => cases e
theorem t_tru {e : Expr} {f : FS → Res D} (h : EQ X F e f) (he : ∀ whole, isTrue e X.env whole = (do let v ← whole; standAt e.pos; holding [v] (truthy v)) := by intro _; rfl) : ET X F e (fTru f) :=
  (pt_truth h he).via fun σ H Q h => (rdG.bindT h).imp fun x H1 ⟨d, S1, r, v, p, q⟩ => by
    cases e : dTru d with
    | none => rw [e] at q; exact q.elim
    | some b => rw [e] at q; exact ⟨b, Qd.tru v e, q.ok r⟩
/-- and, or of bools as values -/
def fAndV (f g : FS → Res D) : FS → Res D := bnd f fun d => match d with
  | .bool true => g
  | .bool false => fC (.bool false)
  | _ => fun _ => .bad
theorem v_one {op : BoolOp} {f : FS → Res D} (h : ED X F a f) : ED X F (.BoolOp op [a] pos) f := pe_one h
theorem v_and (ha : ED X F a fa) (hb : ED X F (.BoolOp .And (b :: rest) pos) fb) : ED X F (.BoolOp .And (a :: b :: rest) pos) (fAndV fa fb) :=
  (pe_and ha hb).via fun σ H Q h => (rdG.bind h).imp fun x H1 ⟨d, S1, r, v, p, q⟩ => by
    cases d with
    | bool k =>
      cases v
      refine ⟨k, rfl, ?_⟩
      cases k with
      | true => exact ⟨S1, r, q⟩
      | false => exact q.ok r (Pd.bl _)
    | _ => exact q.elim
def fNotV (f : FS → Res D) : FS → Res D := bnd (fTru f) fun b => fC (.bool (!b))
theorem v_not (ha : EQ X F a fa) : ED X F (.UnaryOp .Not a pos) (fNotV fa) :=
  (pe_notT ha).via fun σ H Q ⟨S, r, p⟩ => by
    unfold fNotV fTru at p
    have p' : rdG X.K F PR (bnd fa fun d => bnd (fun S => match dTru d with | some b => Res.ok b S | none => Res.bad) fun b => fC (.bool (!b))) σ H Q := ⟨S, r, by
      unfold bnd at p ⊢
      cases e : fa S with
      | ok d S1 => rw [e] at p; exact p
      | exn e2 S1 => rw [e] at p; exact p
      | bad => rw [e] at p; exact p⟩
    refine (rdG.bind p').imp fun x H1 ⟨d, S1, r, v, p, q⟩ => ?_
    unfold bnd at q
    cases e : dTru d with
    | none => rw [e] at q; exact q.elim
    | some b => rw [e] at q; exact ⟨b, Qd.tru v e, q.ok r (Pd.bl _)⟩
/-- a if t else b -/
def fIte {α : Type} (t : FS → Res Bool) (f g : FS → Res α) : FS → Res α := bnd t fun b => if b = true then f else g
theorem e_ite {c : Expr} {t : FS → Res Bool} {f1 f3 : FS → Res α} (hc : ET X F c t) (ha : PE X a (rdG X.K F R f1)) (hb : PE X b (rdG X.K F R f3)) : PE X (.IfExp c a b pos) (rdG X.K F R (fIte t f1 f3)) :=
  (pe_ifExp hc ha hb).via fun σ H Q h => (rdT.bind h).imp fun c H1 ⟨S1, r, p, q⟩ => by
    cases c with
    | true => exact ⟨S1, r, q⟩
    | false => exact ⟨S1, r, q⟩
end
end Fz
end

section
set_option Elab.async false
set_option linter.all false
set_option maxRecDepth 100000
set_option maxHeartbeats 4000000
/-! F3: argument lists, displays, subscripts, slices, calls of built-ins. -/
namespace Fz
open PySem PySem.Spec PyProof.Rows L2
/-! ### argument lists -/
inductive QAll (K : Fg) (H : Hp) : List V → List D → Prop
  | nil : QAll K H [] []
  | cons {x : V} {d : D} {xs : List V} {ds : List D} (h : Qd K H x d) (r : QAll K H xs ds) : QAll K H (x :: xs) (d :: ds)
def AR (K : Fg) (_ : Fx) (_ : FS) (_ : Sl) (H : Hp) (xs : List V) (ds : List D) : Prop := PdAll K H xs ds
def AQ (K : Fg) (_ : Fx) (_ : FS) (_ : Sl) (H : Hp) (xs : List V) (ds : List D) : Prop := QAll K H xs ds
abbrev EA (X : Cx) (F : Fx) (es : List Expr) (f : FS → Res (List D)) : Prop := PA X es (rdG X.K F AR f)
abbrev EAQ (X : Cx) (F : Fx) (es : List Expr) (f : FS → Res (List D)) : Prop := PA X es (rdG X.K F AQ f)
theorem _root_.L2.PA.via {X : Cx} {e : List Expr} {t t' : TA} (h : PA X e t) (hw : ∀ σ H Q, t' σ H Q → t σ H Q) : PA X e t' := ⟨fun p pins s σ H Q I q => h.run p pins s σ H Q I (hw σ H Q q)⟩
def fCons (f : FS → Res D) (g : FS → Res (List D)) : FS → Res (List D) := bnd f fun d => bnd g fun ds => fC (d :: ds)
section
variable {X : Cx} {F : Fx} {e : Expr} {es : List Expr} {f : FS → Res D} {g : FS → Res (List D)} {pos : Pos} {α : Type} {R : VRel α}
theorem a_nil : EA X F [] (fC []) := pa_nil.via fun _ _ _ ⟨_, r, p⟩ => p.ok r .nil
theorem a_cons (ha : ED X F e f) (hr : EA X F es g) (hs : starEach (e :: es) X.env = (false, eval e X.env) :: starEach es X.env := by rfl) : EA X F (e :: es) (fCons f g) :=
  (pa_cons ha hr hs).via fun σ H Q h => (rdG.bind h).imp fun x H1 ⟨d, S1, r1, v1, p1, q1⟩ =>
    (rdG.bind (k := fun ds => fC (d :: ds)) (R' := AR) ⟨S1, r1, q1⟩).imp fun xs H2 ⟨ds, S2, r2, v2, p2, q2⟩ => q2.ok r2 (.cons (Pd.mono p2 v1) v2)
/-- the last argument may be looked at -/
theorem a_last (ha : EQ X F e f) (hs : starEach [e] X.env = (false, eval e X.env) :: starEach [] X.env := by rfl) : EAQ X F [e] (fCons f (fC [])) :=
  (pa_cons ha pa_nil hs).via fun σ H Q h => (rdG.bind h).imp fun x H1 ⟨d, S1, r1, v1, p1, q1⟩ => q1.ok r1 (.cons v1 .nil)
theorem a_consQ (ha : ED X F e f) (hr : EAQ X F es g) (hs : starEach (e :: es) X.env = (false, eval e X.env) :: starEach es X.env := by rfl) : EAQ X F (e :: es) (fCons f g) :=
  (pa_cons ha hr hs).via fun σ H Q h => (rdG.bind h).imp fun x H1 ⟨d, S1, r1, v1, p1, q1⟩ =>
    (rdG.bind (k := fun ds => fC (d :: ds)) (R' := AQ) ⟨S1, r1, q1⟩).imp fun xs H2 ⟨ds, S2, r2, v2, p2, q2⟩ => q2.ok r2 (.cons (.inl (Pd.mono p2 v1)) v2)
/-! ### displays -/
def fTup (g : FS → Res (List D)) : FS → Res D := bnd g fun ds S => if ds.length ≤ sizeLine then .ok (.tuple ds) S else .bad
def fLst (g : FS → Res (List D)) : FS → Res SV := bnd g fun ds S => if ds.length ≤ sizeLine then .ok (.own (.lst ds)) S else .bad
theorem e_tup {k : Nat} (h : EA X F es g) : ED X F (.Tuple es k pos) (fTup g) := (pe_tup h).via fun σ H Q h => (rdG.bind h).imp fun xs H1 ⟨ds, S1, r, v, p, q⟩ => by
  split at q
  · rename_i hl
    refine ⟨by rw [PdAll.length v]; exact hl, fun a ha => ?_⟩
    obtain ⟨p1, r3, v3⟩ := newTup r v ha
    exact q _ _ p1 r3 v3
  · exact q.elim
theorem e_lst (h : EA X F es g) : EV X F (.List es pos) (fLst g) := (pe_lst h).via fun σ H Q h => (rdG.bind h).imp fun xs H1 ⟨ds, S1, r, v, p, q⟩ => by
  split at q
  · rename_i hl
    exact ⟨by rw [PdAll.length v]; exact hl, fun a ha => newList r v ha q⟩
  · exact q.elim
end
/-! ### subscripts -/
section
variable {X : Cx} {F : Fx} {α : Type} {R : VRel α} {a b : Expr} {pos : Pos} {fa fb : FS → Res D} {g : D → D → FS → Res α}
def pIx (d e : D) : FS → Res D := fun S => match d, e with
  | .tuple ds, .int i => (match atI ds i with
    | some d => .ok d S
    | none => .bad)
  | .list ds, .int i => (match atI ds i with
    | some d => .ok d S
    | none => .bad)
  | .str z, .int i => if z.length ≤ sizeLine then (match atI z.cps.toList i with
    | some c => .ok (.str ⟨#[c]⟩) S
    | none => .bad) else .bad
  | _, _ => .bad
theorem PdAll.atI {K : Fg} {H : Hp} {xs : List V} {ds : List D} {i : Int} {d : D} (h : PdAll K H xs ds) (e : atI ds i = some d) : ∃ x, L2.atI xs i = some x ∧ Pd K H x d := by
  unfold L2.atI at e ⊢
  rw [h.length]
  cases q : ixN ds.length i with
  | none => rw [q] at e; cases e
  | some j =>
    rw [q] at e
    obtain ⟨x, h1, h2⟩ := h.get (show ds[j]? = some d from e)
    exact ⟨x, h1, h2⟩
theorem ix_F : IxR X (rOp X.K F PR pIx) := by
  intro value slice pins s σ0 H x y v u Q I rx ry ⟨S, σ, d, e, r, hx, hy, p⟩ hs
  cases d with
  | tuple ds =>
    cases e with
    | int i =>
      cases q : atI ds i with
      | none => simp only [pIx, q] at p; exact p.elim
      | some d =>
        simp only [pIx, q] at p
        obtain ⟨a, vs, rfl, h1, r1⟩ := hx.tuple
        obtain ⟨z, h2, h3⟩ := r1.atI q
        exact ix_tup value slice pins s σ0 H _ y v u Q I rx ry ⟨a, vs, i, z, rfl, hy.int, h1, h2, p.ok r h3⟩ hs
    | _ => exact p.elim
  | list ds =>
    cases e with
    | int i =>
      cases q : atI ds i with
      | none => simp only [pIx, q] at p; exact p.elim
      | some d =>
        simp only [pIx, q] at p
        obtain ⟨a, vs, rfl, h1, r1⟩ := hx.list
        obtain ⟨z, h2, h3⟩ := r1.atI q
        exact ix_list value slice pins s σ0 H _ y v u Q I rx ry ⟨a, vs, i, z, rfl, hy.int, h1, h2, p.ok r h3⟩ hs
    | _ => exact p.elim
  | str z =>
    cases e with
    | int i =>
      by_cases hl : z.length ≤ sizeLine
      · cases q : atI z.cps.toList i with
        | none => simp only [pIx, q, if_pos hl] at p; exact p.elim
        | some c =>
          simp only [pIx, q, if_pos hl] at p
          exact ix_str value slice pins s σ0 H _ y v u Q I rx ry ⟨z, i, c, hx.str, hy.int, hl, q, p.ok r (Pd.str _)⟩ hs
      · simp only [pIx, if_neg hl] at p; exact p.elim
    | _ => exact p.elim
  | _ => exact p.elim
theorem e_ix (ha : ED X F a fa) (hb : ED X F b fb) (hs : PlainIx b := by exact fun _ _ => rfl) : ED X F (.Subscript a b pos) (fOp pIx fa fb) := (pe_ix ix_F ha hb.q hs).via fun _ _ _ h => tOp_of h
theorem e_ixN {i : Nat} (ha : PE X a (tVar i)) (hb : ED X F b fb) (hs : PlainIx b := by exact fun _ _ => rfl) : ED X F (.Subscript a b pos) (fOpN pIx i fb) := (pe_ix ix_F ha hb.q hs).via fun _ _ _ h => tOpN_of h
/-! ### slices -/
def OR (_ : Fg) (_ : Fx) (_ : FS) (_ : Sl) (_ : Hp) (o o' : Option Int) : Prop := o = o'
abbrev EO (X : Cx) (F : Fx) (e : Option Expr) (f : FS → Res (Option Int)) : Prop := PO X e (rdG X.K F OR f)
theorem _root_.L2.PO.via {X : Cx} {e : Option Expr} {t t' : TO} (h : PO X e t) (hw : ∀ σ H Q, t' σ H Q → t σ H Q) : PO X e t' := ⟨fun pins s σ H Q I q => h.run pins s σ H Q I (hw σ H Q q)⟩
def fPart (f : FS → Res D) : FS → Res (Option Int) := bnd f fun d S => match d with
  | .int i => .ok (some i) S
  | _ => .bad
theorem o_none : EO X F none (fC none) := po_none.via fun _ _ _ ⟨_, r, p⟩ => p.ok r rfl
theorem o_some (h : ED X F a fa) : EO X F (some a) (fPart fa) := (po_some h).via fun σ H Q h => (rdG.bind h).imp fun x H1 ⟨d, S1, r, v, p, q⟩ => by
  cases d with
  | int i => cases v; exact ⟨i, rfl, q.ok r rfl⟩
  | _ => exact q.elim
def cutL {β : Type} (xs : List β) (lo hi : Option Int) : List β := (xs.drop (HT.sIx xs.length 0 lo)).take (HT.sIx xs.length xs.length hi - HT.sIx xs.length 0 lo)
def pSl (d : D) (lo hi : Option Int) : FS → Res SV := fun S => match d with
  | .tuple ds => .ok (.d (.tuple (cutL ds lo hi))) S
  | .list ds => .ok (.own (.lst (cutL ds lo hi))) S
  | .str z => if z.length ≤ sizeLine then .ok (.d (.str (cutS z lo hi))) S else .bad
  | _ => .bad
def rSlF (K : Fg) (F : Fx) : V → Option Int → Option Int → Hp → VK → Prop := fun x lo hi H Q => ∃ S σ d, Rel K F S σ H ∧ Qd K H x d ∧ postG K F VR (pSl d lo hi S) σ H Q
theorem PdAll.cut {K : Fg} {H : Hp} {xs : List V} {ds : List D} (h : PdAll K H xs ds) (lo hi : Option Int) : PdAll K H (cutV xs lo hi) (cutL ds lo hi) := by
  unfold cutV cutL
  rw [h.length]
  exact (h.drop _).take _
theorem sl_F : SlR X (rSlF X.K F) := by
  intro pins s σ0 H x v vl vu lo hi sl Q I rx hs pl pu ⟨S, σ, d, r, hx, p⟩
  cases d with
  | tuple ds =>
    obtain ⟨a, vs, rfl, h1, r1⟩ := hx.tuple
    refine sl_tupA pins s σ0 H _ v vl vu lo hi sl Q I rx hs pl pu ⟨a, vs, rfl, h1, fun hw => ?_, fun hw q hq => ?_⟩
    · have e : cutL ds lo hi = ds := by
        unfold cutL
        rw [← r1.length, hw.1, hw.2, List.drop_zero, Nat.sub_zero, r1.length]
        exact List.take_length
      have p' : postG X.K F VR (.ok (.d (.tuple (cutL ds lo hi))) S) σ H Q := p
      rw [e] at p'
      exact p'.ok r (Pd.tup h1 r1)
    · obtain ⟨p1, r3, v3⟩ := newTup r (r1.cut lo hi) hq
      exact p _ _ p1 r3 v3
  | list ds =>
    obtain ⟨a, vs, rfl, h1, r1⟩ := hx.list
    exact sl_list pins s σ0 H _ v vl vu lo hi sl Q I rx hs pl pu ⟨a, vs, rfl, h1, fun q hq => newList r (r1.cut lo hi) hq p⟩
  | str z =>
    by_cases hl : z.length ≤ sizeLine
    · simp only [pSl, if_pos hl] at p
      exact sl_str pins s σ0 H _ v vl vu lo hi sl Q I rx hs pl pu ⟨z, hx.str, hl, p.ok r (Pd.str _)⟩
    · simp only [pSl, if_neg hl] at p; exact p.elim
  | _ => exact p.elim
def fSlN (i : Nat) (fl fh : FS → Res (Option Int)) : FS → Res SV := bnd (fPeek i) fun _ => bnd fl fun lo => bnd fh fun hi => bnd (fPeek i) fun d => pSl d lo hi
theorem e_slN {i : Nat} {lo hi : Option Expr} {p2 : Pos} {fl fh : FS → Res (Option Int)} (ha : PE X a (tVar i)) (hl : EO X F lo fl) (hh : EO X F hi fh) : EV X F (.Subscript a (.Slice lo hi none p2) pos) (fSlN i fl fh) :=
  (pe_slice sl_F ha hl hh).via fun σ H Q ⟨S, r, p⟩ => by
    obtain ⟨x, d0, ex, _, p⟩ := peek_in (k := fun _ => bnd fl fun lo => bnd fh fun hi => bnd (fPeek i) fun d => pSl d lo hi) r p
    refine ⟨x, ex, (rdG.bind (k := fun lo => bnd fh fun hi => bnd (fPeek i) fun d => pSl d lo hi) (R' := VR) ⟨S, r, p⟩).imp fun l H2 ⟨lo, S2, r2, e2, p2, q2⟩ => ?_⟩
    cases e2
    refine (rdG.bind (k := fun hi => bnd (fPeek i) fun d => pSl d l hi) (R' := VR) ⟨S2, r2, q2⟩).imp fun u H3 ⟨hi, S3, r3, e3, p3, q3⟩ => ?_
    cases e3
    obtain ⟨x', d, ex', vd, q4⟩ := peek_in r3 q3
    rw [ex] at ex'; cases ex'
    exact ⟨S3, σ, d, r3, vd, q4⟩
end
/-! ### built-ins by name -/
section
variable {X : Cx} {F : Fx} {α : Type} {R : VRel α} {g : List D → FS → Res α} {pos p : Pos}
def rCallF {α : Type} (K : Fg) (F : Fx) (R : VRel α) (g : List D → FS → Res α) : List V → Hp → VK → Prop := fun xs H Q => ∃ S σ ds, Rel K F S σ H ∧ QAll K H xs ds ∧ postG K F R (g ds S) σ H Q
abbrev CallF (X : Cx) (F : Fx) (R : VRel α) (f : Value) (g : List D → FS → Res α) : Prop := CallR X f (rCallF X.K F R g)
def fCall {α : Type} (g : List D → FS → Res α) (fs : FS → Res (List D)) : FS → Res α := bnd fs g
theorem tCB_of {fs : FS → Res (List D)} {σ : Sl} {H : Hp} {Q : VK} (h : rdG X.K F R (fCall g fs) σ H Q) : tCB (rCallF X.K F R g) (rdG X.K F AQ fs) σ H Q :=
  (rdG.bind h).imp fun xs H1 ⟨ds, S1, r1, v1, p1, q1⟩ => ⟨S1, σ, ds, r1, v1, q1⟩
theorem e_callB {id : String} {x : Str} {e : Expr} {es : List Expr} {fs : FS → Res (List D)} (hc : CallF X F R (.builtin id) g) (hg : Gl X x) (hm : X.mg x = none) (hv : bootBuiltins x = some (.builtin id)) (ha : EAQ X F (e :: es) fs)
    (hn : x ≠ "__name__" := by decide) (hdb : (x == ("__debug__" : Str)) = false := by decide) (he : starEach (e :: es) X.env = (false, eval e X.env) :: starEach es X.env := by rfl) (hpl : (backTo pos (starEach es X.env)).any (·.1) = false := by rfl) :
    PE X (.Call (.Name x p) (e :: es) [] pos) (rdG X.K F R (fCall g fs)) := (pe_callB hc hg hm hv ha hn hdb he hpl).via fun _ _ _ h => tCB_of h
theorem e_callTy {T : String} {x : Str} {e : Expr} {es : List Expr} {fs : FS → Res (List D)} (hc : CallF X F R (.type T) g) (hg : Gl X x) (hm : X.mg x = none) (hv : bootBuiltins x = some (.type T)) (ha : EAQ X F (e :: es) fs)
    (hn : x ≠ "__name__" := by decide) (hdb : (x == ("__debug__" : Str)) = false := by decide) (he : starEach (e :: es) X.env = (false, eval e X.env) :: starEach es X.env := by rfl) (hpl : (backTo pos (starEach es X.env)).any (·.1) = false := by rfl) :
    PE X (.Call (.Name x p) (e :: es) [] pos) (rdG X.K F R (fCall g fs)) := (pe_callTy hc hg hm hv ha hn hdb he hpl).via fun _ _ _ h => tCB_of h
/-- one argument -/
def one {α : Type} (g : D → FS → Res α) : List D → FS → Res α
  | [d], S => g d S
  | _, _ => .bad
def two {α : Type} (g : D → D → FS → Res α) : List D → FS → Res α
  | [d, e], S => g d e S
  | _, _ => .bad
theorem callF_one {f : Value} {g : D → FS → Res α} (h : ∀ d, (∃ r : List V → Hp → VK → Prop, CallR X f r ∧ ∀ S σ H x Q, Rel X.K F S σ H → Qd X.K H x d → postG X.K F R (g d S) σ H Q → r [x] H Q) ∨ ∀ S, g d S = .bad) : CallF X F R f (one g) := by
  intro pins s σ0 H xs us Q I rx ⟨S, σ, ds, r, ha, p⟩
  cases ha with
  | nil => exact p.elim
  | cons h1 hr =>
    cases hr with
    | nil =>
      rcases h _ with ⟨r2, o, k⟩ | hb
      · exact o pins s σ0 H _ us Q I rx (k S σ H _ Q r h1 p)
      · simp only [one] at p; rw [hb] at p; exact p.elim
    | cons _ _ => exact p.elim
theorem callF_two {f : Value} {g : D → D → FS → Res α} (h : ∀ d e, (∃ r : List V → Hp → VK → Prop, CallR X f r ∧ ∀ S σ H x y Q, Rel X.K F S σ H → Qd X.K H x d → Qd X.K H y e → postG X.K F R (g d e S) σ H Q → r [x, y] H Q) ∨ ∀ S, g d e S = .bad) : CallF X F R f (two g) := by
  intro pins s σ0 H xs us Q I rx ⟨S, σ, ds, r, ha, p⟩
  cases ha with
  | nil => exact p.elim
  | cons h1 hr =>
    cases hr with
    | nil => exact p.elim
    | cons h2 hr =>
      cases hr with
      | nil =>
        rcases h _ _ with ⟨r2, o, k⟩ | hb
        · exact o pins s σ0 H _ us Q I rx (k S σ H _ _ Q r h1 h2 p)
        · simp only [two] at p; rw [hb] at p; exact p.elim
      | cons _ _ => exact p.elim
def pLen (d : D) : FS → Res D := fun S => match d with
  | .tuple ds => .ok (.int ds.length) S
  | .list ds => .ok (.int ds.length) S
  | .str z => if z.length ≤ sizeLine then .ok (.int z.length) S else .bad
  | _ => .bad
theorem c_len : CallF X F PR (.builtin "len") (one pLen) := callF_one fun d => by
  cases d with
  | tuple ds => exact .inl ⟨_, call_len, fun S σ H x Q r hx p => by
      obtain ⟨a, vs, rfl, h1, r1⟩ := hx.tuple
      exact ⟨_, _, rfl, .inr ⟨vs, h1, rfl⟩, p.ok r (by rw [r1.length]; exact Pd.int _)⟩⟩
  | list ds => exact .inl ⟨_, call_len, fun S σ H x Q r hx p => by
      obtain ⟨a, vs, rfl, h1, r1⟩ := hx.list
      exact ⟨_, _, rfl, .inl ⟨vs, h1, rfl⟩, p.ok r (by rw [r1.length]; exact Pd.int _)⟩⟩
  | str z =>
    by_cases hl : z.length ≤ sizeLine
    · exact .inl ⟨_, call_len, fun S σ H x Q r hx p => by
        simp only [pLen, if_pos hl] at p
        cases hx.str
        exact ⟨_, _, rfl, ⟨hl, rfl⟩, p.ok r (Pd.int _)⟩⟩
    · exact .inr fun S => if_neg hl
  | _ => exact .inr fun _ => rfl
def pToInt (d : D) : FS → Res D := fun S => match d with
  | .int i => .ok (.int i) S
  | .bool b => .ok (.int (if b then 1 else 0)) S
  | _ => .bad
theorem c_int : CallF X F PR (.type "int") (one pToInt) := callF_one fun d => by
  cases d with
  | int i => exact .inl ⟨_, call_int1, fun S σ H x Q r hx p => .inl ⟨i, by rw [hx.int], p.ok r (Pd.int _)⟩⟩
  | bool i => exact .inl ⟨_, call_int1, fun S σ H x Q r hx p => .inr ⟨i, by rw [hx.bl], p.ok r (Pd.int _)⟩⟩
  | _ => exact .inr fun _ => rfl
def pAbs (d : D) : FS → Res D := fun S => match d with
  | .int i => .ok (.int (if i < 0 then -i else i)) S
  | _ => .bad
theorem c_abs : CallF X F PR (.builtin "abs") (one pAbs) := callF_one fun d => by
  cases d with
  | int i => exact .inl ⟨_, call_abs, fun S σ H x Q r hx p => ⟨i, by rw [hx.int], p.ok r (Pd.int _)⟩⟩
  | _ => exact .inr fun _ => rfl
def pMax2 (d e : D) : FS → Res D := fun S => match d, e with
  | .int i, .int j => .ok (.int (if j > i then j else i)) S
  | _, _ => .bad
def pMin2 (d e : D) : FS → Res D := fun S => match d, e with
  | .int i, .int j => .ok (.int (if j < i then j else i)) S
  | _, _ => .bad
theorem c_max2 (hc : X.calm = true) : CallF X F PR (.builtin "max") (two pMax2) := callF_two fun d e => by
  cases d with
  | int i =>
    cases e with
    | int j => exact .inl ⟨_, call_max2 hc, fun S σ H x y Q r hx hy p => ⟨i, j, by rw [hx.int, hy.int], p.ok r (Pd.int _)⟩⟩
    | _ => exact .inr fun _ => rfl
  | _ => exact .inr fun _ => rfl
theorem c_min2 (hc : X.calm = true) : CallF X F PR (.builtin "min") (two pMin2) := callF_two fun d e => by
  cases d with
  | int i =>
    cases e with
    | int j => exact .inl ⟨_, call_min2 hc, fun S σ H x y Q r hx hy p => ⟨i, j, by rw [hx.int, hy.int], p.ok r (Pd.int _)⟩⟩
    | _ => exact .inr fun _ => rfl
  | _ => exact .inr fun _ => rfl
def pTuple (d : D) : FS → Res D := fun S => match d with
  | .tuple ds => .ok (.tuple ds) S
  | .list ds => .ok (.tuple ds) S
  | _ => .bad
theorem c_tuple : CallF X F PR (.type "tuple") (one pTuple) := callF_one fun d => by
  cases d with
  | tuple ds => exact .inl ⟨_, call_tuple_of, fun S σ H x Q r hx p => by
      obtain ⟨a, vs, rfl, h1, r1⟩ := hx.tuple
      exact ⟨a, vs, rfl, .inr ⟨h1, p.ok r (Pd.tup h1 r1)⟩⟩⟩
  | list ds => exact .inl ⟨_, call_tuple_of, fun S σ H x Q r hx p => by
      obtain ⟨a, vs, rfl, h1, r1⟩ := hx.list
      refine ⟨a, vs, rfl, .inl ⟨h1, fun l hl => ?_⟩⟩
      obtain ⟨p1, r3, v3⟩ := newTup r r1 hl
      exact p _ _ p1 r3 v3⟩
  | _ => exact .inr fun _ => rfl
/-- all, any of a list of bools -/
def bls : List D → Option (List Bool)
  | [] => some []
  | .bool b :: r => (bls r).map (b :: ·)
  | _ :: _ => none
theorem PdAll.bls {K : Fg} {H : Hp} : ∀ {xs : List V} {ds : List D} {bs : List Bool}, PdAll K H xs ds → Fz.bls ds = some bs → xs = bs.map V.bl
  | _, _, _, .nil, e => by cases e; rfl
  | _, _, bs, .cons (d := d) h r, e => by
    cases d with
    | bool b =>
      cases h
      unfold Fz.bls at e
      obtain ⟨cs, e1, rfl⟩ := Option.map_eq_some_iff.mp e
      rw [PdAll.bls r e1]; rfl
    | _ => cases e
def pAll (d : D) : FS → Res D := fun S => match d with
  | .list ds => (match bls ds with
    | some bs => .ok (.bool (bs.all id)) S
    | none => .bad)
  | _ => .bad
theorem c_all (hc : X.calm = true) : CallF X F PR (.builtin "all") (one pAll) := callF_one fun d => by
  cases d with
  | list ds =>
    cases q : bls ds with
    | none => exact .inr fun _ => by simp only [pAll, q]
    | some bs => exact .inl ⟨_, cr_all hc, fun S σ H x Q r hx p => by
        simp only [pAll, q] at p
        obtain ⟨a, vs, rfl, h1, r1⟩ := hx.list
        have e := r1.bls q
        subst e
        exact ⟨a, bs, rfl, h1, p.ok r (Pd.bl _)⟩⟩
  | _ => exact .inr fun _ => rfl
/-! isinstance of a built-in class -/
def dTyp : D → String
  | .none => "NoneType"
  | .bool _ => "bool"
  | .int _ => "int"
  | .str _ => "str"
  | .tuple _ => "tuple"
  | .list _ => "list"
  | .dict _ => "dict"
def isT (a T : String) : Bool := a == T || (a == "bool" && T == "int")
theorem Qd.ty {K : Fg} {H : Hp} {x : V} {d : D} (h : Qd K H x d) : TyX K H x (.type (dTyp d)) := by
  have tl : ∀ {a vs}, SqL K H a vs → TyX K H (.ref a) (.type "list") := fun {a vs} h => by
    rcases h with (h | ⟨o, h⟩) | ⟨o, its, n, h, hc, _⟩
    · exact .base (.lst h)
    · exact .base (.frz h)
    · exact .kList h hc
  rcases h with h | ⟨a, vs, ds, rfl, rfl, h, r⟩
  · cases h with
    | non => exact .base .non
    | bl b => exact .base (.bl b)
    | int b => exact .base (.int b)
    | str b => exact .base (.str b)
    | tup h r =>
      rcases h with (h | ⟨o, h⟩) | ⟨o, its, n, h, hc, _⟩
      · exact .base (.tup h)
      · exact .fTuple h
      · exact .kTuple h hc
    | lst h r => exact tl h.sq
  · exact tl h
theorem kit_all {K : Fg} : ∀ d : D, ∀ T ∈ ["int", "bool", "str", "tuple", "list", "dict"], PySem.W.kitOne K (.type (dTyp d)) (.type T) = some (isT (dTyp d) T) := by
  have key : ∀ a ∈ ["NoneType", "bool", "int", "str", "tuple", "list", "dict"], ∀ T ∈ ["int", "bool", "str", "tuple", "list", "dict"], kitB a T = some (isT a T) := by decide +kernel
  intro d T hT
  refine kit_ty (key _ ?_ T hT)
  cases d <;> simp [dTyp]
def fIsi (T : String) (f : FS → Res D) : FS → Res D := bnd f fun d S => .ok (.bool (isT (dTyp d) T)) S
theorem e_isi {T : String} {x : Str} {e : Expr} {f : FS → Res D} {q : Pos} (hg : Gl X "isinstance") (hm : X.mg "isinstance" = none) (hv : bootBuiltins "isinstance" = some (.builtin "isinstance")) (he : EQ X F e f)
    (hg2 : Gl X x) (hm2 : X.mg x = none) (hv2 : bootBuiltins x = some (.type T)) (hn2 : x ≠ "__name__" := by decide) (hdb2 : (x == ("__debug__" : Str)) = false := by decide) (hT : T ∈ ["int", "bool", "str", "tuple", "list", "dict"] := by decide)
    (hs : starEach [e, .Name x q] X.env = (false, eval e X.env) :: starEach [.Name x q] X.env := by rfl) (hs2 : starEach [.Name x q] X.env = (false, eval (.Name x q) X.env) :: starEach [] X.env := by rfl) (hpl : (backTo pos (starEach [.Name x q] X.env)).any (·.1) = false := by rfl) :
    ED X F (.Call (.Name "isinstance" p) [e, .Name x q] [] pos) (fIsi T f) :=
  (pe_callB call_isi hg hm hv (pa_cons he (pa_cons (pe_bltn (v := .ty T) hg2 hm2 hv2 rfl hn2 hdb2) pa_nil hs2) hs) (by decide) (by decide) hs hpl).via fun σ H Q h => (rdG.bind h).imp fun x H1 ⟨d, S1, r, v, p, q⟩ =>
    ⟨_, _, _, _, _, rfl, .ty T, v.ty, kit_all d T hT, q.ok r (Pd.bl _)⟩
end
end Fz
end

section
set_option Elab.async false
set_option linter.all false
set_option maxRecDepth 100000
set_option maxHeartbeats 4000000
/-! F4: statements. -/
namespace Fz
open PySem PySem.Spec PyProof.Rows L2
inductive SRes where
  | nx (S : FS)
  | rt (v : SV) (S : FS)
  | bk (S : FS)
  | ct (S : FS)
  | exn (e : Exn) (S : FS)
  | bad
def bndS {α : Type} (fa : FS → Res α) (k : α → FS → SRes) : FS → SRes := fun S => match fa S with
  | .ok a S1 => k a S1
  | .exn e S1 => .exn e S1
  | .bad => .bad
def postS (K : Fg) (F : Fx) (r : SRes) (D : Ends) (H : Hp) : Prop := match r with
  | .nx S => ∀ σ H', Pers H H' → Rel K F S σ H' → D.nx σ H'
  | .rt v S => ∀ x σ H', Pers H H' → Rel K F S σ H' → VR K F S σ H' x v → D.rt x H'
  | .bk S => ∀ σ H', Pers H H' → Rel K F S σ H' → D.bk σ H'
  | .ct S => ∀ σ H', Pers H H' → Rel K F S σ H' → D.ct σ H'
  | .exn e S => ∀ c dx σ H', Pers H H' → Rel K F S σ H' → ExR K H' e c dx → F.E c dx H'
  | .bad => False
def rdS (K : Fg) (F : Fx) (f : FS → SRes) : TS := fun D σ H => ∃ S, Rel K F S σ H ∧ postS K F (f S) D H
abbrev ES (X : Cx) (F : Fx) (st : Stmt) (f : FS → SRes) : Prop := PS X st (rdS X.K F f)
abbrev EB (X : Cx) (F : Fx) (st : List Stmt) (f : FS → SRes) : Prop := PSs X st (rdS X.K F f)
theorem _root_.L2.PSs.via {X : Cx} {e : List Stmt} {t t' : TS} (h : PSs X e t) (hw : ∀ D σ H, t' D σ H → t D σ H) : PSs X e t' := ⟨fun pins s σ H D I q => h.run pins s σ H D I (hw D σ H q)⟩
section
variable {α ι : Type} {K : Fg} {F : Fx} {R : GRel ι α} {σ : Sl} {H H' : Hp} {D D' : Ends}
theorem postS.later {r : SRes} (p : Pers H H') (h : postS K F r D H) : postS K F r D H' := by
  cases r with
  | nx S => exact fun σ H2 q r => h σ H2 (p.trans q) r
  | rt v S => exact fun x σ H2 q r => h x σ H2 (p.trans q) r
  | bk S => exact fun σ H2 q r => h σ H2 (p.trans q) r
  | ct S => exact fun σ H2 q r => h σ H2 (p.trans q) r
  | exn e S => exact fun c dx σ H2 q r => h c dx σ H2 (p.trans q) r
  | bad => exact h
theorem rdG.bindS {fa : FS → Res α} {k : α → FS → SRes} (h : rdS K F (bndS fa k) D σ H) :
    rdG K F R fa σ H fun x H1 => ∃ d S1, Rel K F S1 σ H1 ∧ R K F S1 σ H1 x d ∧ Pers H H1 ∧ postS K F (k d S1) D H1 := by
  obtain ⟨S, r, p⟩ := h
  refine ⟨S, r, ?_⟩
  unfold bndS at p
  cases e : fa S with
  | ok d S1 => rw [e] at p; exact fun x H1 q r1 v => ⟨d, S1, r1, v, q, postS.later q p⟩
  | exn e2 S1 => rw [e] at p; exact fun c dx H1 q r1 v => p c dx σ H1 q r1 v
  | bad => rw [e] at p; exact p
theorem rdT.bindS {fa : FS → Res Bool} {k : Bool → FS → SRes} (h : rdS K F (bndS fa k) D σ H) :
    rdT K F fa σ H fun b H1 => ∃ S1, Rel K F S1 σ H1 ∧ Pers H H1 ∧ postS K F (k b S1) D H1 := by
  obtain ⟨S, r, p⟩ := h
  refine ⟨S, r, ?_⟩
  unfold bndS at p
  cases e : fa S with
  | ok d S1 => rw [e] at p; exact fun H1 q r1 => ⟨S1, r1, q, postS.later q p⟩
  | exn e2 S1 => rw [e] at p; exact fun c dx H1 q r1 v => p c dx σ H1 q r1 v
  | bad => rw [e] at p; exact p
end
def fSeq (f g : FS → SRes) : FS → SRes := fun S => match f S with
  | .nx S1 => g S1
  | r => r
section
variable {X : Cx} {F : Fx} {st : Stmt} {rest : List Stmt} {f g : FS → SRes} {pos : Pos} {e : Expr}
theorem s_nil : EB X F [] (fun S => .nx S) := pss_nil.via fun D σ H ⟨S, r, p⟩ => p σ H (.refl H) r
theorem s_cons (h1 : ES X F st f) (h2 : EB X F rest g) : EB X F (st :: rest) (fSeq f g) := (pss_cons h1 h2).via fun D σ H ⟨S, r, p⟩ => by
  refine ⟨S, r, ?_⟩
  unfold fSeq at p
  cases e : f S with
  | nx S1 => rw [e] at p; exact fun σ' H' q r1 => ⟨S1, r1, p.later q⟩
  | rt v S1 => rw [e] at p; exact p
  | bk S1 => rw [e] at p; exact p
  | ct S1 => rw [e] at p; exact p
  | exn e2 S1 => rw [e] at p; exact p
  | bad => rw [e] at p; exact p
theorem s_one (h1 : ES X F st f) : EB X F [st] f := pss_one h1
/-- not to be come to -/
theorem s_never : ES X F st (fun _ => .bad) := ps_never.via fun D σ H ⟨S, r, p⟩ => p
def fRet (f : FS → Res SV) : FS → SRes := bndS f fun v S => .rt v S
def fRetD (f : FS → Res D) : FS → SRes := bndS f fun v S => .rt (.d v) S
theorem s_ret {f : FS → Res SV} (h : EV X F e f) : ES X F (.Return (some e) pos) (fRet f) := (ps_ret h).via fun D σ H h => (rdG.bindS h).imp fun x H1 ⟨d, S1, r, v, p, q⟩ => q x σ H1 (.refl H1) r v
theorem s_retD {f : FS → Res D} (h : ED X F e f) : ES X F (.Return (some e) pos) (fRetD f) := (ps_ret h).via fun D σ H h => (rdG.bindS h).imp fun x H1 ⟨d, S1, r, v, p, q⟩ => q x σ H1 (.refl H1) r v
def fDrop {α : Type} (f : FS → Res α) : FS → SRes := bndS f fun _ S => .nx S
theorem s_expr {α : Type} {R : VRel α} {f : FS → Res α} (he : PE X e (rdG X.K F R f)) (hs : swapsWith e none pos.line X.env = pure false := by rfl) : ES X F (.Expr e pos) (fDrop f) :=
  (ps_expr he hs).via fun D σ H h => (rdG.bindS h).imp fun x H1 ⟨d, S1, r, v, p, q⟩ => q σ H1 (.refl H1) r
def fIf (t : FS → Res Bool) (f g : FS → SRes) : FS → SRes := bndS t fun b => if b = true then f else g
theorem s_if {c : Expr} {a b : List Stmt} {t : FS → Res Bool} (hc : ET X F c t) (ha : EB X F a f) (hb : EB X F b g) : ES X F (.If c a b pos) (fIf t f g) :=
  (ps_if hc ha hb).via fun D σ H h => (rdT.bindS h).imp fun b H1 ⟨S1, r, p, q⟩ => by
    cases b with
    | true => exact ⟨S1, r, q⟩
    | false => exact ⟨S1, r, q⟩
def fSet (i : Nat) (f : FS → Res SV) : FS → SRes := bndS f fun v S => .nx (S.set i (some v))
def fSetD (i : Nat) (f : FS → Res D) : FS → SRes := bndS f fun v S => .nx (S.set i (some (.d v)))
theorem Rel.setV {K : Fg} {S : FS} {σ : Sl} {H : Hp} {i : Nat} {x : V} {v : SV} (r : Rel K F S σ H) (h : VR K F S σ H x v) : Rel K F (S.set i (some v)) (σ.set i (some x)) H := by
  cases v with
  | d d => exact r.setD h
  | own ob => exact r.setO h
  | pin ob => exact h.elim
  | x e => exact h.elim
theorem s_set {i : Nat} {x : Str} {pos' : Pos} {f : FS → Res SV} (hN : X.N.Nodup) (hi : X.N[i]? = some x) (hx : Loc X.env.scope x) (he : EV X F e f) (hs : swapsWith e (some (.Name x pos')) pos.line X.env = pure false := by rfl)
    (hf : X.fn x = true ∨ X.env.scope.names.lookup x = some .local := by first | exact .inl rfl | exact .inr rfl | assumption) : ES X F (.Assign [.Name x pos'] e pos) (fSet i f) :=
  (ps_set hN hi hx he hs hf).via fun D σ H h => (rdG.bindS h).imp fun x H1 ⟨d, S1, r, v, p, q⟩ => q _ H1 (.refl H1) (r.setV v)
theorem s_setD {i : Nat} {x : Str} {pos' : Pos} {f : FS → Res D} (hN : X.N.Nodup) (hi : X.N[i]? = some x) (hx : Loc X.env.scope x) (he : ED X F e f) (hs : swapsWith e (some (.Name x pos')) pos.line X.env = pure false := by rfl)
    (hf : X.fn x = true ∨ X.env.scope.names.lookup x = some .local := by first | exact .inl rfl | exact .inr rfl | assumption) : ES X F (.Assign [.Name x pos'] e pos) (fSetD i f) :=
  (ps_set hN hi hx he hs hf).via fun D σ H h => (rdG.bindS h).imp fun x H1 ⟨d, S1, r, v, p, q⟩ => q _ H1 (.refl H1) (r.setD v)
theorem peek_inS {K : Fg} {S : FS} {σ : Sl} {H : Hp} {i : Nat} {k : D → FS → SRes} {D : Ends} (r : Rel K F S σ H) (p : postS K F (bndS (fPeek i) k S) D H) : ∃ x d, σ[i]? = some (some x) ∧ Qd K H x d ∧ postS K F (k d S) D H := by
  unfold bndS at p
  rcases peek_ok (i := i) (S := S) with ⟨d, e⟩ | e
  · obtain ⟨_, x, ex, v⟩ := peek_val r e
    rw [e] at p
    exact ⟨x, d, ex, v, p⟩
  · rw [e] at p; exact p.elim
/-- x += e -/
def fAug {α : Type} (c : α → SV) (i : Nat) (g : D → D → FS → Res α) (f : FS → Res D) : FS → SRes := bndS (fPeek i) fun _ => bndS f fun e => bndS (fPeek i) fun d => bndS (g d e) fun z S => .nx (S.set i (some (c z)))
theorem ip_of {op : Operator} {g : Int → Int → Int} (h : PIp X op (ipI g)) : PIp X op (rOp X.K F PR (pInt fun i j => some (g i j))) := by
  intro pins s σ0 H x y v u Q I rx ry ⟨S, σ, d, e, r, hx, hy, p⟩
  cases d with
  | int i =>
    cases e with
    | int j => exact h pins s σ0 H x y v u Q I rx ry ⟨i, j, hx.int, hy.int, p.ok r (Pd.int _)⟩
    | _ => exact p.elim
  | _ => exact p.elim
theorem aug_tail {α : Type} {R : VRel α} {c : α → SV} {K : Fg} {S : FS} {σ : Sl} {H : Hp} {i : Nat} {r : Res α} {D : Ends} (hc : ∀ S σ H x z, R K F S σ H x z → VR K F S σ H x (c z)) (p : postS K F (bndS (fun _ => r) (fun z S => .nx (S.set i (some (c z)))) S) D H) :
    postG K F R r σ H fun z H' => D.nx (σ.set i (some z)) H' := by
  unfold bndS at p
  cases r with
  | ok z S1 => exact fun x H' q r1 v => p _ _ q (r1.setV (hc _ _ _ _ _ v))
  | exn e S1 => exact fun c dx H' q r1 v => p c dx σ H' q r1 v
  | bad => exact p
theorem s_aug {α : Type} {R : VRel α} {c : α → SV} {i : Nat} {x : Str} {op : Operator} {pos' : Pos} {f : FS → Res D} {g : D → D → FS → Res α} (hN : X.N.Nodup) (hi : X.N[i]? = some x) (hx : Loc X.env.scope x) (he : ED X F e f) (ho : PIp X op (rOp X.K F R g))
    (hc : ∀ S σ H x z, R X.K F S σ H x z → VR X.K F S σ H x (c z)) (hf : X.fn x = true ∨ X.env.scope.names.lookup x = some .local := by first | exact .inl rfl | exact .inr rfl | assumption) : ES X F (.AugAssign (.Name x pos') op e pos) (fAug c i g f) :=
  (ps_aug hN hi hx he ho hf).via fun D σ H ⟨S, r, p⟩ => by
    obtain ⟨x1, d0, ex, _, p⟩ := peek_inS (k := fun _ => bndS f fun e => bndS (fPeek i) fun d => bndS (g d e) fun z S => .nx (S.set i (some (c z)))) r p
    refine ⟨x1, ex, (rdG.bindS (k := fun e => bndS (fPeek i) fun d => bndS (g d e) fun z S => .nx (S.set i (some (c z)))) ⟨S, r, p⟩).imp fun y H1 ⟨e, S1, r1, v1, p1, q1⟩ => ?_⟩
    obtain ⟨x', d, ex', vd, q2⟩ := peek_inS (k := fun d => bndS (g d e) fun z S => .nx (S.set i (some (c z)))) r1 q1
    rw [ex] at ex'; cases ex'
    exact ⟨S1, σ, d, e, r1, vd, .inl v1, aug_tail (S := S1) hc q2⟩
theorem vr_d {K : Fg} : ∀ S σ H x z, PR K F S σ H x z → VR K F S σ H x (.d z) := fun _ _ _ _ _ h => h
theorem ip_addF : PIp X .Add (rOp X.K F PR (pInt fun i j => some (i + j))) := ip_of ip_add

/-! ### while -/
def whileN (c : FS → Res Bool) (b : FS → SRes) : Nat → FS → SRes
  | 0, _ => .bad
  | n + 1, S => match c S with
    | .ok true S1 => (match b S1 with
      | .nx S2 => whileN c b n S2
      | .ct S2 => whileN c b n S2
      | .bk S2 => .nx S2
      | r => r)
    | .ok false S1 => .nx S1
    | .exn e S1 => .exn e S1
    | .bad => .bad
open Classical in
noncomputable def whileF (c : FS → Res Bool) (b : FS → SRes) (S : FS) : SRes := if h : ∃ n, whileN c b n S ≠ .bad then whileN c b h.choose S else .bad
theorem whileN_succ {c : FS → Res Bool} {b : FS → SRes} : ∀ n S, whileN c b n S ≠ .bad → whileN c b (n + 1) S = whileN c b n S
  | 0, S, h => absurd rfl h
  | n + 1, S, h => by
    rw [whileN] at h
    rw [whileN, whileN]
    cases e : c S with
    | ok k S1 =>
      cases k with
      | true =>
        rw [e] at h
        simp only at h ⊢
        cases e2 : b S1 with
        | nx S2 => rw [e2] at h; exact whileN_succ n S2 h
        | ct S2 => rw [e2] at h; exact whileN_succ n S2 h
        | _ => rfl
      | false => rfl
    | _ => rfl
theorem whileN_le {c : FS → Res Bool} {b : FS → SRes} {n m : Nat} {S : FS} (h : whileN c b n S ≠ .bad) (hl : n ≤ m) : whileN c b m S = whileN c b n S := by
  induction hl with
  | refl => rfl
  | step _ ih => rw [whileN_succ _ _ (by rw [ih]; exact h), ih]
theorem whileF_of {c : FS → Res Bool} {b : FS → SRes} {n : Nat} {S : FS} (h : whileN c b n S ≠ .bad) : whileF c b S = whileN c b n S := by
  unfold whileF
  rw [dif_pos ⟨n, h⟩]
  have h2 := (⟨n, h⟩ : ∃ n, whileN c b n S ≠ .bad).choose_spec
  by_cases hl : (⟨n, h⟩ : ∃ n, whileN c b n S ≠ .bad).choose ≤ n
  · exact (whileN_le h2 hl).symm
  · exact whileN_le h (by omega)
theorem whileF_get {c : FS → Res Bool} {b : FS → SRes} {S : FS} (h : whileF c b S ≠ .bad) : ∃ n, whileN c b n S ≠ .bad ∧ whileF c b S = whileN c b n S := by
  by_cases hn : ∃ n, whileN c b n S ≠ .bad
  · exact ⟨_, hn.choose_spec, by unfold whileF; rw [dif_pos hn]⟩
  · exact absurd (by unfold whileF; rw [dif_neg hn]) h
/-- one turn -/
theorem whileF_eq (c : FS → Res Bool) (b : FS → SRes) (S : FS) : whileF c b S = match c S with
    | .ok true S1 => (match b S1 with
      | .nx S2 => whileF c b S2
      | .ct S2 => whileF c b S2
      | .bk S2 => .nx S2
      | r => r)
    | .ok false S1 => .nx S1
    | .exn e S1 => .exn e S1
    | .bad => .bad := by
  by_cases h : ∃ n, whileN c b n S ≠ .bad
  · obtain ⟨n, h⟩ := h
    rw [whileF_of h]
    cases n with
    | zero => exact absurd rfl h
    | succ n =>
      rw [whileN] at h ⊢
      cases e : c S with
      | ok k S1 =>
        cases k with
        | true =>
          rw [e] at h
          simp only at h ⊢
          cases e2 : b S1 with
          | nx S2 => rw [e2] at h; exact (whileF_of h).symm
          | ct S2 => rw [e2] at h; exact (whileF_of h).symm
          | _ => rfl
        | false => rfl
      | _ => rfl
  · have hb : whileF c b S = .bad := by unfold whileF; rw [dif_neg h]
    rw [hb]
    have h1 : ∀ n, whileN c b n S = .bad := fun n => Classical.byContradiction fun q => h ⟨n, q⟩
    have none : ∀ S2, (∀ n, whileN c b n S2 = .bad) → whileF c b S2 = .bad := fun S2 q => by
      unfold whileF; rw [dif_neg (fun ⟨n, z⟩ => z (q n))]
    have h2 := fun n => h1 (n + 1)
    simp only [whileN] at h2
    cases e : c S with
    | ok k S1 =>
      cases k with
      | true =>
        rw [e] at h2
        simp only at h2 ⊢
        cases e2 : b S1 with
        | nx S2 => rw [e2] at h2; exact (none S2 h2).symm
        | ct S2 => rw [e2] at h2; exact (none S2 h2).symm
        | rt v S2 => rw [e2] at h2; exact (h2 0).symm
        | bk S2 => rw [e2] at h2; exact (h2 0).symm
        | exn v S2 => rw [e2] at h2; exact (h2 0).symm
        | bad => rfl
      | false => rw [e] at h2; exact (h2 0).symm
    | exn v S2 => rw [e] at h2; exact (h2 0).symm
    | bad => rfl
theorem s_while {c : Expr} {body : List Stmt} {tc : FS → Res Bool} {b : FS → SRes} (hp : PassesOwn (model X.prog X.w) X.A X.env X.xe) (hc : ET X F c tc) (hb : EB X F body b) : ES X F (.While c body [] pos) (whileF tc b) :=
  (ps_while hp hc hb).via fun D σ H ⟨S, r, p⟩ => by
    have ne : whileF tc b S ≠ .bad := fun e => by rw [e] at p; exact p
    obtain ⟨n, hn, e⟩ := whileF_get ne
    rw [e] at p
    refine ⟨fun m σ H => ∃ S, Rel X.K F S σ H ∧ whileN tc b m S ≠ .bad ∧ postS X.K F (whileN tc b m S) D H, ⟨n, S, r, hn, p⟩, ?_⟩
    rintro m σ H ⟨S, r, hn, p⟩
    cases m with
    | zero => exact absurd rfl hn
    | succ m =>
      rw [whileN] at hn p
      refine ⟨S, r, ?_⟩
      cases e : tc S with
      | ok k S1 =>
        rw [e] at hn p
        intro H1 p1 r1
        cases k with
        | false => exact p σ H1 p1 r1
        | true =>
          rw [if_pos rfl]
          refine ⟨_, fun σ' H' q => ⟨m, Nat.lt_succ_self m, q⟩, S1, r1, ?_⟩
          simp only at hn p
          cases e2 : b S1 with
          | nx S2 => rw [e2] at hn p; exact fun σ2 H2 p2 r2 => ⟨S2, r2, hn, p.later (p1.trans p2)⟩
          | ct S2 => rw [e2] at hn p; exact fun σ2 H2 p2 r2 => ⟨S2, r2, hn, p.later (p1.trans p2)⟩
          | bk S2 => rw [e2] at p; exact postS.later p1 p
          | rt v S2 => rw [e2] at p; exact postS.later p1 p
          | exn v S2 => rw [e2] at p; exact postS.later p1 p
          | bad => rw [e2] at hn; exact absurd rfl hn
      | exn e2 S1 => rw [e] at p; exact fun c dx H1 p1 r1 v => p c dx σ H1 p1 r1 v
      | bad => rw [e] at hn; exact absurd rfl hn
end
/-! ### targets -/
section
variable {X : Cx} {F : Fx} {pos : Pos}
/-- the slots beside ts stay -/
def Beside (ts : List Nat) (σ σ' : Sl) : Prop := σ'.length = σ.length ∧ ∀ j, j ∉ ts → σ'[j]? = σ[j]?
theorem Beside.refl (ts : List Nat) (σ : Sl) : Beside ts σ σ := ⟨rfl, fun _ _ => rfl⟩
theorem Beside.trans {ts : List Nat} {σ σ1 σ2 : Sl} (a : Beside ts σ σ1) (b : Beside ts σ1 σ2) : Beside ts σ σ2 := ⟨b.1.trans a.1, fun j h => (b.2 j h).trans (a.2 j h)⟩
theorem Beside.mono {ts ts' : List Nat} {σ σ' : Sl} (a : Beside ts σ σ') (h : ∀ j, j ∈ ts → j ∈ ts') : Beside ts' σ σ' := ⟨a.1, fun j hj => a.2 j fun z => hj (h j z)⟩
theorem Beside.set {σ : Sl} {i : Nat} {v : Option V} : Beside [i] σ (σ.set i v) := ⟨List.length_set .., fun j h => List.getElem?_set_ne (fun e => h (by simp [e]))⟩
def rdTG (K : Fg) (F : Fx) (ts : List Nat) (g : D → FS → Option FS) : TG := fun v σ H Q => ∃ S d, Rel K F S σ H ∧ Pd K H v d ∧ match g d S with
  | some S' => ∀ σ' H', Pers H H' → Rel K F S' σ' H' → Beside ts σ σ' → Q σ' H'
  | none => False
def rdTGs (K : Fg) (F : Fx) (ts : List Nat) (g : List D → FS → Option FS) : TGs := fun vs σ H Q => ∃ S ds, Rel K F S σ H ∧ PdAll K H vs ds ∧ match g ds S with
  | some S' => ∀ σ' H', Pers H H' → Rel K F S' σ' H' → Beside ts σ σ' → Q σ' H'
  | none => False
abbrev EG (X : Cx) (F : Fx) (e : Expr) (ts : List Nat) (g : D → FS → Option FS) : Prop := PG X e (rdTG X.K F ts g)
abbrev EGs (X : Cx) (F : Fx) (e : List Expr) (ts : List Nat) (g : List D → FS → Option FS) : Prop := PGs X e (rdTGs X.K F ts g)
theorem _root_.L2.PG.via {X : Cx} {e : Expr} {t t' : TG} (h : PG X e t) (hw : ∀ v σ H Q, t' v σ H Q → t v σ H Q) : PG X e t' := ⟨fun pins s σ H v u Q I r q => h.run pins s σ H v u Q I r (hw v σ H Q q)⟩
theorem _root_.L2.PGs.via {X : Cx} {e : List Expr} {t t' : TGs} (h : PGs X e t) (hw : ∀ v σ H Q, t' v σ H Q → t v σ H Q) : PGs X e t' := ⟨fun pins s σ H v u Q I r q => h.run pins s σ H v u Q I r (hw v σ H Q q)⟩
def gN (i : Nat) : D → FS → Option FS := fun d S => some (S.set i (some (.d d)))
theorem g_name {i : Nat} {x : Str} (hN : X.N.Nodup) (hi : X.N[i]? = some x) (hx : Loc X.env.scope x) (hf : X.fn x = true ∨ X.env.scope.names.lookup x = some .local := by first | exact .inl rfl | exact .inr rfl | assumption) : EG X F (.Name x pos) [i] (gN i) :=
  (pg_name hN hi hx hf).via fun v σ H Q ⟨S, d, r, hd, q⟩ => q _ _ (.refl H) (r.setD hd) .set
def gNl : List D → FS → Option FS
  | [], S => some S
  | _ :: _, _ => none
def gCs (g : D → FS → Option FS) (h : List D → FS → Option FS) : List D → FS → Option FS
  | d :: ds, S => (g d S).bind (h ds)
  | [], _ => none
theorem gs_nil : EGs X F [] [] gNl := pgs_nil.via fun v σ H Q ⟨S, ds, r, hd, q⟩ => by
  cases hd with
  | nil => exact ⟨rfl, q _ _ (.refl H) r (.refl _ _)⟩
  | cons _ _ => exact q.elim
theorem gs_cons {e : Expr} {es : List Expr} {ts us : List Nat} {g : D → FS → Option FS} {h : List D → FS → Option FS} (h1 : EG X F e ts g) (h2 : EGs X F es us h)
    (hs : (assignEach (e :: es) X.env).map (·.2) = assign e X.env :: (assignEach es X.env).map (·.2) := by rfl) : EGs X F (e :: es) (ts ++ us) (gCs g h) :=
  (pgs_cons h1 h2 hs).via fun v σ H Q ⟨S, ds, r, hd, q⟩ => by
    cases hd with
    | nil => exact q.elim
    | cons hd hr =>
      refine ⟨_, _, rfl, S, _, r, hd, ?_⟩
      simp only [gCs] at q
      cases e1 : g _ S with
      | none => rw [e1] at q; exact q.elim
      | some S1 =>
        rw [e1] at q
        intro σ1 H1 p1 r1 b1
        refine ⟨S1, _, r1, hr.mono p1, ?_⟩
        simp only [Option.bind_some] at q
        cases e2 : h _ S1 with
        | none => rw [e2] at q; exact q.elim
        | some S2 => rw [e2] at q; exact fun σ2 H2 p2 r2 b2 => q σ2 H2 (p1.trans p2) r2 ((b1.mono fun j h => List.mem_append_left _ h).trans (b2.mono fun j h => List.mem_append_right _ h))
/-- target = e -/
def fAsg (g : D → FS → Option FS) (f : FS → Res D) : FS → SRes := bndS f fun d S => match g d S with
  | some S' => .nx S'
  | none => .bad
theorem s_asg {tg e : Expr} {ts : List Nat} {f : FS → Res D} {g : D → FS → Option FS} (he : ED X F e f) (hg : EG X F tg ts g) (hs : swapsWithSole [tg] e pos.line X.env = pure false := by rfl) (hw : swappedStores [tg] e X.env = pure none := by rfl)
    (h1 : (assignEach [tg] X.env).map (·.2) = [assign tg X.env] := by rfl) : ES X F (.Assign [tg] e pos) (fAsg g f) :=
  (ps_asg he hg hs hw h1).via fun D σ H h => (rdG.bindS h).imp fun x H1 ⟨d, S1, r, v, p, q⟩ => ⟨S1, d, r, v, by
    cases e : g d S1 with
    | none => rw [e] at q; exact q
    | some S2 => rw [e] at q; exact fun σ' H' p r _ => q σ' H' p r⟩
end
end Fz
end

section
set_option Elab.async false
set_option linter.all false
set_option maxRecDepth 100000
set_option maxHeartbeats 4000000
/-! F5: for, list methods, stores to items. -/
namespace Fz
open PySem PySem.Spec PyProof.Rows L2
/-- J hands the data ds out, one after another, while what is for good stays -/
structure Yields (K : Fg) (J : It) (H1 : Hp) (ds : List D) : Prop where
  go : ∀ i H, Pers H1 H → i < ds.length → J.go i H
  stop : ∀ H, Pers H1 H → J.stop ds.length H
  yld : ∀ i H x H' d, Pers H1 H → ds[i]? = some d → J.yld i H x H' → Pers H H' ∧ (∀ F S σ, Rel K F S σ H → Rel K F S σ H') ∧ Pd K H' x d
def rdI (K : Fg) (F : Fx) (f : FS → Res (List D)) : TI := fun σ H R => ∃ S, Rel K F S σ H ∧ match f S with
  | .ok ds S1 => ∀ J H1, Pers H H1 → Rel K F S1 σ H1 → Yields K J H1 ds → R J H1
  | .exn e S1 => ∀ c dx H1, Pers H H1 → Rel K F S1 σ H1 → ExR K H1 e c dx → F.E c dx H1
  | .bad => False
abbrev EI (X : Cx) (F : Fx) (tg iter : Expr) (f : FS → Res (List D)) : Prop := PI X tg iter (rdI X.K F f)
def forF (g : D → FS → Option FS) (b : FS → SRes) : List D → FS → SRes
  | [], S => .nx S
  | d :: ds, S => match g d S with
    | some S1 => (match b S1 with
      | .nx S2 => forF g b ds S2
      | .ct S2 => forF g b ds S2
      | .bk S2 => .nx S2
      | r => r)
    | none => .bad
def fFor (it : FS → Res (List D)) (g : D → FS → Option FS) (b : FS → SRes) : FS → SRes := bndS it fun ds => forF g b ds
section
variable {X : Cx} {F : Fx} {pos : Pos}
theorem s_for {tg iter : Expr} {ts : List Nat} {body : List Stmt} {it : FS → Res (List D)} {g : D → FS → Option FS} {b : FS → SRes} (hp : PassesOwn (model X.prog X.w) X.A X.env X.xe) (hc : X.calm = true) (hi : EI X F tg iter it) (hg : EG X F tg ts g) (hb : EB X F body b)
    (hs : ∀ x, foldedSetIterable iter X.env x = pure x := by intro _; rfl) : ES X F (.For tg iter body [] pos) (fFor it g b) :=
  (ps_for hp hc hi hg hb hs).via fun D σ H ⟨S, r, p⟩ => by
    refine ⟨S, r, ?_⟩
    unfold fFor bndS at p
    cases e : it S with
    | exn e2 S1 => rw [e] at p; exact fun c dx H1 p1 r1 v => p c dx σ H1 p1 r1 v
    | bad => rw [e] at p; exact p
    | ok ds S1 =>
      rw [e] at p
      intro J H1 p1 r1 y
      refine ⟨fun i m σ H => ∃ S, Rel X.K F S σ H ∧ Pers H1 H ∧ m = ds.length - i ∧ i ≤ ds.length ∧ postS X.K F (forF g b (ds.drop i) S) D H, ⟨ds.length, S1, r1, .refl H1, rfl, Nat.zero_le _, postS.later p1 p⟩, ?_⟩
      rintro i m σ H ⟨S, r, pH, rfl, hi, p⟩
      by_cases hl : i < ds.length
      · refine .inr ⟨y.go i H pH hl, fun σ' H' => ∃ S, Rel X.K F S σ' H' ∧ Pers H1 H' ∧ postS X.K F (forF g b (ds.drop (i + 1)) S) D H', fun σ' H' ⟨S2, r2, p2, q2⟩ => ⟨ds.length - (i + 1), by omega, S2, r2, p2, rfl, hl, q2⟩, fun x H' hy => ?_⟩
        obtain ⟨p2, k2, v2⟩ := y.yld i H x H' ds[i] pH (List.getElem?_eq_getElem hl) hy
        rw [List.drop_eq_getElem_cons hl] at p
        simp only [forF] at p
        refine ⟨S, ds[i], k2 F S σ r, v2, ?_⟩
        cases e2 : g ds[i] S with
        | none => rw [e2] at p; exact p
        | some S1 =>
          rw [e2] at p
          simp only at p
          intro σ3 H3 p3 r3 _
          refine ⟨S1, r3, ?_⟩
          have p13 : Pers H1 H3 := (pH.trans p2).trans p3
          have p03 : Pers H H3 := p2.trans p3
          cases e3 : b S1 with
          | nx S2 => rw [e3] at p; exact fun σ4 H4 p4 r4 => ⟨S2, r4, p13.trans p4, p.later (p03.trans p4)⟩
          | ct S2 => rw [e3] at p; exact fun σ4 H4 p4 r4 => ⟨S2, r4, p13.trans p4, p.later (p03.trans p4)⟩
          | bk S2 => rw [e3] at p; exact postS.later p03 p
          | rt v S2 => rw [e3] at p; exact postS.later p03 p
          | exn v S2 => rw [e3] at p; exact postS.later p03 p
          | bad => rw [e3] at p; exact p
      · have e : i = ds.length := by omega
        subst e
        rw [List.drop_length] at p
        exact .inl ⟨y.stop H pH, p σ H (.refl H) r⟩
/-- a list, a tuple walked -/
theorem yields_list {K : Fg} {H1 : Hp} {a : Addr} {vs : List V} {ds : List D} (h : FrzL K H1 a vs) (r : PdAll K H1 vs ds) : Yields K (Itl K a) H1 ds where
  go := fun i H p hi => by
    obtain ⟨x, h1, _⟩ := r.get (List.getElem?_eq_getElem hi)
    exact ⟨vs, x, (h.mono p).sq, h1⟩
  stop := fun H p => ⟨vs, (h.mono p).sq, by rw [r.length]; exact Nat.le_refl _⟩
  yld := fun i H x H' d p hd ⟨e, q⟩ => by
    subst e
    have h1 := q vs (h.mono p).sq
    obtain ⟨y, h2, h3⟩ := r.get hd
    rw [h1] at h2; cases h2
    exact ⟨.refl _, fun _ _ _ r => r, h3.mono p⟩
theorem yields_tup {K : Fg} {H1 : Hp} {a : Addr} {vs : List V} {ds : List D} (h : SqT K H1 a vs) (r : PdAll K H1 vs ds) : Yields K (Itt K a) H1 ds where
  go := fun i H p hi => by
    obtain ⟨x, h1, _⟩ := r.get (List.getElem?_eq_getElem hi)
    exact ⟨vs, x, sqT_mono p h, h1⟩
  stop := fun H p => ⟨vs, sqT_mono p h, by rw [r.length]; exact Nat.le_refl _⟩
  yld := fun i H x H' d p hd ⟨e, q⟩ => by
    subst e
    have h1 := q vs (sqT_mono p h)
    obtain ⟨y, h2, h3⟩ := r.get hd
    rw [h1] at h2; cases h2
    exact ⟨.refl _, fun _ _ _ r => r, h3.mono p⟩
def fItems (f : FS → Res D) : FS → Res (List D) := bnd f fun d S => match d with
  | .list ds => .ok ds S
  | .tuple ds => .ok ds S
  | _ => .bad
theorem i_seq {tg l : Expr} {f : FS → Res D} (h : ED X F l f) : EI X F tg l (fItems f) := by
  refine ⟨fun pins s σ H R I ⟨S, r, p⟩ => ?_⟩
  unfold fItems bnd at p
  cases e : f S with
  | exn e2 S1 =>
    rw [e] at p
    refine (pi_list (tl := rdG X.K F PR f) h).run pins s σ H R I ⟨S, r, ?_⟩
    rw [e]; exact p
  | bad => rw [e] at p; exact p.elim
  | ok d S1 =>
    rw [e] at p
    cases d with
    | list ds =>
      refine (pi_list (tl := rdG X.K F PR f) h).run pins s σ H R I ⟨S, r, ?_⟩
      rw [e]
      intro x H1 p1 r1 v
      cases v with
      | lst h2 r2 => exact ⟨_, rfl, ⟨_, h2.sq⟩, p _ H1 p1 r1 (yields_list h2 r2)⟩
    | tuple ds =>
      refine (pi_tup (tl := rdG X.K F PR f) h).run pins s σ H R I ⟨S, r, ?_⟩
      rw [e]
      intro x H1 p1 r1 v
      cases v with
      | tup h2 r2 => exact ⟨_, rfl, ⟨_, h2⟩, p _ H1 p1 r1 (yields_tup h2 r2)⟩
    | _ => exact p.elim
def rngD (lo : Int) (n : Nat) : List D := (List.range n).map fun i => .int (lo + (i : Nat))
theorem yields_rng {K : Fg} {H1 : Hp} {lo : Int} {n : Nat} : Yields K (Itr lo n) H1 (rngD lo n) where
  go := fun i H p hi => by
    have e : (rngD lo n).length = n := by simp [rngD]
    rw [e] at hi; exact hi
  stop := fun H p => by show n ≤ _; simp [rngD]
  yld := fun i H x H' d p hd ⟨e, q⟩ => by
    subst e q
    unfold rngD at hd
    rw [List.getElem?_map] at hd
    obtain ⟨j, h1, rfl⟩ := Option.map_eq_some_iff.mp hd
    have h2 : j = i := by
      obtain ⟨hl, e⟩ := List.getElem?_eq_some_iff.mp h1
      rw [List.getElem_range] at e; exact e.symm
    subst h2
    exact ⟨.refl _, fun _ _ _ r => r, .int _⟩
def inR (j : Int) : Prop := -(2 ^ 62) ≤ j ∧ j < 2 ^ 62
noncomputable instance (j : Int) : Decidable (inR j) := Classical.propDecidable _
noncomputable def fRange1 (f : FS → Res D) : FS → Res (List D) := bnd f fun d S => match d with
  | .int j => if inR j then .ok (rngD 0 j.toNat) S else .bad
  | _ => .bad
theorem i_range1 {tg a : Expr} {f : FS → Res D} {p : Pos} (hg : Gl X "range") (hm : X.mg "range" = none) (ha : ED X F a f) (hsa : starEach [a] X.env = (false, eval a X.env) :: starEach [] X.env := by rfl) (hs : starEach [a] X.env = [(false, eval a X.env)] := by rfl) : EI X F tg (.Call (.Name "range" p) [a] [] pos) (fRange1 f) := by
  refine ⟨fun pins s σ H R I ⟨S, r, q⟩ => ?_⟩
  refine (pi_range1 hg hm (pa_cons ha pa_nil hsa) hs).run pins s σ H R I ⟨S, r, ?_⟩
  unfold fRange1 bnd at q
  cases e : f S with
  | exn e2 S1 => rw [e] at q; exact q
  | bad => rw [e] at q; exact q
  | ok d S1 =>
    rw [e] at q
    intro x H1 p1 r1 v
    cases d with
    | int j =>
      cases v
      simp only [Res.bind_ok] at q
      by_cases hj : inR j
      · rw [if_pos hj] at q
        exact ⟨j, rfl, hj.1, hj.2, q _ H1 p1 r1 yields_rng⟩
      · rw [if_neg hj] at q; exact q.elim
    | _ => exact q.elim
end
/-! ### the list of a slot -/
def lstAt (S : FS) (i : Nat) : Option (List D) := match S[i]? with
  | some (some (.own (.lst ds))) => some ds
  | some (some (.pin (.lst ds))) => some ds
  | _ => none
def putLst (S : FS) (i : Nat) (ds : List D) : FS := match S[i]? with
  | some (some (.pin _)) => S.set i (some (.pin (.lst ds)))
  | _ => S.set i (some (.own (.lst ds)))
theorem Rel.lst {K : Fg} {F : Fx} {S : FS} {σ : Sl} {H : Hp} {i : Nat} {ds : List D} (r : Rel K F S σ H) (h : lstAt S i = some ds) : ∃ a vs, σ[i]? = some (some (.ref a)) ∧ H a = some (.lst vs) ∧ PdAll K H vs ds ∧
    ∀ vs' ds', PdAll K H vs' ds' → Rel K F (putLst S i ds') σ (upd H a (.lst vs')) ∧ Pers H (upd H a (.lst vs')) := by
  have main : ∀ (sv : SV) (mk : List D → SV), sv = mk ds → (∀ z, putLst S i z = S.set i (some (mk z))) → S[i]? = some (some sv) → (∀ z, mk z = .own (.lst z)) ∨ (∀ z, mk z = .pin (.lst z)) → ∃ a vs, σ[i]? = some (some (.ref a)) ∧ H a = some (.lst vs) ∧ PdAll K H vs ds ∧
      ∀ vs' ds', PdAll K H vs' ds' → Rel K F (putLst S i ds') σ (upd H a (.lst vs')) ∧ Pers H (upd H a (.lst vs')) := by
    intro sv mk es ep hs hm
    have ow : S[i]? = some (some (.own (.lst ds))) ∨ S[i]? = some (some (.pin (.lst ds))) := by
      rcases hm with hm | hm
      · exact .inl (by rw [hs, es, hm])
      · exact .inr (by rw [hs, es, hm])
    obtain ⟨a, ea, ⟨vs, hH, hv⟩, h0⟩ := r.obj ow
    refine ⟨a, vs, ea, hH, hv, fun vs' ds' hv' => ?_⟩
    have hmu : Mut (H a) := by rw [hH]; trivial
    have pp : Pers H (upd H a (.lst vs')) := Pers.put (.inl hmu)
    have hl : i < S.length := (List.getElem?_eq_some_iff.mp hs).1
    have oi : Owned S i := ⟨_, ow⟩
    refine ⟨?_, pp⟩
    rw [ep ds']
    refine r.put (.inl hmu) h0 (fun p hp e' => (r.held p hp).2.2 i oi (e' ▸ ea)) (List.length_set ..) (fun j sv2 ej => ?_) fun j ⟨ob, hj⟩ => ?_
    · by_cases hj : j = i
      · subst hj
        rw [List.getElem?_set_self hl] at ej
        cases ej
        refine .inr ⟨_, ea, ?_⟩
        obtain ⟨x, ex, sr⟩ := r.slot j _ hs
        rw [ea] at ex; cases ex
        rcases hm with hm | hm
        · rw [es, hm] at sr
          rw [hm]
          obtain ⟨b, eb, _, n⟩ := sr
          cases eb
          exact ⟨a, rfl, ⟨vs', upd_same, hv'.mono pp⟩, n⟩
        · rw [es, hm] at sr
          rw [hm]
          obtain ⟨b, eb, _, n⟩ := sr
          cases eb
          exact ⟨a, rfl, ⟨vs', upd_same, hv'.mono pp⟩, n⟩
      · rw [List.getElem?_set_ne (Ne.symm hj)] at ej
        exact .inl ⟨ej, fun oj => r.apart i j a (Ne.symm hj) oi oj ea⟩
    · by_cases hj2 : j = i
      · subst hj2; exact oi
      · rw [List.getElem?_set_ne (Ne.symm hj2)] at hj; exact ⟨ob, hj⟩
  unfold lstAt at h
  split at h
  · rename_i d hd
    cases h
    exact main _ (fun z => .own (.lst z)) rfl (fun z => by unfold putLst; rw [hd]) hd (.inl fun _ => rfl)
  · rename_i d hd
    cases h
    exact main _ (fun z => .pin (.lst z)) rfl (fun z => by unfold putLst; rw [hd]) hd (.inr fun _ => rfl)
  · cases h
section
variable {X : Cx} {F : Fx} {pos : Pos}
/-- a look at the list of a slot -/
def wLst (i : Nat) (k : List D → FS → SRes) : FS → SRes := fun S => match lstAt S i with
  | some ds => k ds S
  | none => .bad
theorem wLst_in {K : Fg} {S : FS} {i : Nat} {k : List D → FS → SRes} {D' : Ends} {H : Hp} (p : postS K F (wLst i k S) D' H) : ∃ ds, lstAt S i = some ds ∧ postS K F (k ds S) D' H := by
  unfold wLst at p
  cases e : lstAt S i with
  | none => rw [e] at p; exact p.elim
  | some ds => rw [e] at p; exact ⟨ds, rfl, p⟩
/-- x.append(e) -/
def fAppend (i : Nat) (f : FS → Res D) : FS → SRes := wLst i fun _ => bndS f fun d => wLst i fun ds S => if ds.length < sizeLine then .nx (putLst S i (ds ++ [d])) else .bad
theorem s_append {i : Nat} {o e : Expr} {f : FS → Res D} {apos cpos : Pos} (ho : PE X o (tVar i)) (he : ED X F e f) (hs : swapsWith (.Call (.Attribute o "append" apos) [e] [] cpos) none pos.line X.env = pure false := by rfl)
    (hb : PE X (.Call (.Attribute o "append" apos) [e] [] cpos) (tBM X.K "list" rAppend (tVar i) (tCons (rdG X.K F PR f) tNil))) : ES X F (.Expr (.Call (.Attribute o "append" apos) [e] [] cpos) pos) (fAppend i f) :=
  (ps_expr hb hs).via fun D σ H ⟨S, r, p⟩ => by
    obtain ⟨ds0, e0, p⟩ := wLst_in p
    obtain ⟨a, vs0, ea, hH0, _, _⟩ := r.lst e0
    refine ⟨_, ea, .inl ⟨rfl, _, .inl (.inl hH0)⟩, ?_⟩
    refine (rdG.bindS (k := fun d => wLst i fun ds S => if ds.length < sizeLine then .nx (putLst S i (ds ++ [d])) else .bad) ⟨S, r, p⟩).imp fun y H1 ⟨d, S1, r1, v1, p1, q1⟩ => ?_
    obtain ⟨ds, e1, q1⟩ := wLst_in q1
    obtain ⟨b, vs, eb, hH, hv, put⟩ := r1.lst e1
    rw [ea] at eb; cases eb
    by_cases hl : ds.length < sizeLine
    · rw [if_pos hl] at q1
      obtain ⟨r2, p2⟩ := put (vs ++ [y]) (ds ++ [d]) (hv.append (.cons v1 .nil))
      exact ⟨a, vs, y, rfl, rfl, hH, by rw [hv.length]; exact hl, q1 _ _ p2 r2⟩
    · rw [if_neg hl] at q1; exact q1.elim
/-- x[k] = e -/
def fSetIx (i : Nat) (fe fk : FS → Res D) : FS → SRes := bndS fe fun d => bndS (fPeek i) fun _ => bndS fk fun k => wLst i fun ds S => match k with
  | .int j => (match ixN ds.length j with
    | some m => .nx (putLst S i (ds.set m d))
    | none => .bad)
  | _ => .bad
theorem s_setIx {i : Nat} {o k e : Expr} {fe fk : FS → Res D} {p1 : Pos} (ho : PE X o (tVar i)) (he : ED X F e fe) (hk : ED X F k fk)
    (ha : ∀ v, assign (.Subscript o k p1) X.env v = (do
      let ov ← holding [v] (eval o X.env)
      let iv ← holding [v, ov] (eval k X.env)
      standAt p1
      holding [v, ov, iv] (setItem ov iv v)
      release [v, ov, iv] []) := by intro _; rfl)
    (hs : swapsWithSole [.Subscript o k p1] e pos.line X.env = pure false := by rfl) (hw : swappedStores [.Subscript o k p1] e X.env = pure none := by rfl)
    (h1 : (assignEach [.Subscript o k p1] X.env).map (·.2) = [assign (.Subscript o k p1) X.env] := by rfl) : ES X F (.Assign [.Subscript o k p1] e pos) (fSetIx i fe fk) :=
  (ps_asg he (pg_sub ho hk set_list ha) hs hw h1).via fun D σ H ⟨S, r, p⟩ => by
    refine (rdG.bindS (R := PR) ⟨S, r, p⟩).imp fun y H1 ⟨d, S1, r1, v1, p1, q1⟩ => ?_
    obtain ⟨x, d0, ex, _, q1⟩ := peek_inS r1 q1
    refine ⟨x, ex, (rdG.bindS (R := PR) ⟨S1, r1, q1⟩).imp fun z H2 ⟨kd, S2, r2, v2, p2, q2⟩ => ?_⟩
    obtain ⟨ds, e2, q2⟩ := wLst_in q2
    obtain ⟨a, vs, ea, hH, hv, put⟩ := r2.lst e2
    rw [ex] at ea; cases ea
    cases kd with
    | int j =>
      cases v2
      cases em : ixN ds.length j with
      | none => simp only [em] at q2; exact q2.elim
      | some m =>
        simp only [em] at q2
        have hy : Pd X.K H2 y d := Pd.mono p2 v1
        obtain ⟨r3, p3⟩ := put (vs.set m y) (ds.set m d) (hv.set hy m)
        exact ⟨a, vs, j, m, rfl, rfl, hH, by rw [hv.length]; exact em, q2 _ _ p3 r3⟩
    | _ => exact q2.elim
end
end Fz
end

section
set_option Elab.async false
set_option linter.all false
set_option maxRecDepth 100000
set_option maxHeartbeats 4000000
/-! F6: list comprehensions. -/
namespace Fz
open PySem PySem.Spec PyProof.Rows L2
/-- the slots vs stored anew -/
def setAll {β : Type} (S : List β) : List Nat → (Nat → β) → List β
  | [], _ => S
  | v :: vs, f => (setAll S vs f).set v (f v)
theorem setAll_length {β : Type} (S : List β) (f : Nat → β) : ∀ vs, (setAll S vs f).length = S.length
  | [] => rfl
  | v :: vs => by unfold setAll; rw [List.length_set, setAll_length S f vs]
theorem setAll_in {β : Type} {S : List β} {f : Nat → β} {j : Nat} : ∀ {vs : List Nat}, j ∈ vs → j < S.length → (setAll S vs f)[j]? = some (f j)
  | v :: vs, h, hl => by
    unfold setAll
    by_cases e : v = j
    · subst e
      exact List.getElem?_set_self (by rw [setAll_length]; exact hl)
    · rw [List.getElem?_set_ne e]
      exact setAll_in ((List.mem_cons.mp h).resolve_left (Ne.symm e)) hl
theorem setAll_out {β : Type} {S : List β} {f : Nat → β} {j : Nat} : ∀ {vs : List Nat}, j ∉ vs → (setAll S vs f)[j]? = S[j]?
  | [], _ => rfl
  | v :: vs, h => by
    unfold setAll
    rw [List.getElem?_set_ne (fun e => h (by simp [e]))]
    exact setAll_out fun z => h (List.mem_cons_of_mem _ z)
theorem wipe_eq (σ : Sl) : ∀ vs, wipe σ vs = setAll σ vs fun _ => none
  | [] => rfl
  | v :: vs => by unfold wipe setAll; rw [wipe_eq σ vs]
def wipeS (S : FS) (vs : List Nat) : FS := setAll S vs fun _ => none
def keepD : Option SV → Option SV
  | some (.d d) => some (.d d)
  | _ => none
/-- behind the block: its own slots as they stood ahead of it (data alone) -/
def restS (S S2 : FS) (vs : List Nat) : FS := setAll S2 vs fun v => keepD (S.getD v none)
theorem keepD_some {o : Option SV} {sv : SV} (h : keepD o = some sv) : ∃ d, sv = .d d ∧ o = some (.d d) := by
  unfold keepD at h
  split at h
  · cases h; exact ⟨_, rfl, rfl⟩
  · cases h
/-- the frame within a block: D holds what is made so far, nothing may leave -/
def Fx.blk (F : Fx) (D : Addr) (acc : List V) : Fx := { F with held := (D, .lst acc) :: F.held, E := fun _ _ _ => False }
theorem setAll_some {S : FS} {vs : List Nat} {f : Nat → Option SV} {j : Nat} {sv : SV} (h : (setAll S vs f)[j]? = some (some sv)) : (j ∉ vs ∧ S[j]? = some (some sv)) ∨ (j ∈ vs ∧ j < S.length ∧ f j = some sv) := by
  by_cases hj : j ∈ vs
  · by_cases hl : j < S.length
    · rw [setAll_in hj hl] at h
      exact .inr ⟨hj, hl, Option.some.inj h⟩
    · rw [List.getElem?_eq_none (by rw [setAll_length]; omega)] at h; cases h
  · rw [setAll_out hj] at h; exact .inl ⟨hj, h⟩
section
variable {K : Fg} {F : Fx} {S S2 : FS} {σ σ2 : Sl} {H H2 : Hp} {vs : List Nat}
theorem Rel.wiped (r : Rel K F S σ H) : Rel K F (wipeS S vs) (wipe σ vs) H := by
  rw [wipe_eq]
  have down : ∀ j sv, (wipeS S vs)[j]? = some (some sv) → j ∉ vs ∧ S[j]? = some (some sv) := fun j sv h => by
    rcases setAll_some h with h | ⟨_, _, h⟩
    · exact h
    · cases h
  have ow : ∀ j, Owned (wipeS S vs) j → j ∉ vs ∧ Owned S j := fun j ⟨ob, h⟩ => by
    rcases h with h | h
    · exact ⟨(down j _ h).1, ob, .inl (down j _ h).2⟩
    · exact ⟨(down j _ h).1, ob, .inr (down j _ h).2⟩
  refine ⟨by unfold wipeS; rw [setAll_length, setAll_length]; exact r.len, fun j sv h => ?_, fun i j a ne hi hj => ?_, r.keep, r.there, r.tabs, r.self, fun p hp => ⟨(r.held p hp).1, (r.held p hp).2.1, fun i hi => ?_⟩⟩
  · obtain ⟨h1, h2⟩ := down j sv h
    rw [setAll_out h1]; exact r.slot j sv h2
  · obtain ⟨h1, h2⟩ := ow i hi
    obtain ⟨h3, h4⟩ := ow j hj
    rw [setAll_out h1, setAll_out h3]; exact r.apart i j a ne h2 h4
  · obtain ⟨h1, h2⟩ := ow i hi
    rw [setAll_out h1]; exact (r.held p hp).2.2 i h2
theorem Rel.hold (r : Rel K F S σ H) {D : Addr} {acc : List V} (h : H D = some (.lst acc)) (h0 : F.H0 D = none) (hu : ∀ i, Owned S i → σ[i]? ≠ some (some (.ref D))) : Rel K (F.blk D acc) S σ H := by
  refine ⟨r.len, r.slot, r.apart, r.keep, r.there, r.tabs, r.self, fun p hp => ?_⟩
  rcases List.mem_cons.mp hp with e | hp
  · subst e; exact ⟨⟨h, trivial⟩, h0, hu⟩
  · exact r.held p hp
theorem Rel.unhold {D : Addr} {acc : List V} (r : Rel K (F.blk D acc) S σ H) : Rel K F S σ H :=
  ⟨r.len, r.slot, r.apart, r.keep, r.there, r.tabs, r.self, fun p hp => r.held p (List.mem_cons_of_mem _ hp)⟩
/-- behind a block -/
theorem Rel.rest (r0 : Rel K F S σ H) (r : Rel K F S2 σ2 H2) (p : Pers H H2) (hw : wipe σ2 vs = wipe σ vs) : Rel K F (restS S S2 vs) σ H2 := by
  have len : σ2.length = σ.length := by
    have := congrArg List.length hw
    rw [wipe_length, wipe_length] at this; exact this
  have out : ∀ j, j ∉ vs → σ2[j]? = σ[j]? := fun j hj => by
    have := congrArg (fun l : Sl => l[j]?) hw
    simp only [wipe_eq] at this
    rw [setAll_out hj, setAll_out hj] at this; exact this
  have ow : ∀ j, Owned (restS S S2 vs) j → j ∉ vs ∧ Owned S2 j := fun j ⟨ob, h⟩ => by
    rcases h with h | h
    · rcases setAll_some h with ⟨h1, h2⟩ | ⟨_, _, h2⟩
      · exact ⟨h1, ob, .inl h2⟩
      · obtain ⟨d, e, _⟩ := keepD_some h2; cases e
    · rcases setAll_some h with ⟨h1, h2⟩ | ⟨_, _, h2⟩
      · exact ⟨h1, ob, .inr h2⟩
      · obtain ⟨d, e, _⟩ := keepD_some h2; cases e
  refine ⟨by unfold restS; rw [setAll_length, r.len, len], fun j sv h => ?_, fun i j a ne hi hj => ?_, r.keep, r.there, r.tabs, r.self, fun q hq => ⟨(r.held q hq).1, (r.held q hq).2.1, fun i hi => ?_⟩⟩
  · rcases setAll_some h with ⟨h1, h2⟩ | ⟨h1, hl, h2⟩
    · rw [← out j h1]; exact r.slot j sv h2
    · obtain ⟨d, rfl, e⟩ := keepD_some h2
      have e2 : S[j]? = some (some (.d d)) := by
        rw [List.getD_eq_getElem?_getD] at e
        cases q : S[j]? with
        | none => rw [q] at e; cases e
        | some o => rw [q] at e; simp only [Option.getD_some] at e; rw [e]
      obtain ⟨x, ex, v⟩ := r0.slot j _ e2
      exact ⟨x, ex, Pd.mono p v⟩
  · obtain ⟨h1, h2⟩ := ow i hi
    obtain ⟨h3, h4⟩ := ow j hj
    rw [← out i h1, ← out j h3]; exact r.apart i j a ne h2 h4
  · obtain ⟨h1, h2⟩ := ow i hi
    rw [← out i h1]; exact (r.held q hq).2.2 i h2
end
/-- tests of a comprehension -/
abbrev ETs (X : Cx) (F : Fx) (ifs : List Expr) (f : FS → Res Bool) : Prop := PTs X ifs (rdT X.K F f)
theorem ts_nil {X : Cx} {F : Fx} : ETs X F [] (fC true) := ⟨fun pins s σ H Q I ⟨S, r, p⟩ => pts_nil.run pins s σ H Q I (p.ok r)⟩
theorem ts_one {X : Cx} {F : Fx} {c : Expr} {f : FS → Res Bool} (h : ET X F c f) : ETs X F [c] f := pts_one h
/-- the turns -/
def lcF (g : D → FS → Option FS) (t : FS → Res Bool) (fe : FS → Res D) (vs : List Nat) : List D → FS → List D → Res SV
  | [], S, acc => .ok (.own (.lst acc)) S
  | d :: ds, S, acc => match g d (wipeS S vs) with
    | none => .bad
    | some S1 => match t S1 with
      | .ok false S2 => lcF g t fe vs ds (restS S S2 vs) acc
      | .ok true S2 => (match fe S2 with
        | .ok y S3 => if acc.length < sizeLine then lcF g t fe vs ds (restS S S3 vs) (acc ++ [y]) else .bad
        | _ => .bad)
      | _ => .bad
def fLc (it : FS → Res (List D)) (g : D → FS → Option FS) (t : FS → Res Bool) (fe : FS → Res D) (vs : List Nat) : FS → Res SV := bnd it fun ds S => lcF g t fe vs ds S []
section
variable {X : Cx} {F : Fx} {elt tg iter : Expr} {ifs : List Expr} {scope : Scope} {own : List (Str × Nat)} {pos : Pos} {it : FS → Res (List D)} {g : D → FS → Option FS} {t : FS → Res Bool} {fe : FS → Res D} {ts : List Nat}
/-- the parts by their readings for every held list: joined -/
def jTG (K : Fg) (F : Fx) (ts : List Nat) (g : D → FS → Option FS) : TG := fun v σ H Q => ∃ D acc, rdTG K (F.blk D acc) ts g v σ H Q
def jT (K : Fg) (F : Fx) (t : FS → Res Bool) : TT := fun σ H Q => ∃ D acc, rdT K (F.blk D acc) t σ H Q
def jE (K : Fg) (F : Fx) (f : FS → Res D) : TE := fun σ H Q => ∃ D acc, rdG K (F.blk D acc) PR f σ H Q
theorem jG_ok {X : Cx} {e : Expr} (h : ∀ D acc, EG X (F.blk D acc) e ts g) : PG X e (jTG X.K F ts g) := ⟨fun pins s σ H v u Q I r ⟨D, acc, q⟩ => (h D acc).run pins s σ H v u Q I r q⟩
theorem jT_ok {X : Cx} {e : List Expr} (h : ∀ D acc, ETs X (F.blk D acc) e t) : PTs X e (jT X.K F t) := ⟨fun pins s σ H Q I ⟨D, acc, q⟩ => (h D acc).run pins s σ H Q I q⟩
theorem jE_ok {X : Cx} {e : Expr} (h : ∀ D acc, ED X (F.blk D acc) e fe) : PE X e (jE X.K F fe) := ⟨fun pins s σ H Q I ⟨D, acc, q⟩ => (h D acc).run pins s σ H Q I q⟩
theorem lc_read {vs : List Nat} (hts : ∀ j, j ∈ ts → j ∈ vs) {σ : Sl} {H : Hp} {Q : VK} (h : rdG X.K F VR (fLc it g t fe vs) σ H Q) : tLc (rdI X.K F it) (jTG X.K F ts g) (jT X.K F t) (jE X.K F fe) vs σ H Q := by
  obtain ⟨S, r, p⟩ := h
  refine ⟨S, r, ?_⟩
  unfold fLc bnd at p
  cases e : it S with
  | exn e2 S1 => rw [e] at p; exact p
  | bad => rw [e] at p; exact p
  | ok ds S1 =>
    rw [e] at p
    simp only [Res.bind_ok] at p
    intro J H1 p1 r1 y D hD
    have d0 : F.H0 D = none := r1.none0 hD
    have nh : ∀ q ∈ F.held, q.1 ≠ D := fun q hq e => by obtain ⟨⟨z, _⟩, _⟩ := r1.held q hq; rw [e, hD] at z; cases z
    refine ⟨fun i m H => ∃ S vsA acc, Rel X.K F S σ H ∧ Pers H1 H ∧ m = ds.length - i ∧ i ≤ ds.length ∧ H D = some (.lst vsA) ∧ PdAll X.K H vsA acc ∧ (∀ i, Owned S i → σ[i]? ≠ some (some (.ref D))) ∧ postG X.K F VR (lcF g t fe vs (ds.drop i) S acc) σ H Q,
      ⟨ds.length, S1, [], [], r1.new hD, Pers.new hD, rfl, Nat.zero_le _, upd_same, .nil, fun j hj => r1.unslot hD hj, postG.later (p1.trans (Pers.new hD)) p⟩, ?_⟩
    rintro i m H ⟨S, vsA, acc, r, pH, rfl, hi, hDl, hA, hu, p⟩
    by_cases hl : i < ds.length
    · refine .inr ⟨y.go i H pH hl, fun H' => ∃ S vsA acc, Rel X.K F S σ H' ∧ Pers H1 H' ∧ H' D = some (.lst vsA) ∧ PdAll X.K H' vsA acc ∧ (∀ i, Owned S i → σ[i]? ≠ some (some (.ref D))) ∧ postG X.K F VR (lcF g t fe vs (ds.drop (i + 1)) S acc) σ H' Q,
        fun H' ⟨S, vsA, acc, a1, a2, a3, a4, a5, a6⟩ => ⟨ds.length - (i + 1), by omega, S, vsA, acc, a1, a2, rfl, hl, a3, a4, a5, a6⟩, fun x H' hy => ?_⟩
      obtain ⟨p2, k2, v2⟩ := y.yld i H x H' ds[i] pH (List.getElem?_eq_getElem hl) hy
      rw [List.drop_eq_getElem_cons hl] at p
      simp only [lcF] at p
      have rb : Rel X.K (F.blk D vsA) S σ H := r.hold hDl d0 hu
      have rb2 : Rel X.K (F.blk D vsA) S σ H' := k2 _ _ _ rb
      have rw2 := rb2.wiped (vs := vs)
      refine ⟨D, vsA, wipeS S vs, ds[i], rw2, v2, ?_⟩
      cases e2 : g ds[i] (wipeS S vs) with
      | none => rw [e2] at p; exact p
      | some S1 =>
        rw [e2] at p
        simp only at p
        intro σ3 H3 p3 r3 b3
        have hw3 : wipe σ3 vs = wipe σ vs := by
          apply List.ext_getElem?
          intro j
          by_cases hj : j ∈ vs
          · have l1 : (wipe σ3 vs).length = (wipe σ vs).length := by rw [wipe_length, b3.1]
            by_cases hl2 : j < σ.length
            · rw [wipe_eq, wipe_eq, setAll_in hj (by rw [b3.1, wipe_length]; exact hl2), setAll_in hj hl2]
            · rw [List.getElem?_eq_none (by rw [l1, wipe_length]; omega), List.getElem?_eq_none (by rw [wipe_length]; omega)]
          · rw [wipe_eq, setAll_out hj, b3.2 j (fun z => hj (hts j z)), wipe_eq]
        refine ⟨hw3, D, vsA, S1, r3, ?_⟩
        have pH3 : Pers H1 H3 := (pH.trans p2).trans p3
        cases e3 : t S1 with
        | exn e4 S2 => rw [e3] at p; exact p.elim
        | bad => rw [e3] at p; exact p
        | ok k S2 =>
          rw [e3] at p
          intro H4 p4 r4
          have pH4 := pH3.trans p4
          have pp4 : Pers H H4 := (p2.trans p3).trans p4
          cases k with
          | false =>
            rw [if_neg Bool.false_ne_true]
            have rr := r.rest r4.unhold pp4 hw3
            have h4 := r4.held (D, .lst vsA) (List.mem_cons_self ..)
            refine ⟨_, vsA, acc, rr, pH4, h4.1.1, hA.mono pp4, fun j hj => ?_, postG.later pp4 p⟩
            obtain ⟨ob, hj⟩ := hj
            have : j ∉ vs ∧ Owned S2 j := by
              rcases hj with h | h
              · rcases setAll_some h with ⟨h1, h2⟩ | ⟨_, _, h2⟩
                · exact ⟨h1, ob, .inl h2⟩
                · obtain ⟨d, e, _⟩ := keepD_some h2; cases e
              · rcases setAll_some h with ⟨h1, h2⟩ | ⟨_, _, h2⟩
                · exact ⟨h1, ob, .inr h2⟩
                · obtain ⟨d, e, _⟩ := keepD_some h2; cases e
            have q := h4.2.2 j this.2
            have out : σ3[j]? = σ[j]? := by rw [b3.2 j (fun z => this.1 (hts j z)), wipe_eq, setAll_out this.1]
            rw [← out]; exact q
          | true =>
            rw [if_pos rfl]
            refine ⟨D, vsA, S2, r4, ?_⟩
            simp only at p
            cases e5 : fe S2 with
            | exn e6 S3 => rw [e5] at p; exact p.elim
            | bad => rw [e5] at p; exact p
            | ok yd S3 =>
              rw [e5] at p
              simp only at p
              intro yv H5 p5 r5 v5
              have pp5 : Pers H H5 := pp4.trans p5
              have h5 := r5.held (D, .lst vsA) (List.mem_cons_self ..)
              have rr := r.rest r5.unhold pp5 hw3
              have hu5 : ∀ j, Owned (restS S S3 vs) j → σ[j]? ≠ some (some (.ref D)) := fun j hj => by
                obtain ⟨ob, hj⟩ := hj
                have : j ∉ vs ∧ Owned S3 j := by
                  rcases hj with h | h
                  · rcases setAll_some h with ⟨h1, h2⟩ | ⟨_, _, h2⟩
                    · exact ⟨h1, ob, .inl h2⟩
                    · obtain ⟨d, e, _⟩ := keepD_some h2; cases e
                  · rcases setAll_some h with ⟨h1, h2⟩ | ⟨_, _, h2⟩
                    · exact ⟨h1, ob, .inr h2⟩
                    · obtain ⟨d, e, _⟩ := keepD_some h2; cases e
                have q := h5.2.2 j this.2
                have out : σ3[j]? = σ[j]? := by rw [b3.2 j (fun z => this.1 (hts j z)), wipe_eq, setAll_out this.1]
                rw [← out]; exact q
              by_cases hz : acc.length < sizeLine
              · rw [if_pos hz] at p
                have hm : Mut (H5 D) := by rw [h5.1.1]; trivial
                have p6 : Pers H5 (upd H5 D (.lst (vsA ++ [yv]))) := Pers.put (.inl hm)
                have r6 : Rel X.K F (restS S S3 vs) σ (upd H5 D (.lst (vsA ++ [yv]))) := rr.put (.inl hm) (.inl d0) nh rfl (fun j sv e => .inl ⟨e, hu5 j⟩) fun j h => h
                exact ⟨vsA, h5.1.1, by rw [hA.length]; exact hz, _, _, acc ++ [yd], r6, (pH4.trans p5).trans p6, upd_same, ((hA.mono pp5).mono p6).append (.cons (Pd.mono p6 v5) .nil), hu5, postG.later (pp5.trans p6) p⟩
              · rw [if_neg hz] at p; exact p.elim
    · have e : i = ds.length := by omega
      subst e
      rw [List.drop_length] at p
      exact .inl ⟨y.stop H pH, p _ H (.refl H) r ⟨D, rfl, ⟨vsA, hDl, hA⟩, d0, hu, nh⟩⟩
theorem e_lc (hc : X.calm = true) (hN : X.N.Nodup) (hi : EI X F tg iter it) (ok : BlkOk X.N X.env.scope scope own) (hts : ∀ j, j ∈ ts → j ∈ own.map (·.2))
    (hg : ∀ (s : Shared) (H : Hp) (C : Addr) (cl : List (Str × Addr)) (fp : List Addr) (D : Addr) (acc : List V), EG (X.blk s H scope (compEnvC scope cl C X.env) fp) (F.blk D acc) tg ts g)
    (ht : ∀ (s : Shared) (H : Hp) (C : Addr) (cl : List (Str × Addr)) (fp : List Addr) (D : Addr) (acc : List V), ETs (X.blk s H scope (compEnvC scope cl C X.env) fp) (F.blk D acc) ifs t)
    (he : ∀ (s : Shared) (H : Hp) (C : Addr) (cl : List (Str × Addr)) (fp : List Addr) (D : Addr) (acc : List V), ED (X.blk s H scope (compEnvC scope cl C X.env) fp) (F.blk D acc) elt fe)
    (hs : ∀ x, foldedSetIterable iter X.env x = pure x := by intro _; rfl) : EV X F (.ListComp elt [⟨tg, iter, ifs, 0⟩] scope pos) (fLc it g t fe (own.map (·.2))) :=
  (pe_lc hc hN hi ok (fun s H C cl fp => jG_ok (F := F) (hg s H C cl fp)) (fun s H C cl fp => jT_ok (F := F) (ht s H C cl fp)) (fun s H C cl fp => jE_ok (F := F) (he s H C cl fp)) hs).via fun σ H Q h => lc_read hts h
theorem s_setLc {i : Nat} {y : Str} {py spos : Pos} (hc : X.calm = true) (hN : X.N.Nodup) (hy : X.N[i]? = some y) (hyl : X.env.scope.names.lookup y = some .local)
    (hsw : swapsWith (.ListComp elt [⟨tg, iter, ifs, 0⟩] scope pos) (some (.Name y py)) spos.line X.env = pure true) (hi : EI X F tg iter it) (ok : BlkOk X.N X.env.scope scope own) (hts : ∀ j, j ∈ ts → j ∈ own.map (·.2))
    (hg : ∀ (s : Shared) (H : Hp) (C : Addr) (cl : List (Str × Addr)) (fp : List Addr) (D : Addr) (acc : List V), EG (X.blk s H scope (compEnvC scope cl C X.env) fp) (F.blk D acc) tg ts g)
    (ht : ∀ (s : Shared) (H : Hp) (C : Addr) (cl : List (Str × Addr)) (fp : List Addr) (D : Addr) (acc : List V), ETs (X.blk s H scope (compEnvC scope cl C X.env) fp) (F.blk D acc) ifs t)
    (he : ∀ (s : Shared) (H : Hp) (C : Addr) (cl : List (Str × Addr)) (fp : List Addr) (D : Addr) (acc : List V), ED (X.blk s H scope (compEnvC scope cl C X.env) fp) (F.blk D acc) elt fe)
    (hs : ∀ x, foldedSetIterable iter X.env x = pure x := by intro _; rfl) : ES X F (.Assign [.Name y py] (.ListComp elt [⟨tg, iter, ifs, 0⟩] scope pos) spos) (fSet i (fLc it g t fe (own.map (·.2)))) :=
  (ps_setLc hc hN hy hyl hsw hi ok (fun s H C cl fp => jG_ok (F := F) (hg s H C cl fp)) (fun s H C cl fp => jT_ok (F := F) (ht s H C cl fp)) (fun s H C cl fp => jE_ok (F := F) (he s H C cl fp)) hs).via fun D σ H h =>
    lc_read hts ((rdG.bindS h).imp fun x H1 ⟨d, S1, r, v, p, q⟩ => q _ H1 (.refl H1) (r.setV v))
end
end Fz
end

section
set_option Elab.async false
set_option linter.all false
set_option maxRecDepth 100000
set_option maxHeartbeats 4000000
/-! F7: defs and their calls. -/
namespace Fz
open PySem PySem.Spec PyProof.Rows L2
inductive CRes where
  | ok (v : SV) (args : List SV)
  | exn (e : Exn) (args : List SV)
  | bad
abbrev Den := List SV → CRes
/-- room, and no object is being shown -/
structure RoomG (k : Nat) (A : Around) : Prop where
  rm : Room k A
  gd : A.guards = some []
theorem RoomG.mono {j k : Nat} {A : Around} (r : RoomG k A) (h : j ≤ k) : RoomG j A := ⟨r.rm.mono h, r.gd⟩
theorem RoomG.deeper {k : Nat} {A : Around} (r : RoomG (k + 1) A) (env : Env) : RoomG k (A.deeper env) := ⟨r.rm.deeper env, r.gd⟩
/-- x is a function that keeps all and answers g, from now on, in each frame below -/
def CloOk (P : Program) (w : World) (K : Fg) (mg : Str → Option Value) (base : Heap) (T : List Addr) (H : Hp) (x : V) (k : Nat) (g : FnD) : Prop :=
  ∃ (f : Addr) (oc : Value) (od : Option Addr) (fd : FuncData) (sl : Array (Option Value)) (u : HO), x = .ref f ∧ H f = some (.frz ⟨oc, od, .func fd, sl⟩ u) ∧
    ∀ H1, Pers H H1 → ∀ (A : Around) (outer : List Env) (s : Shared) (us : List Value) (vs : List V) (ds : List D) (d : D) (Q : VK) (E : XK), RoomG k A → Env0 P w K mg base A outer s H1 → (∀ P ∈ T, TabOk H1 P) → Vals vs us → PdAll K H1 vs ds → g ds = some d →
      (∀ y H2, Pers H1 H2 → (∀ a o, H1 a = some o → isTbl o = false → H2 a = some o) → (∀ a o, H1 a = some o → ∃ u, H2 a = some u) → (∀ P ∈ T, TabOk H2 P) → Pd K H2 y d → Q y H2) → codeAny (model P w) A (.call (.ref f) ⟨us, []⟩) (CR CX0 outer P w H1 s Q E) s
/-- the words of a function that a frame makes -/
structure FnT where
  name : Str
  params : Arguments
  body : FuncBody
  scope : Scope
/-- a function that a frame with these cells has made -/
def fnG (t : FnT) (qual : Str) (cl : List (Str × Addr)) (pm cdv ct doc : Value) : FuncData :=
  { name := t.name, qualname := qual, params := t.params, body := t.body, scope := t.scope, globals := mainGlobals, closure := cl, closureTuple := ct, code := cdv, builtins := builtinsNs, defaults := .none, kwdefaults := .none, annotations := none, pyModule := pm, doc := doc }
def FnMade (cells : List (Str × Addr)) (t : FnT) (H : Hp) (x : V) : Prop :=
  ∃ (f : Addr) (qual : Str) (pm cdv ct doc : Value) (u : HO), x = .ref f ∧ H f = some (.frz { cls := .type "function", data := .func (fnG t qual (cloFrom cells t.scope.names []) pm cdv ct doc) } u) ∧ CodeG H cdv ∧ ∀ xs, u ≠ .lst xs
theorem FnMade.later {cells : List (Str × Addr)} {t : FnT} {H H' : Hp} {x : V} (h : FnMade cells t H x) (p : Pers H H') : FnMade cells t H' x :=
  let ⟨f, qual, pm, cdv, ct, doc, u, h1, h2, h3, h4⟩ := h; ⟨f, qual, pm, cdv, ct, doc, u, h1, p.frz _ _ _ h2, h3.later p, h4⟩
/-- x is the j-th function of those that the frame with these cells makes -/
def LocOk (cells : List (Str × Addr)) (nfs : List FnT) (H : Hp) (x : V) (j : Nat) : Prop := ∃ t, nfs[j]? = some t ∧ FnMade cells t H x
def cloX (P : Program) (w : World) (K : Fg) (mg : Str → Option Value) (base : Heap) (T : List Addr) (cells : List (Str × Addr)) (nfs : List FnT) : ClX where
  clo := CloOk P w K mg base T
  cloM := fun p ⟨f, oc, od, fd, sl, u, h1, h2, h3⟩ => ⟨f, oc, od, fd, sl, u, h1, p.frz _ _ _ h2, fun H1 q => h3 H1 (p.trans q)⟩
  loc := LocOk cells nfs
  locM := fun p ⟨t, h1, h2⟩ => ⟨t, h1, h2.later p⟩
  self := fun _ => True
  selfM := fun _ _ => trivial
abbrev CloR := Hp → V → Nat → FnD → Prop
def ArgR (K : Fg) (w : World) (c : CloR) (H : Hp) (x : V) : SV → Prop
  | .d d => Pd K H x d
  | .pin ob => ∃ a, x = .ref a ∧ ObR K w H a ob
  | .own _ => False
  | .x (.fn k g) => c H x k g
  | .x _ => False
def PinIx (svs : List SV) (i : Nat) : Prop := ∃ ob, svs[i]? = some (.pin ob)
structure ArgsR (K : Fg) (w : World) (c : CloR) (H : Hp) (vs : List V) (svs : List SV) : Prop where
  len : vs.length = svs.length
  get : ∀ (i : Nat) (sv : SV), svs[i]? = some sv → ∃ x, vs[i]? = some x ∧ ArgR K w c H x sv
  apart : ∀ (i j : Nat) (a : Addr), i ≠ j → PinIx svs i → PinIx svs j → vs[i]? = some (.ref a) → vs[j]? ≠ some (.ref a)
def PinAd (vs : List V) (svs : List SV) (a : Addr) : Prop := ∃ i, PinIx svs i ∧ vs[i]? = some (.ref a)
/-- what a call leaves -/
structure Left (K : Fg) (w : World) (T : List Addr) (vs : List V) (svs svs' : List SV) (H H' : Hp) : Prop where
  pers : Pers H H'
  keep : ∀ a o, H a = some o → ¬ PinAd vs svs a → isTbl o = false → H' a = some o
  there : ∀ a o, H a = some o → ∃ u, H' a = some u
  tabs : ∀ P ∈ T, TabOk H' P
  args : ∀ (i : Nat) (ob : Ob) (a : Addr), svs'[i]? = some (.pin ob) → vs[i]? = some (.ref a) → ObR K w H' a ob
def RetR (K : Fg) (w : World) (H H' : Hp) (x : V) : SV → Prop
  | .d d => Pd K H' x d
  | .own ob => ∃ a, x = .ref a ∧ ObR K w H' a ob ∧ H a = none
  | .pin _ => False
  | .x _ => False
def spF (K : Fg) (w : World) (c : CloR) (T : List Addr) (n : Nat) (den : Den) : Sp := fun vs H Q E => ∃ svs, svs.length = n ∧ ArgsR K w c H vs svs ∧ (∀ P ∈ T, TabOk H P) ∧ match den svs with
  | .ok ret svs' => ∀ x H', Left K w T vs svs svs' H H' → RetR K w H H' x ret → Q x H'
  | .exn e svs' => ∀ c dx H', Left K w T vs svs svs' H H' → ExR K H' e c dx → E c dx H'
  | .bad => False
abbrev spG (P : Program) (w : World) (K : Fg) (mg : Str → Option Value) (base : Heap) (T : List Addr) (n : Nat) (den : Den) : Sp := spF K w (CloOk P w K mg base T) T n den
/-! ### a body's den as a def's -/
/-- the pinned arguments as they stand at the end -/
def pinsAt : List SV → FS → Option (List SV)
  | [], _ => some []
  | .pin _ :: r, some (.pin ob) :: S => (pinsAt r S).map (.pin ob :: ·)
  | .pin _ :: _, _ => none
  | sv :: r, _ :: S => (pinsAt r S).map (sv :: ·)
  | _ :: _, [] => none
def startS (n : Nat) (svs : List SV) : FS := svs.map some ++ List.replicate (n - svs.length) none
def denOf (n : Nat) (body : FS → SRes) : Den := fun svs => match body (startS n svs) with
  | .rt v S => (match pinsAt svs S with
    | some svs' => .ok v svs'
    | none => .bad)
  | .nx S => (match pinsAt svs S with
    | some svs' => .ok (.d .none) svs'
    | none => .bad)
  | .exn e S => (match pinsAt svs S with
    | some svs' => .exn e svs'
    | none => .bad)
  | _ => .bad
def pinL : Nat → List V → List SV → List (Nat × Addr)
  | i, .ref a :: vs, .pin _ :: svs => (i, a) :: pinL (i + 1) vs svs
  | i, _ :: vs, _ :: svs => pinL (i + 1) vs svs
  | _, _, _ => []
theorem mem_pinL {j : Nat} {a : Addr} : ∀ {i : Nat} {vs : List V} {svs : List SV}, (j, a) ∈ pinL i vs svs ↔ i ≤ j ∧ (∃ ob, svs[j - i]? = some (.pin ob)) ∧ vs[j - i]? = some (.ref a)
  | i, [], svs => by cases svs <;> simp [pinL]
  | i, v :: vs, [] => by cases v <;> simp [pinL]
  | i, v :: vs, sv :: svs => by
    have step : (j, a) ∈ pinL (i + 1) vs svs ↔ i + 1 ≤ j ∧ (∃ ob, (sv :: svs)[j - i]? = some (.pin ob)) ∧ (v :: vs)[j - i]? = some (.ref a) := by
      rw [mem_pinL (i := i + 1)]
      constructor
      · rintro ⟨h1, h2, h3⟩
        have e : j - i = (j - (i + 1)) + 1 := by omega
        exact ⟨h1, by rw [e]; simpa using h2, by rw [e]; simpa using h3⟩
      · rintro ⟨h1, h2, h3⟩
        have e : j - i = (j - (i + 1)) + 1 := by omega
        rw [e] at h2 h3
        exact ⟨h1, by simpa using h2, by simpa using h3⟩
    have here : ∀ {P : Prop}, (i ≤ j → i ≠ j → P) → (i + 1 ≤ j → P) := fun h q => h (by omega) (by omega)
    cases sv with
    | pin ob =>
      cases v with
      | ref b =>
        simp only [pinL, List.mem_cons, Prod.mk.injEq]
        constructor
        · rintro (⟨rfl, rfl⟩ | h)
          · exact ⟨Nat.le_refl _, ⟨ob, by simp⟩, by simp⟩
          · obtain ⟨h1, h2, h3⟩ := step.mp h
            exact ⟨by omega, h2, h3⟩
        · rintro ⟨h1, h2, h3⟩
          by_cases e : j = i
          · subst e
            simp at h3
            exact .inl ⟨rfl, h3.symm⟩
          · exact .inr (step.mpr ⟨by omega, h2, h3⟩)
      | _ =>
        simp only [pinL]
        rw [step]
        constructor
        · rintro ⟨h1, h2, h3⟩; exact ⟨by omega, h2, h3⟩
        · rintro ⟨h1, h2, h3⟩
          refine ⟨?_, h2, h3⟩
          by_cases e : j = i
          · subst e; simp at h3
          · omega
    | d x =>
      have e0 : pinL i (v :: vs) (.d x :: svs) = pinL (i + 1) vs svs := by cases v <;> rfl
      rw [e0, step]
      constructor
      · rintro ⟨h1, h2, h3⟩; exact ⟨by omega, h2, h3⟩
      · rintro ⟨h1, h2, h3⟩
        refine ⟨?_, h2, h3⟩
        by_cases e : j = i
        · subst e; simp at h2
        · omega
    | x x =>
      have e0 : pinL i (v :: vs) (.x x :: svs) = pinL (i + 1) vs svs := by cases v <;> rfl
      rw [e0, step]
      constructor
      · rintro ⟨h1, h2, h3⟩; exact ⟨by omega, h2, h3⟩
      · rintro ⟨h1, h2, h3⟩
        refine ⟨?_, h2, h3⟩
        by_cases e : j = i
        · subst e; simp at h2
        · omega
    | own x =>
      have e0 : pinL i (v :: vs) (.own x :: svs) = pinL (i + 1) vs svs := by cases v <;> rfl
      rw [e0, step]
      constructor
      · rintro ⟨h1, h2, h3⟩; exact ⟨by omega, h2, h3⟩
      · rintro ⟨h1, h2, h3⟩
        refine ⟨?_, h2, h3⟩
        by_cases e : j = i
        · subst e; simp at h2
        · omega
theorem pinsAt_get : ∀ {svs : List SV} {S : FS} {svs' : List SV} {i : Nat} {ob : Ob}, pinsAt svs S = some svs' → svs'[i]? = some (.pin ob) → S[i]? = some (some (.pin ob)) ∧ PinIx svs i
  | [], S, svs', i, ob, h, e => by simp [pinsAt] at h; subst h; simp at e
  | .pin o :: r, [], svs', i, ob, h, e => by simp [pinsAt] at h
  | .pin o :: r, none :: S, svs', i, ob, h, e => by simp [pinsAt] at h
  | .pin o :: r, some (.d d) :: S, svs', i, ob, h, e => by simp [pinsAt] at h
  | .pin o :: r, some (.own d) :: S, svs', i, ob, h, e => by simp [pinsAt] at h
  | .pin o :: r, some (.x d) :: S, svs', i, ob, h, e => by simp [pinsAt] at h
  | .pin o :: r, some (.pin o2) :: S, svs', i, ob, h, e => by
    simp only [pinsAt, Option.map_eq_some_iff] at h
    obtain ⟨t, h1, rfl⟩ := h
    cases i with
    | zero => simp at e; subst e; exact ⟨by simp, o, by simp⟩
    | succ i =>
      obtain ⟨h2, o3, h3⟩ := pinsAt_get (i := i) h1 (by simpa using e)
      exact ⟨by simpa using h2, o3, by simpa using h3⟩
  | .d d :: r, [], svs', i, ob, h, e => by simp [pinsAt] at h
  | .own d :: r, [], svs', i, ob, h, e => by simp [pinsAt] at h
  | .x d :: r, [], svs', i, ob, h, e => by simp [pinsAt] at h
  | .x d :: r, s0 :: S, svs', i, ob, h, e => by
    simp only [pinsAt, Option.map_eq_some_iff] at h
    obtain ⟨t, h1, rfl⟩ := h
    cases i with
    | zero => simp at e
    | succ i =>
      obtain ⟨h2, o3, h3⟩ := pinsAt_get (i := i) h1 (by simpa using e)
      exact ⟨by simpa using h2, o3, by simpa using h3⟩
  | .d d :: r, s0 :: S, svs', i, ob, h, e => by
    simp only [pinsAt, Option.map_eq_some_iff] at h
    obtain ⟨t, h1, rfl⟩ := h
    cases i with
    | zero => simp at e
    | succ i =>
      obtain ⟨h2, o3, h3⟩ := pinsAt_get (i := i) h1 (by simpa using e)
      exact ⟨by simpa using h2, o3, by simpa using h3⟩
  | .own d :: r, s0 :: S, svs', i, ob, h, e => by
    simp only [pinsAt, Option.map_eq_some_iff] at h
    obtain ⟨t, h1, rfl⟩ := h
    cases i with
    | zero => simp at e
    | succ i =>
      obtain ⟨h2, o3, h3⟩ := pinsAt_get (i := i) h1 (by simpa using e)
      exact ⟨by simpa using h2, o3, by simpa using h3⟩
section
variable {K : Fg} {w : World} {c : ClX} {T : List Addr} {N : List Str} {vs : List V} {svs : List SV} {H : Hp}
theorem startS_get {n i : Nat} {sv : SV} (h : (startS n svs)[i]? = some (some sv)) : svs[i]? = some sv := by
  unfold startS at h
  by_cases hi : i < svs.length
  · rw [List.getElem?_append_left (by simpa using hi), List.getElem?_map] at h
    cases e : svs[i]? with
    | none => rw [e] at h; cases h
    | some x => rw [e] at h; simpa using h
  · rw [List.getElem?_append_right (by simpa using hi)] at h
    rw [List.getElem?_replicate] at h
    split at h <;> cases h
theorem start_get {i : Nat} {x : V} (h : vs[i]? = some x) : (L2.start N vs)[i]? = some (some x) := by
  unfold L2.start
  have hi : i < vs.length := (List.getElem?_eq_some_iff.mp h).1
  rw [List.getElem?_append_left (by simpa using hi), List.getElem?_map, h]
  rfl
theorem rel_start (hl : svs.length ≤ N.length) (a : ArgsR K w c.clo H vs svs) (ht : ∀ P ∈ T, TabOk H P) (hself : c.self H) (E : XK) : Rel K ⟨H, pinL 0 vs svs, T, [], E, w, c⟩ (startS N.length svs) (L2.start N vs) H where
  len := by
    unfold startS L2.start
    simp only [List.length_append, List.length_map, List.length_replicate]
    rw [a.len]
  slot := fun i sv h => by
    have h2 := startS_get h
    obtain ⟨x, ex, ar⟩ := a.get i sv h2
    refine ⟨x, start_get ex, ?_⟩
    cases sv with
    | d d => exact ar
    | own ob => exact ar.elim
    | pin ob =>
      obtain ⟨b, rfl, q⟩ := ar
      exact ⟨b, rfl, q, mem_pinL.mpr ⟨Nat.zero_le _, ⟨ob, h2⟩, ex⟩⟩
    | x e =>
      cases e with
      | ro ob => exact ar.elim
      | fn k g => exact ar
      | loc j => exact ar.elim
  apart := fun i j b ne ⟨o1, h1⟩ ⟨o2, h2⟩ e1 e2 => by
    have k : ∀ {i o}, (startS N.length svs)[i]? = some (some (.own o)) ∨ (startS N.length svs)[i]? = some (some (.pin o)) → PinIx svs i := fun {i o} h => by
      rcases h with h | h
      · obtain ⟨x, _, ar⟩ := a.get i _ (startS_get h); exact ar.elim
      · exact ⟨o, startS_get h⟩
    have p1 := k h1
    have p2 := k h2
    have back : ∀ {i}, PinIx svs i → (L2.start N vs)[i]? = some (some (.ref b)) → vs[i]? = some (.ref b) := fun {i} ⟨o, h⟩ e => by
      obtain ⟨x, ex, _⟩ := a.get i _ h
      rw [start_get ex] at e
      cases e; exact ex
    exact a.apart i j b ne p1 p2 (back p1 e1) (back p2 e2)
  keep := fun _ _ e _ _ => e
  there := fun _ o e => ⟨o, e⟩
  tabs := ht
  self := hself
  held := fun _ h => nomatch h
/-- at a def's end -/
theorem left_of {E : XK} {S : FS} {σ : Sl} {H' : Hp} {svs' : List SV} (p : Pers H H') (r : Rel K ⟨H, pinL 0 vs svs, T, [], E, w, c⟩ S σ H') (e : pinsAt svs S = some svs') : Left K w T vs svs svs' H H' where
  pers := p
  keep := fun a o ho hn ht => r.keep a o ho (fun hm => by
    obtain ⟨⟨i, b⟩, h1, rfl⟩ := List.mem_map.mp hm
    obtain ⟨_, h2, h3⟩ := mem_pinL.mp h1
    exact hn ⟨i, h2, h3⟩) ht
  there := r.there
  tabs := r.tabs
  args := fun i ob a h1 h2 => by
    obtain ⟨h3, _⟩ := pinsAt_get e h1
    obtain ⟨x, ex, b, rfl, q, hp⟩ := r.slot i _ h3
    obtain ⟨_, _, h4⟩ := mem_pinL.mp hp
    have h5 : vs[i]? = some (.ref b) := h4
    rw [h2] at h5; cases h5; exact q
theorem ret_of {E : XK} {S : FS} {σ : Sl} {H' : Hp} {x : V} {v : SV} (h : VR K ⟨H, pinL 0 vs svs, T, [], E, w, c⟩ S σ H' x v) : RetR K w H H' x v := by
  cases v with
  | d d => exact h
  | own ob => obtain ⟨a, e, q, n, _⟩ := h; exact ⟨a, e, q, n⟩
  | pin ob => exact h.elim
  | x e => exact h.elim
end
/-- a function's promise, asked where no object is being shown -/
structure GOk (P : Program) (w : World) (K : Fg) (mg : Str → Option Value) (base : Heap) (k : Nat) (f : Addr) (fd : FuncData) (ps : List Str) (sp : Sp) : Prop where
  many : ∀ vs H Q E, sp vs H Q E → vs.length = ps.length
  go : ∀ (A : Around) (outer : List Env) (s : Shared) (H : Hp) (args : Args) (us : List Value) (vs : List V) (Q : VK) (E : XK), RoomG k A → Env0 P w K mg base A outer s H → BindsTo s fd args (ps.zip us) → Vals vs us → sp vs H Q E → codeAny (model P w) A (.call (.ref f) args) (CR CX0 outer P w H s Q E) s
/-- the body's den at the start, read -/
theorem den_read {K : Fg} {w : World} {c : ClX} {T : List Addr} {n : Nat} {fb : FS → SRes} {vs : List V} {svs : List SV} {H : Hp} {Q : VK} {E : XK} {N : List Str} (hn : N.length = n) (hl : svs.length ≤ N.length) (h2 : ArgsR K w c.clo H vs svs) (h3 : ∀ P ∈ T, TabOk H P) (hself : c.self H)
    (h4 : match denOf n fb svs with
      | .ok ret svs' => ∀ x H', Left K w T vs svs svs' H H' → RetR K w H H' x ret → Q x H'
      | .exn e svs' => ∀ c dx H', Left K w T vs svs svs' H H' → ExR K H' e c dx → E c dx H'
      | .bad => False) : rdS K ⟨H, pinL 0 vs svs, T, [], E, w, c⟩ fb { nx := fun _ H' => Q .non H', rt := Q } (L2.start N vs) H := by
  subst hn
  refine ⟨startS N.length svs, rel_start hl h2 h3 hself E, ?_⟩
  unfold denOf at h4
  cases e : fb (startS N.length svs) with
  | rt v S1 =>
    rw [e] at h4
    simp only at h4
    cases e2 : pinsAt svs S1 with
    | none => rw [e2] at h4; exact h4.elim
    | some svs' => rw [e2] at h4; exact fun x σ H' p r v => h4 x H' (left_of p r e2) (ret_of v)
  | nx S1 =>
    rw [e] at h4
    simp only at h4
    cases e2 : pinsAt svs S1 with
    | none => rw [e2] at h4; exact h4.elim
    | some svs' => rw [e2] at h4; exact fun σ H' p r => h4 .non H' (left_of p r e2) .non
  | exn e3 S1 =>
    rw [e] at h4
    simp only at h4
    cases e2 : pinsAt svs S1 with
    | none => rw [e2] at h4; exact h4.elim
    | some svs' => rw [e2] at h4; exact fun c dx σ H' p r v => h4 c dx H' (left_of p r e2) v
  | bk S1 => rw [e] at h4; exact h4.elim
  | ct S1 => rw [e] at h4; exact h4.elim
  | bad => rw [e] at h4; exact h4.elim
/-- THE RULE for a def: its body's den -/
theorem def_ok {P : Program} {w : World} {K : Fg} {mg : Str → Option Value} {base : Heap} {x qual : Str} {params : Arguments} {body : List Stmt} {scope : Scope} {f : Addr} {fd : FuncData} {N ps : List Str} {k : Nat} {T : List Addr} {fb : FS → SRes} {dvs : List V} {kws : List (Str × V)} {nfs : List FnT}
    (F : FunD K x qual params body scope dvs kws f fd) (S : FnScope N ps scope) (hl : ps.length ≤ N.length)
    (hb : ∀ (A : Around) (outer : List Env) (s : Shared) (H : Hp) (E1 : XK) (H0 : Hp) (pins : List (Nat × Addr)) (E : XK), RoomG k (A.deeper (envOfC qual scope s.heap.objs.size f fd.code)) → EB (cxOf CX0 P w K mg base N qual scope f fd.code A outer s H E1).nox ⟨H0, pins, T, [], E, w, cloX P w K mg base T (cxOf CX0 P w K mg base N qual scope f fd.code A outer s H E1).env.cells nfs⟩ body fb) :
    GOk P w K mg base (k + 1) f fd ps (spG P w K mg base T ps.length (denOf N.length fb)) := by
  obtain ⟨oc, od, dV, kV, doc, pm, an, cdv, ct, osl, rfl, lk, hcd, _, _⟩ := F.ex
  refine ⟨fun vs H Q E ⟨svs, h1, h2, _⟩ => h2.len.trans h1, fun A outer s H args us vs Q E hr e0 bt rv ⟨svs, h1, h2, h3, h4⟩ => ?_⟩
  have kin : K.In s.heap := e0.mod.kin.keeps fun a ob q => (e0.bs a ob q).1
  have nlim : s.heap.NoLimit := e0.mod.nolimit.keeps fun a ob q => (e0.bs a ob q).1
  -- the parameters are names of the def's own
  have names : ∀ y ∈ ps.zip us, scope.names.lookup y.1 = some .local ∨ (scope.names.lookup y.1 = some .cell ∧ ((cellsFrom (s.heap.objs.size + 1) scope.names []).lookup y.1).isSome = true) := fun y hy =>
    (S.par y.1 (List.of_mem_zip hy).1).imp id fun q => ⟨q, PySem.W.cellsFrom_some _ _ _ (.inl q)⟩
  refine codeAny_call_function hr.rm.depth (kin _ _ lk) rfl S.co S.gen rfl (PySem.W.codeRec_of kin hcd) (bt _ _ _ _ (wpAny_newFunctionEnv_cells S.kind names fun env he s1 x => ?_))
  subst he
  refine ⟨nlim.keeps x.toInCall.keep, codeAny_func ?_⟩
  have I := inv_start (CX := CX0) (E := E) S hr.rm.hd e0 (h2.len.trans h1) rv x
  have body_ := PSs.nox (hb A outer s H E H (pinL 0 vs svs) E (hr.deeper _))
  refine wpAny_mono (body_.run [] s1 _ H _ I (den_read rfl (by omega) h2 h3 trivial h4)) (fun fl s' q => ?_) fun _ _ q => q
  cases fl with
  | next => obtain ⟨σ2, H2, J, z⟩ := q; exact ⟨.non, H2, J.os, J.bare, J.base, J.hok, rfl, z⟩
  | ret u => obtain ⟨v, σ2, H2, J, rr, z⟩ := q; exact ⟨v, H2, J.os, J.bare, J.base, J.hok, rr, z⟩
  | brk => obtain ⟨_, _, _, z⟩ := q; exact z.elim
  | cont => obtain ⟨_, _, _, z⟩ := q; exact z.elim
/-! ### arguments: data, or a slot that is handed on -/
inductive AD where
  | d (x : D)
  | s (i : Nat)
def ADR (K : Fg) (H : Hp) (σ : Sl) (x : V) : AD → Prop
  | .d d => Pd K H x d
  | .s i => σ[i]? = some (some x)
def AS (K : Fg) (_ : Fx) (_ : FS) (σ : Sl) (H : Hp) (xs : List V) (as : List AD) : Prop := Paired (ADR K H σ) xs as
abbrev EAS (X : Cx) (F : Fx) (es : List Expr) (f : FS → Res (List AD)) : Prop := PA X es (rdG X.K F AS f)
abbrev EKS (X : Cx) (F : Fx) (es : List Keyword) (f : FS → Res (List AD)) : Prop := PK X es (rdG X.K F AS f)
theorem _root_.L2.PK.via {X : Cx} {e : List Keyword} {t t' : TA} (h : PK X e t) (hw : ∀ σ H Q, t' σ H Q → t σ H Q) : PK X e t' := ⟨fun p pins s σ H Q I q => h.run p pins s σ H Q I (hw σ H Q q)⟩
def fAD (f : FS → Res D) (g : FS → Res (List AD)) : FS → Res (List AD) := bnd f fun d => bnd g fun ds => fC (.d d :: ds)
def fAS (i : Nat) (g : FS → Res (List AD)) : FS → Res (List AD) := fun S => match S[i]? with
  | some (some _) => bnd g (fun ds => fC (.s i :: ds)) S
  | _ => .bad
section
variable {X : Cx} {F : Fx} {e : Expr} {es : List Expr} {f : FS → Res D} {g : FS → Res (List AD)} {pos kpos p : Pos} {kws : List Keyword} {nm : Option Str}
theorem as_nil : EAS X F [] (fC []) := pa_nil.via fun _ _ _ ⟨_, r, p⟩ => p.ok r .nil
theorem tConsD_of {t : TA} {σ : Sl} {H : Hp} {Q : List V → Hp → Prop} (ht : ∀ Q, rdG X.K F AS g σ H Q → t σ H Q) (h : rdG X.K F AS (fAD f g) σ H Q) : ∀ (hb : ∀ σ H Q, rdG X.K F AS g σ H Q → t σ H Q), tCons (rdG X.K F PR f) t σ H Q := fun hb =>
  (rdG.bind h).imp fun x H1 ⟨d, S1, r1, v1, p1, q1⟩ => hb _ _ _ ((rdG.bind (k := fun ds => fC (.d d :: ds)) (R' := AS) ⟨S1, r1, q1⟩).imp fun xs H2 ⟨ds, S2, r2, v2, p2, q2⟩ => q2.ok r2 (.cons (show ADR _ _ _ _ (.d d) from Pd.mono p2 v1) v2))
theorem tConsS_of {i : Nat} {t : TA} {σ : Sl} {H : Hp} {Q : List V → Hp → Prop} (h : rdG X.K F AS (fAS i g) σ H Q) (hb : ∀ σ H Q, rdG X.K F AS g σ H Q → t σ H Q) : tCons (tVar i) t σ H Q := by
  obtain ⟨S, r, p⟩ := h
  unfold fAS at p
  split at p
  · rename_i sv hs
    obtain ⟨x, ex, _⟩ := r.slot i _ hs
    exact ⟨x, ex, hb _ _ _ ((rdG.bind (k := fun ds => fC (.s i :: ds)) (R' := AS) ⟨S, r, p⟩).imp fun xs H2 ⟨ds, S2, r2, v2, p2, q2⟩ => q2.ok r2 (.cons (show ADR _ _ _ _ (.s i) from ex) v2))⟩
  · exact p.elim
theorem as_d (ha : ED X F e f) (hr : EAS X F es g) (hs : starEach (e :: es) X.env = (false, eval e X.env) :: starEach es X.env := by rfl) : EAS X F (e :: es) (fAD f g) :=
  (pa_cons ha hr hs).via fun σ H Q h => tConsD_of (fun _ h => h) h fun _ _ _ h => h
theorem as_s {i : Nat} (ha : PE X e (tVar i)) (hr : EAS X F es g) (hs : starEach (e :: es) X.env = (false, eval e X.env) :: starEach es X.env := by rfl) : EAS X F (e :: es) (fAS i g) :=
  (pa_cons ha hr hs).via fun σ H Q h => tConsS_of h fun _ _ _ h => h
theorem ks_nil : EKS X F [] (fC []) := pk_nil.via fun _ _ _ ⟨_, r, p⟩ => p.ok r .nil
theorem ks_d (ha : ED X F e f) (hr : EKS X F kws g) : EKS X F (⟨nm, e, kpos⟩ :: kws) (fAD f g) := (pk_cons ha hr).via fun σ H Q h => tConsD_of (fun _ h => h) h fun _ _ _ h => h
/-- the arguments as a callee takes them -/
def resolve (S : FS) : List AD → Option (List SV)
  | [] => some []
  | .d d :: r => (resolve S r).map (.d d :: ·)
  | .s i :: r => match S[i]? with
    | some (some (.own ob)) => (resolve S r).map (.pin ob :: ·)
    | some (some (.pin ob)) => (resolve S r).map (.pin ob :: ·)
    | _ => none
/-- the slots behind the call -/
def setOb (S : FS) (i : Nat) (ob : Ob) : FS := match S[i]? with
  | some (some (.pin _)) => S.set i (some (.pin ob))
  | _ => S.set i (some (.own ob))
def back : List AD → List SV → FS → Option FS
  | [], _, S => some S
  | .d _ :: r, _ :: svs, S => back r svs S
  | .s i :: r, .pin ob :: svs, S => back r svs (setOb S i ob)
  | _, _, _ => none
def slotsOf : List AD → List Nat
  | [] => []
  | .d _ :: r => slotsOf r
  | .s i :: r => i :: slotsOf r
/-- what a call does -/
def callD (den : Den) (as : List AD) : FS → Res SV := fun S => if (slotsOf as).Nodup then (match resolve S as with
  | some svs => (match den svs with
    | .ok ret svs' => (match back as svs' S with
      | some S' => .ok ret S'
      | none => .bad)
    | .exn e svs' => (match back as svs' S with
      | some S' => .exn e S'
      | none => .bad)
    | .bad => .bad)
  | none => .bad) else .bad
theorem setOb_length (S : FS) (i : Nat) (ob : Ob) : (setOb S i ob).length = S.length := by
  unfold setOb; split <;> exact List.length_set ..
theorem setOb_ne {S : FS} {i j : Nat} {ob : Ob} (h : j ≠ i) : (setOb S i ob)[j]? = S[j]? := by
  unfold setOb; split <;> exact List.getElem?_set_ne (Ne.symm h)
theorem setOb_get {S : FS} {i : Nat} {ob : Ob} (h : i < S.length) : (setOb S i ob)[i]? = some (some (match S[i]? with | some (some (.pin _)) => .pin ob | _ => .own ob)) := by
  unfold setOb
  split <;> rw [List.getElem?_set_self h]
theorem setOb_congr {S1 S2 : FS} {i : Nat} {ob : Ob} (hl : S1.length = S2.length) (h : S1[i]? = S2[i]?) : (setOb S1 i ob)[i]? = (setOb S2 i ob)[i]? := by
  by_cases hi : i < S1.length
  · rw [setOb_get hi, setOb_get (hl ▸ hi), h]
  · rw [List.getElem?_eq_none (by rw [setOb_length]; omega), List.getElem?_eq_none (by rw [setOb_length]; omega)]
theorem back_length : ∀ {as : List AD} {svs : List SV} {S S' : FS}, back as svs S = some S' → S'.length = S.length
  | [], _, S, S', h => by simp [back] at h; rw [h]
  | .d _ :: r, [], S, S', h => by simp [back] at h
  | .d _ :: r, _ :: svs, S, S', h => back_length (as := r) (by simpa [back] using h)
  | .s i :: r, [], S, S', h => by simp [back] at h
  | .s i :: r, .d _ :: svs, S, S', h => by simp [back] at h
  | .s i :: r, .own _ :: svs, S, S', h => by simp [back] at h
  | .s i :: r, .x _ :: svs, S, S', h => by simp [back] at h
  | .s i :: r, .pin ob :: svs, S, S', h => (back_length (as := r) (by simpa [back] using h)).trans (setOb_length ..)
theorem back_out {j : Nat} : ∀ {as : List AD} {svs : List SV} {S S' : FS}, back as svs S = some S' → j ∉ slotsOf as → S'[j]? = S[j]?
  | [], _, S, S', h, _ => by simp [back] at h; rw [h]
  | .d _ :: r, [], S, S', h, _ => by simp [back] at h
  | .d _ :: r, _ :: svs, S, S', h, hj => back_out (as := r) (by simpa [back] using h) hj
  | .s i :: r, [], S, S', h, _ => by simp [back] at h
  | .s i :: r, .d _ :: svs, S, S', h, _ => by simp [back] at h
  | .s i :: r, .own _ :: svs, S, S', h, _ => by simp [back] at h
  | .s i :: r, .x _ :: svs, S, S', h, _ => by simp [back] at h
  | .s i :: r, .pin ob :: svs, S, S', h, hj => by
    have h1 : j ≠ i := fun e => hj (by simp [slotsOf, e])
    have h2 : j ∉ slotsOf r := fun e => hj (by simp [slotsOf, e])
    exact (back_out (as := r) (by simpa [back] using h) h2).trans (setOb_ne h1)
theorem slots_mem {j : Nat} : ∀ {as : List AD}, j ∈ slotsOf as ↔ ∃ i : Nat, as[i]? = some (.s j)
  | [] => by simp [slotsOf]
  | .d x :: r => by
    rw [show slotsOf (.d x :: r) = slotsOf r from rfl, slots_mem (as := r)]
    constructor
    · rintro ⟨i, h⟩; exact ⟨i + 1, by simpa using h⟩
    · rintro ⟨i, h⟩
      cases i with
      | zero => simp at h
      | succ i => exact ⟨i, by simpa using h⟩
  | .s k :: r => by
    rw [show slotsOf (.s k :: r) = k :: slotsOf r from rfl, List.mem_cons, slots_mem (as := r)]
    constructor
    · rintro (rfl | ⟨i, h⟩)
      · exact ⟨0, rfl⟩
      · exact ⟨i + 1, by simpa using h⟩
    · rintro ⟨i, h⟩
      cases i with
      | zero => simp at h; exact .inl h.symm
      | succ i => exact .inr ⟨i, by simpa using h⟩
theorem slots_inj {j : Nat} : ∀ {as : List AD} {i i' : Nat}, (slotsOf as).Nodup → as[i]? = some (.s j) → as[i']? = some (.s j) → i = i'
  | [], i, i', _, h, _ => by simp at h
  | .d _ :: r, i, i', hn, h, h' => by
    cases i with
    | zero => simp at h
    | succ i =>
      cases i' with
      | zero => simp at h'
      | succ i' => exact congrArg Nat.succ (slots_inj (as := r) (i := i) (i' := i') (j := j) hn (by simpa using h) (by simpa using h'))
  | .s k :: r, i, i', hn, h, h' => by
    obtain ⟨n1, n2⟩ := List.nodup_cons.mp hn
    cases i with
    | zero =>
      cases i' with
      | zero => rfl
      | succ i' =>
        simp at h
        subst h
        exact absurd (slots_mem.mpr ⟨i', by simpa using h'⟩) n1
    | succ i =>
      cases i' with
      | zero =>
        simp at h'
        subst h'
        exact absurd (slots_mem.mpr ⟨i, by simpa using h⟩) n1
      | succ i' => exact congrArg Nat.succ (slots_inj (as := r) (i := i) (i' := i') (j := j) n2 (by simpa using h) (by simpa using h'))
theorem back_in {j : Nat} : ∀ {as : List AD} {svs : List SV} {S S' : FS} {i : Nat}, back as svs S = some S' → (slotsOf as).Nodup → as[i]? = some (.s j) →
    ∃ ob, svs[i]? = some (.pin ob) ∧ S'[j]? = (setOb S j ob)[j]?
  | [], _, S, S', i, h, _, e => by simp at e
  | .d _ :: r, [], S, S', i, h, _, _ => by simp [back] at h
  | .d _ :: r, _ :: svs, S, S', i, h, hn, e => by
    cases i with
    | zero => simp at e
    | succ i =>
      obtain ⟨ob, h1, h2⟩ := back_in (as := r) (i := i) (by simpa [back] using h) hn (by simpa using e)
      exact ⟨ob, by simpa using h1, h2⟩
  | .s k :: r, [], S, S', i, h, _, _ => by simp [back] at h
  | .s k :: r, .d _ :: svs, S, S', i, h, _, _ => by simp [back] at h
  | .s k :: r, .own _ :: svs, S, S', i, h, _, _ => by simp [back] at h
  | .s k :: r, .x _ :: svs, S, S', i, h, _, _ => by simp [back] at h
  | .s k :: r, .pin ob :: svs, S, S', i, h, hn, e => by
    obtain ⟨n1, n2⟩ := List.nodup_cons.mp hn
    have hb : back r svs (setOb S k ob) = some S' := by simpa [back] using h
    cases i with
    | zero =>
      simp at e
      subst e
      exact ⟨ob, by simp, back_out hb n1⟩
    | succ i =>
      have e' : r[i]? = some (.s j) := by simpa using e
      obtain ⟨ob2, h1, h2⟩ := back_in (as := r) (i := i) hb n2 e'
      have ne : j ≠ k := fun z => n1 (slots_mem.mpr ⟨i, by rw [← z]; exact e'⟩)
      exact ⟨ob2, by simpa using h1, h2.trans (setOb_congr (setOb_length ..) (setOb_ne ne))⟩
theorem res_get {S : FS} : ∀ {as : List AD} {svs : List SV}, resolve S as = some svs → svs.length = as.length ∧ ∀ (i : Nat) (sv : SV), svs[i]? = some sv → (∃ d, as[i]? = some (.d d) ∧ sv = .d d) ∨ ∃ j ob, as[i]? = some (.s j) ∧ sv = .pin ob ∧ (S[j]? = some (some (.own ob)) ∨ S[j]? = some (some (.pin ob)))
  | [], svs, h => by simp [resolve] at h; subst h; simp
  | .d x :: r, svs, h => by
    simp only [resolve, Option.map_eq_some_iff] at h
    obtain ⟨t, h1, rfl⟩ := h
    obtain ⟨l, g⟩ := res_get (as := r) h1
    refine ⟨by simp [l], fun i sv e => ?_⟩
    cases i with
    | zero => simp at e; subst e; exact .inl ⟨x, by simp, rfl⟩
    | succ i => simpa using g i sv (by simpa using e)
  | .s k :: r, svs, h => by
    simp only [resolve] at h
    have main : ∀ ob, (S[k]? = some (some (.own ob)) ∨ S[k]? = some (some (.pin ob))) → (resolve S r).map (SV.pin ob :: ·) = some svs → svs.length = (AD.s k :: r).length ∧ ∀ (i : Nat) (sv : SV), svs[i]? = some sv → (∃ d, (AD.s k :: r)[i]? = some (.d d) ∧ sv = .d d) ∨ ∃ j ob, (AD.s k :: r)[i]? = some (.s j) ∧ sv = .pin ob ∧ (S[j]? = some (some (.own ob)) ∨ S[j]? = some (some (.pin ob))) := by
      intro ob ho h
      simp only [Option.map_eq_some_iff] at h
      obtain ⟨t, h1, rfl⟩ := h
      obtain ⟨l, g⟩ := res_get (as := r) h1
      refine ⟨by simp [l], fun i sv e => ?_⟩
      cases i with
      | zero => simp at e; subst e; exact .inr ⟨k, ob, by simp, rfl, ho⟩
      | succ i => simpa using g i sv (by simpa using e)
    split at h
    · rename_i ob q; exact main ob (.inl q) h
    · rename_i ob q; exact main ob (.inr q) h
    · cases h
theorem paired_get {α β : Type} {R : α → β → Prop} : ∀ {xs : List α} {ys : List β} {i : Nat} {y : β}, Paired R xs ys → ys[i]? = some y → ∃ x, xs[i]? = some x ∧ R x y
  | _, _, _, _, .nil, e => by simp at e
  | _, _, 0, _, .cons h _, e => by simp at e; subst e; exact ⟨_, rfl, h⟩
  | _, _, i + 1, y, .cons _ r, e => by
    obtain ⟨x, h1, h2⟩ := paired_get (i := i) r (by simpa using e)
    exact ⟨x, by simpa using h1, h2⟩
theorem paired_len {α β : Type} {R : α → β → Prop} : ∀ {xs : List α} {ys : List β}, Paired R xs ys → xs.length = ys.length
  | _, _, .nil => rfl
  | _, _, .cons _ r => by rw [List.length_cons, List.length_cons, paired_len r]
section
variable {K : Fg} {F : Fx} {S S' : FS} {σ : Sl} {H H' : Hp} {vs : List V} {as : List AD} {svs svs' : List SV}
theorem args_of (r : Rel K F S σ H) (v : Paired (ADR K H σ) vs as) (hn : (slotsOf as).Nodup) (e : resolve S as = some svs) : ArgsR K F.w F.cl.clo H vs svs ∧
    ∀ i, PinIx svs i → ∃ j a, as[i]? = some (.s j) ∧ vs[i]? = some (.ref a) ∧ σ[j]? = some (some (.ref a)) ∧ Owned S j := by
  obtain ⟨l, g⟩ := res_get e
  have pin : ∀ i, PinIx svs i → ∃ j a, as[i]? = some (.s j) ∧ vs[i]? = some (.ref a) ∧ σ[j]? = some (some (.ref a)) ∧ Owned S j := fun i ⟨ob, h⟩ => by
    rcases g i _ h with ⟨d, _, z⟩ | ⟨j, ob2, h1, h2, h3⟩
    · cases z
    · cases h2
      obtain ⟨x, ex, hx⟩ := paired_get v h1
      obtain ⟨a, ea, _, _⟩ := r.obj h3
      have hx' : σ[j]? = some (some x) := hx
      rw [ea] at hx'; cases hx'
      exact ⟨j, a, h1, ex, ea, ob, h3⟩
  refine ⟨⟨(paired_len v).trans l.symm, fun i sv h => ?_, fun i j a ne hi hj e1 e2 => ?_⟩, pin⟩
  · rcases g i _ h with ⟨d, h1, rfl⟩ | ⟨j, ob, h1, rfl, h3⟩
    · obtain ⟨x, ex, hx⟩ := paired_get v h1
      exact ⟨x, ex, hx⟩
    · obtain ⟨x, ex, hx⟩ := paired_get v h1
      obtain ⟨a, ea, q, _⟩ := r.obj h3
      have hx' : σ[j]? = some (some x) := hx
      rw [ea] at hx'; cases hx'
      exact ⟨_, ex, a, rfl, q⟩
  · obtain ⟨j1, a1, h1, h2, h3, h4⟩ := pin i hi
    obtain ⟨j2, a2, k1, k2, k3, k4⟩ := pin j hj
    rw [e1] at h2; cases h2
    rw [e2] at k2; cases k2
    have nj : j1 ≠ j2 := fun z => ne (slots_inj hn h1 (z ▸ k1))
    exact r.apart j1 j2 a nj h4 k4 h3 k3
theorem rel_back (r : Rel K F S σ H) (v : Paired (ADR K H σ) vs as) (hn : (slotsOf as).Nodup) (e : resolve S as = some svs) (hl : Left K F.w F.tabs vs svs svs' H H') (hb : back as svs' S = some S') : Rel K F S' σ H' := by
  obtain ⟨ar, pin⟩ := args_of r v hn e
  obtain ⟨l, g⟩ := res_get e
  -- a pinned address stands in a handed slot
  have pinad : ∀ a, PinAd vs svs a → ∃ j, j ∈ slotsOf as ∧ σ[j]? = some (some (.ref a)) ∧ Owned S j := fun a ⟨i, hi, h⟩ => by
    obtain ⟨j, a1, h1, h2, h3, h4⟩ := pin i hi
    rw [h] at h2; cases h2
    exact ⟨j, slots_mem.mpr ⟨i, h1⟩, h3, h4⟩
  have own : ∀ j, Owned S' j → Owned S j := fun j ⟨ob, h⟩ => by
    by_cases hj : j ∈ slotsOf as
    · obtain ⟨i, hi⟩ := slots_mem.mp hj
      obtain ⟨x, ex, hx⟩ := paired_get v hi
      have hi2 : i < svs.length := by rw [l]; exact (List.getElem?_eq_some_iff.mp hi).1
      rcases g i _ (List.getElem?_eq_getElem hi2) with ⟨d, z, _⟩ | ⟨j2, ob2, z, _, h3⟩
      · rw [hi] at z; cases z
      · rw [hi] at z; cases z; exact ⟨ob2, h3⟩
    · rw [back_out hb hj] at h; exact ⟨ob, h⟩
  have kept : ∀ j b, j ∉ slotsOf as → Owned S j → σ[j]? = some (some (.ref b)) → H' b = H b := fun j b hj oj eb => by
    obtain ⟨ob, h⟩ := oj
    obtain ⟨b2, eb2, q, _⟩ := r.obj h
    rw [eb] at eb2; cases eb2
    obtain ⟨u, eu, _, nt⟩ := q.there
    rw [eu]
    refine hl.keep b u eu (fun hp => ?_) nt
    obtain ⟨j2, m2, e2, o2⟩ := pinad b hp
    exact r.apart j j2 b (fun z => hj (z ▸ m2)) ⟨ob, h⟩ o2 eb e2
  have kp : ∀ a o, F.H0 a = some o → a ∉ F.pins.map (·.2) → isTbl o = false → H' a = some o := fun a o ho hp ht => by
    have h1 := r.keep a o ho hp ht
    refine hl.keep a o h1 (fun hpa => ?_) ht
    obtain ⟨j, _, e2, ob, h2⟩ := pinad a hpa
    obtain ⟨b, eb, _, q⟩ := r.obj h2
    rw [e2] at eb; cases eb
    rcases q with q | q
    · rw [ho] at q; cases q
    · exact hp q
  refine ⟨(back_length hb).trans r.len, fun j sv h => ?_, fun i j a ne hi hj => r.apart i j a ne (own i hi) (own j hj), kp, fun a o ho => ?_, hl.tabs, F.cl.selfM hl.pers r.self, fun p hp => ?_⟩
  · by_cases hj : j ∈ slotsOf as
    · obtain ⟨i, hi⟩ := slots_mem.mp hj
      have hi2 : i < svs.length := by rw [l]; exact (List.getElem?_eq_some_iff.mp hi).1
      rcases g i _ (List.getElem?_eq_getElem hi2) with ⟨d, z, _⟩ | ⟨j2, ob2, z, ep, h3⟩
      · rw [hi] at z; cases z
      · rw [hi] at z; cases z
        obtain ⟨j3, a, q1, q2, q3, q4⟩ := pin i ⟨ob2, by rw [List.getElem?_eq_getElem hi2, ep]⟩
        rw [hi] at q1; cases q1
        obtain ⟨ob, h4, h5⟩ := back_in hb hn hi
        have ok := hl.args i ob a h4 q2
        have hjl : j < S.length := by rcases h3 with z | z <;> exact (List.getElem?_eq_some_iff.mp z).1
        rw [h5] at h
        refine ⟨_, q3, ?_⟩
        unfold setOb at h
        rcases h3 with h3 | h3
        · rw [h3] at h
          simp only at h
          rw [List.getElem?_set_self hjl] at h
          cases h
          obtain ⟨x, ex, b, eb, _, n⟩ := r.slot j _ h3
          rw [q3] at ex; cases ex; cases eb
          exact ⟨a, rfl, ok, n⟩
        · rw [h3] at h
          simp only at h
          rw [List.getElem?_set_self hjl] at h
          cases h
          obtain ⟨x, ex, b, eb, _, n⟩ := r.slot j _ h3
          rw [q3] at ex; cases ex; cases eb
          exact ⟨a, rfl, ok, n⟩
    · rw [back_out hb hj] at h
      obtain ⟨x, ex, w⟩ := r.slot j sv h
      refine ⟨x, ex, ?_⟩
      cases sv with
      | d d => exact Pd.mono hl.pers w
      | own ob =>
        obtain ⟨b, rfl, q, n⟩ := w
        exact ⟨b, rfl, q.later hl.pers (kept j b hj ⟨ob, .inl h⟩ ex), n⟩
      | pin ob =>
        obtain ⟨b, rfl, q, n⟩ := w
        exact ⟨b, rfl, q.later hl.pers (kept j b hj ⟨ob, .inr h⟩ ex), n⟩
      | x e => exact SxR.later w hl.pers r.keep kp
  · obtain ⟨u, hu⟩ := r.there a o ho
    exact hl.there a u hu
  · obtain ⟨⟨h1, em⟩, h2, h3⟩ := r.held p hp
    refine ⟨⟨hl.keep _ _ h1 (fun hpa => ?_) (mut_tbl em), em⟩, h2, fun i hi => h3 i (own i hi)⟩
    obtain ⟨j, _, e2, oj⟩ := pinad _ hpa
    exact h3 j oj e2
theorem vr_back (r : Rel K F S σ H) (r2 : Rel K F S' σ H') (how : ∀ j, Owned S' j → Owned S j) {x : V} {ret : SV} (h : RetR K F.w H H' x ret) : VR K F S' σ H' x ret := by
  cases ret with
  | d d => exact h
  | own ob =>
    obtain ⟨a, rfl, q, n⟩ := h
    exact ⟨a, rfl, q, r.none0 n, fun i hi => r.unslot n (how i hi), fun p hp e => by obtain ⟨⟨z, _⟩, _⟩ := r.held p hp; rw [e, n] at z; cases z⟩
  | pin ob => exact h.elim
  | x e => exact h.elim
theorem own_back (hn : (slotsOf as).Nodup) (e : resolve S as = some svs) (hb : back as svs' S = some S') : ∀ j, Owned S' j → Owned S j := fun j ⟨ob, h⟩ => by
  obtain ⟨l, g⟩ := res_get e
  by_cases hj : j ∈ slotsOf as
  · obtain ⟨i, hi⟩ := slots_mem.mp hj
    have hi2 : i < svs.length := by rw [l]; exact (List.getElem?_eq_some_iff.mp hi).1
    rcases g i _ (List.getElem?_eq_getElem hi2) with ⟨d, z, _⟩ | ⟨j2, ob2, z, _, h3⟩
    · rw [hi] at z; cases z
    · rw [hi] at z; cases z; exact ⟨ob2, h3⟩
  · rw [back_out hb hj] at h; exact ⟨ob, h⟩
/-- a call's reading: the callee's promise -/
theorem call_in {den : Den} {n : Nat} {Q : VK} (r : Rel K F S σ H) (v : Paired (ADR K H σ) vs as) (hl : as.length = n) (p : postG K F VR (callD den as S) σ H Q) : spF K F.w F.cl.clo F.tabs n den vs H Q F.E := by
  unfold callD at p
  by_cases hn : (slotsOf as).Nodup
  · rw [if_pos hn] at p
    cases e : resolve S as with
    | none => rw [e] at p; exact p.elim
    | some svs =>
      rw [e] at p
      simp only at p
      obtain ⟨ar, _⟩ := args_of r v hn e
      refine ⟨svs, (res_get e).1.trans hl, ar, r.tabs, ?_⟩
      cases e2 : den svs with
      | bad => rw [e2] at p; exact p
      | ok ret svs' =>
        rw [e2] at p
        simp only at p
        intro x H' lf rr
        cases e3 : back as svs' S with
        | none => rw [e3] at p; exact p.elim
        | some S' =>
          rw [e3] at p
          have r2 := rel_back r v hn e lf e3
          exact p x H' lf.pers r2 (vr_back r r2 (own_back hn e e3) rr)
      | exn ex svs' =>
        rw [e2] at p
        simp only at p
        intro c dx H' lf rr
        cases e3 : back as svs' S with
        | none => rw [e3] at p; exact p.elim
        | some S' =>
          rw [e3] at p
          exact p c dx H' lf.pers (rel_back r v hn e lf e3) rr
  · rw [if_neg hn] at p; exact p.elim
end
def fCallP (den : Den) (n : Nat) (f : FS → Res (List AD)) : FS → Res SV := bnd f fun as => if as.length = n then callD den as else fun _ => .bad
/-- how a def of the text is called: all that a call asks -/
structure Fn (P : Program) (w : World) (K : Fg) (mg : Str → Option Value) (base : Heap) (T : List Addr) (k : Nat) (x : Str) (ps : List Str) (n : Nat) (den : Den) : Prop where
  ex : ∃ f fd, GOk P w K mg base k f fd ps (spG P w K mg base T n den) ∧ mg x = some (.ref f) ∧ PySem.W.keepIn K (.ref f) = true ∧ Binds K fd ps []
theorem run_g {k : Nat} {f : Addr} {fd : FuncData} {ps : List Str} {sp : Sp} {pins : List (Addr × Obj)} {σ : L2.St} {H : Hp} {s : Shared} {Q : VK} {E : XK} {args : Args} {us : List Value} {vs : List V} (G : GOk X.prog X.w X.K X.mg X.base k f fd ps sp) (hr : RoomG k X.A)
    (I : Inv X pins σ H s) (hb : BindsTo s fd args (ps.zip us)) (r : Vals vs us) (h : sp vs H Q E) : codeAny (model X.prog X.w) X.A (.call (.ref f) args) (fun r s' => match r with
      | .ok (.ret u) => EP X pins σ Q u s'
      | .ok _ => False
      | .error e => X.xe e s') s :=
  codeAny_mono (G.go X.A X.stack s H args us vs Q E hr I.env0 hb r h) fun r s' q => match r, q with
    | .ok (.ret _), q => I.after q
theorem e_call {den : Den} {k j n : Nat} {x : Str} {ps : List Str} {g : FS → Res (List AD)} (G : Fn X.prog X.w X.K X.mg X.base F.tabs k x ps n den) (hr : RoomG j X.A) (hk : k ≤ j) (hg : Gl X x) (ha : EAS X F (e :: es) g)
    (hw : F.w = X.w := by rfl) (hcl : F.cl.clo = CloOk X.prog X.w X.K X.mg X.base F.tabs := by rfl) (hdb : (x == ("__debug__" : Str)) = false := by decide) (he : starEach (e :: es) X.env = (false, eval e X.env) :: starEach es X.env := by rfl) (hpl : (backTo pos (starEach es X.env)).any (·.1) = false := by rfl) :
    EV X F (.Call (.Name x p) (e :: es) [] pos) (fCallP den n g) := by
  obtain ⟨f, fd, F1, hm, kp, b⟩ := G.ex
  refine ⟨fun pins s σ H Q I h => wpAny_Call_Name_kw (ld_glob I hg hm ?_ hdb)⟩
  refine PySem.W.callWith_K (h₀ := X.base) I.ok.mod.kin kp (thn (ha.run pos pins s σ H _ I (rdG.bind h)) fun us s1 ⟨vs, H1, I1, rv, as, S1, r, v, p, q⟩ => ⟨I1.kIn, ?_⟩) he hpl
  split at q
  · rename_i hl
    have sp := call_in r v hl q
    rw [hw, hcl] at sp
    have hn : us.length = ps.length := rv.length.symm.trans (F1.many _ _ _ _ sp)
    have bd := b s1 us I1.kIn (by rw [List.append_nil]; exact hn)
    rw [List.append_nil] at bd
    exact wpAny_call (run_g F1 (hr.mono hk) I1 bd rv sp)
  · exact q.elim
end
end Fz
end

section
set_option Elab.async false
set_option linter.all false
set_option maxRecDepth 100000
set_option maxHeartbeats 4000000
/-! F8: several values at once, keywords, chains, is of bools. -/
namespace Fz
open PySem PySem.Spec PyProof.Rows L2
/-! ### x is True -/
theorem is_bool_gen {M : Model} {A : Around} {E : Value → Shared → Prop} {s : Shared} {Q : Value → Shared → Prop} {v : Value} {b : Bool} (hv : ∀ id, v ≠ .builtin id) (h : Q (.bool (v == .bool b)) s) : wpAny M A (compareOp .Is v (.bool b)) Q E s := by
  cases v <;> first | exact wpAny_pure h | exact absurd rfl (hv _)
theorem relV_nobuiltin {x : V} {v : Value} (r : RelV x v) : ∀ id, v ≠ .builtin id := fun id e => by
  subst e
  cases x with
  | int _ => obtain ⟨t, e⟩ := r; cases e
  | str _ => obtain ⟨t, e⟩ := r; cases e
  | byt _ => obtain ⟨t, e⟩ := r; cases e
  | flt _ => obtain ⟨t, e⟩ := r; cases e
  | _ => cases r
theorem relV_bool {x : V} {v : Value} {b : Bool} (r : RelV x v) : (v == Value.bool b) = decide (x = .bl b) := by
  cases x with
  | non => cases r; rfl
  | bl c =>
    cases r
    by_cases e : c = b
    · subst e; simp
    · rw [decide_eq_false (fun z => e (V.bl.inj z))]
      exact beq_eq_false_iff_ne.mpr fun z => e (Value.bool.inj z)
  | int _ => obtain ⟨t, rfl⟩ := r; rfl
  | str _ => obtain ⟨t, rfl⟩ := r; rfl
  | byt _ => obtain ⟨t, rfl⟩ := r; rfl
  | flt _ => obtain ⟨t, rfl⟩ := r; rfl
  | ref _ => cases r; rfl
  | ty _ => cases r; rfl
def dIsB (b : Bool) : D → Bool
  | .bool c => c == b
  | _ => false
theorem Qd.isBool {K : Fg} {H : Hp} {x : V} {d : D} {b : Bool} (h : Qd K H x d) : decide (x = .bl b) = dIsB b d := by
  rcases h with h | ⟨a, vs, ds, rfl, rfl, h, r⟩
  · cases h with
    | bl c => cases c <;> cases b <;> rfl
    | _ => rfl
  · rfl
def pIsB (d e : D) : FS → Res D := fun S => match e with
  | .bool b => .ok (.bool (dIsB b d)) S
  | .none => .ok (.bool (dNone d)) S
  | _ => .bad
section
variable {X : Cx} {F : Fx}
theorem op_isBF : OpF X F PR (compareOp .Is) pIsB := by
  intro pins s σ0 H x y v u Q I rx ry ⟨S, σ, d, e, r, hx, hy, p⟩
  cases e with
  | bool b =>
    cases hy.bl
    cases (show u = Value.bool b from ry)
    refine is_bool_gen (relV_nobuiltin rx) ?_
    rw [relV_bool rx, hx.isBool]
    exact ⟨.bl _, H, I, rfl, p.ok r (Pd.bl _)⟩
  | none => exact op_isN pins s σ0 H x y v u Q I rx ry ⟨hy.non, by rw [hx.isNone]; exact p.ok r (Pd.bl _)⟩
  | _ => exact p.elim
end
/-! ### several own values at once -/
inductive AVR (K : Fg) (F : Fx) (S : FS) (σ : Sl) (H : Hp) : List V → List SV → Prop
  | nil : AVR K F S σ H [] []
  | cons {x : V} {sv : SV} {xs : List V} {svs : List SV} (h : VR K F S σ H x sv) (n : ∀ (ob : Ob) (a : Addr), sv = .own ob → x = .ref a → ∀ (i : Nat) (ob' : Ob), svs[i]? = some (.own ob') → xs[i]? ≠ some (.ref a)) (r : AVR K F S σ H xs svs) : AVR K F S σ H (x :: xs) (sv :: svs)
abbrev EAV (X : Cx) (F : Fx) (es : List Expr) (f : FS → Res (List SV)) : Prop := PA X es (rdG X.K F AVR f)
def Fx.hold (F : Fx) (a : Addr) (u : HO) : Fx := { F with held := (a, u) :: F.held }
def fConsV (f : FS → Res SV) (g : FS → Res (List SV)) : FS → Res (List SV) := bnd f fun d => match d with
  | .d d => bnd g fun ds => fC (.d d :: ds)
  | .own ob => bnd g fun ds => fC (.own ob :: ds)
  | _ => fun _ => .bad
section
variable {X : Cx} {F : Fx} {e : Expr} {es : List Expr} {f : FS → Res SV} {g : FS → Res (List SV)} {pos : Pos}
theorem av_nil : EAV X F [] (fC []) := pa_nil.via fun _ _ _ ⟨_, r, p⟩ => p.ok r .nil
def jAV (K : Fg) (F : Fx) (g : FS → Res (List SV)) : TA := fun σ H Q => rdG K F AVR g σ H Q ∨ ∃ a vs, rdG K (F.hold a vs) AVR g σ H Q
theorem av_unhold {K : Fg} {F : Fx} {S : FS} {σ : Sl} {H : Hp} {a : Addr} {vs : HO} {xs : List V} {svs : List SV} (h : AVR K (F.hold a vs) S σ H xs svs) : AVR K F S σ H xs svs ∧ ∀ (i : Nat) (ob : Ob), svs[i]? = some (.own ob) → xs[i]? ≠ some (.ref a) := by
  induction h with
  | nil => exact ⟨.nil, fun i ob h => by simp at h⟩
  | @cons x sv xs svs h n r ih =>
    refine ⟨.cons ?_ n ih.1, fun i ob h1 h2 => ?_⟩
    · cases sv with
      | d d => exact h
      | own ob => obtain ⟨b, e, q, n0, nu, nh⟩ := h; exact ⟨b, e, q, n0, nu, fun p hp => nh p (List.mem_cons_of_mem _ hp)⟩
      | pin ob => exact h
      | x e => exact h
    · cases i with
      | zero =>
        simp at h1 h2
        subst h1
        obtain ⟨b2, e, q, n0, nu, nh⟩ := h
        rw [h2] at e; cases e
        exact nh (a, vs) (List.mem_cons_self ..) rfl
      | succ i => exact ih.2 i ob (by simpa using h1) (by simpa using h2)
theorem rel_hold {K : Fg} {F : Fx} {S : FS} {σ : Sl} {H : Hp} {a : Addr} {vs : HO} (r : Rel K F S σ H) (h : H a = some vs) (hm : Mut (some vs)) (h0 : F.H0 a = none) (hu : ∀ i, Owned S i → σ[i]? ≠ some (some (.ref a))) : Rel K (F.hold a vs) S σ H := by
  refine ⟨r.len, r.slot, r.apart, r.keep, r.there, r.tabs, r.self, fun p hp => ?_⟩
  rcases List.mem_cons.mp hp with e | hp
  · subst e; exact ⟨⟨h, hm⟩, h0, hu⟩
  · exact r.held p hp
theorem rel_unhold {K : Fg} {F : Fx} {S : FS} {σ : Sl} {H : Hp} {a : Addr} {vs : HO} (r : Rel K (F.hold a vs) S σ H) : Rel K F S σ H :=
  ⟨r.len, r.slot, r.apart, r.keep, r.there, r.tabs, r.self, fun p hp => r.held p (List.mem_cons_of_mem _ hp)⟩
theorem av_cons (ha : EV X F e f) (hr : EAV X F es g) (hr2 : ∀ a vs, EAV X (F.hold a vs) es g) (hs : starEach (e :: es) X.env = (false, eval e X.env) :: starEach es X.env := by rfl) : EAV X F (e :: es) (fConsV f g) := by
  have hj : PA X es (jAV X.K F g) := ⟨fun p pins s σ H Q I h => by
    rcases h with h | ⟨a, vs, h⟩
    · exact hr.run p pins s σ H Q I h
    · exact (hr2 a vs).run p pins s σ H Q I h⟩
  refine (pa_cons ha hj hs).via fun σ H Q h => (rdG.bind h).imp fun x H1 ⟨d, S1, r1, v1, p1, q1⟩ => ?_
  cases d with
  | d d =>
    exact .inl ((rdG.bind (k := fun ds => fC (.d d :: ds)) (R' := AVR) ⟨S1, r1, q1⟩).imp fun xs H2 ⟨ds, S2, r2, v2, p2, q2⟩ => q2.ok r2 (.cons (show VR _ _ _ _ _ _ (.d d) from Pd.mono p2 v1) (fun _ _ e => nomatch e) v2))
  | own ob =>
    obtain ⟨a, rfl, qo, n0, nu, nh⟩ := v1
    obtain ⟨u, hu, mu, _⟩ := qo.there
    have rh := rel_hold r1 hu mu n0 nu
    refine .inr ⟨a, u, ⟨S1, rh, ?_⟩⟩
    simp only [bnd] at q1
    cases e2 : g S1 with
    | bad => rw [e2] at q1; exact q1
    | exn e3 S2 => rw [e2] at q1; exact fun c dx H2 p2 r2 w => q1 c dx H2 p2 (rel_unhold r2) w
    | ok ds S2 =>
      rw [e2] at q1
      intro xs H2 p2 r2 v2
      have hh := r2.held (a, u) (List.mem_cons_self ..)
      obtain ⟨v3, ne⟩ := av_unhold v2
      exact q1 _ H2 p2 (rel_unhold r2) (.cons (show VR _ _ _ _ _ _ (.own ob) from ⟨a, rfl, qo.later p2 (hh.1.1.trans hu.symm), n0, hh.2.2, nh⟩) (fun _ _ _ e i ob' h1 => by cases e; exact ne i ob' h1) v3)
  | pin ob => exact v1.elim
  | x e => exact v1.elim
/-- a, b, c = x, y, z: all stored -/
def setsV : List Nat → List SV → FS → Option FS
  | [], [], S => some S
  | i :: is, v :: vs, S => setsV is vs (S.set i (some v))
  | _, _, _ => none
def setsX : List Nat → List V → Sl → Sl
  | i :: is, x :: xs, σ => setsX is xs (σ.set i (some x))
  | _, _, σ => σ
def fPars (is : List Nat) (f : FS → Res (List SV)) : FS → SRes := bndS f fun vs S => match setsV is vs S with
  | some S' => .nx S'
  | none => .bad
theorem vr_set {K : Fg} {F : Fx} {S : FS} {σ : Sl} {H : Hp} {i : Nat} {x y : V} {v w : SV} (hy : VR K F S σ H y w) (hx : VR K F S σ H x v) (n : ∀ (ob : Ob) (a : Addr), v = .own ob → x = .ref a → ∀ ob', w = .own ob' → y ≠ .ref a) : VR K F (S.set i (some v)) (σ.set i (some x)) H y w := by
  cases w with
  | d d => exact hy
  | pin ob => exact hy
  | x e => exact hy
  | own ob =>
    obtain ⟨b, e, q, n0, nu, nh⟩ := hy
    refine ⟨b, e, q, n0, fun j hj hs => ?_, nh⟩
    obtain ⟨ob2, hj⟩ := hj
    by_cases hji : j = i
    · subst hji
      by_cases hl : j < S.length
      · rw [List.getElem?_set_self hl] at hj
        have hl2 : j < σ.length := by
          by_cases hl2 : j < σ.length
          · exact hl2
          · rw [List.getElem?_eq_none (by rw [List.length_set]; omega)] at hs; cases hs
        rw [List.getElem?_set_self hl2] at hs
        cases hs
        rcases hj with hj | hj
        · cases hj; exact n ob2 b rfl rfl ob rfl e
        · cases hj; exact hx.elim
      · rw [List.getElem?_eq_none (by rw [List.length_set]; omega)] at hj
        rcases hj with hj | hj <;> cases hj
    · rw [List.getElem?_set_ne (Ne.symm hji)] at hj hs
      exact nu j ⟨ob2, hj⟩ hs
theorem sets_rel {K : Fg} {F : Fx} {H : Hp} : ∀ {is : List Nat} {xs : List V} {svs : List SV} {S S' : FS} {σ : Sl}, Rel K F S σ H → AVR K F S σ H xs svs → setsV is svs S = some S' → xs.length = is.length ∧ Rel K F S' (setsX is xs σ) H
  | [], [], [], S, S', σ, r, v, e => by simp [setsV] at e; subst e; exact ⟨rfl, r⟩
  | [], _, _ :: _, S, S', σ, r, v, e => by simp [setsV] at e
  | i :: is, _, [], S, S', σ, r, v, e => by simp [setsV] at e
  | i :: is, x :: xs, sv :: svs, S, S', σ, r, v, e => by
    cases v with
    | cons h n rr =>
      have key : ∀ {ys : List V} {ws : List SV}, AVR K F S σ H ys ws → (∀ (ob : Ob) (a : Addr), sv = .own ob → x = .ref a → ∀ (i : Nat) (ob' : Ob), ws[i]? = some (.own ob') → ys[i]? ≠ some (.ref a)) → AVR K F (S.set i (some sv)) (σ.set i (some x)) H ys ws := by
        intro ys ws hv
        induction hv with
        | nil => exact fun _ => .nil
        | cons h2 n2 r2 ih =>
          intro hn
          exact .cons (vr_set h2 h fun ob a e1 e2 ob' e3 e4 => hn ob a e1 e2 0 ob' (by simp [e3]) (by simp [e4])) n2 (ih fun ob a e1 e2 j ob' h1 => by
            have := hn ob a e1 e2 (j + 1) ob' (by simpa using h1)
            simpa using this)
      obtain ⟨l, q⟩ := sets_rel (is := is) (xs := xs) (svs := svs) (r.setV h) (key rr n) (by simpa [setsV] using e)
      exact ⟨by simp [l], q⟩
theorem s_par2 {i j : Nat} {x y : Str} {a b : Expr} {f : FS → Res (List SV)} {px py pt : Pos} {kt k2 : Nat} {pt2 : Pos} (hc : X.calm = true) (hN : X.N.Nodup) (hi : X.N[i]? = some x) (hj : X.N[j]? = some y) (hij : i ≠ j)
    (hx : X.env.scope.names.lookup x = some .local) (hy : X.env.scope.names.lookup y = some .local) (ha : EAV X F [a, b] f)
    (hw : swappedStores [.Tuple [.Name x px, .Name y py] kt pt] (.Tuple [a, b] k2 pt2) X.env = pure (some [x, y]))
    (hs : swapsWithSole [.Tuple [.Name x px, .Name y py] kt pt] (.Tuple [a, b] k2 pt2) pos.line X.env = pure false := by rfl) :
    ES X F (.Assign [.Tuple [.Name x px, .Name y py] kt pt] (.Tuple [a, b] k2 pt2) pos) (fPars [i, j] f) :=
  (ps_par hc hN hi hj hij hx hy ha hw hs).via fun D σ H h => (rdG.bindS h).imp fun xs H1 ⟨ds, S1, r, v, p, q⟩ => by
    cases e : setsV [i, j] ds S1 with
    | none => rw [e] at q; exact q.elim
    | some S2 =>
      rw [e] at q
      obtain ⟨l, r2⟩ := sets_rel r v e
      match xs, l with
      | [u, w], _ => exact ⟨u, w, rfl, q _ _ (.refl H1) r2⟩
theorem s_par3 {i j l : Nat} {x y z : Str} {a b c : Expr} {f : FS → Res (List SV)} {px py pz pt : Pos} {kt k2 : Nat} {pt2 : Pos} (hc : X.calm = true) (hN : X.N.Nodup) (hi : X.N[i]? = some x) (hj : X.N[j]? = some y) (hl : X.N[l]? = some z) (hij : i ≠ j) (hil : i ≠ l) (hjl : j ≠ l)
    (hx : X.env.scope.names.lookup x = some .local) (hy : X.env.scope.names.lookup y = some .local) (hz : X.env.scope.names.lookup z = some .local) (ha : EAV X F [a, b, c] f)
    (hw : swappedStores [.Tuple [.Name x px, .Name y py, .Name z pz] kt pt] (.Tuple [a, b, c] k2 pt2) X.env = pure (some [x, y, z]))
    (hs : swapsWithSole [.Tuple [.Name x px, .Name y py, .Name z pz] kt pt] (.Tuple [a, b, c] k2 pt2) pos.line X.env = pure false := by rfl) :
    ES X F (.Assign [.Tuple [.Name x px, .Name y py, .Name z pz] kt pt] (.Tuple [a, b, c] k2 pt2) pos) (fPars [i, j, l] f) :=
  (ps_par3 hc hN hi hj hl hij hil hjl hx hy hz ha hw hs).via fun D σ H h => (rdG.bindS h).imp fun xs H1 ⟨ds, S1, r, v, p, q⟩ => by
    cases e : setsV [i, j, l] ds S1 with
    | none => rw [e] at q; exact q.elim
    | some S2 =>
      rw [e] at q
      obtain ⟨l, r2⟩ := sets_rel r v e
      match xs, l with
      | [u, w, t], _ => exact ⟨u, w, t, rfl, q _ _ (.refl H1) r2⟩
end
end Fz
end

section
set_option Elab.async false
set_option linter.all false
set_option maxRecDepth 100000
set_option maxHeartbeats 4000000
/-! F9: keywords, chains. -/
namespace Fz
open PySem PySem.Spec PyProof.Rows L2
/-- the places of the parameters among the positional arguments and the keywords' values, as written -/
def permL {α : Type} (p : List Nat) (l : List α) : List α := p.filterMap fun i => l[i]?
theorem vals_perm {vs : List V} {us : List Value} (r : Vals vs us) : ∀ p : List Nat, Vals (permL p vs) (permL p us)
  | [] => .nil
  | i :: p => by
    have ih := vals_perm r p
    unfold permL
    cases e : vs[i]? with
    | none =>
      have e2 : us[i]? = none := r.none_of e
      rw [List.filterMap_cons_none e, List.filterMap_cons_none e2]
      exact ih
    | some x =>
      obtain ⟨u, e2, h⟩ := r.get e
      rw [List.filterMap_cons_some e, List.filterMap_cons_some e2]
      exact .cons h ih
theorem paired_perm {α β : Type} {R : α → β → Prop} {xs : List α} {ys : List β} (r : Paired R xs ys) : ∀ p : List Nat, Paired R (permL p xs) (permL p ys)
  | [] => .nil
  | i :: p => by
    have ih := paired_perm r p
    unfold permL
    have hl := paired_len r
    cases e : ys[i]? with
    | none =>
      have e2 : xs[i]? = none := List.getElem?_eq_none (by rw [hl]; exact List.getElem?_eq_none_iff.mp e)
      rw [List.filterMap_cons_none e, List.filterMap_cons_none e2]
      exact ih
    | some y =>
      obtain ⟨x, e2, h⟩ := paired_get r e
      rw [List.filterMap_cons_some e, List.filterMap_cons_some e2]
      exact .cons h ih
structure KwF (K : Fg) (fd : FuncData) (ps : List Str) (n : Nat) (ks : List Str) (perm : List Nat) : Prop where
  to : ∀ (s : Shared) (us ws : List Value), K.In s.heap → us.length = n → ws.length = ks.length → BindsTo s fd ⟨us, ks.zip ws⟩ (ps.zip (permL perm (us ++ ws)))
theorem kwF_of {K : Fg} {x qual : Str} {params : Arguments} {body : List Stmt} {scope : Scope} {kws : List (Str × V)} {f : Addr} {fd : FuncData} {ps : List Str} {n : Nat} {ks : List Str} {perm : List Nat} (F : FunD K x qual params body scope [] kws f fd)
    (h : ∀ (kV doc pm : Value) (an : Option Addr) (cdv ct : Value) (us ws : List Value), us.length = n → ws.length = ks.length → bindArgs (PySem.W.fnOf x qual params body scope .none kV doc pm an cdv ct) ⟨us, ks.zip ws⟩ = pure (ps.zip (permL perm (us ++ ws)))) : KwF K fd ps n ks perm := by
  obtain ⟨oc, od, dV, kV, doc, pm, an, cdv, ct, osl, rfl, lk, hcd, hD, hK⟩ := F.ex
  rcases hD with ⟨_, rfl⟩ | ⟨e, _⟩
  · exact ⟨fun s us ws _ l1 l2 => .of_eq (h kV doc pm an cdv ct us ws l1 l2)⟩
  · exact absurd rfl e
/-- a def of the text, called with keywords -/
structure FnK (P : Program) (w : World) (K : Fg) (mg : Str → Option Value) (base : Heap) (T : List Addr) (k : Nat) (x : Str) (ps : List Str) (n : Nat) (den : Den) (m : Nat) (ks : List Str) (perm : List Nat) : Prop where
  ex : ∃ f fd, GOk P w K mg base k f fd ps (spG P w K mg base T n den) ∧ mg x = some (.ref f) ∧ PySem.W.keepIn K (.ref f) = true ∧ KwF K fd ps m ks perm
def fCallK (den : Den) (n m : Nat) (nk : Nat) (perm : List Nat) (f g : FS → Res (List AD)) : FS → Res SV := bnd f fun as => bnd g fun bs => if as.length = m ∧ bs.length = nk ∧ (permL perm (as ++ bs)).length = n then callD den (permL perm (as ++ bs)) else fun _ => .bad
theorem paired_append {α β : Type} {R : α → β → Prop} : ∀ {xs xs' : List α} {ys ys' : List β}, Paired R xs ys → Paired R xs' ys' → Paired R (xs ++ xs') (ys ++ ys')
  | _, _, _, _, .nil, h => h
  | _, _, _, _, .cons r t, h => .cons r (paired_append t h)
section
variable {X : Cx} {F : Fx} {e : Expr} {es : List Expr} {kws : List Keyword} {x : Str} {p pos : Pos} {den : Den} {k j n m : Nat} {ps ks : List Str} {perm : List Nat} {f g : FS → Res (List AD)}
theorem run_kw {pins : List (Addr × Obj)} {σ : L2.St} {H : Hp} {s : Shared} {Q : VK} {us ws : List Value} {vs zs : List V} {fa : Addr} {fd : FuncData} (F1 : GOk X.prog X.w X.K X.mg X.base k fa fd ps (spG X.prog X.w X.K X.mg X.base F.tabs n den)) (hr : RoomG k X.A) (hb : KwF X.K fd ps m ks perm)
    (I : Inv X pins σ H s) (r : Vals vs us) (rz : Vals zs ws) (l1 : vs.length = m) (l2 : zs.length = ks.length) (h : spG X.prog X.w X.K X.mg X.base F.tabs n den (permL perm (vs ++ zs)) H Q F.E) : wpAny (model X.prog X.w) X.A (call (.ref fa) us (ks.zip ws)) (EP X pins σ Q) X.xe s :=
  wpAny_call (run_g F1 hr I (hb.to s us ws I.kIn (r.length.symm.trans l1) (rz.length.symm.trans l2)) (vals_perm (r.append rz) perm) h)
theorem e_callK0 (G : FnK X.prog X.w X.K X.mg X.base F.tabs k x ps n den 0 ks perm) (hr : RoomG j X.A) (hk : k ≤ j) (hg : Gl X x) (hkw : EKS X F kws g) (hW : F.w = X.w := by rfl) (hcl : F.cl.clo = CloOk X.prog X.w X.K X.mg X.base F.tabs := by rfl)
    (hall : (backToKw pos (keywordEach kws X.env)).all (·.1.isSome) = true := by rfl) (hks : (backToKw pos (keywordEach kws X.env)).filterMap (·.1) = ks := by rfl)
    (hdb : (x == ("__debug__" : Str)) = false := by decide) (hpl : ((backTo pos (starEach [] X.env)).any (·.1) || (backToKw pos (keywordEach kws X.env)).any (·.1.isNone)) = false := by rfl) :
    EV X F (.Call (.Name x p) [] kws pos) (fCallK den n 0 ks.length perm (fC []) g) := by
  obtain ⟨fa, fd, F1, hm, kp, b⟩ := G.ex
  refine ⟨fun pins s σ H Q I ⟨S, r, hw⟩ => ?_⟩
  refine wpAny_Call_Name_kw (ld_glob I hg hm ?_ hdb)
  have hw2 : postG X.K F VR (bnd g (fun bs => if ([] : List AD).length = 0 ∧ bs.length = ks.length ∧ (permL perm ([] ++ bs)).length = n then callD den (permL perm ([] ++ bs)) else fun _ => .bad) S) σ H Q := hw
  refine PySem.W.callWith_KW0 (h₀ := X.base) I.ok.mod.kin kp hall (thn (hkw.run pos pins s σ H _ I (rdG.bind (R' := VR) ⟨S, r, hw2⟩)) fun ws s2 ⟨zs, H2, I2, rz, bs, S2, r2, v2, p2, q2⟩ => ⟨I2.kIn, ?_⟩) hpl
  rw [hks]
  split at q2
  · rename_i hl
    exact run_kw (vs := []) F1 (hr.mono hk) b I2 .nil rz rfl ((paired_len v2).trans hl.2.1) (by have z := call_in r2 (paired_perm (paired_append (.nil (F := ADR X.K H2 σ)) v2) perm) hl.2.2 q2; rw [hW, hcl] at z; exact z)
  · exact q2.elim
end
/-! ### chains a < b < c -/
section
variable {X : Cx} {F : Fx} {a b c : Expr} {pos : Pos} {fa fb fc : FS → Res D} {g g' : D → D → FS → Res D}
def fChain (g g' : D → D → FS → Res D) (fa fb fc : FS → Res D) : FS → Res D := bnd fa fun d => bnd fb fun e => bnd (g d e) fun z => match z with
  | .bool true => bnd fc fun h => g' e h
  | .bool false => fC (.bool false)
  | _ => fun _ => .bad
theorem chain_of {op op' : CmpOp} {σ : Sl} {H : Hp} {Q : VK} (h : rdG X.K F PR (fChain g g' fa fb fc) σ H Q) :
    tChain (rOp X.K F PR g) (rOp X.K F PR g') (rdG X.K F PR fa) (rdG X.K F PR fb) (rdG X.K F QR fc) σ H Q := by
  refine (rdG.bind h).imp fun x H1 ⟨d, S1, r1, v1, p1, q1⟩ => ?_
  refine (rdG.bind (k := fun e => bnd (g d e) fun z => match z with | .bool true => bnd fc fun h => g' e h | .bool false => fC (.bool false) | _ => fun _ => .bad) (R' := PR) ⟨S1, r1, q1⟩).imp fun y H2 ⟨e, S2, r2, v2, p2, q2⟩ => ?_
  have q3 : rdG X.K F PR (bnd (g d e) fun z => match z with | .bool true => bnd fc fun h => g' e h | .bool false => fC (.bool false) | _ => fun _ => .bad) σ H2 Q := ⟨S2, r2, q2⟩
  refine ⟨S2, σ, d, e, r2, .inl (Pd.mono p2 v1), .inl v2, ?_⟩
  unfold bnd at q2
  cases eg : g d e S2 with
  | bad => rw [eg] at q2; exact q2
  | exn e3 S3 => rw [eg] at q2; exact q2
  | ok z S3 =>
    rw [eg] at q2
    intro z' H3 p3 r3 v3
    cases z with
    | bool k =>
      cases v3
      refine ⟨k, rfl, ?_⟩
      cases k with
      | true =>
        refine (rdG.bind (k := fun h => g' e h) (R' := PR) ⟨S3, r3, postG.later p3 q2⟩).imp fun w H4 ⟨h, S4, r4, v4, p4, q4⟩ => ?_
        exact ⟨S4, σ, e, h, r4, .inl (Pd.mono (p3.trans p4) v2), v4, q4⟩
      | false => exact q2 _ _ p3 r3 (Pd.bl _)
    | _ => exact q2.elim
theorem e_chain {op op' : CmpOp} (ho : OpF X F PR (compareOp op) g) (ho' : OpF X F PR (compareOp op') g') (ha : ED X F a fa) (hb : ED X F b fb) (hc : EQ X F c fc) (hm : lastMarks [op, op'] [b, c] = false := by with_unfolding_all rfl) : ED X F (.Compare a [op, op'] [b, c] pos) (fChain g g' fa fb fc) :=
  (pe_chain ho ho' ha hb hc (hm := hm)).via fun σ H Q h => chain_of (op := op) (op' := op') h
end
end Fz
end

section
set_option Elab.async false
set_option linter.all false
set_option maxRecDepth 100000
set_option maxHeartbeats 4000000
/-! F10: any, all of a generator expression. -/
namespace Fz
open PySem PySem.Spec PyProof.Rows L2 GenW
abbrev gbX (X : Cx) (A' : Around) (s : Shared) (H : Hp) (env' : Env) (fp : List Addr) (pn : List (Addr × Obj)) : Cx :=
  { X with A := A', s_0 := s, H_0 := H, env := env', outer := X.stack, stack := env' :: X.stack, ex := fp, fn := fun _ => false, pn := pn, xe := fun _ _ => False }
theorem inv_same {Y : Cx} {pins : List (Addr × Obj)} {σ : Sl} {H : Hp} {s s' : Shared} (I : Inv Y pins σ H s) (h : s'.heap = s.heap) (o : s'.os = s.os) (b : AllBare s'.gens) : Inv Y pins σ H s' :=
  ⟨I.ok, o.trans I.os, b, by rw [h]; exact I.base, by rw [h]; exact I.loc, by rw [h]; exact I.cell, I.free, I.freeC, by rw [h]; exact I.pin, by rw [h]; exact I.hok, I.len⟩
section
variable {X : Cx} {pins : List (Addr × Obj)} {σ : Sl} {H : Hp} {s : Shared}
theorem gen_start {scope : Scope} {own : List (Str × Nat)} {fp : List Addr} {A' : Around} {code : Value} {go : Obj} {gs : GenState} {h' : Heap} {tk : Nat} {m0 : Str → Option Value} (I : Inv X pins σ H s) (ok : BlkOk X.N X.env.scope scope own) (nc : ∀ y ∈ scope.names, y.2 ≠ .cell) (hN : X.N.Nodup)
    (hfp : ∀ b ∈ fp, FpOk X pins H b ∧ b < s.heap.objs.size) (hA : X.calm = true → A'.handled = none) (hfr : A'.frames = some (genEnv scope (cloFrom X.env.cells scope.names []) s.heap.objs.size code builtinsNs X.env :: X.stack))
    (hn : h'.Ns s.heap.objs.size m0) (kp : ∀ b o, s.heap.get? b = some o → h'.get? b = some o) (hg : ∀ v, go.data ≠ .cell v) (hp : (h'.push go).get? h'.objs.size = some go) (hgs : gs.bare = true) :
    Inv (gbX X A' s H (genEnv scope (cloFrom X.env.cells scope.names []) s.heap.objs.size code builtinsNs X.env) fp [(h'.objs.size, go)]) [] (wipe σ (own.map (·.2))) H { s with gens := s.gens.push gs, toks := tk, heap := h'.push go } := by
  have hfree : ∀ y ∈ scope.names, y.2 = .free → ∃ c, X.env.cells.lookup y.1 = some c := fun y hy e => by
    rcases ok.free y hy e with k | k
    · exact I.ok.has _ (.inl k)
    · exact I.ok.has _ (.inr k)
  generalize hcenv : genEnv scope (cloFrom X.env.cells scope.names []) s.heap.objs.size code builtinsNs X.env = cenv at hfr
  have kp2 : ∀ b o, s.heap.get? b = some o → (h'.push go).get? b = some o := fun b o e => Heap.get?_push_of_some _ (kp b o e)
  have hL : cenv.locals = s.heap.objs.size := by rw [← hcenv]; rfl
  have hcl : cenv.cells = cloFrom X.env.cells scope.names [] := by rw [← hcenv]; rfl
  have hsc : cenv.scope = scope := by rw [← hcenv]; rfl
  have hltC : s.heap.objs.size < h'.objs.size := hn.lt
  have cm : ∀ {y c}, (y, c) ∈ cloFrom X.env.cells scope.names [] → X.env.cells.lookup y = some c ∧ c < s.heap.objs.size := fun {y c} hm => by
    rcases cloFrom_mem hm with hm | ⟨h1, rfl⟩
    · cases hm
    · obtain ⟨c, hc⟩ := hfree _ h1 rfl
      rw [hc]
      obtain ⟨w, z⟩ := I.cell _ _ hc
      exact ⟨rfl, z.lt⟩
  have mem : ∀ {y c}, cenv.cells.lookup y = some c → X.env.cells.lookup y = some c ∧ c < s.heap.objs.size := fun {y c} e => by
    rw [hcl] at e
    exact cm (PySem.mem_of_lookup e)
  have look : ∀ {y}, scope.names.lookup y = some .free → ∃ c, cenv.cells.lookup y = some c ∧ X.env.cells.lookup y = some c := fun {y} hl => by
    have hy : (y, NameKind.free) ∈ scope.names := PySem.mem_of_lookup hl
    obtain ⟨c', e'⟩ := mem_lookup (cloFrom_has (cells := X.env.cells) (acc := []) hy)
    rw [← hcl] at e'
    exact ⟨c', e', (mem e').1⟩
  have okB : (gbX X A' s H cenv fp [(h'.objs.size, go)]).Ok := by
    refine ⟨I.ok.mod, by show cenv.scope.kind = _; rw [hsc]; exact ok.kind, by show cenv.globals = _; rw [← hcenv]; exact I.ok.glob, by show cenv.builtins = _; rw [← hcenv]; rfl, by show s.heap.objs.size ≤ cenv.locals; rw [hL]; exact Nat.le_refl _,
      fun y z c e1 e2 => I.ok.inj y z c (mem e1).1 (mem e2).1, fun y hy => ?_, fun y c z e => (Bool.false_ne_true z).elim, hA, hfr, .inr ⟨rfl, by show cenv.frame = some cenv.locals; rw [← hcenv]; rfl⟩, fun b hb => ⟨?_, fun y c e z => ?_⟩, I.bs, Nat.le_trans I.ok.bsz I.sz, fun b o e hb => ?_, fun b hb z => ?_, I.stack, I.stkFree⟩
    · show ∃ c, cenv.cells.lookup y = some c
      have hy : cenv.scope.names.lookup y = some .cell ∨ cenv.scope.names.lookup y = some .free := hy
      rw [hsc] at hy
      rcases hy with hy | hy
      · exact absurd rfl (nc _ (PySem.mem_of_lookup hy))
      · obtain ⟨c, h1, _⟩ := look hy
        exact ⟨c, h1⟩
    · show b ≠ cenv.locals
      rw [hL]; exact Nat.ne_of_lt (hfp b hb).2
    · exact (hfp b hb).1.2.2.2.2.1 y c (mem e).1 z
    · rcases (hfp b hb).1.2.2.2.1 with z | z
      · exact I.ok.noex b o e z
      · exact absurd (Nat.lt_of_lt_of_le (Heap.lt_size e) (Nat.le_trans I.ok.bsz z)) (Nat.lt_irrefl _)
    · rcases List.mem_cons.mp (I.stkSub b z) with z | z
      · exact (hfp b hb).1.2.1 z
      · exact (hfp b hb).1.2.2.1 z
  refine ⟨okB, rfl, AllBare.push I.bare hgs, Un.kept kp2, ⟨m0, ?_, fun i y av e1 e2 e3 => ?_⟩, fun y c e => ?_, ?_, fun y c e => ?_, fun p hp2 => ?_, I.hok.kept kp2, by rw [wipe_length]; exact I.len⟩
  · show Heap.Ns _ cenv.locals _
    rw [hL]
    exact hn.push _
  · obtain ⟨e2, hne⟩ := wipe_some e2
    have e3 : Vis cenv.scope y := e3
    rw [hsc] at e3
    have no : ∀ k, scope.names.lookup y = some k → ¬ (k = .local ∨ k = .cell) := fun k e hh => by
      rcases ok.own _ (PySem.mem_of_lookup e) hh with e' | e'
      · obtain ⟨p, hp, hpy⟩ := List.mem_map.mp e'
        have e3 := ok.ix p hp
        have : p.1 = y := hpy
        rw [this] at e3
        exact hne (List.mem_map.mpr ⟨p, hp, nodup_ix hN e3 e1⟩)
      · exact e' (List.mem_of_getElem? e1)
    have hfr2 : scope.names.lookup y = some .free := by
      rcases e3 with e3 | e3 | e3
      · exact absurd (.inl rfl) (no _ e3)
      · exact absurd (.inr rfl) (no _ e3)
      · exact e3
    obtain ⟨m, hn2, hl⟩ := I.loc
    have hvis : Vis X.env.scope y := (ok.free _ (PySem.mem_of_lookup hfr2) rfl).elim (fun k => .inr (.inl k)) (fun k => .inr (.inr k))
    obtain ⟨w, r, q⟩ := hl i y av e1 e2 hvis
    refine ⟨w, r, .inr ⟨.inr (by show cenv.scope.names.lookup y = _; rw [hsc]; exact hfr2), ?_⟩⟩
    obtain ⟨c, h1, h2⟩ := look hfr2
    rcases q with ⟨k, _⟩ | ⟨_, c', e', z⟩
    · have k : X.env.scope.names.lookup y = some .local := k
      rcases ok.free _ (PySem.mem_of_lookup hfr2) rfl with k' | k' <;> rw [show X.env.scope.names.lookup y = _ from k'] at k <;> cases k
    · rw [h2] at e'; cases e'
      exact ⟨c, h1, z.keeps kp2⟩
  · obtain ⟨w, z⟩ := I.cell y c (mem (show cenv.cells.lookup y = some c from e)).1
    exact ⟨w, z.keeps kp2⟩
  · show H cenv.locals = none
    rw [hL]; exact I.hok.fresh (Nat.le_refl _)
  · exact I.freeC y c (mem (show cenv.cells.lookup y = some c from e)).1
  · have hp2 : p ∈ [(h'.objs.size, go)] := by simpa using hp2
    rw [List.mem_singleton.mp hp2]
    refine ⟨hp, I.hok.fresh (Nat.le_of_lt hltC), ?_, fun z => ?_, hg⟩
    · show h'.objs.size ≠ cenv.locals
      rw [hL]; exact Nat.ne_of_gt hltC
    · rcases List.mem_cons.mp (I.stkSub _ z) with z | z
      · have q : h'.objs.size < s.heap.objs.size := by
          have e : h'.objs.size = X.env.locals := z
          rw [e]; exact I.lt
        exact absurd (Nat.lt_trans hltC q) (Nat.lt_irrefl _)
      · exact I.nofs (Nat.le_of_lt hltC) z
end
/-! ### the generator's turns -/
def anyF (stop : Bool) (g : D → FS → Option FS) (t : FS → Res Bool) (fe : FS → Res D) (vs : List Nat) : List D → FS → Res Bool
  | [], S => .ok (!stop) S
  | d :: ds, S => match g d (wipeS S vs) with
    | none => .bad
    | some S1 => match t S1 with
      | .ok false S2 => anyF stop g t fe vs ds (restS S S2 vs)
      | .ok true S2 => (match fe S2 with
        | .ok (.bool b) S3 => if b = stop then .ok stop (restS S S3 vs) else anyF stop g t fe vs ds (restS S S3 vs)
        | _ => .bad)
      | _ => .bad
structure Woken (s s' : Shared) : Prop where
  heap : s'.heap = s.heap
  os : s'.os = s.os
  bare : AllBare s'.gens
def GYp (Y : Cx) (stop : Bool) (Q : Bool → Hp → Prop) : Protocol := fun n s₀ v s kap => ∃ b H' σ pins, v = .bool b ∧ Inv Y pins σ H' s ∧ (b = stop → Q stop H') ∧ (b ≠ stop → ∀ s', Woken s s' → kap (.send .none) s')
def GRp (Y : Cx) (stop : Bool) (Q : Bool → Hp → Prop) : Nat → Shared → Shared → Prop := fun n s₀ s => ∃ H' σ pins, Inv Y pins σ H' s ∧ Q (!stop) H'
abbrev GRr (Y : Cx) (stop : Bool) (Q : Bool → Hp → Prop) : GenEnd := fun n s₀ r s₁ => r = .ok .next ∧ GRp Y stop Q n s₀ s₁
section
variable {Y : Cx} {F : Fx} {elt tg iter : Expr} {ifs : List Expr} {scope : Scope} {pos : Pos} {g : D → FS → Option FS} {t : FS → Res Bool} {fe : FS → Res D} {ts vs : List Nat} {stop : Bool} {Q : Bool → Hp → Prop}
  {A : Around} {it : Addr} {fp : List Addr} {tn : Nat → Heap → Prop} {J : It} {H1 : Hp} {ds : List D} {σ : Sl}
theorem thnY {α : Type} {m : Sem α} {P P' : α → Shared → Prop} {M : Model} {E : Value → Shared → Prop} {s : Shared} (hx : ∀ e s, Y.xe e s → False) (h : wpAny M A m P Y.xe s) (hQ : ∀ a s, P a s → P' a s) : wpAny M A m P' E s := wpAny_mono h hQ fun _ _ z => (hx _ _ z).elim
theorem gen_loop (hc : Y.calm = true) (hx : ∀ e s, Y.xe e s → False) (hA : A.over (.compLoop (.GeneratorExp elt [⟨tg, iter, ifs, 0⟩] scope pos) 0 (.ref it) .none Y.env) [] = Y.A) (hco : Y.env.scope.isCoroutine = false)
    (T : Turn Y.prog Y.w Y.K tg J fp it tn) (stat : ∀ (σ' : Sl) (H' : Hp) (s' : Shared), Inv Y [] σ' H' s' → (∀ b ∈ fp, H' b = none) → ∀ b ∈ fp, FpOk Y [] H' b) (y : Yields Y.K J H1 ds)
    (pg : EG Y F tg ts g) (pt : ETs Y F ifs t) (pe : ED Y F elt fe) (hts : ∀ j, j ∈ ts → j ∈ vs) :
    ∀ (k i n : Nat) (s₀ s : Shared) (S : FS) (H : Hp), ds.length - i = k → i ≤ ds.length → k ≤ n → Inv Y [] (wipe σ vs) H s → tn i s.heap → (∀ b ∈ fp, H b = none) → Pers H1 H → Rel Y.K F S σ H → postT Y.K F (anyF stop g t fe vs (ds.drop i) S) σ H Q →
      Seg (model Y.prog Y.w) A (GRr Y stop Q) (GYp Y stop Q) n s₀ (.compLoop (.GeneratorExp elt [⟨tg, iter, ifs, 0⟩] scope pos) 0 (.ref it) .none Y.env)
        ((model Y.prog Y.w).den (.compLoop (.GeneratorExp elt [⟨tg, iter, ifs, 0⟩] scope pos) 0 (.ref it) .none Y.env)) [] s := by
  intro k
  induction k with
  | zero =>
    intro i n s₀ s S H hk hi hkn I st nf pH r p
    have e : i = ds.length := by omega
    subst e
    rw [List.drop_length] at p
    show Seg _ A _ _ n s₀ _ ((compTurn (.GeneratorExp elt [⟨tg, iter, ifs, 0⟩] scope pos) 0 (.ref it) .none Y.env).onRaise (leaving Y.env)) [] s
    rw [compTurn_gen, Sem.onRaise_eq_wrap]
    refine seg_bind_wrap (wpAny_standAt ?_)
    refine seg_bind_wrap ?_
    rw [hA]
    have td := T.done Y rfl rfl rfl hc ds.length [] s _ H (fun _ _ => False) I (stat _ _ _ I nf) st (y.stop H pH)
    refine thnF td fun rr s6 ⟨hr, I6⟩ => ?_
    subst hr
    exact seg_end (.ok .next) ⟨rfl, H, _, _, I6, p.ok r⟩
  | succ k ih =>
    intro i n s₀ s S H hk hi hkn I st nf pH r p
    have hl : i < ds.length := by omega
    show Seg _ A _ _ n s₀ _ ((compTurn (.GeneratorExp elt [⟨tg, iter, ifs, 0⟩] scope pos) 0 (.ref it) .none Y.env).onRaise (leaving Y.env)) [] s
    rw [compTurn_gen, Sem.onRaise_eq_wrap]
    refine seg_bind_wrap (wpAny_standAt ?_)
    refine seg_bind_wrap ?_
    rw [hA]
    have ti := T.item Y rfl rfl rfl hc i [] s _ H (fun _ _ => False) I (stat _ _ _ I nf) st (y.go i H pH hl)
    refine thnF ti fun rr s6 ⟨u, hr, h6⟩ => ?_
    subst hr
    refine seg_bind_wrap ?_
    rw [hA]
    refine thnF h6 fun _ s7 ⟨x, H7, I7, r7, y7, st7, n7⟩ => ?_
    obtain ⟨p2, k2, v2⟩ := y.yld i H x H7 ds[i] pH (List.getElem?_eq_getElem hl) y7
    rw [List.drop_eq_getElem_cons hl] at p
    simp only [anyF] at p
    have rb2 : Rel Y.K F S σ H7 := k2 _ _ _ r
    have rw2 := rb2.wiped (vs := vs)
    have I7' := I7.pinned (stat _ _ _ I7 n7) (T.obj _ _ st7)
    refine seg_bind_wrap ?_
    rw [hA]
    cases e2 : g ds[i] (wipeS S vs) with
    | none => rw [e2] at p; exact p.elim
    | some S1 =>
      rw [e2] at p
      simp only at p
      refine thnY hx (pg.run _ s7 _ H7 x u (fun σ8 H8 => wipe σ8 vs = wipe σ vs ∧ Pers H7 H8 ∧ Rel Y.K F S1 σ8 H8) I7' r7 ⟨wipeS S vs, ds[i], rw2, v2, ?_⟩) fun _ s8 ⟨σ8, H8, I8, hw8, p8, r8⟩ => ?_
      · rw [e2]
        intro σ3 H3 p3 r3 b3
        refine ⟨?_, p3, r3⟩
        apply List.ext_getElem?
        intro j
        by_cases hj : j ∈ vs
        · have l1 : (wipe σ3 vs).length = (wipe σ vs).length := by rw [wipe_length, b3.1]
          by_cases hl2 : j < σ.length
          · rw [wipe_eq, wipe_eq, setAll_in hj (by rw [b3.1, wipe_length]; exact hl2), setAll_in hj hl2]
          · rw [List.getElem?_eq_none (by rw [l1, wipe_length]; omega), List.getElem?_eq_none (by rw [wipe_length]; omega)]
        · rw [wipe_eq, setAll_out hj, b3.2 j (fun z => hj (hts j z)), wipe_eq]
      refine seg_bind_wrap ?_
      rw [hA]
      have pH8 : Pers H1 H8 := (pH.trans p2).trans p8
      -- the turn's end
      have fin : ∀ {n' : Nat} {s0' s' : Shared} {H' : Hp} {S' : FS}, k ≤ n' → Inv Y ([] ++ L2.pinsAt fp s7.heap) σ8 H' s' → Pers H8 H' → Rel Y.K F (restS S S' vs) σ H' → postT Y.K F (anyF stop g t fe vs (ds.drop (i + 1)) (restS S S' vs)) σ H' Q →
          Seg (model Y.prog Y.w) A (GRr Y stop Q) (GYp Y stop Q) n' s0' (.compLoop (.GeneratorExp elt [⟨tg, iter, ifs, 0⟩] scope pos) 0 (.ref it) .none Y.env)
            ((model Y.prog Y.w).den (.compLoop (.GeneratorExp elt [⟨tg, iter, ifs, 0⟩] scope pos) 0 (.ref it) .none Y.env)) [] s' := fun {n' s0' s' H' S'} hn' I' pp rr qq => by
        have pin' : ∀ b ∈ fp, ∀ o, s7.heap.get? b = some o → s'.heap.get? b = some o ∧ H' b = none := fun b hb o e =>
          let z := I'.pin (b, o) (List.mem_append_right _ (List.mem_append_right _ (mem_pinsAt hb e)))
          ⟨z.1, z.2.1⟩
        have hl3 : (wipe σ vs).length = σ8.length := by rw [← hw8, wipe_length]
        refine ih (i + 1) n' s0' s' _ H' (by omega) hl hn' ((I'.unpinned (pins := [])).weak hl3 (fun j v e => ?_)) (T.keep _ _ _ st7 fun b hb o e => (pin' b hb o e).1) (fun b hb => ?_) (pH8.trans pp) rr qq
        · rw [← hw8] at e
          exact (wipe_some e).1
        · obtain ⟨o, e, _⟩ := T.obj _ _ st7 b hb
          exact (pin' b hb o e).2
      cases e3 : t S1 with
      | exn e4 S2 => rw [e3] at p; exact p.elim
      | bad => rw [e3] at p; exact p.elim
      | ok kk S2 =>
        rw [e3] at p
        refine thnY hx (pt.run _ s8 σ8 H8 (fun b H9 => b = kk ∧ Pers H8 H9 ∧ Rel Y.K F S2 σ8 H9) I8 ⟨S1, r8, ?_⟩) fun b s9 ⟨H9, I9, eb, p9, r9⟩ => ?_
        · rw [e3]
          exact fun H4 p4 r4 => ⟨rfl, p4, r4⟩
        subst eb
        have pp9 : Pers H H9 := (p2.trans p8).trans p9
        cases b with
        | false =>
          simp only [Bool.false_eq_true, if_false]
          refine seg_again rfl ?_
          exact fin (n' := n) (by omega) I9 p9 (r.rest r9 pp9 hw8) (p.later pp9)
        | true =>
          simp only at p
          simp only [if_true]
          cases e5 : fe S2 with
          | exn e6 S3 => rw [e5] at p; exact p.elim
          | bad => rw [e5] at p; exact p.elim
          | ok yd S3 =>
            rw [e5] at p
            cases yd with
            | bool b =>
              simp only at p
              have hy : ∀ v, yieldOut Y.env v = yieldValue v := fun v => by simp only [yieldOut, hco, Bool.false_eq_true, if_false]
              simp only [hy]
              obtain ⟨n, rfl⟩ : ∃ m, n = m + 1 := ⟨n - 1, by omega⟩
              rw [Sem.bind_eq_wrap', Sem.bind_eq_wrap', Sem.wrap_wrap, Sem.wrap_wrap]
              refine seg_wrap ?_
              rw [hA]
              refine thnY hx (pe.run _ s9 σ8 H9 (fun z H10 => z = .bl b ∧ Pers H9 H10 ∧ Rel Y.K F S3 σ8 H10) I9 ⟨S2, r9, ?_⟩) fun z s10 ⟨yv, H10, I10, r10, ev, p10, q10⟩ => ?_
              · rw [e5]
                intro z H5 p5 r5 v5
                cases v5
                exact ⟨rfl, p5, r5⟩
              subst ev
              obtain rfl : z = Value.bool b := r10
              have pp10 : Pers H H10 := pp9.trans p10
              have rr := r.rest q10 pp10 hw8
              refine seg_at (seg_yield rfl rfl rfl ⟨b, H10, σ8, _, rfl, I10, fun hb => ?_, fun hb s'' wk => ?_⟩)
              · rw [if_pos hb] at p
                exact p H10 pp10 rr
              · rw [if_neg hb] at p
                refine seg_again rfl ?_
                exact fin (n' := n) (by omega) (inv_same I10 wk.heap wk.os wk.bare) (p9.trans p10) rr (p.later pp10)
            | _ => exact p.elim
end
end Fz
end

section
set_option Elab.async false
set_option linter.all false
set_option maxRecDepth 100000
set_option maxHeartbeats 4000000
/-! F11: any, all of a generator expression: the consumer, the rule. -/
namespace Fz
open PySem PySem.Spec PyProof.Rows L2 GenW
section
variable {Y : Cx} {F : Fx} {elt tg iter : Expr} {ifs : List Expr} {scope : Scope} {pos : Pos} {stop : Bool} {Q : Bool → Hp → Prop}
  {A : Around} {it : Addr} {σ : Sl}
theorem gen_begin {n : Nat} {s₀ s : Shared} {fp : List Addr} {tn : Nat → Heap → Prop} {J : It} {R : GenEnd} {Yp : Protocol} (T : Turn Y.prog Y.w Y.K tg J fp it tn) (st : tn 0 s.heap)
    (loop : Seg (model Y.prog Y.w) A R Yp n s₀ (.compLoop (.GeneratorExp elt [⟨tg, iter, ifs, 0⟩] scope pos) 0 (.ref it) .none Y.env)
        ((model Y.prog Y.w).den (.compLoop (.GeneratorExp elt [⟨tg, iter, ifs, 0⟩] scope pos) 0 (.ref it) .none Y.env)) [] s) :
    Seg (model Y.prog Y.w) A R Yp n s₀ (.compStart (.GeneratorExp elt [⟨tg, iter, ifs, 0⟩] scope pos) 0 (.ref it) .none Y.env)
        ((model Y.prog Y.w).den (.compStart (.GeneratorExp elt [⟨tg, iter, ifs, 0⟩] scope pos) 0 (.ref it) .none Y.env)) [] s := by
  show Seg _ A _ _ _ s₀ _ ((compStart (.GeneratorExp elt [⟨tg, iter, ifs, 0⟩] scope pos) 0 (.ref it) .none Y.env).onRaise (leaving Y.env)) [] s
  unfold compStart
  rw [Sem.onRaise_eq_wrap]
  show Seg _ A _ _ _ s₀ _ ((ask >>= _).wrap _ _ _ _) [] s
  refine seg_bind_wrap (wpAny_askSetting ?_)
  split
  · exact seg_again rfl loop
  · first
      | exact seg_bind_wrap (wpAny_rule (seg_bind_wrap (wpAny_standAt (seg_bind_wrap (T.self _ 0 s _ _ st (seg_again rfl loop))))))
      | (refine seg_bind_wrap (wpAny_rule ?_); show Seg _ A _ _ _ s₀ _ ((standAt iter.pos >>= _).wrap _ _ _ _) [] s; exact seg_bind_wrap (wpAny_standAt (seg_bind_wrap (T.self _ 0 s _ _ st (seg_again rfl loop)))))
/-- the builtin's loop -/
def loopId (stop : Bool) : String := if stop then "any.loop" else "all.loop"
theorem use_gen {a : Addr} {gi : Nat} {go : Obj} {RR : Result → Shared → Prop} (hh : A.handled = none) (hd : A.depth < recursionLimit) (hpn : Y.pn = [(a, go)]) (hgo : ∀ h : Heap, h.get? a = some go → h.IsGen a gi)
    (hlim : ∀ σ pins H s, Inv Y pins σ H s → s.heap.NoLimit)
    (fin : ∀ b H' σ pins s', Inv Y pins σ H' s' → Q b H' → RR (.ok (.ret (.bool b))) s') :
    ∀ (n : Nat) (gs : GenState) (s : Shared), s.heap.IsGen a gi → s.heap.NoLimit → s.gens[gi]? = some gs → gs.Goes (model Y.prog Y.w) A.in1.in1 (GRr Y stop Q) (GYp Y stop Q) n (.send .none) (s.setGen gi .running) →
      codeAny (model Y.prog Y.w) A (.builtin (loopId stop) ⟨[.ref a], []⟩) RR s := by
  intro n
  induction n with
  | zero =>
    intro gs s hg hl hgs hgoes
    have key : wpAny (model Y.prog Y.w) A.in1 (pyNext (.ref a)) (fun o s1 => match o with
        | none => RR (.ok (.ret (.bool (!stop)))) s1
        | some v => v = .bool stop ∧ RR (.ok (.ret (.bool stop))) s1) (fun e s' => RR (.error e) s') s := by
      refine wpAny_pyNext_genexpQ (P := GRp Y stop Q) hh hl hd hg hgs hgoes (fun v s₁ gs' hb hv => ?_) (fun s₁ hp h' hk => ?_)
      · obtain ⟨b, H', σ, pins, rfl, I, h1, h2⟩ := hv
        by_cases e : b = stop
        · subst e
          exact ⟨rfl, fin _ H' σ pins _ (inv_same I rfl rfl (allBare_setGen I.bare hb)) (h1 rfl)⟩
        · exact (h2 e s₁ ⟨rfl, rfl, I.bare⟩).elim
      · obtain ⟨H', σ, pins, I, q⟩ := hp
        have I2 : Inv Y pins σ H' (s₁.setGen gi .finished) := inv_same I rfl rfl (allBare_setGen I.bare rfl)
        exact fin _ H' σ pins _ (I2.kept (t' := _) hk) q
    cases stop with
    | true =>
      show codeAny _ A (.builtin "any.loop" ⟨[.ref a], []⟩) RR s
      refine codeAny_builtin F.entry_any_loop ?_
      rw [Around.under_plainId F.plain_any_loop _]
      show wpAny _ A.in1 (pyNext (.ref a) >>= _) _ _ s
      refine wpAny_bind (wpAny_mono key (fun o s1 h1 => ?_) fun _ _ e => e)
      cases o with
      | none => exact wpAny_bind (wpAny_rule (wpAny_pure h1))
      | some v =>
        obtain ⟨rfl, h1⟩ := h1
        refine wpAny_bind (wpAny_holding (wpAny_truthy_bool ?_))
        refine wpAny_bind (wpAny_letGo ?_)
        simp only [if_true]
        exact wpAny_bind (wpAny_rule (wpAny_pure h1))
    | false =>
      show codeAny _ A (.builtin "all.loop" ⟨[.ref a], []⟩) RR s
      refine codeAny_builtin F.entry_all_loop ?_
      rw [Around.under_plainId F.plain_all_loop _]
      show wpAny _ A.in1 (pyNext (.ref a) >>= _) _ _ s
      refine wpAny_bind (wpAny_mono key (fun o s1 h1 => ?_) fun _ _ e => e)
      cases o with
      | none => exact wpAny_bind (wpAny_rule (wpAny_pure h1))
      | some v =>
        obtain ⟨rfl, h1⟩ := h1
        refine wpAny_bind (wpAny_holding (wpAny_truthy_bool ?_))
        refine wpAny_bind (wpAny_letGo ?_)
        simp only [Bool.false_eq_true, if_false]
        exact wpAny_bind (wpAny_rule (wpAny_pure h1))
  | succ n ih =>
    intro gs s hg hl hgs hgoes
    have hlt : gi < s.gens.size := by
      rcases Nat.lt_or_ge gi s.gens.size with h | h
      · exact h
      · rw [Array.getElem?_eq_none h] at hgs; cases hgs
    have key : wpAny (model Y.prog Y.w) A.in1 (pyNext (.ref a)) (fun o s1 => match o with
        | none => RR (.ok (.ret (.bool (!stop)))) s1
        | some v => (v = .bool stop ∧ RR (.ok (.ret (.bool stop))) s1) ∨ (v = .bool (!stop) ∧ codeAny (model Y.prog Y.w) A (.builtin (loopId stop) ⟨[.ref a], []⟩) RR s1)) (fun e s' => RR (.error e) s') s := by
      refine wpAny_gsz (n := gi + 1) hlt ?_
      refine wpAny_mono (E := fun e s' => gi + 1 ≤ s'.gens.size → RR (.error e) s') ?_ (fun a s h => h) (fun _ _ h => h)
      refine wpAny_pyNext_genexpQ (P := GRp Y stop Q) hh hl hd hg hgs hgoes (fun v s₁ gs' hb hv => ?_) (fun s₁ hp h' hk => ?_)
      · intro hsz
        obtain ⟨b, H', σ, pins, rfl, I, h1, h2⟩ := hv
        have I2 : Inv Y pins σ H' (s₁.setGen gi gs') := inv_same I rfl rfl (allBare_setGen I.bare hb)
        by_cases e : b = stop
        · subst e
          exact .inl ⟨rfl, fin _ H' σ pins _ I2 (h1 rfl)⟩
        · refine .inr ⟨by cases b <;> cases stop <;> simp_all, ?_⟩
          have hsz' : gi < s₁.gens.size := by rw [← setGen_size s₁ gi gs']; exact hsz
          have hat : (s₁.setGen gi gs').gens[gi]? = some gs' := setGen_at hsz'
          have pin := (I2.pin (a, go) (List.mem_append_left _ (by rw [hpn]; exact List.mem_singleton.mpr rfl))).1
          exact ih gs' _ (hgo _ pin) (hlim _ _ _ _ I2) hat (h2 e _ ⟨rfl, rfl, allBare_setGen I2.bare rfl⟩)
      · intro _
        obtain ⟨H', σ, pins, I, q⟩ := hp
        have I2 : Inv Y pins σ H' (s₁.setGen gi .finished) := inv_same I rfl rfl (allBare_setGen I.bare rfl)
        exact fin _ H' σ pins _ (I2.kept (t' := _) hk) q
    cases stop with
    | true =>
      show codeAny _ A (.builtin "any.loop" ⟨[.ref a], []⟩) RR s
      refine codeAny_builtin F.entry_any_loop ?_
      rw [Around.under_plainId F.plain_any_loop _]
      show wpAny _ A.in1 (pyNext (.ref a) >>= _) _ _ s
      refine wpAny_bind (wpAny_mono key (fun o s1 h1 => ?_) fun _ _ e => e)
      cases o with
      | none => exact wpAny_bind (wpAny_rule (wpAny_pure h1))
      | some v =>
        rcases h1 with ⟨rfl, h1⟩ | ⟨rfl, h1⟩
        · refine wpAny_bind (wpAny_holding (wpAny_truthy_bool ?_))
          refine wpAny_bind (wpAny_letGo ?_)
          simp only [if_true]
          exact wpAny_bind (wpAny_rule (wpAny_pure h1))
        · refine wpAny_bind (wpAny_holding (wpAny_truthy_bool ?_))
          refine wpAny_bind (wpAny_letGo ?_)
          simp only [Bool.not_true, Bool.false_eq_true, if_false]
          exact wpAny_pure ⟨plainId_quiet F.plain_any_loop _, h1⟩
    | false =>
      show codeAny _ A (.builtin "all.loop" ⟨[.ref a], []⟩) RR s
      refine codeAny_builtin F.entry_all_loop ?_
      rw [Around.under_plainId F.plain_all_loop _]
      show wpAny _ A.in1 (pyNext (.ref a) >>= _) _ _ s
      refine wpAny_bind (wpAny_mono key (fun o s1 h1 => ?_) fun _ _ e => e)
      cases o with
      | none => exact wpAny_bind (wpAny_rule (wpAny_pure h1))
      | some v =>
        rcases h1 with ⟨rfl, h1⟩ | ⟨rfl, h1⟩
        · refine wpAny_bind (wpAny_holding (wpAny_truthy_bool ?_))
          refine wpAny_bind (wpAny_letGo ?_)
          simp only [Bool.false_eq_true, if_false]
          exact wpAny_bind (wpAny_rule (wpAny_pure h1))
        · refine wpAny_bind (wpAny_holding (wpAny_truthy_bool ?_))
          refine wpAny_bind (wpAny_letGo ?_)
          simp only [Bool.not_false, if_true]
          exact wpAny_pure ⟨plainId_quiet F.plain_all_loop _, h1⟩
end
end Fz
end

section
set_option Elab.async false
set_option linter.all false
set_option maxRecDepth 100000
set_option maxHeartbeats 4000000
/-! F12: any, all of a generator expression: the rule. -/
namespace Fz
open PySem PySem.Spec PyProof.Rows L2 GenW
theorem pers_grow {H : Hp} {P : Addr} {ps ps' : Array Value} (h : H P = some (.tbl ps)) (ht : TriplesOk ps'.toList) : Pers H (upd H P (.tbl ps')) := by
  have k : ∀ a u, H a = some u → (∀ q, u ≠ .tbl q) → upd H P (.tbl ps') a = some u := fun a u e n => by
    rw [upd_ne]
    · exact e
    · intro z
      rw [z, h] at e
      exact n _ (Option.some.inj e).symm
  exact ⟨fun a xs e => k a _ e (fun q z => nomatch z), fun a o u e => k a _ e (fun q z => nomatch z), fun a ⟨q, e, t⟩ => by
    by_cases z : a = P
    · subst z; exact ⟨ps', upd_same, ht⟩
    · exact ⟨q, by rw [upd_ne z]; exact e, t⟩⟩
theorem Rel.grow {K : Fg} {F : Fx} {S : FS} {σ : Sl} {H : Hp} {P : Addr} {ps ps' : Array Value} (r : Rel K F S σ H) (h : H P = some (.tbl ps)) (ht : TriplesOk ps'.toList) (hc : P ∈ F.tabs → ∀ pos cv, codeAmong pos ps'.toList = some cv → CodeG H cv) : Rel K F S σ (upd H P (.tbl ps')) := by
  have p : Pers H (upd H P (.tbl ps')) := pers_grow h ht
  have later : ∀ {a ob}, ObR K F.w H a ob → ObR K F.w (upd H P (.tbl ps')) a ob := fun {a ob} q => by
    refine q.later p (upd_ne fun z => ?_)
    obtain ⟨u, eu, _, nt⟩ := q.there
    rw [z, h] at eu; cases eu; cases nt
  have kp : ∀ a o, F.H0 a = some o → a ∉ F.pins.map (·.2) → isTbl o = false → upd H P (.tbl ps') a = some o := fun a o ho hp ht2 => by
    have e := r.keep a o ho hp ht2
    rw [upd_ne]; exact e
    intro z; rw [z, h] at e; cases e; cases ht2
  refine ⟨r.len, fun i sv e => ?_, r.apart, kp, fun a o ho => ?_, fun P2 hP2 => ?_, F.cl.selfM p r.self, fun q hq => ?_⟩
  · obtain ⟨x, ex, w⟩ := r.slot i sv e
    refine ⟨x, ex, ?_⟩
    cases sv with
    | d d => exact Pd.mono p w
    | own ob => obtain ⟨a, rfl, q, n⟩ := w; exact ⟨a, rfl, later q, n⟩
    | pin ob => obtain ⟨a, rfl, q, n⟩ := w; exact ⟨a, rfl, later q, n⟩
    | x e => exact SxR.later w p r.keep kp
  · by_cases z : a = P
    · subst z; exact ⟨_, upd_same⟩
    · obtain ⟨u, e⟩ := r.there a o ho
      exact ⟨u, by rw [upd_ne z]; exact e⟩
  · by_cases z : P2 = P
    · subst z; exact ⟨_, upd_same, ht, fun pos cv z => (hc hP2 pos cv z).later p⟩
    · obtain ⟨q, e, t, c⟩ := r.tabs P2 hP2
      exact ⟨q, by rw [upd_ne z]; exact e, t, fun pos cv z => (c pos cv z).later p⟩
  · obtain ⟨⟨e, em⟩, h0, hu⟩ := r.held q hq
    refine ⟨⟨?_, em⟩, h0, hu⟩
    rw [upd_ne]; exact e
    intro z; rw [z, h] at e; have e := Option.some.inj e; rw [← e] at em; exact em
/-- an object that no one knew, new since the frame began, is known from now on -/
theorem inv_track {X : Cx} {pins : List (Addr × Obj)} {σ : Sl} {H : Hp} {s : Shared} {a : Addr} {o : HO} (I : Inv X pins σ H s) (hn : H a = none) (h0 : X.s_0.heap.objs.size ≤ a) (hL : a ≠ X.env.locals) (hC : ∀ x c, X.env.cells.lookup x = some c → c ≠ a) (hp : ∀ p ∈ X.pn ++ pins, p.1 ≠ a)
    (new : ObjOk X.prog X.w (upd H a o) s.heap a o) : Inv X pins σ (upd H a o) s := by
  refine ⟨I.ok, I.os, I.bare, ⟨I.base.keep, I.base.slot, fun b u q n hx => ?_, I.base.there, fun b xs q => ?_, fun b ob u q => ?_, fun b ps q => ?_⟩, I.loc, I.cell, ?_, fun x c e => ?_, fun p hp2 => ?_, fun b u e => ?_, I.len⟩
  · rw [upd_ne (Nat.ne_of_lt (Nat.lt_of_lt_of_le (Heap.lt_size q) h0))]
    exact I.base.free b u q n hx
  · have z := I.base.tups b xs q
    rw [upd_ne (ne_of_none z hn)]; exact z
  · have z := I.base.frzs b ob u q
    rw [upd_ne (ne_of_none z hn)]; exact z
  · obtain ⟨m, z⟩ := I.base.tbls b ps q
    exact ⟨m, by rw [upd_ne (ne_of_none z hn)]; exact z⟩
  · rw [upd_ne (Ne.symm hL)]; exact I.free
  · rw [upd_ne (hC x c e)]; exact I.freeC x c e
  · obtain ⟨z1, z2, z3⟩ := I.pin p hp2
    exact ⟨z1, by rw [upd_ne (hp p hp2)]; exact z2, z3⟩
  · by_cases hb : b = a
    · subst hb; rw [upd_same] at e; cases e; exact new
    · rw [upd_ne hb] at e
      exact (I.hok b u e).stay (fun c v _ q => q) (fun c q => by rw [upd_ne (ne_of_none q hn)]; exact q) fun c xs q => by rw [upd_ne (ne_of_none q hn)]; exact q
theorem upd_comm {H : Hp} {a b : Addr} {o u : HO} (h : a ≠ b) : upd (upd H a o) b u = upd (upd H b u) a o := by
  funext c
  unfold upd
  by_cases h1 : c = b
  · subst h1; simp [Ne.symm h]
  · simp [h1]
theorem among_last {pos p' : Pos} {c cv : Value} (l : List Value) (h : TriplesOk l) (hc : codeAmong p' (l ++ [rawInt pos.line, rawInt pos.col, c]) = some cv) : codeAmong p' l = some cv ∨ cv = c := by
  fun_induction TriplesOk l with
  | case1 =>
    simp only [List.nil_append, rawInt, codeAmong] at hc
    split at hc
    · exact .inr (Option.some.inj hc).symm
    · cases hc
  | case2 a t b u x rest ih =>
    simp only [List.cons_append, codeAmong] at hc ⊢
    split at hc
    · rename_i q
      rw [if_pos q]
      exact .inl hc
    · rename_i q
      rw [if_neg q]
      exact ih h hc
  | case3 l h1 h2 => exact h.elim
/-- a code object and its table are new, the maker's table tells it: all known from now on -/
theorem code_new {X : Cx} {F : Fx} {pins : List (Addr × Obj)} {S : FS} {σ : Sl} {H : Hp} {s : Shared} {P c' : Addr} {ps : Array Value} {h3 : Heap} {tk : Nat} {q : Str} {pos : Pos} (I : Inv X pins σ H s) (r : Rel X.K F S σ H) (hPt : H P = some (.tbl ps)) (htr : TriplesOk ps.toList)
    (hx : Heap.ExtBut P s.heap h3) (hge : s.heap.objs.size ≤ c') (rec : h3.CodeRec (.ref c') q) (hP3 : h3.get? P = some { cls := .none, data := .fields (ps ++ #[rawInt pos.line, rawInt pos.col, .ref c']) })
    (hnew : ∃ P', s.heap.objs.size ≤ P' ∧ h3.IsCode c' P' #[] ∧ h3.TableAt c' P' #[]) :
    ∃ H3, Inv X pins σ H3 { s with heap := h3, toks := tk } ∧ Rel X.K F S σ H3 ∧ Pers H H3 ∧ (∀ b, b ≠ P → b < s.heap.objs.size → H3 b = H b) ∧ CodeG H3 (.ref c') ∧ (∀ b u, H b = some u → isTbl u = false → H3 b = some u) := by
  obtain ⟨P', hge2, ic, tb⟩ := hnew
  obtain ⟨⟨oc, vs, e1, e2, e3, e4⟩, tP'⟩ := tb
  obtain ⟨oc2, vs2, file, tf, fl, tg, inF, tx, tt, op, d1, d2, d3, d4, d5, d6, d7, d8, d9, d10, d11⟩ := ic
  rw [e1] at d1; cases d1
  rw [e3] at d2; cases d2
  obtain ⟨c0, oc0, vs0, t0, g1, g2, g3, g4⟩ := rec
  cases g1
  rw [e1] at g2; cases g2
  rw [e3] at g3; cases g3
  have n1 : H c' = none := I.hok.fresh hge
  have n2 : H P' = none := I.hok.fresh hge2
  have sz : X.s_0.heap.objs.size ≤ s.heap.objs.size := I.sz
  have nP1 : P ≠ c' := ne_of_none hPt n1
  have nP2 : P ≠ P' := ne_of_none hPt n2
  have I1 := GxR.inv_tab (more := #[rawInt pos.line, rawInt pos.col, .ref c']) (h' := h3) (g' := s.gens) (d' := s.drawn) (t' := tk) I hPt (fun b o hb e => hx b o hb e) hP3 I.bare
  have lt : ∀ {a}, s.heap.objs.size ≤ a → a ≠ X.env.locals ∧ (∀ x c, X.env.cells.lookup x = some c → c ≠ a) ∧ ∀ p ∈ X.pn ++ pins, p.1 ≠ a := fun {a} ha =>
    ⟨fun z => Nat.lt_irrefl _ (Nat.lt_of_lt_of_le (z ▸ I.lt) ha), fun x c e z => by obtain ⟨w, z2⟩ := I.cell x c e; exact Nat.lt_irrefl _ (Nat.lt_of_lt_of_le (z ▸ z2.lt) ha), fun p hp z => Nat.lt_irrefl _ (Nat.lt_of_lt_of_le (z ▸ Heap.lt_size (I.pin p hp).1) ha)⟩
  have I2 := inv_track (a := c') (o := .frz oc (.own c')) I1 (by rw [upd_ne (Ne.symm nP1)]; exact n1) (Nat.le_trans sz hge) (lt hge).1 (lt hge).2.1 (lt hge).2.2 ⟨e1, _, e1⟩
  have I3 := inv_track (a := P') (o := .tbl #[]) I2 (by rw [upd_ne (Ne.symm d11), upd_ne (Ne.symm nP2)]; exact n2) (Nat.le_trans sz hge2) (lt hge2).1 (lt hge2).2.1 (lt hge2).2.2 (show h3.get? P' = _ from tP')
  have eH : upd (upd (upd H P (.tbl (ps ++ #[rawInt pos.line, rawInt pos.col, .ref c']))) c' (.frz oc (.own c'))) P' (.tbl #[]) = upd (upd (upd H c' (.frz oc (.own c'))) P' (.tbl #[])) P (.tbl (ps ++ #[rawInt pos.line, rawInt pos.col, .ref c'])) := by
    rw [upd_comm nP1, upd_comm nP2]
  rw [eH] at I3
  have r1 : Rel X.K F S σ (upd H c' (.frz oc (.own c'))) := r.new n1
  have n2' : upd H c' (.frz oc (.own c')) P' = none := by rw [upd_ne (Ne.symm d11)]; exact n2
  have r2 : Rel X.K F S σ (upd (upd H c' (.frz oc (.own c'))) P' (.tbl #[])) := r1.new n2'
  have p1 : Pers H (upd H c' (.frz oc (.own c'))) := Pers.new n1
  have p2 := p1.trans (Pers.new (o := .tbl #[]) n2')
  have hP2 : upd (upd H c' (.frz oc (.own c'))) P' (.tbl #[]) P = some (.tbl ps) := by rw [upd_ne nP2, upd_ne nP1]; exact hPt
  have eL : (ps ++ #[rawInt pos.line, rawInt pos.col, .ref c']).toList = ps.toList ++ [rawInt pos.line, rawInt pos.col, .ref c'] := by simp
  have ht3 : TriplesOk (ps ++ #[rawInt pos.line, rawInt pos.col, .ref c']).toList := by rw [eL]; exact PySem.TriplesOk_snoc _ _ _ _ htr
  have cg : CodeG (upd (upd H c' (.frz oc (.own c'))) P' (.tbl #[])) (.ref c') :=
    ⟨c', oc, .own c', vs, q, t0, P', rfl, by rw [upd_ne d11]; exact upd_same, e2, e3, g4, e4, ⟨file, tf, fl, tg, inF, tx, tt, d3, d4, d5, d6, d7⟩, d11, ⟨_, upd_same, trivial⟩, _, rfl⟩
  have hc3 : P ∈ F.tabs → ∀ p cv, codeAmong p (ps ++ #[rawInt pos.line, rawInt pos.col, .ref c']).toList = some cv → CodeG (upd (upd H c' (.frz oc (.own c'))) P' (.tbl #[])) cv := fun hPF p cv hcv => by
    obtain ⟨ps2, e2', _, hold⟩ := r.tabs P hPF
    rw [hPt] at e2'; cases e2'
    rw [eL] at hcv
    rcases among_last _ htr hcv with z | z
    · exact (hold p cv z).later p2
    · subst z; exact cg
  have p3 : Pers _ (upd (upd (upd H c' (.frz oc (.own c'))) P' (.tbl #[])) P (.tbl (ps ++ #[rawInt pos.line, rawInt pos.col, .ref c']))) := pers_grow hP2 ht3
  refine ⟨_, I3, r2.grow hP2 ht3 hc3, p2.trans p3, fun b hb hl => ?_, cg.later p3, fun b u e ht => ?_⟩
  · rw [upd_ne hb, upd_ne (Nat.ne_of_lt (Nat.lt_of_lt_of_le hl hge2)), upd_ne (Nat.ne_of_lt (Nat.lt_of_lt_of_le hl hge))]
  · rw [upd_ne (fun z => by subst z; rw [hPt] at e; cases e; cases ht), upd_ne (ne_of_none e n2), upd_ne (ne_of_none e n1)]; exact e
/-- the running frame's code object and its table -/
def TabH (X : Cx) (F : Fx) : Prop := ∀ {pins : List (Addr × Obj)} {σ : Sl} {H : Hp} {s : Shared} {S : FS}, Inv X pins σ H s → Rel X.K F S σ H → ∃ (c P : Addr) (ps : Array Value), X.env.code = .ref c ∧ H P = some (.tbl ps) ∧ TriplesOk ps.toList ∧ PySem.W.CodeHd s.heap c P ∧ s.heap.BuiltinsAt X.mg P ∧ mainGlobals ≠ P
theorem tabH_of {X : Cx} {F : Fx} {c P : Addr} (TB : GxR.TabB X.base X.mg c P) (hcode : X.env.code = .ref c) (hP : P ∈ F.tabs) : TabH X F := fun I r =>
  let ⟨ps, e, t, _⟩ := r.tabs P hP
  ⟨c, P, ps, hcode, e, t, TB.code.keeps fun b u e => I.bk b u e, TB.bm.keeps I.bk, TB.gP⟩
structure GenSc (scope : Scope) : Prop where
  co : scope.isCoroutine = false
  nc : ∀ y ∈ scope.names, y.2 ≠ .cell
  dot : scope.names.lookup (".0" : Str) = some NameKind.local
def anyNm (stop : Bool) : Str := if stop then "any" else "all"
def fAny (stop : Bool) (it : FS → Res (List D)) (g : D → FS → Option FS) (t : FS → Res Bool) (fe : FS → Res D) (vs : List Nat) : FS → Res D := bnd it fun ds S => match anyF stop g t fe vs ds S with
  | .ok b S => .ok (.bool b) S
  | _ => .bad
theorem boot_anyNm : ∀ stop, bootBuiltins (anyNm stop) = some (.builtin (if stop then "any" else "all"))
  | true => boot_any
  | false => by first | rfl | decide | kernel_rfl
theorem over_gen {A : Around} {elt tg iter : Expr} {ifs : List Expr} {scope : Scope} {pos : Pos} {it acc : Value} {env : Env} : A.over (.compLoop (.GeneratorExp elt [⟨tg, iter, ifs, 0⟩] scope pos) 0 it acc env) [] = A.deeper env := by
  first
    | rfl
    | (obtain ⟨hd, d, fr, gs, u⟩ := A; simp [Around.over, Around.deeper, marksOver, frameCount, unitsOf, envsOf, guardsOf, pushEnvs, pushGuards, Code.envs, Code.env?, Code.isFrame, Code.guards, Code.isGuard, Code.weight, Code.frames, Code.isCreation, Code.isCaller, Code.cUnits])
section
variable {X : Cx} {F : Fx} {elt tg iter : Expr} {ifs : List Expr} {scope : Scope} {own : List (Str × Nat)} {gpos : Pos} {it : FS → Res (List D)} {g : D → FS → Option FS} {t : FS → Res Bool} {fe : FS → Res D} {ts : List Nat}
theorem eval_gen {stop : Bool} {k : Nat} {Q0 : Value → Shared → Prop} {pins : List (Addr × Obj)} {s : Shared} {σ : Sl} {H : Hp} {Q : VK}
    (hr : RoomG (k + 1) X.A) (hc : X.calm = true) (hN : X.N.Nodup) (TH : TabH X F) (hi : EI X F tg iter it) (ok : BlkOk X.N X.env.scope scope own) (G : GenSc scope) (hts : ∀ j, j ∈ ts → j ∈ own.map (·.2))
    (hg : ∀ (A' : Around) (s : Shared) (H : Hp) (C : Addr) (cl : List (Str × Addr)) (code : Value) (fp : List Addr) (pn : List (Addr × Obj)), RoomG k A' → EG (gbX X A' s H (genEnv scope cl C code builtinsNs X.env) fp pn) F tg ts g)
    (ht : ∀ (A' : Around) (s : Shared) (H : Hp) (C : Addr) (cl : List (Str × Addr)) (code : Value) (fp : List Addr) (pn : List (Addr × Obj)), RoomG k A' → ETs (gbX X A' s H (genEnv scope cl C code builtinsNs X.env) fp pn) F ifs t)
    (he : ∀ (A' : Around) (s : Shared) (H : Hp) (C : Addr) (cl : List (Str × Addr)) (code : Value) (fp : List Addr) (pn : List (Addr × Obj)), RoomG k A' → ED (gbX X A' s H (genEnv scope cl C code builtinsNs X.env) fp pn) F elt fe)
    (hs : ∀ x, genFold iter X.env x = pure x) (I : Inv X pins σ H s) (h : rdG X.K F PR (fAny stop it g t fe (own.map (·.2))) σ H Q)
    (hQ : ∀ (a : Addr) (gi : Nat) (go : Obj) (gs : GenState) (s5 : Shared) (Y : Cx) (n : Nat), s5.heap.IsGen a gi → s5.heap.NoLimit → s5.gens[gi]? = some gs → Y.prog = X.prog → Y.w = X.w → Y.pn = [(a, go)] → (∀ h : Heap, h.get? a = some go → h.IsGen a gi) →
      gs.Goes (model X.prog X.w) X.A.in1.in1 (GRr Y stop fun b H' => Q (.bl b) H') (GYp Y stop fun b H' => Q (.bl b) H') n (.send .none) (s5.setGen gi .running) → (∀ H' σ' pins' s', Inv Y pins' σ' H' s' → Inv X pins σ H' s') → Q0 (.ref a) s5) :
    wpAny (model X.prog X.w) X.A (eval (.GeneratorExp elt [⟨tg, iter, ifs, 0⟩] scope gpos) X.env) Q0 X.xe s := by
  obtain ⟨S, r, p⟩ := h
  have hfree : ∀ y ∈ scope.names, y.2 = .free → ∃ c, X.env.cells.lookup y.1 = some c := fun y hy e => by
    rcases ok.free y hy e with k | k
    · exact I.ok.has _ (.inl k)
    · exact I.ok.has _ (.inr k)
  unfold fAny bnd at p
  have hit : rdI X.K F it σ H fun J H1 => ∃ S1 ds, Rel X.K F S1 σ H1 ∧ Pers H H1 ∧ Yields X.K J H1 ds ∧ postT X.K F (anyF stop g t fe (own.map (·.2)) ds S1) σ H1 fun b H' => Q (.bl b) H' := by
    refine ⟨S, r, ?_⟩
    cases e : it S with
    | exn e2 S1 => rw [e] at p; exact p
    | bad => rw [e] at p; exact p
    | ok ds S1 =>
      rw [e] at p
      intro J H1 p1 r1 y
      refine ⟨S1, ds, r1, p1, y, ?_⟩
      simp only [Res.bind_ok] at p
      cases e2 : anyF stop g t fe (own.map (·.2)) ds S1 with
      | ok b S2 => rw [e2] at p; exact fun H' p2 r2 => p (.bl b) H' (p1.trans p2) r2 (.bl b)
      | exn e3 S2 => rw [e2] at p; exact p.elim
      | bad => rw [e2] at p; exact p
  refine wpAny_GeneratorExp_make G.co (closure_ok hfree) G.nc G.dot ok.kind hr.rm.depth ?_ hs
  refine thn (hi.run pins s σ H _ I hit) fun xv s1 hx => thn hx fun itv s2 h2 => ?_
  obtain ⟨it, fp, tn, J, H2, e, I2, T, st2, f2, S1, ds, r2, p2, y2, q⟩ := h2
  subst e
  obtain ⟨c, P, ps, hcode, hPt, htr, cd, tbm, gP⟩ := TH I2 r2
  have hPs : s2.heap.get? P = some { cls := .none, data := .fields ps } := I2.hok P _ hPt
  have nP : ∀ b ∈ fp, b ≠ P := fun b hb z => by
    have := (f2 b hb).1
    rw [z, hPt] at this; cases this
  have szb : ∀ b ∈ fp, ∃ o, s2.heap.get? b = some o := fun b hb => let ⟨o, e, _⟩ := T.obj _ _ st2 b hb; ⟨o, e⟩
  have cont : ∀ (code : Value) (h3 : Heap) (tk : Nat) (H3 : Hp), Heap.ExtBut P s2.heap h3 → Inv X pins σ H3 { s2 with heap := h3, toks := tk } → Rel X.K F S1 σ H3 → Pers H2 H3 → (∀ b ∈ fp, H3 b = none) →
      wpAny (model X.prog X.w) X.A (builtinsFor X.env.globals X.env.builtins) (fun bi s₄ => ∀ h', h'.Ns s₄.heap.objs.size (fun y => if y = ".0" then some (.ref it) else none) → Heap.SameBut s₄.heap.objs.size (s₄.heap.push { cls := .type "frame", data := .dict #[] }) h' →
          Q0 (.ref h'.objs.size) { s₄ with
            gens := s₄.gens.push (.fresh (.compStart (.GeneratorExp elt [⟨tg, iter, ifs, 0⟩] scope gpos) 0 (.ref it) .none (genEnv scope (cloFrom X.env.cells scope.names []) s₄.heap.objs.size code bi X.env))),
            toks := s₄.toks + 1 + 1 + 1,
            heap := h'.push { cls := .type "generator", data := .fields #[.int s₄.gens.size 0, .str "<genexpr>" (s₄.toks + 1), .str (X.env.qual ++ "<genexpr>") (s₄.toks + 1 + 1)] } }) X.xe { s2 with heap := h3, toks := tk } := by
    intro code h3 tk H3 hx I3 r3 pp3 n3
    generalize hs3 : ({ s2 with heap := h3, toks := tk } : Shared) = s3 at *
    have hh3 : s3.heap = h3 := by rw [← hs3]
    have f3 : ∀ b ∈ fp, FpOk X pins H3 b ∧ b < s3.heap.objs.size := fun b hb => by
      obtain ⟨o, e⟩ := szb b hb
      exact ⟨⟨n3 b hb, (f2 b hb).2⟩, by rw [hh3]; exact Heap.lt_size (hx b o (nP b hb) e)⟩
    have st3 : tn 0 s3.heap := T.keep _ _ _ st2 fun b hb o e => by rw [hh3]; exact hx b o (nP b hb) e
    obtain ⟨bm, ob, e1, e2, e3, e4, e5, e6, e7, e8⟩ := tbm
    refine wpAny_builtinsFor (m := X.mg) (by rw [I3.ok.glob]; exact I3.mod.glob.keeps I3.bk) e1 e2 (by rw [hh3]; exact hx bm ob e4 e5) e6 e7 e8 ?_
    intro h' hn' hs'
    have keep' : ∀ b o, s3.heap.get? b = some o → h'.get? b = some o := fun b o e => hs'.extBut b o (Nat.ne_of_lt (Heap.lt_size e)) (Heap.get?_push_of_some _ e)
    generalize hgo : ({ cls := .type "generator", data := .fields #[.int s3.gens.size 0, .str "<genexpr>" (s3.toks + 1), .str (X.env.qual ++ "<genexpr>") (s3.toks + 1 + 1)] } : Obj) = go
    have hpush : (h'.push go).get? h'.objs.size = some go := by rw [← hgo]; exact Heap.get?_push_size _ rfl
    have isG : ∀ h : Heap, h.get? h'.objs.size = some go → h.IsGen h'.objs.size s3.gens.size := fun h e => ⟨go, _, _, e, by rw [← hgo], by rw [← hgo], by rw [← hgo]⟩
    have hgc : ∀ v, go.data ≠ .cell v := fun v z => by rw [← hgo] at z; cases z
    let genv := genEnv scope (cloFrom X.env.cells scope.names []) s3.heap.objs.size code builtinsNs X.env
    let A' := X.A.in1.in1.deeper genv
    have hr' : RoomG k A' := ⟨⟨hr.rm.hd, by have := hr.rm.dp; show X.A.depth + 1 + 3 * k + 5 < _; omega, by have := hr.rm.un; show X.A.units + 1 + 1 + 3 + 16 * k + 200 < _; omega⟩, hr.gd⟩
    have hfr : A'.frames = some (genv :: X.stack) := Around.frames_deeper (show X.A.in1.in1.frames = some X.stack from I3.ok.frames)
    have I4 := gen_start (A' := A') (code := code) (go := go) (gs := .fresh (.compStart (.GeneratorExp elt [⟨tg, iter, ifs, 0⟩] scope gpos) 0 (.ref it) .none genv)) (tk := s3.toks + 1 + 1 + 1) I3 ok G.nc hN f3 (fun _ => hr.rm.hd) hfr hn' keep' hgc hpush rfl
    have stat : ∀ (σ' : Sl) (H' : Hp) (s' : Shared), Inv (gbX X A' s3 H3 genv fp [(h'.objs.size, go)]) [] σ' H' s' → (∀ b ∈ fp, H' b = none) → ∀ b ∈ fp, FpOk (gbX X A' s3 H3 genv fp [(h'.objs.size, go)]) [] H' b := fun σ' H' s' I' hn b hb =>
      ⟨hn b hb, (I'.ok.exf b hb).1, I'.ok.exfs b hb, .inl hb, fun x c e => (I'.ok.exf b hb).2 x c e, fun p hp => by
        have hp2 : p ∈ [(h'.objs.size, go)] := by simpa using hp
        rw [List.mem_singleton.mp hp2]
        exact Nat.ne_of_gt (Nat.lt_trans (f3 b hb).2 hn'.lt)⟩
    have loop := fun (s₀ s' : Shared) (w : Woken { s3 with gens := s3.gens.push (.fresh (.compStart (.GeneratorExp elt [⟨tg, iter, ifs, 0⟩] scope gpos) 0 (.ref it) .none genv)), toks := s3.toks + 1 + 1 + 1, heap := h'.push go } s') =>
      gen_loop (Y := gbX X A' s3 H3 genv fp [(h'.objs.size, go)]) (F := F) (A := X.A.in1.in1) (stop := stop) (Q := fun b H' => Q (.bl b) H') (elt := elt) (iter := iter) (pos := gpos) (scope := scope) (vs := own.map (·.2)) (σ := σ) (H1 := H2) (ds := ds) hc (fun _ _ z => z) over_gen G.co T stat y2
        (hg A' s3 H3 _ _ code fp _ hr') (ht A' s3 H3 _ _ code fp _ hr') (he A' s3 H3 _ _ code fp _ hr') hts ds.length 0 ds.length s₀ s' S1 H3 (Nat.sub_zero _) (Nat.zero_le _) (Nat.le_refl _) (inv_same I4 w.heap w.os w.bare)
        (T.keep _ _ _ st3 fun b _ o e => by rw [w.heap]; exact Heap.get?_push_of_some _ (keep' b o e)) n3 pp3 r3 (by rw [List.drop_zero]; exact postT.later pp3 q)
    refine hQ _ s3.gens.size go _ _ (gbX X A' s3 H3 genv fp [(h'.objs.size, go)]) ds.length (isG _ hpush) I4.nolimit (Array.getElem?_push_size ..) rfl rfl rfl isG ?_ fun H' σ' pins' s' I' => ?_
    · refine ⟨rfl, ?_⟩
      have wk : Woken { s3 with gens := s3.gens.push (.fresh (.compStart (.GeneratorExp elt [⟨tg, iter, ifs, 0⟩] scope gpos) 0 (.ref it) .none genv)), toks := s3.toks + 1 + 1 + 1, heap := h'.push go }
          (({ s3 with gens := s3.gens.push (.fresh (.compStart (.GeneratorExp elt [⟨tg, iter, ifs, 0⟩] scope gpos) 0 (.ref it) .none genv)), toks := s3.toks + 1 + 1 + 1, heap := h'.push go } : Shared).setGen s3.gens.size .running) := ⟨rfl, rfl, allBare_setGen I4.bare rfl⟩
      exact gen_begin (Y := gbX X A' s3 H3 genv fp [(h'.objs.size, go)]) T (T.keep _ _ _ st3 fun b _ o e => Heap.get?_push_of_some _ (keep' b o e)) (loop _ _ wk)
    · exact I3.call' (ch := fp) I'.os I'.base I'.hok I'.bare fun b hb => ⟨(f3 b hb).1.2.2.2.1, (f3 b hb).1.2.1, (f3 b hb).1.2.2.2.2.1, (f3 b hb).1.2.2.2.2.2⟩
  refine ⟨I2.nolimit, ?_⟩
  cases hf : codeAmong gpos ps.toList with
  | none =>
    refine wpAny_genexprCodeX hcode (cd.code hPs htr) (cd.tab hPs) hf fun c' h' tk hx hge hlt hco' hrec htab' hnew => ?_
    obtain ⟨H3, I3, r3, pp3, same, _, _⟩ := code_new (tk := tk) I2 r2 hPt htr hx hge hrec htab'.2 hnew
    exact cont _ h' tk H3 hx I3 r3 pp3 fun b hb => by
      obtain ⟨o, e⟩ := szb b hb
      rw [same b (nP b hb) (Heap.lt_size e)]; exact (f2 b hb).1
  | some cv =>
    refine wpAny_genexprCode_hit hcode (cd.code hPs htr) hf ?_
    exact cont cv s2.heap s2.toks H2 (Heap.ExtBut.refl _ _) I2 r2 (.refl _) fun b hb => (f2 b hb).1
end
end Fz
namespace Fz
open PySem PySem.Spec PyProof.Rows L2 GenW
section
variable {X : Cx} {F : Fx} {elt tg iter : Expr} {ifs : List Expr} {scope : Scope} {own : List (Str × Nat)} {gpos : Pos} {it : FS → Res (List D)} {g : D → FS → Option FS} {t : FS → Res Bool} {fe : FS → Res D} {ts : List Nat}
theorem e_anyH (stop : Bool) {k : Nat} {p pos : Pos}
    (hr : RoomG (k + 1) X.A) (hc : X.calm = true) (hN : X.N.Nodup) (hgl : Gl X (anyNm stop)) (hm : X.mg (anyNm stop) = none) (TH : TabH X F) (hi : EI X F tg iter it) (ok : BlkOk X.N X.env.scope scope own) (G : GenSc scope) (hts : ∀ j, j ∈ ts → j ∈ own.map (·.2))
    (hg : ∀ (A' : Around) (s : Shared) (H : Hp) (C : Addr) (cl : List (Str × Addr)) (code : Value) (fp : List Addr) (pn : List (Addr × Obj)), RoomG k A' → EG (gbX X A' s H (genEnv scope cl C code builtinsNs X.env) fp pn) F tg ts g)
    (ht : ∀ (A' : Around) (s : Shared) (H : Hp) (C : Addr) (cl : List (Str × Addr)) (code : Value) (fp : List Addr) (pn : List (Addr × Obj)), RoomG k A' → ETs (gbX X A' s H (genEnv scope cl C code builtinsNs X.env) fp pn) F ifs t)
    (he : ∀ (A' : Around) (s : Shared) (H : Hp) (C : Addr) (cl : List (Str × Addr)) (code : Value) (fp : List Addr) (pn : List (Addr × Obj)), RoomG k A' → ED (gbX X A' s H (genEnv scope cl C code builtinsNs X.env) fp pn) F elt fe)
    (hs : ∀ x, genFold iter X.env x = pure x := by intro _; rfl)
    (hea : starEach [.GeneratorExp elt [⟨tg, iter, ifs, 0⟩] scope gpos] X.env = (false, eval (.GeneratorExp elt [⟨tg, iter, ifs, 0⟩] scope gpos) X.env) :: starEach [] X.env := by rfl) :
    ED X F (.Call (.Name (anyNm stop) p) [.GeneratorExp elt [⟨tg, iter, ifs, 0⟩] scope gpos] [] pos) (fAny stop it g t fe (own.map (·.2))) := by
  refine ⟨fun pins s σ H Q I h => ?_⟩
  refine wpAny_Call_Name_kw (ld_blt I hgl hm (boot_anyNm stop) ?_ (by cases stop <;> decide) (by cases stop <;> decide))
  refine PyProof.Rows.callWith_builtin1 ?_ hea (by rfl)
  rw [hea]
  show wpAny _ _ (spliced ((false, eval (.GeneratorExp elt [⟨tg, iter, ifs, 0⟩] scope gpos) X.env) :: backTo pos (starEach [] X.env))) _ _ s
  refine Calls.spliced_cons (eval_gen (stop := stop) hr hc hN TH hi ok G hts hg ht he hs I h fun a gi go gs s5 Y n hG hl hgs hp hw hpn hgo hgoes hback => ?_)
  refine Calls.spliced_nil ?_
  have fin : ∀ (b : Bool) (H' : Hp) (σ' : List (Option V)) (pins' : List (Addr × Obj)) (s' : Shared), Inv Y pins' σ' H' s' → Q (.bl b) H' → EP X pins σ Q (.bool b) s' := fun b H' σ' pins' s' I' q => ⟨.bl b, H', hback _ _ _ _ I', rfl, q⟩
  have U := use_gen (Y := Y) (A := X.A) (stop := stop) (Q := fun b H' => Q (.bl b) H') (RR := fun r s' => match r with | .ok (.ret v) => EP X pins σ Q v s' | .ok _ => False | .error e => X.xe e s') hr.rm.hd hr.rm.depth hpn hgo (fun σ pins H s I => I.nolimit) (fun b H' σ' pins' s' I' q => fin b H' σ' pins' s' I' q) n gs s5 hG hl hgs (by rw [hp, hw]; exact hgoes)
  rw [hp, hw] at U
  cases stop with
  | true =>
    refine call_function_tree PySem.F.kind_any PySem.F.plain_any PySem.F.entry_any (PySem.F.args_any1 _) ?_
    unfold Builtin.«any»
    refine wpAny_bind (m := oneArg "any" _) (wpAny_pure ?_)
    refine wpAny_bind (wpAny_pyIter_gen hG ?_)
    exact wpAny_pure ⟨plainId_quiet PySem.F.plain_any_loop _, U⟩
  | false =>
    refine call_function_tree PySem.F.kind_all PySem.F.plain_all PySem.F.entry_all (PySem.F.args_all1 _) ?_
    unfold Builtin.«all»
    refine wpAny_bind (m := oneArg "all" _) (wpAny_pure ?_)
    refine wpAny_bind (wpAny_pyIter_gen hG ?_)
    exact wpAny_pure ⟨plainId_quiet PySem.F.plain_all_loop _, U⟩
theorem e_any (stop : Bool) {k : Nat} {c P : Addr} {p pos : Pos}
    (hr : RoomG (k + 1) X.A) (hc : X.calm = true) (hN : X.N.Nodup) (hgl : Gl X (anyNm stop)) (hm : X.mg (anyNm stop) = none) (TB : GxR.TabB X.base X.mg c P) (hcode : X.env.code = .ref c) (hP : P ∈ F.tabs) (hi : EI X F tg iter it) (ok : BlkOk X.N X.env.scope scope own) (G : GenSc scope) (hts : ∀ j, j ∈ ts → j ∈ own.map (·.2))
    (hg : ∀ (A' : Around) (s : Shared) (H : Hp) (C : Addr) (cl : List (Str × Addr)) (code : Value) (fp : List Addr) (pn : List (Addr × Obj)), RoomG k A' → EG (gbX X A' s H (genEnv scope cl C code builtinsNs X.env) fp pn) F tg ts g)
    (ht : ∀ (A' : Around) (s : Shared) (H : Hp) (C : Addr) (cl : List (Str × Addr)) (code : Value) (fp : List Addr) (pn : List (Addr × Obj)), RoomG k A' → ETs (gbX X A' s H (genEnv scope cl C code builtinsNs X.env) fp pn) F ifs t)
    (he : ∀ (A' : Around) (s : Shared) (H : Hp) (C : Addr) (cl : List (Str × Addr)) (code : Value) (fp : List Addr) (pn : List (Addr × Obj)), RoomG k A' → ED (gbX X A' s H (genEnv scope cl C code builtinsNs X.env) fp pn) F elt fe)
    (hs : ∀ x, genFold iter X.env x = pure x := by intro _; rfl)
    (hea : starEach [.GeneratorExp elt [⟨tg, iter, ifs, 0⟩] scope gpos] X.env = (false, eval (.GeneratorExp elt [⟨tg, iter, ifs, 0⟩] scope gpos) X.env) :: starEach [] X.env := by rfl) :
    ED X F (.Call (.Name (anyNm stop) p) [.GeneratorExp elt [⟨tg, iter, ifs, 0⟩] scope gpos] [] pos) (fAny stop it g t fe (own.map (·.2))) :=  e_anyH stop hr hc hN hgl hm (tabH_of TB hcode hP) hi ok G hts hg ht he hs hea
end
end Fz
end

section
set_option Elab.async false
set_option linter.all false
set_option maxRecDepth 100000
set_option maxHeartbeats 4000000
/-! F13: the head with code objects' tables; a def whose code object is known. -/
namespace Fz
open PySem PySem.Spec PyProof.Rows L2
/-- the def's code object, the code object's table -/
def codeA (K : Fg) (p : Str × Option Str) : Addr := match K.lookup (He.fAd K p) with
  | some ⟨_, _, .func fd, _⟩ => (match fd.code with
    | .ref c => c
    | _ => 0)
  | _ => 0
def tabA (K : Fg) (c : Addr) : Addr := match K.lookup c with
  | some ⟨_, _, .fields vs, _⟩ => (match (vs[11]? : Option Value) with
    | some (.ref P) => P
    | _ => 0)
  | _ => 0
def tabOf (K : Fg) (p : Str × Option Str) : Addr := tabA K (codeA K p)
def isRefC (K : Fg) (p : Str × Option Str) : Bool := match K.lookup (He.fAd K p) with
  | some ⟨_, _, .func fd, _⟩ => (match fd.code with
    | .ref _ => true
    | _ => false)
  | _ => false
def emptyT : Option Obj → Bool
  | some ⟨.none, none, .fields vs, sl⟩ => vs.isEmpty && sl.isEmpty
  | _ => false
theorem emptyT_ok {o : Option Obj} (h : emptyT o = true) : o = some { cls := .none, data := .fields #[] } := by
  unfold emptyT at h
  split at h
  · rename_i vs sl
    obtain ⟨h1, h2⟩ := He.ba h
    have e1 : vs = #[] := Array.isEmpty_iff.mp h1
    have e2 : sl = #[] := Array.isEmpty_iff.mp h2
    subst e1 e2; rfl
  · cases h
abbrev DP := Str × Option Str
/-- a def's code table (none), a constant (some) -/
def dps (ts : List DP) : List DP := ts.filter fun p => p.2.isNone
def cps (ts : List DP) : List DP := ts.filter fun p => p.2.isSome
/-- the text's constants -/
def cstD (x : Str) : Option PyData :=
  if x = "JOINED" then some (.tuple [.str "both", .str "either"])
  else if x = "ALL_WORDS" then some (.tuple [.str "strewn", .tuple []])
  else if x = "ZERO" then some (.tuple [.int 0, .int 1])
  else if x = "ONE" then some (.tuple [.int 1, .int 1])
  else if x = "ALONE" then some (.tuple [.str "undo", .str "names"])
  else if x = "OF_ONE" then some (.tuple [.str "drop", .str "show", .str "lost", .str "base", .str "plain"])
  else if x = "OF_TWO" then some (.tuple [.str "part", .str "same"])
  else none
def valB : Nat → Fg → Value → PyData → Bool
  | _, _, .str x _, .str y => decide (x = y)
  | _, _, .int i _, .int j => decide (i = j)
  | n + 1, K, .ref a, .tuple ds => (match K.lookup a with
    | some ⟨.type t, _, .seq its _, _⟩ => decide (t = "tuple") && (decide (its.toList.length = ds.length) && (decide (ds.length ≤ 1000) && (its.toList.zip ds).all fun p => valB n K p.1 p.2))
    | _ => false)
  | _, _, _, _ => false
def cstB (K : Fg) (p : DP) : Bool := match cstD p.1 with
  | some d => valB 4 K (.ref (He.ga K p.1)) d
  | none => false
/-- the part of the heap that is looked at: without the tables -/
def kOf (n : Nat) (ts : List DP) (g : Addr → Option Obj) : Fg := let as := He.asD g n; let K0 := He.frG g as; let tb := (dps ts).map (tabOf K0); He.frG g (as.filter fun a => !(tb.contains a))
def tabB (g : Addr → Option Obj) (K : Fg) (p : DP) : Bool := isRefC K p && (PySem.W.codeHdIn K (codeA K p) (tabOf K p) && (emptyT (g (tabOf K p)) && (K.lookup (tabOf K p)).isNone))
abbrev AlC : Type := He.AlD × Bool
def obsC (n : Nat) (fa : List He.Fa) (fn : List He.DefD) (ts : List DP) (g : Addr → Option Obj) : AlC := let K := kOf n ts g; (He.obsD fa fn K, (dps ts).all (tabB g K) && (cps ts).all (cstB K))
structure TabS (K : Fg) (h : Heap) (p : DP) : Prop where
  ref : isRefC K p = true
  hd : PySem.W.codeHdIn K (codeA K p) (tabOf K p) = true
  at_ : h.get? (tabOf K p) = some { cls := .none, data := .fields #[] }
  no : K.lookup (tabOf K p) = none
theorem tabB_ok {h : Heap} {K : Fg} {p : DP} (e : tabB h.get? K p = true) : TabS K h p := by
  obtain ⟨e1, e2⟩ := He.ba e
  obtain ⟨e3, e4⟩ := He.ba e2
  obtain ⟨e5, e6⟩ := He.ba e4
  exact ⟨e1, e3, emptyT_ok e5, by simpa using e6⟩
def hookC (n : Nat) (fa : List He.Fa) (fn : List He.DefD) (ts : List DP) : PySem.W.Hook where
  α := AlC
  obs := fun s => obsC n fa fn ts s.heap.get?
  val := fun _ => (He.valD fn, true)
  says := fun _ h => ∃ K : PySem.W.Frag, K.In h ∧ He.SaysD fa fn K ∧ (∀ p ∈ dps ts, TabS K h p) ∧ ∀ p ∈ cps ts, cstB K p = true
  of := fun _ s e => ⟨kOf n ts s.heap.get?, He.frG_in, congrArg (fun z : AlC => z.1) e, fun p hp => tabB_ok (List.all_eq_true.mp (Bool.and_eq_true_iff.mp (congrArg (fun z : AlC => z.2) e)).1 p hp), fun p hp => List.all_eq_true.mp (Bool.and_eq_true_iff.mp (congrArg (fun z : AlC => z.2) e)).2 p hp⟩
  keeps := fun _ _ _ ⟨K, hK, c, t, z⟩ k => ⟨K, PySem.W.Frag.In.keeps hK k, c, fun p hp => let ⟨a, b, d, e⟩ := t p hp; ⟨a, b, k _ _ d, e⟩, z⟩
theorem obsC_eq {n : Nat} {fa : List He.Fa} {fn : List He.DefD} {ts : List DP} {g : Addr → Option Obj} {s : Shared} (h : ∀ a, g a = s.heap.get? a) : obsC n fa fn ts g = (hookC n fa fn ts).obs s := by
  have e : g = s.heap.get? := funext h
  rw [e] <;> rfl
theorem code_of {K : Fg} {p : DP} {x qual : Str} {params : Arguments} {body : List Stmt} {scope : Scope} {dvs : List V} {kws : List (Str × V)} {fd : FuncData} (F : FunD K x qual params body scope dvs kws (He.fAd K p) fd) (h : isRefC K p = true) : fd.code = .ref (codeA K p) := by
  obtain ⟨oc, od, dV, kV, doc, pm, an, cdv, ct, osl, e, lk, _⟩ := F.ex
  unfold isRefC at h
  unfold codeA
  rw [lk] at h ⊢
  simp only at h ⊢
  split at h
  · rename_i c hc
    rw [hc]
  · cases h
end Fz
end

section
set_option Elab.async false
set_option linter.all false
set_option maxRecDepth 100000
set_option maxHeartbeats 4000000
/-! F14: the law's def at the head's end: the script as data, the tables. -/
namespace Fz
open PySem PySem.Spec PyProof.Rows L2
def scriptD (ns : List Int) : D := .list (ns.map .int)
theorem pdInts {K : Fg} {H : Hp} : ∀ ns : List Int, PdAll K H (ns.map V.int) (ns.map .int)
  | [] => .nil
  | i :: r => .cons (.int i) (pdInts r)
theorem spF_script {K : Fg} {w : World} {c : CloR} {T : List Addr} {den : Den} {a : Addr} {ns : List Int} {l : List SV} {H : Hp} {Q : VK} {E : XK} (h : FrzL K H a (ns.map V.int)) (hT : ∀ P ∈ T, TabOk H P) (hd : den [.d (scriptD ns)] = .ok (.d (.bool true)) l) (q : ∀ H', Q (.bl true) H') : spF K w c T 1 den [.ref a] H Q E := by
  refine ⟨[.d (scriptD ns)], rfl, ⟨rfl, fun i sv e => ?_, fun i j b ne ⟨ob, hi⟩ => ?_⟩, hT, ?_⟩
  · cases i with
    | zero => simp at e; subst e; exact ⟨_, rfl, .lst h (pdInts ns)⟩
    | succ i => simp at e
  · cases i with
    | zero => simp at hi
    | succ i => simp at hi
  · rw [hd]
    intro x H' _ r
    cases r
    exact q H'
/-- what is tracked when the law is called: its code's tables, the script -/
def lawH (ex : Bool) (a : Addr) (o : Obj) (xs : List V) (tb : List Addr) : Hp := fun b => if b ∈ tb then some (.tbl #[]) else if ex = true ∧ b = a then some (.frz o (.lst xs)) else none
section
variable {ex : Bool} {a : Addr} {o : Obj} {xs : List V} {tb : List Addr} {b : Addr}
theorem lawH_tab (h : b ∈ tb) : lawH ex a o xs tb b = some (.tbl #[]) := if_pos h
theorem lawH_script (h : a ∉ tb) : lawH true a o xs tb a = some (.frz o (.lst xs)) := by unfold lawH; rw [if_neg h, if_pos ⟨rfl, rfl⟩]
theorem lawH_off (h : b ∉ tb) (n : ¬ (ex = true ∧ b = a)) : lawH ex a o xs tb b = none := by unfold lawH; rw [if_neg h, if_neg n]
theorem lawH_cases {u : HO} (e : lawH ex a o xs tb b = some u) : (b ∈ tb ∧ u = .tbl #[]) ∨ (ex = true ∧ b = a ∧ u = .frz o (.lst xs)) := by
  by_cases h : b ∈ tb
  · rw [lawH_tab h] at e; cases e; exact .inl ⟨h, rfl⟩
  · by_cases n : ex = true ∧ b = a
    · unfold lawH at e
      rw [if_neg h, if_pos n] at e
      cases e
      exact .inr ⟨n.1, n.2, rfl⟩
    · rw [lawH_off h n] at e; cases e
end
theorem law_end {P : Program} {w : World} {K : Fg} {mg mb : Str → Option Value} {k : Nat} {fa a : Addr} {cs : List (Addr × Addr)} {fd : FuncData} {x : Str} {s : Shared} {vs : List Value} {ns : List Int} {den : Den} {l : List SV}
    (kin : K.In s.heap) (gns : s.heap.Ns mainGlobals mg) (bns : s.heap.Ns builtinsNs mb) (bbt : ∀ x : Str, x ≠ "__name__" → mb x = bootBuiltins x) (nlim : s.heap.NoLimit) (ng : s.gens = #[])
    (tabs : ∀ p ∈ cs, s.heap.get? p.2 = some { cls := .none, data := .fields #[] }) (tK : ∀ p ∈ cs, K.lookup p.2 = none) (cds : ∀ p ∈ cs, PySem.W.CodeHd s.heap p.1 p.2)
    (bmod : ∃ (bm : Addr) (ob : Obj), mg "__builtins__" = some (.ref bm) ∧ bm ≠ builtinsNs ∧ s.heap.get? bm = some ob ∧ ob.cls = .type "module" ∧ ob.dict = some builtinsNs ∧ ob.data = .plain)
    (hobj : s.heap.get? a = some { cls := .type "list", data := .seq vs.toArray }) (hints : IntsAre vs ns) (hlen : ns.length ≤ sizeLine) (room : RoomG k callerA)
    (hF : ∀ base : Heap, K.In base → base.Ns mainGlobals mg → (∀ p ∈ cs, GxR.TabB base mg p.1 p.2) → GOk P w K mg base k fa fd [x] (spG P w K mg base (cs.map (·.2)) 1 den)) (bd : ∀ (s : Shared) (u : Value), BindsTo s fd ⟨[u], []⟩ [(x, u)])
    (hd : den [.d (scriptD ns)] = .ok (.d (.bool true)) l) :
    codeAny (model P w) callerA (.call (.ref fa) ⟨[.ref a], []⟩) (fun r s' => r = .ok (.ret (.bool true)) ∧ OldK s.heap s'.heap ∧ s'.os = s.os ∧ AllBare s'.gens) s := by
  have rv := vals_ints hints
  let tb := cs.map (·.2)
  let o : Obj := { cls := .type "list", data := .seq vs.toArray }
  have tabAt : ∀ b ∈ tb, s.heap.get? b = some { cls := .none, data := .fields #[] } := fun b hb => by
    obtain ⟨p, hp, rfl⟩ := List.mem_map.mp hb
    exact tabs p hp
  have aOff : a ∉ tb := fun z => by
    have q := (tabAt a z).symm.trans hobj
    cases q
  let ex := (K.lookup a).isNone
  let H : Hp := lawH ex a o (ns.map V.int) tb
  have hok : HOk P w H s.heap := fun b u e => by
    rcases lawH_cases e with ⟨hb, rfl⟩ | ⟨_, rfl, rfl⟩
    · exact tabAt b hb
    · exact ⟨hobj, by rw [List.length_map]; exact hlen, vs, _, rv, hobj⟩
  -- what is neither a list like the script's nor a table is not tracked
  have off : ∀ {b : Addr} {ob : Obj}, s.heap.get? b = some ob → ob.data ≠ .fields #[] → (∀ its n, ob.data ≠ .seq its n) → H b = none := fun {b ob} e n1 n2 => by
    cases q : H b with
    | none => rfl
    | some u =>
      rcases lawH_cases q with ⟨hb, _⟩ | ⟨_, hb, _⟩
      · have := e.symm.trans (tabAt b hb)
        cases this
        exact (n1 rfl).elim
      · rw [hb] at e
        have := e.symm.trans hobj
        cases this
        exact (n2 _ _ rfl).elim
  have seen : ∀ {b : Addr} {ob : Obj}, s.heap.get? b = some ob → ob.data ≠ .fields #[] → (∀ its n, ob.data ≠ .seq its n) → (hidT s.heap H).get? b = some ob := fun e n1 n2 => hidT_get e (off e n1 n2)
  have nsH : ∀ {b : Addr} {m : Str → Option Value}, s.heap.Ns b m → (hidT s.heap H).Ns b m := fun ⟨ob, es, ep, e, d, r⟩ => ⟨ob, es, ep, seen e (fun z => by rw [d] at z; cases z) (fun its n z => by rw [d] at z; cases z), d, r⟩
  have kinH : K.In (hidT s.heap H) := fun b ob e => hidT_get (kin b ob e) (by
    cases q : H b with
    | none => rfl
    | some u =>
      rcases lawH_cases q with ⟨hb, _⟩ | ⟨hx, hb, _⟩
      · obtain ⟨p, hp, rfl⟩ := List.mem_map.mp hb
        rw [tK p hp] at e; cases e
      · have hx' : (K.lookup a).isNone = true := hx
        rw [hb] at e
        rw [e] at hx'; cases hx')
  have nGT : ∀ p ∈ cs, mainGlobals ≠ p.2 := fun p hp z => by
    obtain ⟨ob, es, ep, e, d, _⟩ := gns
    rw [z, tabs p hp] at e
    cases e; cases d
  have tbB : ∀ p ∈ cs, GxR.TabB (hidT s.heap H) mg p.1 p.2 := fun p hp => by
    refine ⟨?_, ?_, nGT p hp⟩
    · obtain ⟨ob, us, file, tf, flags, tg, inF, text, tt, e1, r1, r2, r3, rest⟩ := cds p hp
      refine ⟨ob, us, file, tf, flags, tg, inF, text, tt, seen e1 (fun z => ?_) (fun its n z => ?_), r1, r2, r3, rest⟩
      · rw [r2] at z; cases z; simp at r3
      · rw [r2] at z; cases z
    · obtain ⟨bm, ob, b1, b2, b3, b4, b5, b6⟩ := bmod
      refine ⟨bm, ob, b1, b2, fun z => ?_, fun z => ?_, seen b3 (fun y => by rw [b6] at y; cases y) (fun its n y => by rw [b6] at y; cases y), b4, b5, b6⟩
      · obtain ⟨o2, es, ep, e, d, _⟩ := gns
        rw [← z, b3] at e
        cases e
        rw [b6] at d; cases d
      · rw [z, tabs p hp] at b3
        cases b3; cases b6
  have e0 : Env0 P w K mg (hidT s.heap H) callerA [] s H := ⟨rfl, ⟨kinH, nsH gns, ⟨mb, nsH bns, bbt⟩, let ⟨mc, h1, h2⟩ := nlim; ⟨mc, nsH h1, h2⟩⟩, fun b ob e => of_hidT e, Nat.le_of_eq (hidT_size _ _), trivial, fun b hb => (List.not_mem_nil hb).elim, hok, .of_eq ng⟩
  have fz : FrzL K H a (ns.map V.int) := by
    cases q : K.lookup a with
    | none =>
      have hx : ex = true := by show (K.lookup a).isNone = true; rw [q]; rfl
      refine .inl ⟨o, ?_⟩
      show lawH ex a o (ns.map V.int) tb a = _
      rw [hx]; exact lawH_script aOff
    | some ob =>
      have e := (kin a ob q).symm.trans hobj
      cases e
      exact .inr (.inr ⟨_, vs.toArray, _, q, rfl, rfl, rfl, by rw [List.size_toArray, ← rv.length, List.length_map]; exact hlen, by simpa using rv⟩)
  refine codeAny_mono ((hF _ kinH (nsH gns) tbB).go callerA [] s H ⟨[.ref a], []⟩ [.ref a] [.ref a] (fun v _ => v = .bl true) (fun _ _ _ => False) room e0 (bd s (.ref a)) (.cons rfl .nil) (spF_script fz (fun Pt hP => ⟨#[], lawH_tab hP, trivial, fun pos cv z => by simp [codeAmong] at z⟩) hd fun _ => rfl)) fun r s' h => ?_
  match r, h with
  | .ok (.ret u), ⟨v, H', os, bare, un, hok', rr, ev⟩ =>
    have ev : v = .bl true := ev
    subst ev
    obtain rfl : u = Value.bool true := rr
    have grown : ∀ p ∈ cs, ∃ more : Array Value, s'.heap.get? p.2 = some { cls := .none, data := .fields more } := fun p hp => by
      obtain ⟨more, z⟩ := un.tbls p.2 #[] (lawH_tab (List.mem_map_of_mem hp))
      exact ⟨_, hok' p.2 _ z⟩
    have same : ∀ b ob, b ∉ tb → s.heap.get? b = some ob → s'.heap.get? b = some ob := fun b ob nb e => by
      cases q : H b with
      | none => exact un.keep b ob e q (List.not_mem_nil) (List.not_mem_nil)
      | some u =>
        rcases lawH_cases q with ⟨hb, _⟩ | ⟨_, hb, eu⟩
        · exact (nb hb).elim
        · subst eu
          have z := hok' b _ (un.frzs b o _ q)
          rw [hb] at e
          have := e.symm.trans hobj
          cases this
          exact z.1
    refine ⟨rfl, ⟨fun b ob e => ?_, fun b ob e => ?_⟩, os, bare⟩
    · by_cases hb : b ∈ tb
      · obtain ⟨p, hp, rfl⟩ := List.mem_map.mp hb
        obtain ⟨more, hm⟩ := grown p hp
        have := e.symm.trans (tabs p hp)
        cases this
        exact .inr (.inl ⟨((cds p hp).tab (tabs p hp)).isCodeTable, rfl, #[], more, rfl, by rw [Array.empty_append]; exact hm⟩)
      · exact .inl (same b ob hb e)
    · by_cases hb : b ∈ tb
      · obtain ⟨p, hp, rfl⟩ := List.mem_map.mp hb
        obtain ⟨more, hm⟩ := grown p hp
        exact ⟨_, hm⟩
      · exact ⟨ob, same b ob hb e⟩
/-- the walk: what the head says of the law's def -/
theorem walk_F {lw : PySem.W.OpenLaw} {n k : Nat} {q : Program} {loose : List Str} {XP : (Str → Option Value) → Heap → Prop} {YP : World → Heap → Prop} {d : DefRec} {x : Str} (hn : lw.most = some n) (hn2 : n ≤ sizeLine) (hdf : d.params.defaults = []) (room : RoomG k callerA)
    (hF : ∀ (w : World) (mg : Str → Option Value) (fa : Addr) (h : Heap), YP w h → h.Ns mainGlobals mg → mg d.name = some (.ref fa) → ∃ (K : PySem.W.Frag) (cs : List (Addr × Addr)) (fd : FuncData) (den : Den), K.In h ∧
      (∀ p ∈ cs, h.get? p.2 = some { cls := .none, data := .fields #[] }) ∧ (∀ p ∈ cs, K.lookup p.2 = none) ∧ (∀ p ∈ cs, PySem.W.CodeHd h p.1 p.2) ∧ (∀ (s : Shared) (u : Value), BindsTo s fd ⟨[u], []⟩ [(x, u)]) ∧
      (∀ ns : List Int, ns.length ≤ n → (∀ z ∈ ns, Builtin.Int.intBits z ≤ 1048576) → ∃ l, den [.d (scriptD ns)] = .ok (.d (.bool true)) l) ∧
      ∀ base : Heap, K.In base → base.Ns mainGlobals mg → (∀ p ∈ cs, GxR.TabB base mg p.1 p.2) → GOk lw.prog w K mg base k fa fd [x] (spG lw.prog w K mg base (cs.map (·.2)) 1 den)) :
    PySem.W.WalkO q loose XP YP lw.row.toRowW d [] (fun f vs => PySem.call f vs) := by
  refine Att.attach_callB hn hdf fun w s₀ s mg mb fa o pm cd doc a vs ns G Y ho hd hcd hmg hobj hints hl hbits hg => ?_
  obtain ⟨K, cs, fd, den, kin, t1, t2, t3, bd, hlaw, hG⟩ := hF w mg fa _ Y G.T.g hmg
  obtain ⟨l, hden⟩ := hlaw ns hl hbits
  exact law_end kin G.T.g G.T.b G.T.builtins G.T.nolimit hg t1 t2 t3 G.T.bmain hobj hints (Nat.le_trans hl hn2) room hG bd hden
end Fz
end

section
set_option Elab.async false
set_option linter.all false
set_option maxRecDepth 100000
set_option maxHeartbeats 4000000
/-! F15: what the head tells, packed; defs by it. -/
namespace Fz
open PySem PySem.Spec PyProof.Rows L2
/-- all that the head tells -/
structure HeadC (fa : List He.Fa) (fn : List He.DefD) (ts : List DP) (K : Fg) (mg : Str → Option Value) (base : Heap) (T : List Addr) : Prop where
  says : He.SaysD fa fn K
  kin : K.In base
  gl : base.Ns mainGlobals mg
  rc : ∀ p ∈ dps ts, isRefC K p = true
  tb : ∀ p ∈ dps ts, GxR.TabB base mg (codeA K p) (tabOf K p)
  tT : T = (dps ts).map (tabOf K)
  cs : ∀ p ∈ cps ts, cstB K p = true
section
variable {fa : List He.Fa} {fn : List He.DefD} {ts : List DP} {K : Fg} {mg : Str → Option Value} {base : Heap} {T : List Addr} {P : Program} {w : World}
theorem HeadC.free (C : HeadC fa fn ts K mg base T) (i : Nat) {x : Str} (h : fa[i]? = some (.free x) := by rfl) : mg x = none := He.free_ok C.kin C.gl (C.says.fact i h)
theorem HeadC.glo (C : HeadC fa fn ts K mg base T) (i : Nat) {x : Str} (h : fa[i]? = some (.glo x) := by rfl) : mg x = some (.ref (He.ga K x)) := He.glo_ok C.kin C.gl (C.says.fact i h)
theorem HeadC.int (C : HeadC fa fn ts K mg base T) (i : Nat) {x : Str} {z : Int} (h : fa[i]? = some (.int x z) := by rfl) : ∃ t, mg x = some (.int z t) := He.int_ok C.kin C.gl (C.says.fact i h)
theorem HeadC.tab (C : HeadC fa fn ts K mg base T) (i : Nat) {p : DP} (h : ts[i]? = some p := by rfl) (hp : p.2.isNone = true := by rfl) : GxR.TabB base mg (codeA K p) (tabOf K p) ∧ tabOf K p ∈ T := by
  have hm : p ∈ dps ts := List.mem_filter.mpr ⟨List.mem_of_getElem? h, hp⟩
  refine ⟨C.tb p hm, ?_⟩
  rw [C.tT]; exact List.mem_map_of_mem hm
theorem e_gint {X : Cx} {F : Fx} {x : Str} {z : Int} {pos : Pos} (hg : Gl X x) (hm : ∃ t, X.mg x = some (.int z t)) (hd : (x == ("__debug__" : Str)) = false := by decide) : ED X F (.Name x pos) (fC (.int z)) := by
  obtain ⟨t, hm⟩ := hm
  exact (pe_glob (v := .int z) hg hm ⟨t, rfl⟩ hd).via fun σ H Q ⟨S, r, p⟩ => p.ok r (.int z)
/-- the context of a def's body -/
abbrev bX (P : Program) (w : World) (K : Fg) (mg : Str → Option Value) (base : Heap) (N : List Str) (qual : Str) (scope : Scope) (f : Addr) (cdv : Value) (A : Around) (outer : List Env) (s : Shared) (H : Hp) (E1 : XK) : Cx := (cxOf CX0 P w K mg base N qual scope f cdv A outer s H E1).nox
/-- a def of the text keeps its promise -/
structure FnF (P : Program) (w : World) (K : Fg) (mg : Str → Option Value) (base : Heap) (T : List Addr) (k : Nat) (d : He.DefD) (x : Str) (ps : List Str) (n : Nat) (den : Den) : Prop where
  ex : ∃ fd, FunD K d.name d.qual d.params d.body d.scope [] (d.kws K) (He.fAd K d.at_) fd ∧ GOk P w K mg base k (He.fAd K d.at_) fd ps (spG P w K mg base T n den) ∧ mg x = some (.ref (He.fAd K d.at_))
theorem FnF.toFn {k n : Nat} {d : He.DefD} {x : Str} {ps : List Str} {den : Den} (G : FnF P w K mg base T k d x ps n den)
    (ha : ∀ (kV doc pm : Value) (an : Option Addr) (cdv ct : Value) (us : List Value), us.length = ps.length → bindArgs (PySem.W.fnOf d.name d.qual d.params d.body d.scope .none kV doc pm an cdv ct) ⟨us, []⟩ = pure (ps.zip us)) : Fn P w K mg base T k x ps n den := by
  obtain ⟨fd, FD, F1, hg⟩ := G.ex
  exact ⟨_, fd, F1, hg, FD.kp, FD.bindsN ha⟩
theorem FnF.toFnK {k n m : Nat} {d : He.DefD} {x : Str} {ps ks : List Str} {perm : List Nat} {den : Den} (G : FnF P w K mg base T k d x ps n den)
    (h : ∀ (kV doc pm : Value) (an : Option Addr) (cdv ct : Value) (us ws : List Value), us.length = m → ws.length = ks.length → bindArgs (PySem.W.fnOf d.name d.qual d.params d.body d.scope .none kV doc pm an cdv ct) ⟨us, ks.zip ws⟩ = pure (ps.zip (permL perm (us ++ ws)))) : FnK P w K mg base T k x ps n den m ks perm := by
  obtain ⟨fd, FD, F1, hg⟩ := G.ex
  exact ⟨_, fd, F1, hg, FD.kp, kwF_of FD h⟩
/-- a def with generator expressions -/
theorem fn_mkCL (nfs : List FnT) {k n : Nat} {d : He.DefD} {x : Str} {N ps : List Str} {fb : FS → SRes} (C : HeadC fa fn ts K mg base T) (i j l : Nat) (S : FnScope N ps d.scope)
    (hb : ∀ (A : Around) (outer : List Env) (s : Shared) (H : Hp) (E1 : XK) (H0 : Hp) (pins : List (Nat × Addr)) (E : XK), RoomG k (A.deeper (envOfC d.qual d.scope s.heap.objs.size (He.fAd K d.at_) (.ref (codeA K d.at_)))) → EB (bX P w K mg base N d.qual d.scope (He.fAd K d.at_) (.ref (codeA K d.at_)) A outer s H E1) ⟨H0, pins, T, [], E, w, cloX P w K mg base T (bX P w K mg base N d.qual d.scope (He.fAd K d.at_) (.ref (codeA K d.at_)) A outer s H E1).env.cells nfs⟩ d.body fb)
    (hn : N.length = n := by rfl) (hl : ps.length ≤ N.length := by decide) (hi : fn[i]? = some d := by rfl) (hj : fa[j]? = some (.glo x) := by rfl) (ht : ts[l]? = some d.at_ := by rfl) (hat : d.at_ = (x, none) := by rfl) (hd : d.dfl = [] := by rfl) : FnF P w K mg base T (k + 1) d x ps ps.length (denOf n fb) := by
  obtain ⟨fd, FD⟩ := C.says.def_ i hi
  have FD' : FunD K d.name d.qual d.params d.body d.scope [] (d.kws K) (He.fAd K d.at_) fd := by
    have e : d.dvs K = [] := by unfold He.DefD.dvs; rw [hd]; rfl
    rw [← e]; exact FD
  have hg : mg x = some (.ref (He.fAd K d.at_)) := by
    rw [hat]; exact C.glo j hj
  subst hn
  have ec := code_of FD' (C.rc _ (List.mem_filter.mpr ⟨List.mem_of_getElem? ht, by rw [hat]; rfl⟩))
  exact ⟨fd, FD', def_ok FD' S hl (by rw [ec]; exact hb), hg⟩
/-- a def by its body -/
theorem fn_mk {k n : Nat} {d : He.DefD} {x : Str} {N ps : List Str} {fb : FS → SRes} (C : HeadC fa fn ts K mg base T) (i j : Nat) (S : FnScope N ps d.scope)
    (hb : ∀ (cdv : Value) (A : Around) (outer : List Env) (s : Shared) (H : Hp) (E1 : XK) (H0 : Hp) (pins : List (Nat × Addr)) (E : XK), RoomG k (A.deeper (envOfC d.qual d.scope s.heap.objs.size (He.fAd K d.at_) cdv)) → EB (bX P w K mg base N d.qual d.scope (He.fAd K d.at_) cdv A outer s H E1) ⟨H0, pins, T, [], E, w, cloX P w K mg base T (bX P w K mg base N d.qual d.scope (He.fAd K d.at_) cdv A outer s H E1).env.cells []⟩ d.body fb)
    (hn : N.length = n := by rfl) (hl : ps.length ≤ N.length := by decide) (hi : fn[i]? = some d := by rfl) (hj : fa[j]? = some (.glo x) := by rfl) (hat : d.at_ = (x, none) := by rfl) (hd : d.dfl = [] := by rfl) : FnF P w K mg base T (k + 1) d x ps ps.length (denOf n fb) := by
  obtain ⟨fd, FD⟩ := C.says.def_ i hi
  have FD' : FunD K d.name d.qual d.params d.body d.scope [] (d.kws K) (He.fAd K d.at_) fd := by
    have e : d.dvs K = [] := by unfold He.DefD.dvs; rw [hd]; rfl
    rw [← e]; exact FD
  have hg : mg x = some (.ref (He.fAd K d.at_)) := by
    rw [hat]; exact C.glo j hj
  subst hn
  exact ⟨fd, FD', def_ok FD' S hl (hb fd.code), hg⟩
/-- a def with generator expressions -/
theorem fn_mkC {k n : Nat} {d : He.DefD} {x : Str} {N ps : List Str} {fb : FS → SRes} (C : HeadC fa fn ts K mg base T) (i j l : Nat) (S : FnScope N ps d.scope)
    (hb : ∀ (A : Around) (outer : List Env) (s : Shared) (H : Hp) (E1 : XK) (H0 : Hp) (pins : List (Nat × Addr)) (E : XK), RoomG k (A.deeper (envOfC d.qual d.scope s.heap.objs.size (He.fAd K d.at_) (.ref (codeA K d.at_)))) → EB (bX P w K mg base N d.qual d.scope (He.fAd K d.at_) (.ref (codeA K d.at_)) A outer s H E1) ⟨H0, pins, T, [], E, w, cloX P w K mg base T (bX P w K mg base N d.qual d.scope (He.fAd K d.at_) (.ref (codeA K d.at_)) A outer s H E1).env.cells []⟩ d.body fb)
    (hn : N.length = n := by rfl) (hl : ps.length ≤ N.length := by decide) (hi : fn[i]? = some d := by rfl) (hj : fa[j]? = some (.glo x) := by rfl) (ht : ts[l]? = some d.at_ := by rfl) (hat : d.at_ = (x, none) := by rfl) (hd : d.dfl = [] := by rfl) : FnF P w K mg base T (k + 1) d x ps ps.length (denOf n fb) := by
  obtain ⟨fd, FD⟩ := C.says.def_ i hi
  have FD' : FunD K d.name d.qual d.params d.body d.scope [] (d.kws K) (He.fAd K d.at_) fd := by
    have e : d.dvs K = [] := by unfold He.DefD.dvs; rw [hd]; rfl
    rw [← e]; exact FD
  have hg : mg x = some (.ref (He.fAd K d.at_)) := by
    rw [hat]; exact C.glo j hj
  subst hn
  have ec := code_of FD' (C.rc _ (List.mem_filter.mpr ⟨List.mem_of_getElem? ht, by rw [hat]; rfl⟩))
  exact ⟨fd, FD', def_ok FD' S hl (by rw [ec]; exact hb), hg⟩
/-- of a den that never answers nothing is asked -/
theorem fn_bad {k : Nat} {d : He.DefD} {x : Str} {ps : List Str} (C : HeadC fa fn ts K mg base T) (i j : Nat) (hi : fn[i]? = some d := by rfl) (hj : fa[j]? = some (.glo x) := by rfl) (hat : d.at_ = (x, none) := by rfl) (hd : d.dfl = [] := by rfl) : FnF P w K mg base T k d x ps ps.length (fun _ => .bad) := by
  obtain ⟨fd, FD⟩ := C.says.def_ i hi
  have FD' : FunD K d.name d.qual d.params d.body d.scope [] (d.kws K) (He.fAd K d.at_) fd := by
    have e : d.dvs K = [] := by unfold He.DefD.dvs; rw [hd]; rfl
    rw [← e]; exact FD
  have hg : mg x = some (.ref (He.fAd K d.at_)) := by
    rw [hat]; exact C.glo j hj
  exact ⟨fd, FD', ⟨fun vs H Q E ⟨svs, _, _, _, z⟩ => z.elim, fun A outer s H args us vs Q E _ _ _ _ ⟨svs, _, _, _, z⟩ => z.elim⟩, hg⟩
end
section
variable {X : Cx} {F : Fx} {i : Nat} {o e : Expr} {apos cpos pos : Pos}
theorem s_app {f : FS → Res D} (ho : PE X o (tVar i)) (he : ED X F e f) (hs : swapsWith (.Call (.Attribute o "append" apos) [e] [] cpos) none pos.line X.env = pure false := by rfl) (hbase : attributeBase o "append" X.env (eval o X.env) = eval o X.env := by rfl)
    (hfew : ((backTo cpos (starEach [e] X.env)).all (fun x => !x.1) && (backToKw cpos (keywordEach [] X.env)).all (fun x => x.1.isSome) && decide ([e].length + ([] : List Keyword).length + (if ([] : List Keyword).isEmpty then 0 else 1) < 30)) = true := by rfl)
    (hline : (apos.endLine == cpos.line) = true := by rfl) (hse : starEach [e] X.env = (false, eval e X.env) :: starEach [] X.env := by rfl) (hplain : (backTo cpos (starEach [] X.env)).any (·.1) = false := by rfl) :
    ES X F (.Expr (.Call (.Attribute o "append" apos) [e] [] cpos) pos) (fAppend i f) :=
  s_append ho he hs (pe_bm PySem.F.plainAttrs_list PySem.F.slot_list_append PySem.F.type_list_append mt_append ho (pa_cons he pa_nil hse) hbase hfew hline hse hplain)
end
theorem t_bool {X : Cx} {F : Fx} {e : Expr} {f : FS → Res Bool} (h : EW X F e f) : ET X F e f := h.pt
/-- built-ins by name -/
theorem bt_bool : bootBuiltins "bool" = some (.type "bool") := by decide +kernel
theorem bt_str : bootBuiltins "str" = some (.type "str") := by decide +kernel
theorem bt_len : bootBuiltins "len" = some (.builtin "len") := by decide +kernel
theorem bt_abs : bootBuiltins "abs" = some (.builtin "abs") := by decide +kernel
theorem bt_max : bootBuiltins "max" = some (.builtin "max") := by decide +kernel
theorem bt_min : bootBuiltins "min" = some (.builtin "min") := by decide +kernel
theorem bt_all : bootBuiltins "all" = some (.builtin "all") := by decide +kernel
theorem bt_isinstance : bootBuiltins "isinstance" = some (.builtin "isinstance") := by decide +kernel
theorem bt_int : bootBuiltins "int" = some (.type "int") := by decide +kernel
theorem bt_tuple : bootBuiltins "tuple" = some (.type "tuple") := by decide +kernel
theorem bt_list : bootBuiltins "list" = some (.type "list") := by decide +kernel
end Fz
end

section
set_option Elab.async false
set_option linter.all false
set_option maxRecDepth 100000
set_option maxHeartbeats 4000000
/-! F16: repr of data; min of tuples of ints. -/
namespace Fz
open PySem PySem.Spec PyProof.Rows L2
/-! ### repr -/
section
variable {X : Cx} {F : Fx}
end
/-! ### min of a list of tuples of ints -/
section
variable {P : Program} {w : World} {A : Around} {R : Result → Shared → Prop} {I S l : Addr} {items : Array Value} {nss : List (List Int)} {h₀ : Heap}
end
end Fz
namespace Fz
open PySem PySem.Spec PyProof.Rows L2
section
variable {X : Cx} {F : Fx}
end
end Fz
end

section
set_option Elab.async false
set_option linter.all false
set_option maxRecDepth 100000
set_option maxHeartbeats 4000000
/-! F17: the head's end, closed. -/
namespace Fz
open PySem PySem.Spec PyProof.Rows L2
theorem funD_eq {K : Fg} {x qual : Str} {params : Arguments} {body : List Stmt} {scope : Scope} {dvs dvs2 : List V} {kws kws2 : List (Str × V)} {f : Addr} {fd fd2 : FuncData} (a : FunD K x qual params body scope dvs kws f fd) (b : FunD K x qual params body scope dvs2 kws2 f fd2) : fd = fd2 := by
  obtain ⟨_, _, _, _, _, _, _, _, _, _, _, h1, _⟩ := a.ex
  obtain ⟨_, _, _, _, _, _, _, _, _, _, _, h2, _⟩ := b.ex
  rw [h1] at h2
  injection h2 with h2
  injection h2 with _ _ h2 _
  injection h2
theorem head_close {P : Program} {w : World} {fa : List He.Fa} {fn : List He.DefD} {ts : List DP} {K : Fg} {h : Heap} {mg : Str → Option Value} {k n i j : Nat} {d : He.DefD} {x y : Str} {den : Den} (KX : K.In h) (G : h.Ns mainGlobals mg) (c : He.SaysD fa fn K) (tb : (∀ p ∈ dps ts, TabS K h p) ∧ ∀ p ∈ cps ts, cstB K p = true)
    (hF : ∀ base : Heap, HeadC fa fn ts K mg base ((dps ts).map (tabOf K)) → FnF P w K mg base ((dps ts).map (tabOf K)) k d y [x] 1 den)
    (hspec : ∀ ns : List Int, ns.length ≤ n → (∀ z ∈ ns, Builtin.Int.intBits z ≤ 1048576) → ∃ l, den [.d (scriptD ns)] = .ok (.d (.bool true)) l)
    (ha : ∀ (kV doc pm : Value) (an : Option Addr) (cdv ct : Value) (us : List Value), us.length = [x].length → bindArgs (PySem.W.fnOf d.name d.qual d.params d.body d.scope .none kV doc pm an cdv ct) ⟨us, []⟩ = pure ([x].zip us))
    {f : Addr} (hf : mg y = some (.ref f)) (hi : fn[i]? = some d := by rfl) (hj : fa[j]? = some (.glo y) := by rfl) (hat : d.at_ = (y, none) := by rfl) (hd : d.dfl = [] := by rfl) :
    ∃ (K : PySem.W.Frag) (cs : List (Addr × Addr)) (fd : FuncData) (den : Den), K.In h ∧
      (∀ p ∈ cs, h.get? p.2 = some { cls := .none, data := .fields #[] }) ∧ (∀ p ∈ cs, K.lookup p.2 = none) ∧ (∀ p ∈ cs, PySem.W.CodeHd h p.1 p.2) ∧ (∀ (s : Shared) (u : Value), BindsTo s fd ⟨[u], []⟩ [(x, u)]) ∧
      (∀ ns : List Int, ns.length ≤ n → (∀ z ∈ ns, Builtin.Int.intBits z ≤ 1048576) → ∃ l, den [.d (scriptD ns)] = .ok (.d (.bool true)) l) ∧
      ∀ base : Heap, K.In base → base.Ns mainGlobals mg → (∀ p ∈ cs, GxR.TabB base mg p.1 p.2) → GOk P w K mg base k f fd [x] (spG P w K mg base (cs.map (·.2)) 1 den) := by
  obtain ⟨fd, FD⟩ := c.def_ i hi
  have e0 : d.dvs K = [] := by unfold He.DefD.dvs; rw [hd]; rfl
  rw [e0] at FD
  have hg := He.glo_ok KX G (c.fact j hj)
  have ef : f = He.fAd K d.at_ := by
    rw [hf] at hg
    cases hg
    rw [hat]; rfl
  have back : ∀ {p : Addr × Addr}, p ∈ (dps ts).map (fun p => (codeA K p, tabOf K p)) → ∃ q ∈ dps ts, p = (codeA K q, tabOf K q) := fun hp => by
    obtain ⟨q, hq, e⟩ := List.mem_map.mp hp
    exact ⟨q, hq, e.symm⟩
  refine ⟨K, (dps ts).map (fun p => (codeA K p, tabOf K p)), fd, den, KX, fun p hp => ?_, fun p hp => ?_, fun p hp => ?_, fun s u => FunD.bindsA (ps := [x]) FD ha s [u] rfl, hspec, fun base kb gb tbb => ?_⟩
  · obtain ⟨q, hq, rfl⟩ := back hp; exact (tb.1 q hq).at_
  · obtain ⟨q, hq, rfl⟩ := back hp; exact (tb.1 q hq).no
  · obtain ⟨q, hq, rfl⟩ := back hp; exact PySem.W.codeHd_of_K KX (tb.1 q hq).hd
  · have eT : ((dps ts).map (fun p => (codeA K p, tabOf K p))).map (·.2) = (dps ts).map (tabOf K) := by rw [List.map_map]; rfl
    rw [eT, ef]
    obtain ⟨fd2, FD2, go, _⟩ := (hF base ⟨c, kb, gb, fun p hp => (tb.1 p hp).ref, fun p hp => tbb (codeA K p, tabOf K p) (List.mem_map_of_mem hp), rfl, tb.2⟩).ex
    rw [funD_eq FD FD2]
    exact go
end Fz
end

section
set_option Elab.async false
set_option linter.all false
set_option maxRecDepth 100000
set_option maxHeartbeats 4000000
/-! F18: what dens promise: weakest preconditions of dens, by simp. No program in sight. -/
namespace Fz
open PySem L2
def wE {α : Type} (r : Res α) (Q : α → FS → Prop) : Prop := match r with
  | .ok a S => Q a S
  | _ => False
def wS (r : SRes) (N : FS → Prop) (R : SV → FS → Prop) (B C : FS → Prop) : Prop := match r with
  | .nx S => N S
  | .rt v S => R v S
  | .bk S => B S
  | .ct S => C S
  | _ => False
def wC (r : CRes) (Q : SV → List SV → Prop) : Prop := match r with
  | .ok v svs => Q v svs
  | _ => False
def wO {α : Type} (o : Option α) (k : α → Prop) : Prop := match o with
  | some a => k a
  | none => False
def wFrz : SV → (D → Prop) → Prop
  | .d d, k => k d
  | .own (.lst ds), k => k (.list ds)
  | _, _ => False
def wInt : D → (Int → Prop) → Prop
  | .int i, k => k i
  | _, _ => False
def wBool : D → (Bool → Prop) → Prop
  | .bool i, k => k i
  | _, _ => False
def wItems : D → (List D → Prop) → Prop
  | .list ds, k => k ds
  | .tuple ds, k => k ds
  | _, _ => False
section
variable {α β : Type} {Q : α → FS → Prop} {S : FS} {N : FS → Prop} {R : SV → FS → Prop} {B C : FS → Prop}
@[simp] theorem wE_ok {a : α} : wE (.ok a S) Q = Q a S := rfl
@[simp] theorem wE_bad : wE (.bad : Res α) Q = False := rfl
@[simp] theorem wE_exn {e : Exn} : wE (.exn e S : Res α) Q = False := rfl
@[simp] theorem wS_nx : wS (.nx S) N R B C = N S := rfl
@[simp] theorem wS_rt {v : SV} : wS (.rt v S) N R B C = R v S := rfl
@[simp] theorem wS_bk : wS (.bk S) N R B C = B S := rfl
@[simp] theorem wS_ct : wS (.ct S) N R B C = C S := rfl
@[simp] theorem wS_bad : wS .bad N R B C = False := rfl
@[simp] theorem wO_some {a : α} {k : α → Prop} : wO (some a) k = k a := rfl
@[simp] theorem wO_none {k : α → Prop} : wO none k = False := rfl
@[simp] theorem wFrz_d {d : D} {k : D → Prop} : wFrz (.d d) k = k d := rfl
@[simp] theorem wFrz_own {ds : List D} {k : D → Prop} : wFrz (.own (.lst ds)) k = k (.list ds) := rfl
@[simp] theorem wInt_int {i : Int} {k : Int → Prop} : wInt (.int i) k = k i := rfl
@[simp] theorem wBool_bool {i : Bool} {k : Bool → Prop} : wBool (.bool i) k = k i := rfl
@[simp] theorem wItems_list {ds : List D} {k : List D → Prop} : wItems (.list ds) k = k ds := rfl
@[simp] theorem wItems_tuple {ds : List D} {k : List D → Prop} : wItems (.tuple ds) k = k ds := rfl
theorem wE_bnd {f : FS → Res β} {k : β → FS → Res α} : wE (bnd f k S) Q = wE (f S) fun a S1 => wE (k a S1) Q := by
  unfold bnd; cases f S <;> rfl
@[simp] theorem wE_fC {a : α} : wE (fC a S) Q = Q a S := rfl
end
section
variable {Q : D → FS → Prop} {QV : SV → FS → Prop} {QB : Bool → FS → Prop} {QL : List D → FS → Prop} {QO : Option Int → FS → Prop} {S : FS} {f g fa fb : FS → Res D} {fv : FS → Res SV} {t u : FS → Res Bool} {gl : FS → Res (List D)} {d e : D}
def wVar (i : Nat) (o : Option (Option SV)) (S : FS) (Q : D → FS → Prop) : Prop := match o with
  | some (some (.d d)) => Q d S
  | some (some (.own (.lst ds))) => Q (.list ds) (S.set i (some (.d (.list ds))))
  | _ => False
def wPeek (o : Option (Option SV)) (Q : D → Prop) : Prop := match o with
  | some (some (.d d)) => Q d
  | some (some (.own (.lst ds))) => Q (.list ds)
  | some (some (.pin (.lst ds))) => Q (.list ds)
  | some (some (.x (.ro (.lst ds)))) => Q (.list ds)
  | _ => False
@[simp] theorem wPeek_ro {Q : D → Prop} {ds : List D} : wPeek (some (some (.x (.ro (.lst ds))))) Q = Q (.list ds) := rfl
@[simp] theorem wVar_d {i : Nat} : wVar i (some (some (.d d))) S Q = Q d S := rfl
@[simp] theorem wVar_own {i : Nat} {ds : List D} : wVar i (some (some (.own (.lst ds)))) S Q = Q (.list ds) (S.set i (some (.d (.list ds)))) := rfl
@[simp] theorem wPeek_d {Q : D → Prop} : wPeek (some (some (.d d))) Q = Q d := rfl
@[simp] theorem wPeek_own {Q : D → Prop} {ds : List D} : wPeek (some (some (.own (.lst ds)))) Q = Q (.list ds) := rfl
@[simp] theorem wPeek_pin {Q : D → Prop} {ds : List D} : wPeek (some (some (.pin (.lst ds)))) Q = Q (.list ds) := rfl
@[simp] theorem wE_fVar {i : Nat} : wE (fVar i S) Q = wVar i S[i]? S Q := by
  unfold fVar wVar
  split <;> simp_all
@[simp] theorem wE_fPeek {i : Nat} : wE (fPeek i S) Q = wPeek S[i]? fun d => Q d S := by
  unfold fPeek wPeek
  split <;> simp_all
@[simp] theorem wE_fV : wE (fV f S) QV = wE (f S) fun d S1 => QV (.d d) S1 := wE_bnd
@[simp] theorem wE_fFrz : wE (fFrz fv S) Q = wE (fv S) fun v S1 => wFrz v fun d => Q d S1 := by
  unfold fFrz; rw [wE_bnd]; congr; funext v S1
  cases v with
  | own o => cases o <;> rfl
  | _ => rfl
@[simp] theorem wE_fOp {α : Type} {Q : α → FS → Prop} {p : D → D → FS → Res α} : wE (fOp p fa fb S) Q = wE (fa S) fun d S1 => wE (fb S1) fun e S2 => wE (p d e S2) Q := by
  unfold fOp; rw [wE_bnd]; congr; funext d S1; rw [wE_bnd]
@[simp] theorem wE_fOpN {α : Type} {Q : α → FS → Prop} {p : D → D → FS → Res α} {i : Nat} : wE (fOpN p i fb S) Q = wPeek S[i]? fun _ => wE (fb S) fun e S2 => wPeek S2[i]? fun d => wE (p d e S2) Q := by
  unfold fOpN; rw [wE_bnd, wE_fPeek]; congr; funext d; rw [wE_bnd]; congr; funext e S2; rw [wE_bnd, wE_fPeek]
@[simp] theorem wE_fT : wE (fT f S) QB = wE (f S) fun d S1 => wBool d fun b => QB b S1 := by
  unfold fT; rw [wE_bnd]; congr; funext d S1; cases d <;> rfl
@[simp] theorem wE_fTru : wE (fTru f S) QB = wE (f S) fun d S1 => wO (dTru d) fun b => QB b S1 := by
  unfold fTru; rw [wE_bnd]; congr; funext d S1; cases h : dTru d <;> simp [h]
@[simp] theorem wE_fOrT : wE (fOrT t u S) QB = wE (t S) fun b S1 => (b = true → QB true S1) ∧ (b = false → wE (u S1) QB) := by
  unfold fOrT; rw [wE_bnd]; congr; funext b S1; cases b <;> simp
@[simp] theorem wE_fNotT : wE (fNotT t S) QB = wE (t S) fun b S1 => QB (!b) S1 := wE_bnd
@[simp] theorem wE_fIte {α : Type} {Q : α → FS → Prop} {x y : FS → Res α} : wE (fIte t x y S) Q = wE (t S) fun b S1 => (b = true → wE (x S1) Q) ∧ (b = false → wE (y S1) Q) := by
  unfold fIte; rw [wE_bnd]; congr; funext b S1; cases b <;> simp
@[simp] theorem wE_fAndV : wE (fAndV f g S) Q = wE (f S) fun d S1 => wBool d fun b => (b = true → wE (g S1) Q) ∧ (b = false → Q (.bool false) S1) := by
  unfold fAndV; rw [wE_bnd]; congr; funext d S1
  cases d with
  | bool b => cases b <;> simp
  | _ => rfl
@[simp] theorem wE_fNotV : wE (fNotV f S) Q = wE (f S) fun d S1 => wO (dTru d) fun b => Q (.bool (!b)) S1 := by
  unfold fNotV; rw [wE_bnd, wE_fTru]; rfl
@[simp] theorem wE_fCons : wE (fCons f gl S) QL = wE (f S) fun d S1 => wE (gl S1) fun ds S2 => QL (d :: ds) S2 := by
  unfold fCons; rw [wE_bnd]; congr; funext d S1; rw [wE_bnd]; rfl
@[simp] theorem wE_fTup : wE (fTup gl S) Q = wE (gl S) fun ds S1 => ds.length ≤ sizeLine ∧ Q (.tuple ds) S1 := by
  unfold fTup; rw [wE_bnd]; congr; funext d S1; split <;> simp [*]
@[simp] theorem wE_fLst : wE (fLst gl S) QV = wE (gl S) fun ds S1 => ds.length ≤ sizeLine ∧ QV (.own (.lst ds)) S1 := by
  unfold fLst; rw [wE_bnd]; congr; funext d S1; split <;> simp [*]
@[simp] theorem wE_fPart : wE (fPart f S) QO = wE (f S) fun d S1 => wInt d fun i => QO (some i) S1 := by
  unfold fPart; rw [wE_bnd]; congr; funext d S1; cases d <;> rfl
@[simp] theorem wE_fSlN {lo hi : FS → Res (Option Int)} {i : Nat} : wE (fSlN i lo hi S) QV = wPeek S[i]? fun _ => wE (lo S) fun a S2 => wE (hi S2) fun b S3 => wPeek S3[i]? fun d => wE (pSl d a b S3) QV := by
  unfold fSlN; rw [wE_bnd, wE_fPeek]; congr; funext d; rw [wE_bnd]; congr; funext a S2; rw [wE_bnd]; congr; funext b S3; rw [wE_bnd, wE_fPeek]
@[simp] theorem wE_pSl_t {ds : List D} {a b : Option Int} : wE (pSl (.tuple ds) a b S) QV = QV (.d (.tuple (cutL ds a b))) S := rfl
@[simp] theorem wE_pSl_l {ds : List D} {a b : Option Int} : wE (pSl (.list ds) a b S) QV = QV (.own (.lst (cutL ds a b))) S := rfl
@[simp] theorem wE_fCall {α : Type} {Q : α → FS → Prop} {p : List D → FS → Res α} : wE (fCall p gl S) Q = wE (gl S) fun ds S1 => wE (p ds S1) Q := wE_bnd
@[simp] theorem wE_one {α : Type} {Q : α → FS → Prop} {p : D → FS → Res α} : wE (one p [d] S) Q = wE (p d S) Q := rfl
@[simp] theorem wE_two {α : Type} {Q : α → FS → Prop} {p : D → D → FS → Res α} : wE (two p [d, e] S) Q = wE (p d e S) Q := rfl
@[simp] theorem wE_pLen_t {ds : List D} : wE (pLen (.tuple ds) S) Q = Q (.int ds.length) S := rfl
@[simp] theorem wE_pLen_l {ds : List D} : wE (pLen (.list ds) S) Q = Q (.int ds.length) S := rfl
@[simp] theorem wE_pToInt {i : Int} : wE (pToInt (.int i) S) Q = Q (.int i) S := rfl
@[simp] theorem wE_pAbs {i : Int} : wE (pAbs (.int i) S) Q = Q (.int (if i < 0 then -i else i)) S := rfl
@[simp] theorem wE_pMax2 {i j : Int} : wE (pMax2 (.int i) (.int j) S) Q = Q (.int (if j > i then j else i)) S := rfl
@[simp] theorem wE_pMin2 {i j : Int} : wE (pMin2 (.int i) (.int j) S) Q = Q (.int (if j < i then j else i)) S := rfl
@[simp] theorem wE_pTuple_t {ds : List D} : wE (pTuple (.tuple ds) S) Q = Q (.tuple ds) S := rfl
@[simp] theorem wE_pTuple_l {ds : List D} : wE (pTuple (.list ds) S) Q = Q (.tuple ds) S := rfl
@[simp] theorem wE_pAll {ds : List D} : wE (pAll (.list ds) S) Q = wO (bls ds) fun bs => Q (.bool (bs.all id)) S := by
  unfold pAll; cases h : bls ds <;> simp [h]
@[simp] theorem wE_fIsi {T : String} : wE (fIsi T f S) Q = wE (f S) fun d S1 => Q (.bool (isT (dTyp d) T)) S1 := wE_bnd
-- operators
@[simp] theorem wE_pSub : wE (pSub d e S) Q = wInt d fun i => wInt e fun j => Q (.int (i - j)) S := by cases d <;> cases e <;> rfl
@[simp] theorem wE_pDiv : wE (pDiv d e S) Q = wInt d fun i => wInt e fun j => CDivW i j ∧ Q (.int (i / j)) S := by
  cases d <;> cases e <;> simp [pDiv, pInt, wInt]
  split <;> simp_all
@[simp] theorem wE_pMod : wE (pMod d e S) Q = wInt d fun i => wInt e fun j => 0 < j ∧ Q (.int (i % j)) S := by
  cases d <;> cases e <;> simp only [pMod, pInt, wInt, wE_bad]
  rename_i i j
  by_cases h : 0 < j
  · simp [h]
  · simp [h]
@[simp] theorem wE_pCmp {g : Int → Int → Bool} : wE (pCmp g d e S) Q = wInt d fun i => wInt e fun j => Q (.bool (g i j)) S := by cases d <;> cases e <;> rfl
@[simp] theorem wE_pEq : wE (pEq d e S) Q = (eqOk d e = true ∧ Q (.bool (PyData.eqv d e)) S) := by
  unfold pEq; split <;> simp [*]
@[simp] theorem wE_pNe : wE (pNe d e S) Q = (eqOk d e = true ∧ Q (.bool (!PyData.eqv d e)) S) := by
  unfold pNe; split <;> simp [*]
@[simp] theorem wE_pIsB_b {b : Bool} : wE (pIsB d (.bool b) S) Q = Q (.bool (dIsB b d)) S := rfl
@[simp] theorem wE_pIsB_n : wE (pIsB d .none S) Q = Q (.bool (dNone d)) S := rfl
@[simp] theorem wE_pAdd_i {i j : Int} : wE (pAdd (.int i) (.int j) S) QV = QV (.d (.int (i + j))) S := rfl
@[simp] theorem wE_pAdd_t {xs ys : List D} : wE (pAdd (.tuple xs) (.tuple ys) S) QV = (xs.length + ys.length ≤ sizeLine ∧ QV (.d (.tuple (xs ++ ys))) S) := by
  unfold pAdd; simp only; split <;> simp [*]
@[simp] theorem wE_pAdd_l {xs ys : List D} : wE (pAdd (.list xs) (.list ys) S) QV = (xs.length + ys.length ≤ sizeLine ∧ QV (.own (.lst (xs ++ ys))) S) := by
  unfold pAdd; simp only; split <;> simp [*]
@[simp] theorem wE_pIx_t {xs : List D} {i : Int} : wE (pIx (.tuple xs) (.int i) S) Q = wO (atI xs i) fun d => Q d S := by
  unfold pIx; simp only; cases h : atI xs i <;> simp [h]
@[simp] theorem wE_pIx_l {xs : List D} {i : Int} : wE (pIx (.list xs) (.int i) S) Q = wO (atI xs i) fun d => Q d S := by
  unfold pIx; simp only; cases h : atI xs i <;> simp [h]
-- iterables
@[simp] theorem wE_fItems : wE (fItems f S) QL = wE (f S) fun d S1 => wItems d fun ds => QL ds S1 := by
  unfold fItems; rw [wE_bnd]; congr; funext d S1; cases d <;> rfl
@[simp] theorem wE_fRange1 : wE (fRange1 f S) QL = wE (f S) fun d S1 => wInt d fun j => inR j ∧ QL (rngD 0 j.toNat) S1 := by
  unfold fRange1; rw [wE_bnd]; congr; funext d S1
  cases d <;> simp [wInt]
  split <;> simp [*]
-- chains
@[simp] theorem wE_fChain {p p' : D → D → FS → Res D} : wE (fChain p p' f fa fb S) Q = wE (f S) fun d S1 => wE (fa S1) fun e S2 => wE (p d e S2) fun z S3 => wBool z fun b => (b = true → wE (fb S3) fun h S4 => wE (p' e h S4) Q) ∧ (b = false → Q (.bool false) S3) := by
  unfold fChain; rw [wE_bnd]; congr; funext d S1; rw [wE_bnd]; congr; funext e S2; rw [wE_bnd]; congr; funext z S3
  cases z with
  | bool b => cases b <;> simp [wE_bnd]
  | _ => rfl
end

/-! statements, calls -/
section
variable {Q : D → FS → Prop} {QV : SV → FS → Prop} {QA : List AD → FS → Prop} {QS : List SV → FS → Prop} {S : FS} {f fk : FS → Res D} {fv : FS → Res SV} {t : FS → Res Bool} {N : FS → Prop} {R : SV → FS → Prop} {B C : FS → Prop} {x y : FS → SRes}
theorem wS_bndS {α : Type} {f : FS → Res α} {k : α → FS → SRes} : wS (bndS f k S) N R B C = wE (f S) fun a S1 => wS (k a S1) N R B C := by
  unfold bndS; cases f S <;> rfl
@[simp] theorem wS_fSeq : wS (fSeq x y S) N R B C = wS (x S) (fun S1 => wS (y S1) N R B C) R B C := by
  unfold fSeq; cases x S <;> rfl
@[simp] theorem wS_fRet : wS (fRet fv S) N R B C = wE (fv S) fun v S1 => R v S1 := wS_bndS
@[simp] theorem wS_fRetD : wS (fRetD f S) N R B C = wE (f S) fun v S1 => R (.d v) S1 := wS_bndS
@[simp] theorem wS_fDrop {α : Type} {f : FS → Res α} : wS (fDrop f S) N R B C = wE (f S) fun _ S1 => N S1 := wS_bndS
@[simp] theorem wS_fIf : wS (fIf t x y S) N R B C = wE (t S) fun b S1 => (b = true → wS (x S1) N R B C) ∧ (b = false → wS (y S1) N R B C) := by
  unfold fIf; rw [wS_bndS]; congr; funext b S1; cases b <;> simp
@[simp] theorem wS_fSet {i : Nat} : wS (fSet i fv S) N R B C = wE (fv S) fun v S1 => N (S1.set i (some v)) := wS_bndS
@[simp] theorem wS_fSetD {i : Nat} : wS (fSetD i f S) N R B C = wE (f S) fun v S1 => N (S1.set i (some (.d v))) := wS_bndS
@[simp] theorem wS_fAug {i : Nat} {g : Int → Int → Int} : wS (fAug .d i (pInt fun i j => some (g i j)) f S) N R B C = wPeek S[i]? fun _ => wE (f S) fun e S1 => wPeek S1[i]? fun d => wInt d fun a => wInt e fun b => N (S1.set i (some (.d (.int (g a b))))) := by
  unfold fAug; rw [wS_bndS, wE_fPeek]; congr; funext d; rw [wS_bndS]; congr; funext e S1; rw [wS_bndS, wE_fPeek]; congr; funext d2; rw [wS_bndS]
  cases d2 <;> cases e <;> rfl
@[simp] theorem wS_fAsg {g : D → FS → Option FS} : wS (fAsg g f S) N R B C = wE (f S) fun d S1 => wO (g d S1) N := by
  unfold fAsg; rw [wS_bndS]; congr; funext d S1; cases h : g d S1 <;> simp [h]
@[simp] theorem wS_fPars {is : List Nat} {fs : FS → Res (List SV)} : wS (fPars is fs S) N R B C = wE (fs S) fun vs S1 => wO (setsV is vs S1) N := by
  unfold fPars; rw [wS_bndS]; congr; funext d S1; cases h : setsV is d S1 <;> simp [h]
def wCons : SV → (SV → Prop) → Prop
  | .d d, k => k (.d d)
  | .own o, k => k (.own o)
  | _, _ => False
@[simp] theorem wCons_d {d : D} {k : SV → Prop} : wCons (.d d) k = k (.d d) := rfl
@[simp] theorem wCons_own {o : Ob} {k : SV → Prop} : wCons (.own o) k = k (.own o) := rfl
@[simp] theorem wE_fConsV {g : FS → Res (List SV)} : wE (fConsV fv g S) QS = wE (fv S) fun v S1 => wCons v fun v => wE (g S1) fun vs S2 => QS (v :: vs) S2 := by
  unfold fConsV; rw [wE_bnd]; congr; funext v S1
  cases v with
  | d d => simp [wE_bnd]
  | own o => simp [wE_bnd, wCons]
  | pin o => rfl
  | x e => rfl
theorem wLst_w {i : Nat} {k : List D → FS → SRes} : wS (wLst i k S) N R B C = wO (lstAt S i) fun ds => wS (k ds S) N R B C := by
  unfold wLst; cases h : lstAt S i <;> simp [h]
@[simp] theorem wS_fAppend {i : Nat} : wS (fAppend i f S) N R B C = wO (lstAt S i) fun _ => wE (f S) fun d S1 => wO (lstAt S1 i) fun ds => ds.length < sizeLine ∧ N (putLst S1 i (ds ++ [d])) := by
  unfold fAppend; rw [wLst_w]; congr; funext ds; rw [wS_bndS]; congr; funext d S1; rw [wLst_w]; congr; funext ds; split <;> simp [*]
@[simp] theorem wS_fSetIx {i : Nat} : wS (fSetIx i f fk S) N R B C = wE (f S) fun d S1 => wPeek S1[i]? fun _ => wE (fk S1) fun k S2 => wO (lstAt S2 i) fun ds => wInt k fun j => wO (ixN ds.length j) fun m => N (putLst S2 i (ds.set m d)) := by
  unfold fSetIx; rw [wS_bndS]; congr; funext d S1; rw [wS_bndS, wE_fPeek]; congr; funext e; rw [wS_bndS]; congr; funext k S2; rw [wLst_w]; congr; funext ds
  cases k with
  | int j => cases h : ixN ds.length j <;> simp [h]
  | _ => rfl
@[simp] theorem wS_fFor {it : FS → Res (List D)} {g : D → FS → Option FS} {b : FS → SRes} : wS (fFor it g b S) N R B C = wE (it S) fun ds S1 => wS (forF g b ds S1) N R B C := wS_bndS
-- calls
@[simp] theorem wE_fAD {g : FS → Res (List AD)} : wE (fAD f g S) QA = wE (f S) fun d S1 => wE (g S1) fun as S2 => QA (.d d :: as) S2 := by
  unfold fAD; rw [wE_bnd]; congr; funext d S1; rw [wE_bnd]; rfl
def isSome2 : Option (Option SV) → Prop
  | some (some _) => True
  | _ => False
@[simp] theorem isSome2_some {v : SV} : isSome2 (some (some v)) = True := rfl
@[simp] theorem wE_fAS {i : Nat} {g : FS → Res (List AD)} : wE (fAS i g S) QA = (isSome2 S[i]? ∧ wE (g S) fun as S2 => QA (.s i :: as) S2) := by
  unfold fAS
  split
  · rename_i h; rw [h, wE_bnd]; simp
  · rename_i h
    cases e : S[i]? with
    | none => simp [isSome2]
    | some o =>
      cases o with
      | none => simp [isSome2]
      | some v => exact (h v e).elim
theorem wE_callD {den : Den} {as : List AD} : wE (callD den as S) QV = ((slotsOf as).Nodup ∧ wO (resolve S as) fun svs => wC (den svs) fun ret svs' => wO (back as svs' S) fun S' => QV ret S') := by
  unfold callD
  by_cases hn : (slotsOf as).Nodup
  · rw [if_pos hn]
    cases h : resolve S as with
    | none => simp [hn]
    | some svs =>
      cases h2 : den svs with
      | ok ret svs' =>
        cases h3 : back as svs' S with
        | none => simp [hn, h2, wC, h3]
        | some S' => simp [hn, h2, wC, h3]
      | exn e svs' =>
        cases h3 : back as svs' S <;> simp [hn, h2, wC, h3]
      | bad => simp [hn, h2, wC]
  · rw [if_neg hn]; simp [hn]
@[simp] theorem wE_fCallP {den : Den} {n : Nat} {f : FS → Res (List AD)} : wE (fCallP den n f S) QV = wE (f S) fun as S1 => as.length = n ∧ wE (callD den as S1) QV := by
  unfold fCallP; rw [wE_bnd]; congr; funext as S1; split <;> simp [*]
@[simp] theorem wE_fCallK {den : Den} {n m nk : Nat} {perm : List Nat} {f g : FS → Res (List AD)} : wE (fCallK den n m nk perm f g S) QV = wE (f S) fun as S1 => wE (g S1) fun bs S2 => (as.length = m ∧ bs.length = nk ∧ (permL perm (as ++ bs)).length = n) ∧ wE (callD den (permL perm (as ++ bs)) S2) QV := by
  unfold fCallK; rw [wE_bnd]; congr; funext as S1; rw [wE_bnd]; congr; funext bs S2; split <;> simp [*]
theorem wC_denOf {n : Nat} {b : FS → SRes} {svs : List SV} {Q : SV → List SV → Prop} : wC (denOf n b svs) Q = wS (b (startS n svs)) (fun S => wO (pinsAt svs S) fun l => Q (.d .none) l) (fun v S => wO (pinsAt svs S) fun l => Q v l) (fun _ => False) (fun _ => False) := by
  unfold denOf
  cases h : b (startS n svs) with
  | nx S1 => cases h2 : pinsAt svs S1 <;> simp [h2, wC]
  | rt v S1 => cases h2 : pinsAt svs S1 <;> simp [h2, wC]
  | exn e S1 => cases h2 : pinsAt svs S1 <;> simp [h2, wC, wS]
  | bk S1 => rfl
  | ct S1 => rfl
  | bad => rfl
theorem wC.ok {r : CRes} {Q : SV → List SV → Prop} (h : wC r Q) : ∃ v l, r = .ok v l ∧ Q v l := by
  cases r with
  | ok v l => exact ⟨v, l, rfl, h⟩
  | _ => exact h.elim
theorem wC.mono {r : CRes} {Q Q' : SV → List SV → Prop} (h : wC r Q) (k : ∀ v l, Q v l → Q' v l) : wC r Q' := by
  cases r with
  | ok v l => exact k v l h
  | _ => exact h.elim
theorem wE.mono {α : Type} {r : Res α} {Q Q' : α → FS → Prop} (h : wE r Q) (k : ∀ v l, Q v l → Q' v l) : wE r Q' := by
  cases r with
  | ok v l => exact k v l h
  | _ => exact h.elim
theorem wS.imp {r : SRes} {N' : FS → Prop} {R' : SV → FS → Prop} {B' C' : FS → Prop} (h : wS r N R B C) (k : ∀ S, N S → N' S) (k2 : ∀ v S, R v S → R' v S) (k3 : ∀ S, B S → B' S) (k4 : ∀ S, C S → C' S) : wS r N' R' B' C' := by
  cases r with
  | nx S => exact k S h
  | rt v S => exact k2 v S h
  | bk S => exact k3 S h
  | ct S => exact k4 S h
  | _ => exact h.elim
end
/-! loops -/
section
variable {S : FS} {N : FS → Prop} {R : SV → FS → Prop} {B C : FS → Prop}
theorem wS_forF {g : D → FS → Option FS} {b : FS → SRes} {ds : List D} (I : Nat → FS → Prop) (h0 : I 0 S) (step : ∀ i d S, ds[i]? = some d → I i S → wO (g d S) fun S1 => wS (b S1) (I (i + 1)) R N (I (i + 1))) (hN : ∀ S, I ds.length S → N S) : wS (forF g b ds S) N R B C := by
  have key : ∀ (es : List D) (i : Nat) (S : FS), ds.drop i = es → i ≤ ds.length → I i S → wS (forF g b es S) N R B C := by
    intro es
    induction es with
    | nil =>
      intro i S hd hi h
      have : i = ds.length := by
        have := congrArg List.length hd
        simp at this; omega
      subst this
      exact hN S h
    | cons d es ih =>
      intro i S hd hi h
      have hl : i < ds.length := by
        have := congrArg List.length hd
        simp at this; omega
      have hg : ds[i]? = some d := by
        have := congrArg (fun l => l[0]?) hd
        simpa using this
      have hd2 : ds.drop (i + 1) = es := by
        have := congrArg List.tail hd
        simpa using this
      have st := step i d S hg h
      cases e : g d S with
      | none => rw [e] at st; exact st.elim
      | some S1 =>
        rw [e] at st
        have st : wS (b S1) (I (i + 1)) R N (I (i + 1)) := st
        simp only [forF, e]
        cases e2 : b S1 with
        | nx S2 => rw [e2] at st; exact ih (i + 1) S2 hd2 hl st
        | ct S2 => rw [e2] at st; exact ih (i + 1) S2 hd2 hl st
        | bk S2 => rw [e2] at st; exact st
        | rt v S2 => rw [e2] at st; exact st
        | exn v S2 => rw [e2] at st; exact st.elim
        | bad => rw [e2] at st; exact st.elim
  exact key ds 0 S rfl (Nat.zero_le _) h0
theorem wS_while {c : FS → Res Bool} {b : FS → SRes} (I : Nat → FS → Prop) (m : Nat) (h0 : I m S) (step : ∀ m S, I m S → wE (c S) fun k S1 => (k = true → wS (b S1) (fun S2 => ∃ m', m' < m ∧ I m' S2) R N (fun S2 => ∃ m', m' < m ∧ I m' S2)) ∧ (k = false → N S1)) : wS (whileF c b S) N R B C := by
  have key : ∀ (m : Nat) (S : FS), I m S → wS (whileF c b S) N R B C := by
    intro m
    induction m using Nat.strongRecOn with
    | ind m ih =>
      intro S h
      have st := step m S h
      rw [whileF_eq]
      cases e : c S with
      | ok k S1 =>
        rw [e] at st
        cases k with
        | false => exact st.2 rfl
        | true =>
          have st := st.1 rfl
          simp only
          cases e2 : b S1 with
          | nx S2 => rw [e2] at st; obtain ⟨m', hm, h'⟩ := st; exact ih m' hm S2 h'
          | ct S2 => rw [e2] at st; obtain ⟨m', hm, h'⟩ := st; exact ih m' hm S2 h'
          | bk S2 => rw [e2] at st; exact st
          | rt v S2 => rw [e2] at st; exact st
          | exn v S2 => rw [e2] at st; exact st.elim
          | bad => rw [e2] at st; exact st.elim
      | exn e2 S1 => rw [e] at st; exact st.elim
      | bad => rw [e] at st; exact st.elim
  exact key m S h0
@[simp] theorem wE_fLc {it : FS → Res (List D)} {g : D → FS → Option FS} {t : FS → Res Bool} {fe : FS → Res D} {vs : List Nat} {Q : SV → FS → Prop} : wE (fLc it g t fe vs S) Q = wE (it S) fun ds S1 => wE (lcF g t fe vs ds S1 []) Q := wE_bnd
theorem wE_lcF {g : D → FS → Option FS} {t : FS → Res Bool} {fe : FS → Res D} {vs : List Nat} {ds : List D} {Q : SV → FS → Prop} (I : Nat → List D → FS → Prop) (h0 : I 0 [] S)
    (step : ∀ i d acc S, ds[i]? = some d → I i acc S → wO (g d (wipeS S vs)) fun S1 => wE (t S1) fun k S2 => (k = false → I (i + 1) acc (restS S S2 vs)) ∧ (k = true → wE (fe S2) fun y S3 => acc.length < sizeLine ∧ I (i + 1) (acc ++ [y]) (restS S S3 vs)))
    (hQ : ∀ acc S, I ds.length acc S → Q (.own (.lst acc)) S) : wE (lcF g t fe vs ds S []) Q := by
  have key : ∀ (es : List D) (i : Nat) (acc : List D) (S : FS), ds.drop i = es → i ≤ ds.length → I i acc S → wE (lcF g t fe vs es S acc) Q := by
    intro es
    induction es with
    | nil =>
      intro i acc S hd hi h
      have : i = ds.length := by
        have := congrArg List.length hd
        simp at this; omega
      subst this
      exact hQ acc S h
    | cons d es ih =>
      intro i acc S hd hi h
      have hl : i < ds.length := by
        have := congrArg List.length hd
        simp at this; omega
      have hg : ds[i]? = some d := by
        have := congrArg (fun l => l[0]?) hd
        simpa using this
      have hd2 : ds.drop (i + 1) = es := by
        have := congrArg List.tail hd
        simpa using this
      have st := step i d acc S hg h
      cases e : g d (wipeS S vs) with
      | none => rw [e] at st; exact st.elim
      | some S1 =>
        rw [e] at st
        have st : wE (t S1) _ := st
        simp only [lcF, e]
        cases e2 : t S1 with
        | exn v S2 => rw [e2] at st; exact st.elim
        | bad => rw [e2] at st; exact st.elim
        | ok k S2 =>
          rw [e2] at st
          cases k with
          | false => exact ih (i + 1) acc _ hd2 hl (st.1 rfl)
          | true =>
            have st := st.2 rfl
            simp only
            cases e3 : fe S2 with
            | exn v S3 => rw [e3] at st; exact st.elim
            | bad => rw [e3] at st; exact st.elim
            | ok y S3 =>
              rw [e3] at st
              obtain ⟨s1, s2⟩ := st
              simp only
              rw [if_pos s1]
              exact ih (i + 1) _ _ hd2 hl s2
  exact key ds 0 [] S rfl (Nat.zero_le _) h0
@[simp] theorem wE_fAny {stop : Bool} {it : FS → Res (List D)} {g : D → FS → Option FS} {t : FS → Res Bool} {fe : FS → Res D} {vs : List Nat} {Q : D → FS → Prop} : wE (fAny stop it g t fe vs S) Q = wE (it S) fun ds S1 => wE (anyF stop g t fe vs ds S1) fun b S2 => Q (.bool b) S2 := by
  unfold fAny; rw [wE_bnd]; congr; funext ds S1; cases h : anyF stop g t fe vs ds S1 <;> simp [h]
theorem wE_anyF {stop : Bool} {g : D → FS → Option FS} {t : FS → Res Bool} {fe : FS → Res D} {vs : List Nat} {ds : List D} {Q : Bool → FS → Prop} (I : Nat → FS → Prop) (h0 : I 0 S)
    (step : ∀ i d S, ds[i]? = some d → I i S → wO (g d (wipeS S vs)) fun S1 => wE (t S1) fun k S2 => (k = false → I (i + 1) (restS S S2 vs)) ∧ (k = true → wE (fe S2) fun y S3 => wBool y fun b => (b = stop → Q stop (restS S S3 vs)) ∧ (b ≠ stop → I (i + 1) (restS S S3 vs))))
    (hQ : ∀ S, I ds.length S → Q (!stop) S) : wE (anyF stop g t fe vs ds S) Q := by
  have key : ∀ (es : List D) (i : Nat) (S : FS), ds.drop i = es → i ≤ ds.length → I i S → wE (anyF stop g t fe vs es S) Q := by
    intro es
    induction es with
    | nil =>
      intro i S hd hi h
      have : i = ds.length := by
        have := congrArg List.length hd
        simp at this; omega
      subst this
      exact hQ S h
    | cons d es ih =>
      intro i S hd hi h
      have hl : i < ds.length := by
        have := congrArg List.length hd
        simp at this; omega
      have hg : ds[i]? = some d := by
        have := congrArg (fun l => l[0]?) hd
        simpa using this
      have hd2 : ds.drop (i + 1) = es := by
        have := congrArg List.tail hd
        simpa using this
      have st := step i d S hg h
      cases e : g d (wipeS S vs) with
      | none => rw [e] at st; exact st.elim
      | some S1 =>
        rw [e] at st
        have st : wE (t S1) _ := st
        simp only [anyF, e]
        cases e2 : t S1 with
        | exn v S2 => rw [e2] at st; exact st.elim
        | bad => rw [e2] at st; exact st.elim
        | ok k S2 =>
          rw [e2] at st
          cases k with
          | false => exact ih (i + 1) _ hd2 hl (st.1 rfl)
          | true =>
            have st := st.2 rfl
            simp only
            cases e3 : fe S2 with
            | exn v S3 => rw [e3] at st; exact st.elim
            | bad => rw [e3] at st; exact st.elim
            | ok y S3 =>
              rw [e3] at st
              cases y with
              | bool k =>
                obtain ⟨s1, s2⟩ := st
                simp only
                by_cases hk : k = stop
                · rw [if_pos hk]; exact s1 hk
                · rw [if_neg hk]; exact ih (i + 1) _ hd2 hl (s2 hk)
              | _ => exact st.elim
  exact key ds 0 S rfl (Nat.zero_le _) h0
end

def lsO : Option (Option SV) → Option (List D)
  | some (some (.own (.lst ds))) => some ds
  | some (some (.pin (.lst ds))) => some ds
  | _ => none
@[simp] theorem lsO_own {ds : List D} : lsO (some (some (.own (.lst ds)))) = some ds := rfl
@[simp] theorem lsO_pin {ds : List D} : lsO (some (some (.pin (.lst ds)))) = some ds := rfl
@[simp] theorem lstAt_eq {S : FS} {i : Nat} : lstAt S i = lsO S[i]? := by
  unfold lstAt lsO; split <;> simp_all
def mkO : Option (Option SV) → Ob → SV
  | some (some (.pin _)), o => .pin o
  | _, o => .own o
@[simp] theorem mkO_own {o o' : Ob} : mkO (some (some (.own o))) o' = .own o' := rfl
@[simp] theorem mkO_pin {o o' : Ob} : mkO (some (some (.pin o))) o' = .pin o' := rfl
@[simp] theorem putLst_eq {S : FS} {i : Nat} {ds : List D} : putLst S i ds = S.set i (some (mkO S[i]? (.lst ds))) := by
  unfold putLst mkO; split <;> simp_all
@[simp] theorem setOb_eq {S : FS} {i : Nat} {o : Ob} : setOb S i o = S.set i (some (mkO S[i]? o)) := by
  unfold setOb mkO; split <;> simp_all
@[simp] theorem isT_e {a T : String} : isT a T = (a == T || (a == "bool" && T == "int")) := rfl
@[simp] theorem bls_e1 : bls [] = some [] := rfl
@[simp] theorem bls_e2 {b : Bool} {r : List D} : bls (.bool b :: r) = (bls r).map (b :: ·) := rfl
@[simp] theorem gN_e {i : Nat} {d : D} {S : FS} : gN i d S = some (S.set i (some (.d d))) := rfl
@[simp] theorem gNl_e {S : FS} : gNl [] S = some S := rfl
@[simp] theorem gCs_e1 {g : D → FS → Option FS} {h : List D → FS → Option FS} {d : D} {ds : List D} {S : FS} : gCs g h (d :: ds) S = (g d S).bind (h ds) := rfl
@[simp] theorem gCs_e2 {g : D → FS → Option FS} {h : List D → FS → Option FS} {S : FS} : gCs g h [] S = none := rfl
@[simp] theorem inR_e {j : Int} : inR j = (-4611686018427387904 ≤ j ∧ j < 4611686018427387904) := by
  unfold inR
  rw [show (2 : Int) ^ 62 = 4611686018427387904 from by decide]
@[simp] theorem keepD_e1 {d : D} : keepD (some (.d d)) = some (.d d) := rfl
@[simp] theorem keepD_e2 : keepD none = none := rfl
@[simp] theorem keepD_e3 {o : Ob} : keepD (some (.own o)) = none := rfl
@[simp] theorem keepD_e4 {o : Ob} : keepD (some (.pin o)) = none := rfl
@[simp] theorem wipeS_e {S : FS} {vs : List Nat} : wipeS S vs = setAll S vs fun _ => none := rfl
@[simp] theorem restS_e {S S2 : FS} {vs : List Nat} : restS S S2 vs = setAll S2 vs fun v => keepD (S.getD v none) := rfl
@[simp] theorem setAll_e1 {β : Type} {S : List β} {f : Nat → β} : setAll S [] f = S := rfl
@[simp] theorem setAll_e2 {β : Type} {S : List β} {f : Nat → β} {v : Nat} {vs : List Nat} : setAll S (v :: vs) f = (setAll S vs f).set v (f v) := rfl
@[simp] theorem resolve_e1 {S : FS} : resolve S [] = some [] := rfl
@[simp] theorem resolve_e2 {S : FS} {d : D} {r : List AD} : resolve S (.d d :: r) = (resolve S r).map (.d d :: ·) := rfl
@[simp] theorem resolve_e3 {S : FS} {i : Nat} {r : List AD} : resolve S (.s i :: r) = match S[i]? with
    | some (some (.own ob)) => (resolve S r).map (.pin ob :: ·)
    | some (some (.pin ob)) => (resolve S r).map (.pin ob :: ·)
    | _ => none := rfl
@[simp] theorem back_e1 {S : FS} {l : List SV} : back [] l S = some S := rfl
@[simp] theorem back_e2 {S : FS} {l : List SV} {d : D} {v : SV} {r : List AD} : back (.d d :: r) (v :: l) S = back r l S := rfl
@[simp] theorem back_e3 {S : FS} {l : List SV} {i : Nat} {ob : Ob} {r : List AD} : back (.s i :: r) (.pin ob :: l) S = back r l (setOb S i ob) := rfl
@[simp] theorem slotsOf_e1 : slotsOf [] = [] := rfl
@[simp] theorem slotsOf_e2 {d : D} {r : List AD} : slotsOf (.d d :: r) = slotsOf r := rfl
@[simp] theorem slotsOf_e3 {i : Nat} {r : List AD} : slotsOf (.s i :: r) = i :: slotsOf r := rfl
@[simp] theorem pinsAt_e1 {S : FS} : Fz.pinsAt [] S = some [] := rfl
@[simp] theorem pinsAt_e2 {S : FS} {ob ob' : Ob} {r : List SV} : Fz.pinsAt (.pin ob :: r) (some (.pin ob') :: S) = (Fz.pinsAt r S).map (.pin ob' :: ·) := rfl
@[simp] theorem pinsAt_e3 {S : FS} {d : D} {c : Option SV} {r : List SV} : Fz.pinsAt (.d d :: r) (c :: S) = (Fz.pinsAt r S).map (.d d :: ·) := rfl
@[simp] theorem pinsAt_e4 {S : FS} {o : Ob} {c : Option SV} {r : List SV} : Fz.pinsAt (.own o :: r) (c :: S) = (Fz.pinsAt r S).map (.own o :: ·) := rfl
@[simp] theorem startS_e {n : Nat} {svs : List SV} : startS n svs = svs.map some ++ List.replicate (n - svs.length) none := rfl
@[simp] theorem setsV_e1 {S : FS} : setsV [] [] S = some S := rfl
@[simp] theorem setsV_e2 {S : FS} {i : Nat} {is : List Nat} {v : SV} {vs : List SV} : setsV (i :: is) (v :: vs) S = setsV is vs (S.set i (some v)) := rfl
@[simp] theorem permL_e {α : Type} {p : List Nat} {l : List α} : permL p l = p.filterMap fun i => l[i]? := rfl
@[simp] theorem dTyp_none : dTyp .none = "NoneType" := rfl
@[simp] theorem dTyp_bool {b : Bool} : dTyp (.bool b) = "bool" := rfl
@[simp] theorem dTyp_int {i : Int} : dTyp (.int i) = "int" := rfl
@[simp] theorem dTyp_str {x : Str} : dTyp (.str x) = "str" := rfl
@[simp] theorem dTyp_tuple {ds : List D} : dTyp (.tuple ds) = "tuple" := rfl
@[simp] theorem dTyp_list {ds : List D} : dTyp (.list ds) = "list" := rfl
@[simp] theorem dIsB_bool {b c : Bool} : dIsB b (.bool c) = (c == b) := rfl
@[simp] theorem dIsB_none {b : Bool} : dIsB b .none = false := rfl
@[simp] theorem dIsB_int {b : Bool} {i : Int} : dIsB b (.int i) = false := rfl
@[simp] theorem dNone_none : dNone .none = true := rfl
@[simp] theorem dNone_bool {b : Bool} : dNone (.bool b) = false := rfl
@[simp] theorem dNone_int {i : Int} : dNone (.int i) = false := rfl
@[simp] theorem dNone_str {x : Str} : dNone (.str x) = false := rfl
@[simp] theorem dNone_tuple {ds : List D} : dNone (.tuple ds) = false := rfl
@[simp] theorem dNone_list {ds : List D} : dNone (.list ds) = false := rfl
@[simp] theorem dTru_none : dTru .none = some false := rfl
@[simp] theorem dTru_bool {b : Bool} : dTru (.bool b) = some b := rfl
@[simp] theorem dTru_int {i : Int} : dTru (.int i) = some (i != 0) := rfl
@[simp] theorem dTru_tuple {ds : List D} : dTru (.tuple ds) = some (!ds.isEmpty) := rfl
@[simp] theorem dTru_list {ds : List D} : dTru (.list ds) = some (!ds.isEmpty) := rfl
section
variable {α : Type} {xs : List α}
theorem atI_nat (xs : List α) (k : Nat) : atI xs (k : Int) = xs[k]? := by
  unfold atI ixN
  by_cases h : k < xs.length
  · simp [h]
  · simp [h]
@[simp] theorem atI_cast {k : Nat} : atI xs (k : Int) = xs[k]? := atI_nat xs k
@[simp] theorem atI_0 : atI xs 0 = xs[0]? := atI_nat xs 0
@[simp] theorem atI_1 : atI xs 1 = xs[1]? := atI_nat xs 1
@[simp] theorem atI_2 : atI xs 2 = xs[2]? := atI_nat xs 2
@[simp] theorem atI_3 : atI xs 3 = xs[3]? := atI_nat xs 3
@[simp] theorem atI_4 : atI xs 4 = xs[4]? := atI_nat xs 4
@[simp] theorem atI_5 : atI xs 5 = xs[5]? := atI_nat xs 5
@[simp] theorem atI_6 : atI xs 6 = xs[6]? := atI_nat xs 6
@[simp] theorem atI_7 : atI xs 7 = xs[7]? := atI_nat xs 7
@[simp] theorem atI_8 : atI xs 8 = xs[8]? := atI_nat xs 8
@[simp] theorem atI_9 : atI xs 9 = xs[9]? := atI_nat xs 9
theorem atI_int {i : Int} (h : 0 ≤ i) : atI xs i = xs[i.toNat]? := by
  have e := atI_nat xs i.toNat
  rw [Int.toNat_of_nonneg h] at e
  exact e
theorem atI_last (h : xs ≠ []) : atI xs (-1) = some (xs.getLast h) := by
  unfold atI ixN
  have hl : 0 < xs.length := List.length_pos_iff.mpr h
  have e1 : (-(xs.length : Int) ≤ -1) := by omega
  have e2 : ((-1 : Int) + (xs.length : Int)).toNat = xs.length - 1 := by omega
  simp [e1, e2, List.getLast_eq_getElem]
theorem ixN_nat {n k : Nat} (h : k < n) : ixN n (k : Int) = some k := by unfold ixN; simp [h]
@[simp] theorem ixN_0 {n : Nat} : ixN (n + 1) 0 = some 0 := ixN_nat (k := 0) (Nat.succ_pos n)
@[simp] theorem ixN_1 {n : Nat} : ixN (n + 2) 1 = some 1 := ixN_nat (k := 1) (Nat.lt_add_left n (by decide))
end
theorem szL {n : Nat} (h : n ≤ 16000000) : n ≤ sizeLine := Nat.le_trans h (by decide)
theorem szS {n : Nat} (h : n ≤ 16000000) : n < sizeLine := Nat.lt_of_le_of_lt h (by decide)
end Fz
end

section
set_option Elab.async false
set_option linter.all false
set_option maxRecDepth 100000
set_option maxHeartbeats 4000000
/-! F19: small data; words; arithmetic of the laws' wells. -/
namespace Fz
open PySem L2
theorem log2_small {n k : Nat} (h : n < 2 ^ k) (hk : 0 < k) : n.log2 < k := by
  by_cases h0 : n = 0
  · subst h0; simpa using hk
  · exact (Nat.log2_lt h0).mpr h
theorem divW {i j : Int} (h0 : 0 < j) (hj : j < 2 ^ 200) : CDivW i j := by
  have b := log2_small (n := j.natAbs) (k := 200) (by omega) (by decide)
  exact ⟨h0, by omega⟩
theorem emodW {x m : Int} (h : 0 < m) : 0 ≤ x % m ∧ x % m < m := ⟨Int.emod_nonneg _ (by omega), Int.emod_lt_of_pos _ h⟩
theorem cutL_take {α : Type} (xs : List α) (k : Nat) : cutL xs none (some (k : Int)) = xs.take k := by
  unfold cutL
  rw [HT.sIx_none, HT.sIx_nat, List.drop_zero, Nat.sub_zero]
  by_cases h : k ≤ xs.length
  · rw [Nat.min_eq_left h]
  · rw [Nat.min_eq_right (by omega), List.take_of_length_le (Nat.le_refl _), List.take_of_length_le (by omega)]
theorem cutL_drop {α : Type} (xs : List α) (k : Nat) : cutL xs (some (k : Int)) none = xs.drop k := by
  unfold cutL
  rw [HT.sIx_none, HT.sIx_nat]
  by_cases h : k ≤ xs.length
  · rw [Nat.min_eq_left h, List.take_of_length_le (by simp)]
  · rw [Nat.min_eq_right (by omega), List.drop_of_length_le (Nat.le_refl _), List.drop_of_length_le (by omega)]; simp
mutual
/-- small data without dicts, nested at most k deep -/
inductive Smal : Nat → D → Prop
  | non {k : Nat} : Smal k .none
  | bl {k : Nat} {b : Bool} : Smal k (.bool b)
  | int {k : Nat} {i : Int} : Smal k (.int i)
  | str {k : Nat} {x : Str} (h : PyData.strOk x = true) : Smal k (.str x)
  | tup {k : Nat} {ds : List D} (l : ds.length ≤ 10000000) (h : SmalL k ds) : Smal (k + 1) (.tuple ds)
  | lst {k : Nat} {ds : List D} (l : ds.length ≤ 10000000) (h : SmalL k ds) : Smal (k + 1) (.list ds)
inductive SmalL : Nat → List D → Prop
  | nil {k : Nat} : SmalL k []
  | cons {k : Nat} {d : D} {ds : List D} (h : Smal k d) (r : SmalL k ds) : SmalL k (d :: ds)
end
theorem SmalL.mem {k : Nat} : ∀ {ds : List D}, SmalL k ds → ∀ d ∈ ds, Smal k d
  | _, .cons h r, d, hm => by
    rcases List.mem_cons.mp hm with e | hm
    · rw [e]; exact h
    · exact SmalL.mem r d hm
theorem SmalL.of {k : Nat} : ∀ {ds : List D}, (∀ d ∈ ds, Smal k d) → SmalL k ds
  | [], _ => .nil
  | d :: ds, h => .cons (h d (List.mem_cons_self ..)) (SmalL.of fun e he => h e (List.mem_cons_of_mem _ he))
mutual
theorem Smal.up {k j : Nat} (hj : k ≤ j) : ∀ {d : D}, Smal k d → Smal j d
  | _, .non => .non
  | _, .bl => .bl
  | _, .int => .int
  | _, .str h => .str h
  | _, .tup l h => by
    obtain ⟨j, rfl⟩ : ∃ i, j = i + 1 := ⟨j - 1, by omega⟩
    exact .tup l (SmalL.up (by omega) h)
  | _, .lst l h => by
    obtain ⟨j, rfl⟩ : ∃ i, j = i + 1 := ⟨j - 1, by omega⟩
    exact .lst l (SmalL.up (by omega) h)
theorem SmalL.up {k j : Nat} (hj : k ≤ j) : ∀ {ds : List D}, SmalL k ds → SmalL j ds
  | _, .nil => .nil
  | _, .cons h r => .cons (Smal.up hj h) (SmalL.up hj r)
end
mutual
theorem Smal.lay {k : Nat} : ∀ {d : D}, Smal k d → d.canLay0 = true ∧ d.depth ≤ k
  | _, .non => ⟨rfl, by simp [PyData.depth]⟩
  | _, .bl => ⟨rfl, by simp [PyData.depth]⟩
  | _, .int => ⟨rfl, by simp [PyData.depth]⟩
  | _, .str h => ⟨by simpa [PyData.canLay0] using h, by simp [PyData.depth]⟩
  | _, .tup _ h => by
    obtain ⟨a, b⟩ := SmalL.lay h
    exact ⟨by simpa [PyData.canLay0] using a, by simp only [PyData.depth]; omega⟩
  | _, .lst _ h => by
    obtain ⟨a, b⟩ := SmalL.lay h
    exact ⟨by simpa [PyData.canLay0] using a, by simp only [PyData.depth]; omega⟩
theorem SmalL.lay {k : Nat} : ∀ {ds : List D}, SmalL k ds → PyData.canLayAll0 ds = true ∧ PyData.depthAll ds ≤ k
  | _, .nil => ⟨by simp [PyData.canLayAll0], by simp [PyData.depthAll]⟩
  | _, .cons h r => by
    obtain ⟨a, b⟩ := Smal.lay h
    obtain ⟨a2, b2⟩ := SmalL.lay r
    exact ⟨by simp [PyData.canLayAll0, a, a2], by simp only [PyData.depthAll]; omega⟩
end
theorem Smal.shaped {k : Nat} {d : D} (h : Smal k d) (hk : k ≤ 60) : SeqAt.shaped d = true := by
  obtain ⟨a, b⟩ := h.lay
  unfold SeqAt.shaped
  rw [a, Bool.true_and]
  exact decide_eq_true (by omega)
@[simp] theorem shaped_none : SeqAt.shaped .none = true := Smal.shaped (k := 0) .non (by decide)
@[simp] theorem shaped_bool {b : Bool} : SeqAt.shaped (.bool b) = true := Smal.shaped (k := 0) .bl (by decide)
@[simp] theorem shaped_int {b : Int} : SeqAt.shaped (.int b) = true := Smal.shaped (k := 0) .int (by decide)
@[simp] theorem eqv_none : PyData.eqv .none .none = true := rfl
@[simp] theorem eqv_int {i j : Int} : PyData.eqv (.int i) (.int j) = decide (i = j) := by
  simp only [PyData.eqv]; by_cases h : i = j <;> simp [h]
@[simp] theorem eqv_bool {i j : Bool} : PyData.eqv (.bool i) (.bool j) = (i == j) := by simp only [PyData.eqv]
@[simp] theorem eqv_str {i j : Str} : PyData.eqv (.str i) (.str j) = (i == j) := by simp only [PyData.eqv]
@[simp] theorem eqOk_str {a b : Str} : eqOk (.str a) (.str b) = true := rfl
theorem eqOk_of {d e : D} (h : SeqAt.shaped d = true) (g : SeqAt.shaped e = true) : eqOk d e = true := by unfold eqOk; rw [h, g]; simp
@[simp] theorem eqOk_int {i j : Int} : eqOk (.int i) (.int j) = true := eqOk_of shaped_int shaped_int
@[simp] theorem eqOk_bool {i j : Bool} : eqOk (.bool i) (.bool j) = true := eqOk_of shaped_bool shaped_bool
theorem Smal.eqOk {k : Nat} {d e : D} (h : Smal k d) (g : Smal k e) (hk : k ≤ 60) : eqOk d e = true := eqOk_of (h.shaped hk) (g.shaped hk)
/-- a word -/
def W (xs : List Int) : D := .tuple (xs.map .int)
/-- a list of ints -/
def LI (xs : List Int) : D := .list (xs.map .int)
theorem eqvAll_ints : ∀ {xs ys : List Int}, PyData.eqvAll (xs.map .int) (ys.map .int) = decide (xs = ys)
  | [], [] => by simp [PyData.eqvAll]
  | [], _ :: _ => by simp [PyData.eqvAll]
  | _ :: _, [] => by simp [PyData.eqvAll]
  | x :: xs, y :: ys => by
    simp only [List.map_cons, PyData.eqvAll, eqv_int, eqvAll_ints (xs := xs) (ys := ys), List.cons.injEq]
    by_cases h : x = y <;> by_cases g : xs = ys <;> simp [h, g]
@[simp] theorem eqv_W {xs ys : List Int} : PyData.eqv (W xs) (W ys) = decide (xs = ys) := by
  unfold W; simp only [PyData.eqv]; exact eqvAll_ints
@[simp] theorem eqv_LI {xs ys : List Int} : PyData.eqv (LI xs) (LI ys) = decide (xs = ys) := by
  unfold LI; simp only [PyData.eqv]; exact eqvAll_ints
theorem smalInts {k : Nat} {xs : List Int} : SmalL k (xs.map .int) := SmalL.of fun d hd => by
  obtain ⟨i, _, rfl⟩ := List.mem_map.mp hd
  exact .int
theorem smalW {k : Nat} {xs : List Int} (h : xs.length ≤ 10000000) : Smal (k + 1) (W xs) := .tup (by simpa using h) smalInts
theorem shaped_of_tup {k : Nat} {ds : List D} (h : SmalL k ds) (hk : k ≤ 59) : SeqAt.shaped (.tuple ds) = true := by
  obtain ⟨a, b⟩ := h.lay
  unfold SeqAt.shaped
  have : (PyData.tuple ds).canLay0 = true := by simpa [PyData.canLay0] using a
  rw [this, Bool.true_and]
  exact decide_eq_true (by simp only [PyData.depth]; omega)
theorem shaped_of_lst {k : Nat} {ds : List D} (h : SmalL k ds) (hk : k ≤ 59) : SeqAt.shaped (.list ds) = true := by
  obtain ⟨a, b⟩ := h.lay
  unfold SeqAt.shaped
  have : (PyData.list ds).canLay0 = true := by simpa [PyData.canLay0] using a
  rw [this, Bool.true_and]
  exact decide_eq_true (by simp only [PyData.depth]; omega)
@[simp] theorem shapedW {xs : List Int} : SeqAt.shaped (W xs) = true := shaped_of_tup (smalInts (k := 0)) (by decide)
@[simp] theorem shapedLI {xs : List Int} : SeqAt.shaped (LI xs) = true := shaped_of_lst (smalInts (k := 0)) (by decide)
@[simp] theorem shapedL {xs : List Int} : SeqAt.shaped (.list (xs.map .int)) = true := shapedLI
@[simp] theorem shapedL0 : SeqAt.shaped (.list []) = true := shapedLI (xs := [])
@[simp] theorem shapedW0 : SeqAt.shaped (.tuple []) = true := shapedW (xs := [])
@[simp] theorem eqOk_WW {xs ys : List Int} : eqOk (W xs) (W ys) = true := eqOk_of shapedW shapedW
@[simp] theorem eqOk_W0 {xs : List Int} : eqOk (W xs) (.tuple []) = true := eqOk_of shapedW shapedW0
@[simp] theorem eqOk_LL {xs ys : List Int} : eqOk (.list (xs.map .int)) (.list (ys.map .int)) = true := eqOk_of shapedL shapedL
@[simp] theorem eqOk_L0 {xs : List Int} : eqOk (.list (xs.map .int)) (.list []) = true := eqOk_of shapedL shapedL0
@[simp] theorem eqv_list0 {ds : List D} : PyData.eqv (.list ds) (.list []) = ds.isEmpty := by
  simp only [PyData.eqv]; cases ds <;> simp [PyData.eqvAll]
@[simp] theorem eqv_W0 {xs : List Int} : PyData.eqv (W xs) (.tuple []) = xs.isEmpty := by
  unfold W; simp only [PyData.eqv]; cases xs <;> simp [PyData.eqvAll]
theorem rngD_get {lo : Int} {n i : Nat} {d : D} (h : (rngD lo n)[i]? = some d) : i < n ∧ d = .int (lo + (i : Nat)) := by
  unfold rngD at h
  rw [List.getElem?_map, Option.map_eq_some_iff] at h
  obtain ⟨j, h1, rfl⟩ := h
  obtain ⟨h2, h3⟩ := List.getElem?_eq_some_iff.mp h1
  simp at h2 h3
  subst h3
  exact ⟨h2, rfl⟩
@[simp] theorem rngD_len {lo : Int} {n : Nat} : (rngD lo n).length = n := by simp [rngD]
theorem bls_rep {n : Nat} : Fz.bls (List.replicate n (.bool true)) = some (List.replicate n true) := by
  induction n with
  | zero => rfl
  | succ n ih => simp [List.replicate_succ, Fz.bls, ih]

section
variable {Q : D → FS → Prop} {QV : SV → FS → Prop} {S : FS} {xs ys : List Int} {i : Int}
@[simp] theorem tuple_W : PyData.tuple (List.map PyData.int xs) = W xs := rfl
@[simp] theorem wItems_W {k : List D → Prop} : wItems (W xs) k = k (xs.map .int) := rfl
@[simp] theorem dTyp_W : dTyp (W xs) = "tuple" := rfl
@[simp] theorem dTru_W : dTru (W xs) = some (!xs.isEmpty) := by unfold W; cases xs <;> rfl
@[simp] theorem dNone_W : dNone (W xs) = false := rfl
@[simp] theorem wE_pLen_W : wE (pLen (W xs) S) Q = Q (.int xs.length) S := by unfold W; rw [wE_pLen_t, List.length_map]
@[simp] theorem wE_pTuple_W : wE (pTuple (W xs) S) Q = Q (W xs) S := rfl
theorem atI_map : atI (xs.map PyData.int) i = (atI xs i).map .int := by
  unfold atI
  rw [List.length_map]
  cases ixN xs.length i <;> simp
@[simp] theorem wE_pIx_W : wE (pIx (W xs) (.int i) S) Q = wO (atI xs i) fun d => Q (.int d) S := by
  unfold W
  rw [wE_pIx_t, atI_map]
  cases atI xs i <;> rfl
theorem cutL_map {α β : Type} (f : α → β) (xs : List α) (a b : Option Int) : cutL (xs.map f) a b = (cutL xs a b).map f := by
  unfold cutL; simp
@[simp] theorem wE_pSl_W {a b : Option Int} : wE (pSl (W xs) a b S) QV = QV (.d (W (cutL xs a b))) S := by
  unfold W; rw [wE_pSl_t, cutL_map]
@[simp] theorem wE_pAdd_W : wE (pAdd (W xs) (W ys) S) QV = (xs.length + ys.length ≤ sizeLine ∧ QV (.d (W (xs ++ ys))) S) := by
  unfold W; rw [wE_pAdd_t]; simp only [List.length_map, List.length_cons, List.length_nil, W, List.map_append, List.map_cons, List.map_nil]
@[simp] theorem wE_pAdd_W1 : wE (pAdd (W xs) (.tuple [.int i]) S) QV = (xs.length + 1 ≤ sizeLine ∧ QV (.d (W (xs ++ [i]))) S) := by
  unfold W; rw [wE_pAdd_t]; simp only [List.length_map, List.length_cons, List.length_nil, W, List.map_append, List.map_cons, List.map_nil]
end
end Fz
end

section
set_option Elab.async false
set_option linter.all false
set_option maxRecDepth 100000
set_option maxHeartbeats 4000000
/-! F20: in, not in; zip. -/
namespace Fz
open PySem PySem.Spec PyProof.Rows L2 RZ
section
variable {X : Cx} {F : Fx} {pos : Pos}
/-! ### zip -/
end
end Fz
end

section
set_option Elab.async false
set_option linter.all false
set_option maxRecDepth 100000
set_option maxHeartbeats 4000000
/-! F21: weakest preconditions of in, zip. -/
namespace Fz
open PySem PySem.Spec PyProof.Rows L2
section
variable {S : FS} {d e : D} {Q : D → FS → Prop} {QL : List D → FS → Prop} {f g : FS → Res D}
end
end Fz
end

section
set_option Elab.async false
set_option linter.all false
set_option maxRecDepth 100000
set_option maxHeartbeats 4000000
/-! F22: list * int. -/
namespace Fz
open PySem PySem.Spec PyProof.Rows L2
theorem int_rmul_listW (a : Int) (t : Tok) (l : Addr) (items : Array Value) (n : Nat) (dd : Option Addr) (sl : Array (Option Value)) :
    Meets (Builtin.«int.__rmul__» ⟨[.int a t, .ref l], []⟩) (fun _ R s => s.heap.get? l = some { cls := .type "list", dict := dd, data := .seq items n, slots := sl } ∧ R (.ok (.ret Value.notImplemented)) s) :=
  .of_wp fun prog w A R s h => by obtain ⟨hp, g, d, tk, os⟩ := s; obtain ⟨hl, h⟩ := h; wp_walk using wpAny_loadPart' hl; exact ⟨_, rfl, h⟩
theorem list_mulW (l : Addr) (items : Array Value) (n : Nat) (dd : Option Addr) (sl : Array (Option Value)) (x : Int) (u : Tok) (hc0 : ¬(!Builtin.List.listFitsIndex x) = true) (hc1 : ¬items.size * x.toNat > (2 ^ 63 - 1) / 8) (hc2 : ¬Builtin.List.listTooLong (items.size * x.toNat) = true) :
    Meets (Builtin.«list.__mul__» ⟨[.ref l, .int x u], []⟩) (fun _ R s => s.heap.get? l = some { cls := .type "list", dict := dd, data := .seq items n, slots := sl } ∧ R (.ok (.ret (Value.ref s.heap.objs.size))) { s with heap := s.heap.push { cls := Value.type "list", data := Data.seq (List.foldl (fun x1 x2 => x1 ++ x2) #[] (List.replicate (if items.isEmpty = true then 0 else x.toNat) items)) }, toks := s.toks }) :=
  .of_wp fun prog w A R s h => by
    obtain ⟨hp, g, d, tk, os⟩ := s; obtain ⟨hl, h⟩ := h
    have hsz := AutoListH.joined_fits hc2
    wp_walk using wpAny_loadPart' hl; refine wpAny_ite_false (decide_eq_false (Nat.not_lt.mpr hsz)) ?_; wp_walk using wpAny_loadPart' hl; exact ⟨_, rfl, h⟩
section
variable {X : Cx} {F : Fx}
def rRepQ (K : Fg) : R2 := fun x y H Q => ∃ l k xs, x = .ref l ∧ y = .int k ∧ SqL K H l xs ∧ -(2 ^ 63) ≤ k ∧ k < 2 ^ 63 ∧ xs.length * k.toNat ≤ sizeLine ∧
  ∀ p, H p = none → Q (.ref p) (upd H p (.lst (List.replicate k.toNat xs).flatten))
theorem op_repQ : OpR X (binaryOp .Mult) (rRepQ X.K) := by
  intro pins s σ H x y v u Q I rx ry h
  obtain ⟨l, k, xs, rfl, rfl, hH, h1, h2, hz, q⟩ := h
  cases rx
  obtain ⟨t, rfl⟩ := ry
  obtain ⟨its, r, ⟨⟨c1, dd1, dt1, sl1⟩, n, e, k1, k2, k3⟩, _⟩ := I.list hH
  simp only at k1 k2 k3
  subst k1 k2 k3
  have hl := r.length
  have hlen : its.toArray.size * k.toNat ≤ sizeLine := by rw [List.size_toArray, ← hl]; exact hz
  have hcap : ¬ its.toArray.size * k.toNat > (2 ^ 63 - 1) / 8 := by
    have : (sizeLine : Nat) ≤ (2 ^ 63 - 1) / 8 := by decide
    omega
  have hfit : ¬ (!Builtin.List.listFitsIndex k) = true := by
    rw [fitsIndex_both h1 h2]
    exact Bool.false_ne_true
  have hlong : ¬ Builtin.List.listTooLong (its.toArray.size * k.toNat) = true := by
    rw [notLongL hlen]
    exact Bool.false_ne_true
  have hnew : List.foldl (fun x1 x2 => x1 ++ x2) #[] (List.replicate (if its.toArray.isEmpty = true then 0 else k.toNat) its.toArray) = (List.replicate k.toNat its).flatten.toArray := by
    have f0 : ∀ m : Nat, List.foldl (fun x1 x2 => x1 ++ x2) #[] (List.replicate m its.toArray) = (List.replicate m its).flatten.toArray := fun m => by
      have := foldl_rep its m []
      rw [List.nil_append] at this
      exact this
    rw [f0]
    cases its with
    | nil => simp
    | cons a r' => rw [if_neg (by simp)]
  refine wpAny_binaryOp_repeat_ref (T := "list") (U := "int") (by decide) ⟨_, e, rfl⟩ (fun s' => typeIs_int s' k t) noFill_list_mul F.fills_int_mul F.slot_int_rmul repeat_list F.slot_int_index.lookup
    (call_meets F.slot_int_rmul (typeIs_int s k t) F.entry_int_rmul (F.args_int_rmul_2 _ _) (int_rmul_listW k t l its.toArray n _ _)
      ⟨e, rfl, ⟨_, e, rfl⟩, call_meets F.slot_list_mul ⟨_, e, rfl⟩ F.entry_list_mul (F.args_list_mul_2 _ _) (list_mulW l its.toArray n _ _ k t hfit hcap hlong) ⟨e, ?_⟩⟩)
  rw [hnew]
  exact ⟨.ref _, _, I.lnew (t' := s.toks) (r.rep k.toNat) (by rw [PyProof.Rows.lm_len_rep_flat, Nat.mul_comm]; exact hz), rfl, q _ I.fresh⟩
end
end Fz
end

section
set_option Elab.async false
set_option linter.all false
set_option maxRecDepth 100000
set_option maxHeartbeats 4000000
/-! F24: * of any two of int, list, tuple; += of data. -/
namespace Fz
open PySem PySem.Spec PyProof.Rows L2
theorem tuple_mul1 (l : Addr) (items : Array Value) (n : Nat) (dd : Option Addr) (sl : Array (Option Value)) (x : Int) (u : Tok) (c0 : (decide (x < -(2 ^ 63)) || decide (x ≥ 2 ^ 63)) = false) (c1 : (items.isEmpty || x == 1) = true) :
    Meets (Builtin.«tuple.__mul__» ⟨[.ref l, .int x u], []⟩) (fun _ R s => s.heap.get? l = some { cls := .type "tuple", dict := dd, data := .seq items n, slots := sl } ∧ R (.ok (.ret (Value.ref l))) s) :=
  .of_wp fun prog w A R s h => by
    obtain ⟨hp, g, d, tk, os⟩ := s
    obtain ⟨hl, h⟩ := h
    have f1 := AutoSeq1.idx_int
    wp_walk using wpAny_loadPart' hl
    repeat (first
      | (refine wpAny_ite_false (decide_eq_false (by rw [c0]; exact Bool.false_ne_true)) ?_; wp_walk using wpAny_loadPart' hl)
      | (refine wpAny_ite_true (decide_eq_true (by rw [c1])) ?_; wp_walk using wpAny_loadPart' hl))
    exact ⟨_, rfl, h⟩
theorem tuple_mul0 (l : Addr) (items : Array Value) (n : Nat) (dd : Option Addr) (sl : Array (Option Value)) (x : Int) (u : Tok) (c0 : (decide (x < -(2 ^ 63)) || decide (x ≥ 2 ^ 63)) = false) (c1 : (items.isEmpty || x == 1) = false) (c2 : (decide (x ≤ 0) || items.isEmpty) = true) :
    Meets (Builtin.«tuple.__mul__» ⟨[.ref l, .int x u], []⟩) (fun _ R s => s.heap.get? l = some { cls := .type "tuple", dict := dd, data := .seq items n, slots := sl } ∧
      R (.ok (.ret (Value.ref s.heap.objs.size))) { s with heap := s.heap.push { cls := Value.type "tuple", data := Data.seq #[] }, toks := s.toks }) :=
  .of_wp fun prog w A R s h => by
    obtain ⟨hp, g, d, tk, os⟩ := s
    obtain ⟨hl, h⟩ := h
    have f1 := AutoSeq1.idx_int
    wp_walk using wpAny_loadPart' hl
    repeat (first
      | (refine wpAny_ite_false (decide_eq_false (by rw [c0]; exact Bool.false_ne_true)) ?_; wp_walk using wpAny_loadPart' hl)
      | (refine wpAny_ite_false (decide_eq_false (by rw [c1]; exact Bool.false_ne_true)) ?_; wp_walk using wpAny_loadPart' hl)
      | (refine wpAny_ite_true (decide_eq_true (by rw [c2])) ?_; wp_walk using wpAny_loadPart' hl))
    exact ⟨_, rfl, h⟩
section
variable {X : Cx} {F : Fx}
/-! ### tuple * int -/
def rRepA (K : Fg) : R2 := fun x y H Q => ∃ l k xs, x = .ref l ∧ y = .int k ∧ SqT K H l xs ∧ -(2 ^ 63) ≤ k ∧ k < 2 ^ 63 ∧ xs.length * k.toNat ≤ sizeLine ∧
  (xs = [] ∨ k = 1 → Q (.ref l) H) ∧ (xs ≠ [] → k ≠ 1 → ∀ p, H p = none → Q (.ref p) (upd H p (.tup (List.replicate k.toNat xs).flatten)))
theorem op_repA : OpR X (binaryOp .Mult) (rRepA X.K) := by
  intro pins s σ H x y v u Q I rx ry h
  obtain ⟨l, k, xs, rfl, rfl, hT, h1, h2, hz, q1, q2⟩ := h
  cases rx
  obtain ⟨t, rfl⟩ := ry
  obtain ⟨its, r, ⟨⟨cls, dd, data, sl⟩, ho, hc, n, hd⟩, hs⟩ := I.tuple hT
  simp only at hc hd
  subst hc hd
  have hle : its.length = xs.length := r.length.symm
  have hnil : its = [] ↔ xs = [] := r.nil_iff
  have hemp : its.toArray.isEmpty = true ↔ xs = [] := by
    rw [← hnil]; cases its <;> simp
  have hsz0 : its.toArray.size = xs.length := by rw [List.size_toArray, hle]
  have flen : (List.replicate k.toNat its).flatten.length ≤ sizeLine := by
    rw [PyProof.Rows.lm_len_rep_flat, hle, Nat.mul_comm]; exact hz
  have c0 : (decide (k < -(2 ^ 63)) || decide (k ≥ 2 ^ 63)) = false := by
    rw [decide_eq_false (by omega), decide_eq_false (by omega)] <;> rfl
  have go : ∀ {S : PySem.Spec}, Meets (Builtin.«tuple.__mul__» ⟨[.ref l, .int k t], []⟩) S → S X.A (wants (EP X pins σ Q) X.xe) s → wpAny (model X.prog X.w) X.A (binaryOp .Mult (.ref l) (.int k t)) (EP X pins σ Q) X.xe s := fun g h =>
    wpAny_binaryOp_repeat_ref (T := "tuple") (U := "int") (by decide) ⟨_, ho, rfl⟩ (fun s' => typeIs_int s' k t) noFill_tuple_mul F.fills_int_mul F.slot_int_rmul repeat_tuple F.slot_int_index.lookup
      (call_meets F.slot_int_rmul (typeIs_int s k t) F.entry_int_rmul (F.args_int_rmul_2 _ _) (int_rmul_tuple k t l its.toArray n dd sl)
        ⟨ho, rfl, ⟨_, ho, rfl⟩, call_meets F.slot_tuple_mul ⟨_, ho, rfl⟩ F.entry_tuple_mul (F.args_tuple_mul_2 _ _) g h⟩)
  by_cases hw : xs = [] ∨ k = 1
  · have c1 : (its.toArray.isEmpty || k == 1) = true := by
      rcases hw with hw | hw
      · rw [hemp.mpr hw]; rfl
      · rw [hw]; simp
    exact go (tuple_mul1 l its.toArray n dd sl k t c0 c1) ⟨ho, ⟨.ref l, H, I, rfl, q1 hw⟩⟩
  · have hx : xs ≠ [] := fun e => hw (.inl e)
    have hk : k ≠ 1 := fun e => hw (.inr e)
    have hi : its.toArray.isEmpty = false := by
      cases e : its.toArray.isEmpty with
      | false => rfl
      | true => exact absurd (hemp.mp e) hx
    have c1 : (its.toArray.isEmpty || k == 1) = false := by
      rw [hi, Bool.false_or]
      exact beq_eq_false_iff_ne.mpr hk
    by_cases h0 : k ≤ 0
    · have c2 : (decide (k ≤ 0) || its.toArray.isEmpty) = true := by rw [decide_eq_true h0]; rfl
      refine go (tuple_mul0 l its.toArray n dd sl k t c0 c1 c2) ⟨ho, ?_⟩
      have ek : k.toNat = 0 := by omega
      have q := q2 hx hk _ (I.hok.fresh (Nat.le_refl _))
      rw [ek] at q
      refine ⟨.ref s.heap.objs.size, _, I.laid (t' := s.toks) (o := .tup (List.replicate 0 xs).flatten) (fun b ob q => Heap.get?_push_of_some _ q) (Nat.le_refl _) ?_, rfl, q⟩
      exact ⟨by simp, _, .nil, IsTup.new _ _⟩
    · have c2 : (decide (k ≤ 0) || its.toArray.isEmpty) = false := by
        rw [hi, Bool.or_false]
        exact decide_eq_false h0
      have hzz : ((its.toArray.size : Nat) : Int) * k ≤ (sizeLine : Nat) := by
        rw [hsz0]
        have e : k = (k.toNat : Int) := by omega
        rw [e, ← Int.natCast_mul]
        exact_mod_cast hz
      have hs2 : (sizeLine : Int) ≤ (2 ^ 63 - 1) / 8 := by decide
      have c4 : Builtin.Tuple.tupleTooMany (((its.toArray.size : Nat) : Int) * k) = false := by
        unfold Builtin.Tuple.tupleTooMany
        exact decide_eq_false (by omega)
      refine go (tuple_mulW l its.toArray n dd sl k t c0 c1 c2 (by omega) c4 (by rw [size_rep, List.size_toArray]; exact flen)) ⟨ho, ?_⟩
      rw [size_rep]
      refine ⟨.ref s.heap.objs.size, _, I.laid (t' := s.toks) (o := .tup (List.replicate k.toNat xs).flatten) (fun b ob q => Heap.get?_push_of_some _ q) (Nat.le_refl _) ?_, rfl, q2 hx hk _ (I.hok.fresh (Nat.le_refl _))⟩
      exact ⟨by rw [PyProof.Rows.lm_len_rep_flat, Nat.mul_comm]; exact hz, _, r.rep k.toNat, IsTup.new _ _⟩
/-- products of ints, lists, tuples -/
noncomputable def pMulG (d e : D) : FS → Res SV := fun S => match d, e with
  | .int i, .int j => @ite _ (CMulW i j) (Classical.propDecidable _) (.ok (.d (.int (i * j))) S) .bad
  | .list xs, .int k => @ite _ (inR k ∧ xs.length * k.toNat ≤ sizeLine) (Classical.propDecidable _) (.ok (.own (.lst (List.replicate k.toNat xs).flatten)) S) .bad
  | .tuple xs, .int k => @ite _ (inR k ∧ xs.length * k.toNat ≤ sizeLine) (Classical.propDecidable _) (.ok (.d (.tuple (List.replicate k.toNat xs).flatten)) S) .bad
  | _, _ => .bad
theorem op_mulG : OpF X F VR (binaryOp .Mult) pMulG := opF_by fun S σ d e H => by
  cases d with
  | int i =>
    cases e with
    | int j =>
      by_cases hc : CMulW i j
      · refine .inl ⟨_, op_mulW, fun x y Q r hx hy p => ⟨i, j, hx.int, hy.int, hc, ?_⟩⟩
        unfold pMulG at p
        simp only [if_pos hc] at p
        exact p.ok r (Pd.int _)
      · refine .inr ?_
        unfold pMulG
        simp only [if_neg hc]
    | _ => exact .inr rfl
  | list ds =>
    cases e with
    | int k =>
      by_cases hc : inR k ∧ ds.length * k.toNat ≤ sizeLine
      · refine .inl ⟨_, op_repQ, fun x y Q r hx hy p => ?_⟩
        obtain ⟨a, vs, rfl, hl, hv⟩ := hx.list
        unfold pMulG at p
        simp only [if_pos hc] at p
        exact ⟨a, k, vs, rfl, hy.int, hl, by have := hc.1.1; omega, by have := hc.1.2; omega, by rw [hv.length]; exact hc.2, fun q hq => newList r (hv.rep k.toNat) hq p⟩
      · refine .inr ?_
        unfold pMulG
        simp only [if_neg hc]
    | _ => exact .inr rfl
  | tuple ds =>
    cases e with
    | int k =>
      by_cases hc : inR k ∧ ds.length * k.toNat ≤ sizeLine
      · refine .inl ⟨_, op_repA, fun x y Q r hx hy p => ?_⟩
        obtain ⟨a, vs, rfl, hl, hv⟩ := hx.tuple
        unfold pMulG at p
        simp only [if_pos hc] at p
        refine ⟨a, k, vs, rfl, hy.int, hl, by have := hc.1.1; omega, by have := hc.1.2; omega, by rw [hv.length]; exact hc.2, fun hw => ?_, fun _ _ q hq => ?_⟩
        · rcases hw with hw | hw
          · subst hw
            cases hv
            have e0 : (List.replicate k.toNat ([] : List D)).flatten = [] := by simp
            rw [e0] at p
            exact p.ok r (Pd.tup hl .nil)
          · subst hw
            have e0 : (List.replicate (1 : Int).toNat ds).flatten = ds := by simp
            rw [e0] at p
            exact p.ok r (Pd.tup hl hv)
        · obtain ⟨p1, r3, v⟩ := newTup r (hv.rep k.toNat) hq
          exact p _ _ p1 r3 v
      · refine .inr ?_
        unfold pMulG
        simp only [if_neg hc]
    | _ => exact .inr rfl
  | _ => exact .inr rfl
end
end Fz
end

section
set_option Elab.async false
set_option linter.all false
set_option maxRecDepth 100000
set_option maxHeartbeats 4000000
/-! dens, new with k01 -/
namespace DL
open PySem L2 Fz
/-- slots: 0 told, 1 due, 2 at -/
noncomputable def b__law_same (r : Den) : FS → SRes :=
 fSeq (fIf (fT (fOpN pIsB 1 (fC .none))) (fRetD (fOpN pIsB 0 (fC .none))) (fun S => .nx S))
        (fSeq (fIf (fTru (fIsi "bool" (fPeek 1))) (fRetD (fIte (fTru (fPeek 1)) (fOpN pIsB 0 (fC (.bool true))) (fOpN pIsB 0 (fC (.bool false))))) (fun S => .nx S))
        (fSeq (fIf (fTru (fIsi "int" (fPeek 1))) (fRetD (fAndV (fIsi "int" (fPeek 0)) (fAndV (fNotV (fIsi "bool" (fPeek 0))) (fOpN pEq 0 (fPeek 1))))) (fun S => .nx S))
        (fSeq (fIf (fTru (fIsi "str" (fPeek 1))) (fRetD (fAndV (fIsi "str" (fPeek 0)) (fOpN pEq 0 (fPeek 1)))) (fun S => .nx S))
        (fSeq (fIf (fOrT (fT (fOp pNe (fIsi "tuple" (fPeek 1)) (fIsi "tuple" (fPeek 0)))) (fT (fOp pNe (fIsi "list" (fPeek 1)) (fIsi "list" (fPeek 0))))) (fRetD (fC (.bool false))) (fun S => .nx S))
        (fRetD (fAndV (fOp pEq (fCall (one pLen) (fCons (fPeek 0) (fC []))) (fCall (one pLen) (fCons (fPeek 1) (fC [])))) (fCall (one pAll) (fCons (fFrz (fLc (fRange1 (fCall (one pLen) (fCons (fPeek 1) (fC [])))) (gN 2) (fC true) (fFrz (fCallP (r) 2 (fAD (fOpN pIx 0 (fVar 2)) (fAD (fOpN pIx 1 (fVar 2)) (fC []))))) [2])) (fC [])))))))))
noncomputable def r__law_same : Nat → Den
  | 0 => fun _ => .bad
  | k + 1 => denOf 3 (b__law_same (r__law_same k))
@[irreducible] noncomputable def d__law_same (k : Nat) : Den := r__law_same k
theorem d__law_same_0 : d__law_same 0 = fun _ => .bad := by unfold d__law_same; rfl
theorem d__law_same_s (k : Nat) : d__law_same (k + 1) = denOf 3 (b__law_same (d__law_same k)) := by unfold d__law_same; rfl
/-- slots: 0 value -/
noncomputable def b_is_integer : FS → SRes :=
 fRetD (fAndV (fIsi "int" (fPeek 0)) (fNotV (fIsi "bool" (fPeek 0))))
@[irreducible] noncomputable def d_is_integer : Den := denOf 1 b_is_integer
/-- slots: 0 value -/
noncomputable def b_is_natural : FS → SRes :=
 fRetD (fAndV (fFrz (fCallP d_is_integer 1 (fAD (fVar 0) (fC [])))) (fOpN pGe 0 (fC (.int 0))))
@[irreducible] noncomputable def d_is_natural : Den := denOf 1 b_is_natural
/-- slots: 0 value, 1 many -/
noncomputable def b_is_below : FS → SRes :=
 fRetD (fAndV (fFrz (fCallP d_is_natural 1 (fAD (fVar 0) (fC [])))) (fOpN pLt 0 (fPeek 1)))
@[irreducible] noncomputable def d_is_below : Den := denOf 2 b_is_below
/-- slots: 0 k, 1 value, 2 letter -/
noncomputable def b_is_letters : FS → SRes :=
 fRetD (fAndV (fIsi "tuple" (fPeek 1)) (fAny false (fItems (fVar 1)) (gN 2) (fC true) (fFrz (fCallP d_is_below 2 (fAD (fVar 2) (fAD (fVar 0) (fC []))))) [2]))
@[irreducible] noncomputable def d_is_letters : Den := denOf 3 b_is_letters
/-- slots: 0 k, 1 told -/
noncomputable def b_is_word_of : FS → SRes :=
 fRet (fCallP d_is_letters 2 (fAD (fVar 0) (fAD (fVar 1) (fC []))))
@[irreducible] noncomputable def d_is_word_of : Den := denOf 2 b_is_word_of
/-- slots: 0 k, 1 word -/
noncomputable def b_check_word : FS → SRes :=
 fIf (fNotT (fTru (fFrz (fCallP d_is_word_of 2 (fAD (fVar 0) (fAD (fVar 1) (fC []))))))) (fun _ => .bad) (fun S => .nx S)
@[irreducible] noncomputable def d_check_word : Den := denOf 2 b_check_word
end DL
end

section
set_option Elab.async false
set_option linter.all false
set_option maxRecDepth 100000
set_option maxHeartbeats 4000000
/-! S0: wells, same, words, strewn. -/
namespace DL
open PySem L2 Fz
theorem same_seq {k : Nat} {ds : List D} {x : D} {Q : D → FS → Prop} (hx : x = .list ds ∨ x = .tuple ds) (hl : ds.length ≤ 10000000) (hs : SmalL k ds)
    (ih : ∀ (d : D), Smal k d → ∀ {Q : SV → List SV → Prop}, Q (.d (.bool true)) [.d d, .d d] → wC (d__law_same (k + 1) [.d d, .d d]) Q)
    (h : Q (.list (List.replicate ds.length (.bool true))) [some (.d x), some (.d x), none]) :
    Fz.wE (lcF (gN 2) (fC true) (fFrz (fCallP (d__law_same (k + 1)) 2 (fAD (fOpN pIx 0 (fVar 2)) (fAD (fOpN pIx 1 (fVar 2)) (fC []))))) [2] (rngD 0 ds.length) [some (.d x), some (.d x), none] []) (fun v S1 => wFrz v fun d => Q d S1) := by
  refine wE_lcF (fun i acc S => acc = List.replicate i (.bool true) ∧ i ≤ ds.length ∧ S = [some (.d x), some (.d x), none]) ⟨rfl, Nat.zero_le _, rfl⟩ ?_ ?_
  · rintro i d acc S hd ⟨rfl, hi, rfl⟩
    obtain ⟨h1, rfl⟩ := rngD_get hd
    have e : ds[i]? = some ds[i] := List.getElem?_eq_getElem h1
    have go : wC (d__law_same (k + 1) [.d ds[i], .d ds[i]]) fun v l => v = .d (.bool true) ∧ l = [.d ds[i], .d ds[i]] := ih _ (hs.mem _ (List.getElem_mem h1)) ⟨rfl, rfl⟩
    rcases hx with rfl | rfl
    · simp [e, wE_callD]
      refine go.mono ?_
      rintro v l ⟨rfl, rfl⟩
      simp
      exact ⟨szS (by omega), by rw [List.replicate_succ'], by omega⟩
    · simp [e, wE_callD]
      refine go.mono ?_
      rintro v l ⟨rfl, rfl⟩
      simp
      exact ⟨szS (by omega), by rw [List.replicate_succ'], by omega⟩
  · rintro acc S ⟨rfl, hi, rfl⟩
    simpa using h
theorem same_refl : ∀ (k : Nat) (d : D), Smal k d → ∀ {Q : SV → List SV → Prop}, Q (.d (.bool true)) [.d d, .d d] → wC (d__law_same (k + 1) [.d d, .d d]) Q := by
  intro k
  induction k with
  | zero =>
    intro d hd Q h
    rw [d__law_same_s, wC_denOf]
    cases hd <;> simp [b__law_same]
    all_goals first | simpa using h | (rename_i b; cases b <;> simpa using h)
  | succ k ih =>
    intro d hd Q h
    rw [d__law_same_s, wC_denOf]
    cases hd
    case tup ds hl hs =>
      simp [b__law_same]
      refine ⟨by omega, same_seq (.inr rfl) hl hs ih ?_⟩
      simpa [bls_rep] using h
    case lst ds hl hs =>
      simp [b__law_same]
      refine ⟨by omega, same_seq (.inl rfl) hl hs ih ?_⟩
      simpa [bls_rep] using h
    all_goals (simp [b__law_same]; first | simpa using h | (rename_i b; cases b <;> simpa using h))
theorem same_w {k : Nat} {d : D} (hd : Smal k d) (hk : k ≤ 23) {Q : SV → List SV → Prop} (h : Q (.d (.bool true)) [.d d, .d d]) : wC (d__law_same 24 [.d d, .d d]) Q := same_refl 23 d (hd.up hk) h
def IsW (k : Int) (xs : List Int) : Prop := ∀ x ∈ xs, 0 ≤ x ∧ x < k
theorem is_integer_w {x : Int} {Q : SV → List SV → Prop} (h : Q (.d (.bool true)) [.d (.int x)]) : wC (d_is_integer [.d (.int x)]) Q := by
  unfold d_is_integer
  rw [wC_denOf]
  simp [b_is_integer]
  simpa using h
theorem is_natural_w {x : Int} (h0 : 0 ≤ x) {Q : SV → List SV → Prop} (h : Q (.d (.bool true)) [.d (.int x)]) : wC (d_is_natural [.d (.int x)]) Q := by
  unfold d_is_natural
  rw [wC_denOf]
  simp [b_is_natural, wE_callD]
  refine is_integer_w ?_
  simpa [h0] using h
theorem is_below_w {x k : Int} (h0 : 0 ≤ x) (h1 : x < k) {Q : SV → List SV → Prop} (h : Q (.d (.bool true)) [.d (.int x), .d (.int k)]) : wC (d_is_below [.d (.int x), .d (.int k)]) Q := by
  unfold d_is_below
  rw [wC_denOf]
  simp [b_is_below, wE_callD]
  refine is_natural_w h0 ?_
  simpa [h1] using h
theorem is_letters_w {k : Int} {xs : List Int} (hx : IsW k xs) {Q : SV → List SV → Prop} (h : Q (.d (.bool true)) [.d (.int k), .d (W xs)]) : wC (d_is_letters [.d (.int k), .d (W xs)]) Q := by
  unfold d_is_letters
  rw [wC_denOf]
  simp [b_is_letters]
  refine wE_anyF (fun i S => S = [some (.d (.int k)), some (.d (W xs)), none]) rfl ?_ ?_
  · rintro i d S hd rfl
    obtain ⟨z, hz, rfl⟩ := List.mem_map.mp (List.mem_of_getElem? hd)
    obtain ⟨a, b⟩ := hx z hz
    simp [wE_callD]
    refine is_below_w a b ?_
    simp
  · rintro S rfl
    simpa using h
theorem check_word_w {k : Int} {xs : List Int} (hx : IsW k xs) {Q : SV → List SV → Prop} (h : Q (.d .none) [.d (.int k), .d (W xs)]) : wC (d_check_word [.d (.int k), .d (W xs)]) Q := by
  unfold d_check_word
  rw [wC_denOf]
  simp [b_check_word, wE_callD]
  unfold d_is_word_of
  rw [wC_denOf]
  simp [b_is_word_of, wE_callD]
  refine is_letters_w hx ?_
  simpa using h

/-! found_in -/
/-- the first place from a on at which y stands (the length where there is none) -/
def nextAt (y : Int) (ys : List Int) (a : Nat) : Nat := a + ((ys.drop a).takeWhile (· != y)).length
/-- one's letters one after another in other, each as early as may be -/
def greedy : List Int → List Int → Nat → Option (List Nat)
  | [], _, _ => some []
  | x :: xs, ys, a => if nextAt x ys a < ys.length then (greedy xs ys (nextAt x ys a + 1)).map (nextAt x ys a :: ·) else none
theorem sub_split {x : Int} {xs : List Int} : ∀ l : List Int, (x :: xs).Sublist l ↔ (l.takeWhile (· != x)).length < l.length ∧ xs.Sublist (l.drop ((l.takeWhile (· != x)).length + 1))
  | [] => by simp
  | y :: l => by
    by_cases h : y = x
    · subst h; simp
    · have e : (y != x) = true := by simpa using h
      have ih := sub_split (x := x) (xs := xs) l
      rw [List.takeWhile_cons, e, List.sublist_cons_iff]
      simp only [if_true, List.length_cons, List.drop_succ_cons, Nat.add_lt_add_iff_right]
      rw [ih]
      constructor
      · rintro (h1 | ⟨r, h1, _⟩)
        · exact h1
        · cases h1; exact absurd rfl h
      · exact .inl
theorem greedy_sub {ys : List Int} : ∀ {xs : List Int} {a : Nat}, a ≤ ys.length → ((greedy xs ys a).isSome = true ↔ xs.Sublist (ys.drop a))
  | [], a, _ => by simp [greedy]
  | x :: xs, a, ha => by
    rw [sub_split, List.length_drop, List.drop_drop]
    unfold greedy
    have e : nextAt x ys a = a + ((ys.drop a).takeWhile (· != x)).length := rfl
    by_cases h : nextAt x ys a < ys.length
    · rw [if_pos h]
      simp only [Option.isSome_map]
      rw [greedy_sub (xs := xs) (by omega), e, show a + ((ys.drop a).takeWhile (· != x)).length + 1 = a + (((ys.drop a).takeWhile (· != x)).length + 1) by omega]
      constructor
      · intro z; exact ⟨by omega, z⟩
      · exact fun z => z.2
    · rw [if_neg h]
      constructor
      · intro z; cases z
      · intro z; exact absurd z.1 (by omega)
def strewn (xs ys : List Int) : Bool := (greedy xs ys 0).isSome
theorem strewn_iff {xs ys : List Int} : strewn xs ys = true ↔ xs.Sublist ys := by
  have := greedy_sub (xs := xs) (ys := ys) (a := 0) (Nat.zero_le _)
  unfold strewn
  simpa using this
/-! the texts' defs -/

/-! words drawn -/
end DL
end

section
set_option Elab.async false
set_option linter.all false
set_option maxRecDepth 100000
set_option maxHeartbeats 4000000
/-! F25: xs[::-1] of lists and tuples. -/
namespace Fz
open PySem PySem.Spec PyProof.Rows L2 HT
section
variable {prog : Program} {w : World} {A : Around} {E : Value → Shared → Prop} {s : Shared}
end
section
variable {X : Cx} {F : Fx} {pos : Pos}
end
end Fz
end

section
set_option Elab.async false
set_option linter.all false
set_option maxRecDepth 100000
set_option maxHeartbeats 4000000
/-! F26: the order of data: ints, texts, tuples of such at any depth. -/
namespace Fz
open PySem PySem.Spec PyProof.Rows L2
/-- x < y: told or not -/
def LtAt (A : Around) (s : Shared) (y x : Value) (b : Bool) : Prop :=
  ∀ (prog : Program) (w : World) (E : Value → Shared → Prop) (Q : Value → Shared → Prop), Q (.bool b) s → wpAny (model prog w) A (richCompare .Lt y x) Q E s
mutual
/-- the order of data, where it is told -/
def ltD : PyData → PyData → Option Bool
  | .int a, .int b => some (decide (a < b))
  | .str a, .str b => some (decide (a.cps.toList < b.cps.toList))
  | .tuple xs, .tuple ys => ltL xs ys
  | _, _ => none
def ltL : List PyData → List PyData → Option Bool
  | [], [] => some false
  | [], _ :: _ => some true
  | _ :: _, [] => some false
  | x :: xs, y :: ys => if PyData.eqv x y then ltL xs ys else ltD x y
end
def LexOk (A : Around) (s : Shared) (fin r : Bool) : List (Value × Value) → Prop
  | [] => r = fin
  | (y, x) :: rest => ∃ e, SeqAt.EqAt A s y x e ∧ (e = true → LexOk A s fin r rest) ∧ (e = false → LtAt A s y x r)
section
open PySem.SeqAt
open PySem.AutoSeq1 (wpAny_loadPart')
open PySem.MeetsSeq PySem.MeetsSeq2 PySem.MeetsSeq3
theorem tuple_lt_gen (l b : Addr) (items items2 : Array Value) (n n2 : Nat) (dd dd2 : Option Addr) (sl sl2 : Array (Option Value)) (r : Bool) :
    Meets (Builtin.«tuple.__lt__» ⟨[.ref l, .ref b], []⟩)
      (fun A R s => s.heap.get? l = some { cls := .type "tuple", dict := dd, data := .seq items n, slots := sl } ∧ s.heap.get? b = some { cls := .type "tuple", dict := dd2, data := .seq items2 n2, slots := sl2 } ∧
        LexOk A.in1 s (decide (items.size < items2.size)) r (items.toList.zip items2.toList) ∧ R (.ok (.ret (.bool r))) s) :=
  .of_wp fun prog w A R s h => by
    obtain ⟨hp, g, d, tk, os⟩ := s; obtain ⟨hl, hb, hx, h⟩ := h
    have f2 := AutoSeq1.sub_tuple_tuple
    wp_walk using wpAny_loadPart' hl, wpAny_loadPart' hb, wpAny_forIn_list _ (fun rest b s' => b.1 = none ∧ s' = ⟨hp, g, d, tk, os⟩ ∧ LexOk A.in1 ⟨hp, g, d, tk, os⟩ (decide (items.size < items2.size)) r rest) _
    case turn =>
      rintro ⟨y, x⟩ rest b s' ⟨hb', rfl, e, he, h1, h2⟩
      refine wpAny_bind (he prog w _ _ ?_)
      cases e with
      | true =>
        wp_walk
        exact ⟨rfl, rfl, h1 rfl⟩
      | false =>
        have hri := h2 rfl prog w
        wp_walk using hri
        exact ⟨_, rfl, by simpa using h⟩
    case fin =>
      rintro ⟨b1, b2⟩ s' ⟨hb', rfl, hz⟩
      simp only at hb'
      subst hb'
      have hz : r = decide (items.size < items2.size) := hz
      wp_walk
      subst hz
      exact ⟨_, rfl, by simpa [Builtin.Tuple.tupleCompareSizes] using h⟩
    case h =>
      exact ⟨rfl, rfl, hx⟩
end
section
open PySem.SeqAt
theorem room_here {A : Around} {n m : Nat} (h : A.units + min (n + 1) (m + 1) < cLine) : A.units < cLine := by omega
theorem room_in1 {A : Around} {n m : Nat} (h : A.units + min (n + 1) (m + 1) < cLine) : A.in1.units + min n m < cLine := by
  have : A.in1.units = A.units + 1 := rfl
  omega
theorem lt_tuple {A : Around} {s : Shared} {l b : Addr} {items items2 : Array Value} {r : Bool} (hl : IsTup s.heap l items) (hb : IsTup s.heap b items2) (hu : A.units < cLine)
    (hx : LexOk A.in1 s (decide (items.size < items2.size)) r (items.toList.zip items2.toList)) : LtAt A s (.ref l) (.ref b) r := fun prog w E Q h => by
  obtain ⟨⟨cls, dd, data, sl⟩, ho, hc, n, hd⟩ := id hl
  obtain ⟨⟨cls2, dd2, data2, sl2⟩, ho2, hc2, n2, hd2⟩ := id hb
  simp only at hc hd hc2 hd2
  subst hc hd hc2 hd2
  exact richCompare_meets_room (op := .Lt) ⟨_, ho, rfl⟩ ⟨_, ho2, rfl⟩ PySem.F.slot_tuple_lt PySem.F.entry_tuple_lt (PySem.F.args_tuple_lt_2 _ _) (tuple_lt_gen l b items items2 n n2 dd dd2 sl sl2 r)
    ⟨ho, ho2, hx, show Value.bool r ≠ Value.notImplemented ∧ Q (.bool r) s from ⟨(fun x => nomatch x), h⟩⟩ hu
theorem reads_len {h : Heap} : ∀ {vs : List Value} {ds : List PyData} {as : List Addr}, ReadsAll h vs ds as → vs.length = ds.length
  | _, _, _, .nil => rfl
  | _, _, _, .cons _ r => by rw [List.length_cons, List.length_cons, reads_len r]
mutual
theorem ltAt_reads : ∀ (da db : PyData) (A : Around) (s : Shared) (a b : Value) (as bs : List Addr) (r : Bool), Reads s.heap a da as → Reads s.heap b db bs → da.canLay0 = true → db.canLay0 = true →
    A.units + min da.depth db.depth < cLine → ltD da db = some r → LtAt A s a b r
  | .int x, .int y, A, s, _, _, _, _, r, ra, rb, _, _, _, h => by
    cases ra
    cases rb
    simp only [ltD, Option.some.injEq] at h
    subst h
    exact fun prog w E Q q => HT.rcLt_int A s _ _ _ _ prog w E Q q
  | .str x, .str y, A, s, _, _, _, _, r, ra, rb, _, _, _, h => by
    cases ra
    cases rb
    simp only [ltD, Option.some.injEq] at h
    subst h
    exact fun prog w E Q q => DT.rcLt_str A s _ _ _ _ prog w E Q q
  | .tuple xs, .tuple ys, A, s, _, _, _, _, r, ra, rb, ha, hb, hu, h => by
    simp only [PyData.canLay0] at ha hb
    simp only [PyData.depth] at hu
    cases ra with
    | tuple h1 h2 h3 h4 =>
      cases rb with
      | tuple k1 k2 k3 k4 =>
        refine lt_tuple ⟨_, h1, h2, _, h3⟩ ⟨_, k1, k2, _, k3⟩ (room_here hu) ?_
        simp only [ltD] at h
        exact lexOk_reads xs ys A.in1 s _ _ _ _ _ _ r h4 k4 ha hb (room_in1 hu) (by have a1 := reads_len h4; have a2 := reads_len k4; simp at a1 a2; omega) h
  | .none, _, _, _, _, _, _, _, _, _, _, _, _, _, h => by simp [ltD] at h
  | .bool _, _, _, _, _, _, _, _, _, _, _, _, _, _, h => by simp [ltD] at h
  | .list _, _, _, _, _, _, _, _, _, _, _, _, _, _, h => by simp [ltD] at h
  | .dict _, _, _, _, _, _, _, _, _, _, _, _, _, _, h => by simp [ltD] at h
  | .int _, .none, _, _, _, _, _, _, _, _, _, _, _, _, h => by simp [ltD] at h
  | .int _, .bool _, _, _, _, _, _, _, _, _, _, _, _, _, h => by simp [ltD] at h
  | .int _, .str _, _, _, _, _, _, _, _, _, _, _, _, _, h => by simp [ltD] at h
  | .int _, .list _, _, _, _, _, _, _, _, _, _, _, _, _, h => by simp [ltD] at h
  | .int _, .tuple _, _, _, _, _, _, _, _, _, _, _, _, _, h => by simp [ltD] at h
  | .int _, .dict _, _, _, _, _, _, _, _, _, _, _, _, _, h => by simp [ltD] at h
  | .str _, .none, _, _, _, _, _, _, _, _, _, _, _, _, h => by simp [ltD] at h
  | .str _, .bool _, _, _, _, _, _, _, _, _, _, _, _, _, h => by simp [ltD] at h
  | .str _, .int _, _, _, _, _, _, _, _, _, _, _, _, _, h => by simp [ltD] at h
  | .str _, .list _, _, _, _, _, _, _, _, _, _, _, _, _, h => by simp [ltD] at h
  | .str _, .tuple _, _, _, _, _, _, _, _, _, _, _, _, _, h => by simp [ltD] at h
  | .str _, .dict _, _, _, _, _, _, _, _, _, _, _, _, _, h => by simp [ltD] at h
  | .tuple _, .none, _, _, _, _, _, _, _, _, _, _, _, _, h => by simp [ltD] at h
  | .tuple _, .bool _, _, _, _, _, _, _, _, _, _, _, _, _, h => by simp [ltD] at h
  | .tuple _, .int _, _, _, _, _, _, _, _, _, _, _, _, _, h => by simp [ltD] at h
  | .tuple _, .str _, _, _, _, _, _, _, _, _, _, _, _, _, h => by simp [ltD] at h
  | .tuple _, .list _, _, _, _, _, _, _, _, _, _, _, _, _, h => by simp [ltD] at h
  | .tuple _, .dict _, _, _, _, _, _, _, _, _, _, _, _, _, h => by simp [ltD] at h
theorem lexOk_reads : ∀ (xs ys : List PyData) (A : Around) (s : Shared) (vs ws : List Value) (n m : Nat) (as bs : List Addr) (r : Bool), ReadsAll s.heap vs xs as → ReadsAll s.heap ws ys bs → PyData.canLayAll0 xs = true → PyData.canLayAll0 ys = true →
    A.units + min (PyData.depthAll xs) (PyData.depthAll ys) < cLine → n + ys.length = m + xs.length → ltL xs ys = some r → LexOk A s (decide (n < m)) r (vs.zip ws)
  | [], [], A, s, _, _, n, m, _, _, r, ra, rb, _, _, _, hn, h => by
    cases ra; cases rb
    simp only [ltL, Option.some.injEq] at h
    simp only [List.length_nil] at hn
    show r = decide (n < m)
    rw [← h]
    exact (decide_eq_false (by omega)).symm
  | [], y :: ys, A, s, _, _, n, m, _, _, r, ra, rb, _, _, _, hn, h => by
    cases ra; cases rb
    simp only [ltL, Option.some.injEq] at h
    simp only [List.length_nil, List.length_cons] at hn
    show r = decide (n < m)
    rw [← h]
    exact (decide_eq_true (by omega)).symm
  | x :: xs, [], A, s, _, _, n, m, _, _, r, ra, rb, _, _, _, hn, h => by
    cases ra; cases rb
    simp only [ltL, Option.some.injEq] at h
    simp only [List.length_nil, List.length_cons] at hn
    show r = decide (n < m)
    rw [← h]
    exact (decide_eq_false (by omega)).symm
  | x :: xs, y :: ys, A, s, _, _, n, m, _, _, r, ra, rb, ha, hb, hu, hn, h => by
    have ha' : x.canLay0 = true ∧ PyData.canLayAll0 xs = true := by simpa [PyData.canLayAll0] using ha
    have hb' : y.canLay0 = true ∧ PyData.canLayAll0 ys = true := by simpa [PyData.canLayAll0] using hb
    simp only [PyData.depthAll] at hu
    cases ra with
    | cons r1 rs1 =>
      cases rb with
      | cons r2 rs2 =>
        refine ⟨PyData.eqv x y, eqAt_reads x y A s _ _ _ _ r1 r2 ha'.1 hb'.1 (by omega), fun e => ?_, fun e => ?_⟩
        · simp only [ltL, e, if_true] at h
          exact lexOk_reads xs ys A s _ _ n m _ _ r rs1 rs2 ha'.2 hb'.2 (by omega) (by simp only [List.length_cons] at hn; omega) h
        · simp only [ltL, e, Bool.false_eq_true, if_false] at h
          exact ltAt_reads x y A s _ _ _ _ r r1 r2 ha'.1 hb'.1 (by omega) h
end
end
end Fz
end

section
set_option Elab.async false
set_option linter.all false
set_option maxRecDepth 100000
set_option maxHeartbeats 4000000
/-! F27: the order of plain data as an order of codes; sorting as a function. -/
namespace Fz
open PySem L2
mutual
/-- a code of data: the order of codes is the order of data -/
def enc : PyData → List Int
  | .int i => [1, i]
  | .str x => 2 :: ((x.cps.toList.map fun c => ((c : Nat) : Int) + 1) ++ [0])
  | .tuple ds => 3 :: encL ds
  | .none => [0]
  | .bool _ => [4]
  | .list _ => [5]
  | .dict _ => [6]
def encL : List PyData → List Int
  | [] => [0]
  | d :: ds => 1 :: (enc d ++ encL ds)
end
mutual
/-- ints, texts, tuples of such -/
def plainD : PyData → Bool
  | .int _ => true
  | .str _ => true
  | .tuple ds => plainL ds
  | _ => false
def plainL : List PyData → Bool
  | [] => true
  | d :: ds => plainD d && plainL ds
end
abbrev lx := HT.lexLt
theorem lx_pre {u v : List Int} : ∀ l : List Int, lx (l ++ u) (l ++ v) = lx u v
  | [] => rfl
  | x :: l => by rw [List.cons_append, List.cons_append, lx, HT.lexLt_cons, if_pos rfl]; exact lx_pre l
theorem lx_asym : ∀ {l m : List Int}, lx l m = true → lx m l = false
  | [], [], h => by cases h
  | [], y :: m, _ => rfl
  | x :: l, [], h => by cases h
  | x :: l, y :: m, h => by
    rw [lx, HT.lexLt_cons] at h ⊢
    by_cases e : x = y
    · subst e; rw [if_pos rfl] at h ⊢; exact lx_asym h
    · rw [if_neg e] at h
      rw [if_neg (fun z => e z.symm)]
      simp at h ⊢; omega
theorem lx_tr : ∀ {l m n : List Int}, lx m l = false → lx n m = false → lx n l = false
  | [], m, [], _, _ => rfl
  | [], [], z :: n, _, h => h
  | [], y :: m, z :: n, _, _ => rfl
  | x :: l, [], n, h, _ => by cases h
  | x :: l, y :: m, [], _, h => by cases h
  | x :: l, y :: m, z :: n, h, g => by
    rw [lx, HT.lexLt_cons] at h g ⊢
    by_cases e : y = x
    · subst e
      rw [if_pos rfl] at h
      by_cases e2 : z = y
      · subst e2
        rw [if_pos rfl] at g ⊢
        exact lx_tr h g
      · rw [if_neg e2] at g ⊢; exact g
    · rw [if_neg e] at h
      by_cases e2 : z = y
      · subst e2
        rw [if_neg e]; exact h
      · rw [if_neg e2] at g
        have : ¬ z = x := fun w => by subst w; simp at h g; omega
        rw [if_neg this]
        simp at h g ⊢; omega
theorem lx_tri : ∀ {l m : List Int}, lx l m = false → lx m l = false → l = m
  | [], [], _, _ => rfl
  | [], y :: m, h, _ => by cases h
  | x :: l, [], _, h => by cases h
  | x :: l, y :: m, h, g => by
    rw [lx, HT.lexLt_cons] at h g
    by_cases e : x = y
    · subst e
      rw [if_pos rfl] at h g
      rw [lx_tri h g]
    · rw [if_neg e] at h
      rw [if_neg (fun z => e z.symm)] at g
      simp at h g; omega
theorem lx_swo {α : Type} (f : α → List Int) : SrtO.Swo fun x y => lx (f x) (f y) := ⟨fun _ _ h => lx_asym h, fun _ _ _ h g => lx_tr h g⟩
/-! codes and equality -/
mutual
theorem enc_eqv : ∀ {d e : PyData}, plainD d = true → plainD e = true → PyData.eqv d e = true → d = e
  | .int a, .int b, _, _, h => by simp only [PyData.eqv] at h; rw [eq_of_beq h]
  | .str a, .str b, _, _, h => by simp only [PyData.eqv] at h; rw [eq_of_beq h]
  | .tuple xs, .tuple ys, h1, h2, h => by
    simp only [plainD] at h1 h2
    simp only [PyData.eqv] at h
    rw [encL_eqv h1 h2 h]
  | .int _, .str _, _, _, h => by simp [PyData.eqv] at h
  | .int _, .tuple _, _, _, h => by simp [PyData.eqv] at h
  | .str _, .int _, _, _, h => by simp [PyData.eqv] at h
  | .str _, .tuple _, _, _, h => by simp [PyData.eqv] at h
  | .tuple _, .int _, _, _, h => by simp [PyData.eqv] at h
  | .tuple _, .str _, _, _, h => by simp [PyData.eqv] at h
  | .none, _, h, _, _ => by cases h
  | .bool _, _, h, _, _ => by cases h
  | .list _, _, h, _, _ => by cases h
  | .dict _, _, h, _, _ => by cases h
  | .int _, .none, _, h, _ => by cases h
  | .int _, .bool _, _, h, _ => by cases h
  | .int _, .list _, _, h, _ => by cases h
  | .int _, .dict _, _, h, _ => by cases h
  | .str _, .none, _, h, _ => by cases h
  | .str _, .bool _, _, h, _ => by cases h
  | .str _, .list _, _, h, _ => by cases h
  | .str _, .dict _, _, h, _ => by cases h
  | .tuple _, .none, _, h, _ => by cases h
  | .tuple _, .bool _, _, h, _ => by cases h
  | .tuple _, .list _, _, h, _ => by cases h
  | .tuple _, .dict _, _, h, _ => by cases h
theorem encL_eqv : ∀ {ds es : List PyData}, plainL ds = true → plainL es = true → PyData.eqvAll ds es = true → ds = es
  | [], [], _, _, _ => rfl
  | [], _ :: _, _, _, h => by simp [PyData.eqvAll] at h
  | _ :: _, [], _, _, h => by simp [PyData.eqvAll] at h
  | x :: xs, y :: ys, h1, h2, h => by
    simp only [plainL, Bool.and_eq_true] at h1 h2
    simp only [PyData.eqvAll, Bool.and_eq_true] at h
    rw [enc_eqv h1.1 h2.1 h.1, encL_eqv h1.2 h2.2 h.2]
end
theorem lx_cps : ∀ (xs ys : List Nat) (u v : List Int), lx (((xs.map fun c => ((c : Nat) : Int) + 1) ++ [0]) ++ u) (((ys.map fun c => ((c : Nat) : Int) + 1) ++ [0]) ++ v) = if xs = ys then lx u v else decide (xs < ys)
  | [], [], u, v => by simp [HT.lexLt_cons]
  | [], y :: ys, u, v => by
    have : ¬ (0 : Int) = (y : Int) + 1 := by omega
    have h2 : (0 : Int) < (y : Int) + 1 := by omega
    simp [HT.lexLt_cons, this, h2]
  | x :: xs, [], u, v => by
    have : ¬ (x : Int) + 1 = 0 := by omega
    have h2 : ¬ (x : Int) + 1 < 0 := by omega
    simp [HT.lexLt_cons, this, h2]
  | x :: xs, y :: ys, u, v => by
    have ih := lx_cps xs ys u v
    simp only [List.map_cons, List.cons_append, HT.lexLt_cons]
    by_cases e : x = y
    · subst e
      rw [if_pos rfl]
      refine Eq.trans ih ?_
      simp [List.cons_lt_cons_iff]
    · rw [if_neg (by omega)]
      have : ¬ x :: xs = y :: ys := fun z => e (List.cons.inj z).1
      rw [if_neg this]
      rw [Bool.eq_iff_iff, decide_eq_true_eq, decide_eq_true_eq, List.cons_lt_cons_iff]
      constructor
      · intro h; exact .inl (by omega)
      · rintro (h | ⟨h, _⟩)
        · omega
        · exact absurd h e
mutual
theorem lt_enc : ∀ {d e : PyData} {r : Bool}, plainD d = true → plainD e = true → ltD d e = some r → ∀ u v, lx (enc d ++ u) (enc e ++ v) = if PyData.eqv d e = true then lx u v else r
  | .int a, .int b, r, _, _, h, u, v => by
    simp only [ltD, Option.some.injEq] at h
    subst h
    have e : PyData.eqv (.int a) (.int b) = decide (a = b) := by simp only [PyData.eqv]; by_cases h : a = b <;> simp [h]
    simp only [enc, List.cons_append, List.nil_append, lx, HT.lexLt_cons, e, decide_eq_true_eq, if_true]
  | .str a, .str b, r, _, _, h, u, v => by
    simp only [ltD, Option.some.injEq] at h
    subst h
    have e : PyData.eqv (.str a) (.str b) = decide (a.cps.toList = b.cps.toList) := by
      simp only [PyData.eqv]
      rw [Bool.eq_iff_iff, decide_eq_true_eq, beq_iff_eq]
      constructor
      · intro h; rw [h]
      · intro h
        cases a; cases b
        simp only at h
        rw [Array.toList_inj.mp h]
    have := lx_cps a.cps.toList b.cps.toList u v
    simp only [enc, List.cons_append, HT.lexLt_cons, lx, if_true, e, decide_eq_true_eq] at this ⊢
    exact this
  | .tuple xs, .tuple ys, r, h1, h2, h, u, v => by
    simp only [plainD] at h1 h2
    simp only [ltD] at h
    have := lt_encL h1 h2 h u v
    simp only [enc, List.cons_append, HT.lexLt_cons, lx, if_true, PyData.eqv] at this ⊢
    exact this
  | .none, _, _, h, _, _, _, _ => by cases h
  | .bool _, _, _, h, _, _, _, _ => by cases h
  | .list _, _, _, h, _, _, _, _ => by cases h
  | .dict _, _, _, h, _, _, _, _ => by cases h
  | .int _, .none, _, _, h, _, _, _ => by cases h
  | .int _, .bool _, _, _, h, _, _, _ => by cases h
  | .int _, .list _, _, _, h, _, _, _ => by cases h
  | .int _, .dict _, _, _, h, _, _, _ => by cases h
  | .int _, .str _, _, _, _, h, _, _ => by simp [ltD] at h
  | .int _, .tuple _, _, _, _, h, _, _ => by simp [ltD] at h
  | .str _, .none, _, _, h, _, _, _ => by cases h
  | .str _, .bool _, _, _, h, _, _, _ => by cases h
  | .str _, .list _, _, _, h, _, _, _ => by cases h
  | .str _, .dict _, _, _, h, _, _, _ => by cases h
  | .str _, .int _, _, _, _, h, _, _ => by simp [ltD] at h
  | .str _, .tuple _, _, _, _, h, _, _ => by simp [ltD] at h
  | .tuple _, .none, _, _, h, _, _, _ => by cases h
  | .tuple _, .bool _, _, _, h, _, _, _ => by cases h
  | .tuple _, .list _, _, _, h, _, _, _ => by cases h
  | .tuple _, .dict _, _, _, h, _, _, _ => by cases h
  | .tuple _, .int _, _, _, _, h, _, _ => by simp [ltD] at h
  | .tuple _, .str _, _, _, _, h, _, _ => by simp [ltD] at h
theorem lt_encL : ∀ {ds es : List PyData} {r : Bool}, plainL ds = true → plainL es = true → ltL ds es = some r → ∀ u v, lx (encL ds ++ u) (encL es ++ v) = if PyData.eqvAll ds es = true then lx u v else r
  | [], [], r, _, _, h, u, v => by
    simp only [encL, List.cons_append, List.nil_append, lx, HT.lexLt_cons, PyData.eqvAll, if_true]
  | [], y :: ys, r, _, _, h, u, v => by
    simp only [ltL, Option.some.injEq] at h
    subst h
    simp only [encL, List.cons_append, List.nil_append, lx, HT.lexLt_cons, PyData.eqvAll]
    rfl
  | x :: xs, [], r, _, _, h, u, v => by
    simp only [ltL, Option.some.injEq] at h
    subst h
    simp only [encL, List.cons_append, List.nil_append, lx, HT.lexLt_cons, PyData.eqvAll]
    rfl
  | x :: xs, y :: ys, r, h1, h2, h, u, v => by
    simp only [plainL, Bool.and_eq_true] at h1 h2
    simp only [encL, List.cons_append, List.append_assoc, lx, HT.lexLt_cons, if_true]
    by_cases e : PyData.eqv x y = true
    · simp only [ltL, e, if_true] at h
      have ex := enc_eqv h1.1 h2.1 e
      subst ex
      have ea : PyData.eqvAll (x :: xs) (x :: ys) = PyData.eqvAll xs ys := by rw [PyData.eqvAll, e, Bool.true_and]
      simp only [ea]
      exact (lx_pre _).trans (lt_encL h1.2 h2.2 h u v)
    · have e := Bool.eq_false_iff.mpr e
      simp only [ltL, e, Bool.false_eq_true, if_false] at h
      have := lt_enc h1.1 h2.1 h (encL xs ++ u) (encL ys ++ v)
      have ea : PyData.eqvAll (x :: xs) (y :: ys) = false := by rw [PyData.eqvAll, e, Bool.false_and]
      simp only [ea, e, Bool.false_eq_true, if_false] at this ⊢
      exact this
end
mutual
theorem ltD_self : ∀ {d : PyData} {r : Bool}, ltD d d = some r → r = false
  | .int a, r, h => by simp only [ltD, Option.some.injEq] at h; subst h; simp
  | .str a, r, h => by simp only [ltD, Option.some.injEq] at h; subst h; simp
  | .tuple xs, r, h => by simp only [ltD] at h; exact ltL_self h
  | .none, _, h => by simp [ltD] at h
  | .bool _, _, h => by simp [ltD] at h
  | .list _, _, h => by simp [ltD] at h
  | .dict _, _, h => by simp [ltD] at h
theorem ltL_self : ∀ {ds : List PyData} {r : Bool}, ltL ds ds = some r → r = false
  | [], r, h => by simp only [ltL, Option.some.injEq] at h; exact h.symm
  | x :: xs, r, h => by
    simp only [ltL] at h
    split at h
    · exact ltL_self h
    · exact ltD_self h
end
/-- the order of plain data by codes -/
theorem ltD_lx {d e : PyData} {r : Bool} (h1 : plainD d = true) (h2 : plainD e = true) (h : ltD d e = some r) : r = lx (enc d) (enc e) := by
  have := lt_enc h1 h2 h [] []
  rw [List.append_nil, List.append_nil] at this
  rw [this]
  split
  · rename_i e
    have ex := enc_eqv h1 h2 e
    subst ex
    exact ltD_self h
  · rfl
/-! ### sorting as a function -/
def insD (x : PyData) : List PyData → List PyData
  | [] => [x]
  | y :: l => if lx (enc y) (enc x) = true then y :: insD x l else x :: y :: l
def sortD : List PyData → List PyData
  | [] => []
  | x :: l => insD x (sortD l)
abbrev ltE (x y : PyData) : Bool := lx (enc x) (enc y)
theorem ltE_swo : SrtO.Swo ltE := lx_swo enc
theorem insD_split (x : PyData) : ∀ l : List PyData, ∃ M N, l = M ++ N ∧ insD x l = M ++ x :: N ∧ (∀ y ∈ M, ltE y x = true) ∧ (∀ y, N.head? = some y → ltE y x = false)
  | [] => ⟨[], [], rfl, rfl, fun _ h => absurd h (by simp), fun _ h => by simp at h⟩
  | y :: l => by
    unfold insD
    by_cases e : lx (enc y) (enc x) = true
    · rw [if_pos e]
      obtain ⟨M, N, rfl, e2, h1, h2⟩ := insD_split x l
      refine ⟨y :: M, N, rfl, by rw [e2]; rfl, fun z hz => ?_, h2⟩
      rcases List.mem_cons.mp hz with rfl | hz
      · exact e
      · exact h1 z hz
    · rw [if_neg e]
      refine ⟨[], y :: l, rfl, rfl, fun _ h => absurd h (by simp), fun z hz => ?_⟩
      simp at hz
      subst hz
      exact Bool.eq_false_iff.mpr e
theorem sortD_ok : ∀ l : List PyData, SrtO.Srtd ltE (sortD l) ∧ SrtO.Stb ltE (sortD l) l
  | [] => ⟨List.Pairwise.nil, SrtO.Stb.refl _⟩
  | x :: l => by
    obtain ⟨s1, s2⟩ := sortD_ok l
    obtain ⟨M, N, e1, e2, h1, h2⟩ := insD_split x (sortD l)
    have O := ltE_swo
    rw [e1] at s1
    obtain ⟨m, n, c⟩ := SrtO.srtd_app.mp s1
    have hN : ∀ y ∈ N, ltE y x = false := fun y hy => by
      cases N with
      | nil => cases hy
      | cons z N =>
        have hz := h2 z rfl
        rcases List.mem_cons.mp hy with rfl | hy
        · exact hz
        · exact O.tr x z y hz (SrtO.srtd_head n y hy)
    show SrtO.Srtd ltE (insD x (sortD l)) ∧ SrtO.Stb ltE (insD x (sortD l)) (x :: l)
    rw [e2]
    refine ⟨SrtO.srtd_app.mpr ⟨m, List.pairwise_cons.mpr ⟨hN, n⟩, fun a ha b hb => ?_⟩, ?_⟩
    · rcases List.mem_cons.mp hb with rfl | hb
      · exact O.asym a b (h1 a ha)
      · exact c a ha b hb
    · have q : SrtO.Stb ltE (M ++ ([x] ++ N)) ([x] ++ (M ++ N)) := by
        have := (SrtO.Stb.swap O (A := M) (B := [x]) fun a ha b hb => by rw [List.mem_singleton.mp hb]; exact h1 a ha).app (SrtO.Stb.refl N)
        simpa using this
      have q2 : SrtO.Stb ltE ([x] ++ (M ++ N)) ([x] ++ l) := by
        rw [← e1]
        exact (SrtO.Stb.refl [x]).app s2
      exact q.trans q2
theorem sortD_uniq {l m : List PyData} (h : SrtO.Srtd ltE l) (s : SrtO.Stb ltE l m) : l = sortD m := by
  obtain ⟨a, b⟩ := sortD_ok m
  refine SrtO.stb_uniq ltE_swo h a ?_
  exact ⟨s.perm.trans b.perm.symm, fun x => (s.cls x).trans (b.cls x).symm⟩
theorem sortD_perm (l : List PyData) : (sortD l).Perm l := (sortD_ok l).2.perm
end Fz
end

section
set_option Elab.async false
set_option linter.all false
set_option maxRecDepth 100000
set_option maxHeartbeats 4000000
/-! F28: sorted(list of plain data). -/
namespace Fz
open PySem PySem.Spec PyProof.Rows L2 SrtO Srt
section
variable {prog : Program} {w : World} {A : Around} {E : Value → Shared → Prop} {s : Shared}
theorem mapM_wp {α : Type} {m : Value → Sem α} {f : Value → α} : ∀ {vs : List Value} {Q : List α → Shared → Prop}, (∀ v ∈ vs, ∀ Q : α → Shared → Prop, Q (f v) s → wpAny (model prog w) A (m v) Q E s) → Q (vs.map f) s → wpAny (model prog w) A (vs.mapM m) Q E s
  | [], Q, _, h => by rw [List.mapM_nil]; exact wpAny_pure h
  | v :: vs, Q, hm, h => by
    rw [List.mapM_cons]
    refine wpAny_bind (hm v (by simp) _ ?_)
    exact wpAny_bind (mapM_wp (Q := fun bs s' => wpAny (model prog w) A (pure (f v :: bs)) Q E s') (fun u hu => hm u (List.mem_cons_of_mem _ hu)) (wpAny_pure h))
/-- v reads as plain data -/
def RdP (h : Heap) (v : Value) (d : PyData) : Prop := plainD d = true ∧ ∃ as, Reads h v d as
def tyV : PyData → Value
  | .int _ => .type "int"
  | .str _ => .type "str"
  | _ => .type "tuple"
theorem RdP.typeIs {v : Value} {d : PyData} (r : RdP s.heap v d) : ∃ T : String, s.TypeIs v T ∧ tyV d = .type T := by
  obtain ⟨hp, as, r⟩ := r
  cases r with
  | int i t => exact ⟨_, typeIs_int s i t, rfl⟩
  | str x t => exact ⟨_, typeIs_str s x t, rfl⟩
  | tuple h1 h2 h3 h4 => exact ⟨_, ⟨_, h1, h2⟩, rfl⟩
  | none => cases hp
  | bool b => cases hp
  | list _ _ _ _ => cases hp
  | dict _ _ _ _ _ => cases hp
theorem typeOf_wp {v : Value} {d : PyData} (r : RdP s.heap v d) {Q : Value → Shared → Prop} (h : Q (tyV d) s) : wpAny (model prog w) A (typeOf v) Q E s := by
  obtain ⟨T, hT, e⟩ := r.typeIs
  rw [e] at h
  exact wpAny_typeOf hT h
theorem first_wp {v : Value} {d : PyData} (r : RdP s.heap v d) : ∃ f : Option Value, (∀ (E : Value → Shared → Prop) (Q : Option Value → Shared → Prop), Q f s → wpAny (model prog w) A (firstOfTuple' v) Q E s) ∧ (∀ u, f = some u → (∃ xs, d = .tuple xs) ∧ ∃ e, RdP s.heap u e) := by
  obtain ⟨hp, as, r⟩ := r
  cases r with
  | int i t => exact ⟨none, fun E Q h => by rw [firstOfTuple'_int]; exact wpAny_pure h, fun u e => by cases e⟩
  | str x t => exact ⟨none, fun E Q h => by rw [PyProof.Rows.firstOfTuple'_str]; exact wpAny_pure h, fun u e => by cases e⟩
  | @tuple a o vs n xs as h1 h2 h3 h4 =>
    refine ⟨vs[0]?, fun E Q h => ?_, fun u e => ⟨⟨_, rfl⟩, ?_⟩⟩
    · rw [PySem.W.kas_first_eq]
      refine wpAny_bind (wpAny_typeOf ⟨_, h1, h2⟩ ?_)
      rw [if_neg (by first | decide | simp)]
      exact wpAny_bind (listItems_at h1 h3 (wpAny_pure h))
    · simp only [plainD] at hp
      cases xs with
      | nil => 
        have := reads_len h4
        simp at this
        rw [this] at e
        simp at e
      | cons x xs =>
        simp only [plainL, Bool.and_eq_true] at hp
        generalize hl : vs.toList = l at h4
        cases h4 with
        | cons r rs =>
          rw [← Array.getElem?_toList, hl] at e
          simp at e
          subst e
          exact ⟨x, hp.1, _, r⟩
  | none => cases hp
  | bool b => cases hp
  | list _ _ _ _ => cases hp
  | dict _ _ _ _ _ => cases hp
theorem oneType_wp {us : List Value} (h : ∀ u ∈ us, ∃ e, RdP s.heap u e) : ∃ o : Option Value, ∀ (E : Value → Shared → Prop) (Q : Option Value → Shared → Prop), Q o s → wpAny (model prog w) A (oneTypeOnly' us.toArray) Q E s := by
  let f : Value → Value := fun u => open Classical in if h : ∃ e, RdP s.heap u e then tyV h.choose else .none
  refine ⟨match (us.map f).toArray[0]? with
    | some t => if (us.map f).toArray.all (· == t) then some t else none
    | none => none, fun E Q hq => ?_⟩
  rw [oneTypeOnly'_eq, List.mapM_toArray, map_eq_pure_bind]
  refine wpAny_bind (wpAny_bind (mapM_wp (f := f) (fun v hv Q' hq' => ?_) (wpAny_pure ?_)))
  · have hv := h v hv
    refine typeOf_wp hv.choose_spec ?_
    have : f v = tyV hv.choose := dif_pos hv
    rw [← this]; exact hq'
  · cases e : (us.map f).toArray[0]? with
    | none => rw [e] at hq; exact wpAny_pure hq
    | some t =>
      rw [e] at hq
      exact wpAny_pure hq
/-- which kind of keys: one of the three, .tuples for tuples alone -/
theorem kind_wp {vs : List Value} {ds : List PyData} (h : ∀ v ∈ vs, ∃ d ∈ ds, RdP s.heap v d) : ∃ κ : SortKind, (∀ (E : Value → Shared → Prop) (Q : SortKind → Shared → Prop), Q κ s → wpAny (model prog w) A (keyKind' vs.toArray) Q E s) ∧ (κ = general' ∨ κ = oneType' ∨ (∃ b, κ = tuples' b) ∧ ∀ v ∈ vs, ∃ d ∈ ds, RdP s.heap v d ∧ ∃ xs, d = .tuple xs) := by
  have hf : ∀ v ∈ vs, ∃ f : Option Value, (∀ (E : Value → Shared → Prop) (Q : Option Value → Shared → Prop), Q f s → wpAny (model prog w) A (firstOfTuple' v) Q E s) ∧ (∀ u, f = some u → (∃ d ∈ ds, RdP s.heap v d ∧ ∃ xs, d = .tuple xs) ∧ ∃ e, RdP s.heap u e) := fun v hv => by
    obtain ⟨d, hd, r⟩ := h v hv
    obtain ⟨f, h1, h2⟩ := first_wp (prog := prog) (w := w) (A := A) r
    exact ⟨f, h1, fun u e => ⟨⟨d, hd, r, (h2 u e).1⟩, (h2 u e).2⟩⟩
  let F : Value → Option Value := fun u => open Classical in if h : u ∈ vs then (hf u h).choose else none
  have hF : ∀ v ∈ vs, (∀ (E : Value → Shared → Prop) (Q : Option Value → Shared → Prop), Q (F v) s → wpAny (model prog w) A (firstOfTuple' v) Q E s) ∧ (∀ u, F v = some u → (∃ d ∈ ds, RdP s.heap v d ∧ ∃ xs, d = .tuple xs) ∧ ∃ e, RdP s.heap u e) := fun v hv => by
    have : F v = (hf v hv).choose := dif_pos hv
    rw [this]; exact (hf v hv).choose_spec
  have start : ∀ (E : Value → Shared → Prop) (Q : SortKind → Shared → Prop), wpAny (model prog w) A (do
      if (vs.map F).toArray.all (·.isSome) then
        rule "list.sort.keys-are-tuples"
        return tuples' ((← oneTypeOnly' ((vs.map F).toArray.filterMap id)).any (· != .type "tuple"))
      if ((vs.map F).toArray[0]?.bind id).isSome then return general'
      return if (← oneTypeOnly' vs.toArray).isSome then oneType' else general') Q E s → wpAny (model prog w) A (keyKind' vs.toArray) Q E s := fun E Q hq => by
    rw [PyProof.Rows.kat_kind_eq, List.mapM_toArray, map_eq_pure_bind]
    exact wpAny_bind (wpAny_bind (mapM_wp (f := F) (fun v hv Q' hq' => (hF v hv).1 _ Q' hq') (wpAny_pure hq)))
  by_cases hall : (vs.map F).toArray.all (·.isSome) = true
  · have hall2 : ∀ v ∈ vs, (F v).isSome = true := by simpa using hall
    have hfm : ((vs.map F).toArray.filterMap id) = (vs.filterMap F).toArray := by simp [List.filterMap_map]
    obtain ⟨o, ho⟩ := oneType_wp (prog := prog) (w := w) (A := A) (s := s) (us := vs.filterMap F) fun u hu => by
      obtain ⟨v, hv, e⟩ := List.mem_filterMap.mp hu
      exact ((hF v hv).2 u e).2
    refine ⟨tuples' (o.any (· != .type "tuple")), fun E Q hq => start E Q ?_, .inr (.inr ⟨⟨_, rfl⟩, fun v hv => ?_⟩)⟩
    · rw [if_pos hall]
      refine wpAny_bind (wpAny_rule ?_)
      rw [hfm]
      exact wpAny_bind (ho _ _ (wpAny_pure hq))
    · obtain ⟨u, e⟩ := Option.isSome_iff_exists.mp (hall2 v hv)
      exact ((hF v hv).2 u e).1
  · by_cases h0 : ((vs.map F).toArray[0]?.bind id).isSome = true
    · refine ⟨general', fun E Q hq => start E Q ?_, .inl rfl⟩
      rw [if_neg hall, if_pos h0]
      exact wpAny_pure hq
    · obtain ⟨o, ho⟩ := oneType_wp (prog := prog) (w := w) (A := A) (s := s) (us := vs) fun u hu => by
        obtain ⟨d, _, r⟩ := h u hu
        exact ⟨d, r⟩
      refine ⟨if o.isSome then oneType' else general', fun E Q hq => start E Q ?_, ?_⟩
      · rw [if_neg hall, if_neg h0]
        exact wpAny_bind (ho _ _ (wpAny_pure hq))
      · cases o.isSome with
        | true => exact .inr (.inl rfl)
        | false => exact .inl rfl
end
section
variable {prog : Program} {w : World} {A : Around} {E : Value → Shared → Prop} {s : Shared}
/-- what is asked of two data that are compared in a sort -/
def CmpD (A : Around) (d e : PyData) : Prop := (ltD d e).isSome = true ∧ plainD d = true ∧ plainD e = true ∧ d.canLay0 = true ∧ e.canLay0 = true ∧ A.units + 1 + min d.depth e.depth < cLine
theorem lt_cmp {v u : Value} {d e : PyData} (c : CmpD A d e) (r : RdP s.heap v d) (r' : RdP s.heap u e) : LtAt A s v u (lx (enc d) (enc e)) := by
  obtain ⟨c1, c2, c3, c4, c5, c6⟩ := c
  obtain ⟨b, hb⟩ := Option.isSome_iff_exists.mp c1
  obtain ⟨_, as, r⟩ := r
  obtain ⟨_, bs, r'⟩ := r'
  rw [← ltD_lx c2 c3 hb]
  exact ltAt_reads d e A s v u as bs b r r' c4 c5 (by omega) hb
theorem oneLt_false {v u : Value} {b : Bool} (h : LtAt A s v u b) {Q : Bool → Shared → Prop} (q : Q b s) : wpAny (model prog w) A (oneLt' false v u) Q E s := by
  rw [oneLt'_eq]
  simp only [Bool.false_eq_true, if_false]
  exact wpAny_bind (h prog w E _ (wpAny_truthy_bool q))
theorem oneLt_true {v u : Value} {d e : PyData} (c : CmpD A d e) (r : RdP s.heap v d) (r' : RdP s.heap u e) {Q : Bool → Shared → Prop} (q : Q (lx (enc d) (enc e)) s) : wpAny (model prog w) A (oneLt' true v u) Q E s := by
  obtain ⟨c1, c2, c3, c4, c5, c6⟩ := c
  obtain ⟨b, hb⟩ := Option.isSome_iff_exists.mp c1
  rw [← ltD_lx c2 c3 hb] at q
  obtain ⟨_, as, r⟩ := r
  obtain ⟨_, bs, r'⟩ := r'
  cases r with
  | int i t =>
    cases r' with
    | int j t' =>
      simp only [ltD, Option.some.injEq] at hb
      subst hb
      exact oneLt_int q
    | _ => simp [ltD] at hb
  | str i t =>
    cases r' with
    | str j t' =>
      simp only [ltD, Option.some.injEq] at hb
      subst hb
      exact PyProof.Rows.oneLt_str q
    | _ => simp [ltD] at hb
  | @tuple a o vs n xs as h1 h2 h3 h4 =>
    cases r' with
    | @tuple a' o' vs' n' ys as' k1 k2 k3 k4 =>
      simp only [ltD] at hb
      simp only [PyData.canLay0] at c4 c5
      simp only [PyData.depth] at c6
      rw [oneLt'_eq]
      simp only [if_true]
      refine wpAny_bind (wpAny_cRoomFor (by omega) ?_)
      refine wpAny_bind (wpAny_callSpecialIfBound?_slot ⟨_, h1, h2⟩ PySem.F.slot_tuple_lt ?_)
      obtain ⟨cls, dd, data, sl⟩ := o
      obtain ⟨cls', dd', data', sl'⟩ := o'
      simp only at h2 h3 k2 k3
      subst h2 h3 k2 k3
      have hx : LexOk A.in1 s (decide (vs.size < vs'.size)) b (vs.toList.zip vs'.toList) := lexOk_reads xs ys A.in1 s _ _ _ _ _ _ b h4 k4 c4 c5 (by have : A.in1.units = A.units + 1 := rfl; omega) (by have a1 := reads_len h4; have a2 := reads_len k4; simp at a1 a2; omega) hb
      refine call_meets PySem.F.slot_tuple_lt ⟨_, h1, rfl⟩ PySem.F.entry_tuple_lt (PySem.F.args_tuple_lt_2 _ _) (tuple_lt_gen a a' vs vs' n n' dd dd' sl sl' b) ⟨h1, k1, hx, ?_⟩
      exact wpAny_truthy_bool q
    | _ => simp [ltD] at hb
  | _ => simp [ltD] at hb
theorem cmp_data {κ : SortKind} {vs : List Value} (k : Value → PyData) (hk : ∀ v ∈ vs, RdP s.heap v (k v)) (hc : ∀ v ∈ vs, ∀ u ∈ vs, CmpD A (k v) (k u))
    (hκ : κ = general' ∨ κ = oneType' ∨ (∃ b, κ = tuples' b) ∧ ∀ v ∈ vs, ∃ xs, k v = .tuple xs) : Cmp prog w A s κ (fun p => p.1 ∈ vs) (lt2 fun v u => lx (enc (k v)) (enc (k u))) := by
  intro p q hp hq
  have r1 := hk _ hp
  have r2 := hk _ hq
  have c := hc _ hp _ hq
  show wpAny (model prog w) A (keyLt' κ p.1 q.1) (fun r s' => s' = s ∧ r = lx (enc (k p.1)) (enc (k q.1))) (fun _ _ => False) s
  rcases hκ with rfl | rfl | ⟨⟨b, rfl⟩, ht⟩
  · exact oneLt_false (lt_cmp c r1 r2) ⟨rfl, rfl⟩
  · rw [keyLt'_oneType]
    exact oneLt_true c r1 r2 ⟨rfl, rfl⟩
  · obtain ⟨xs, ex⟩ := ht _ hp
    obtain ⟨ys, ey⟩ := ht _ hq
    rw [ex] at r1 c ⊢
    rw [ey] at r2 c ⊢
    obtain ⟨c1, c2, c3, c4, c5, c6⟩ := c
    obtain ⟨rb, hb⟩ := Option.isSome_iff_exists.mp c1
    rw [← ltD_lx c2 c3 hb]
    obtain ⟨_, as, r1⟩ := r1
    obtain ⟨_, bs, r2⟩ := r2
    simp only [ltD] at hb
    simp only [PyData.canLay0] at c4 c5
    simp only [PyData.depth] at c6
    simp only [plainD] at c2 c3
    generalize p.1 = v at r1 ⊢
    generalize q.1 = u at r2 ⊢
    cases r1 with
    | @tuple a o vs n _ as h1 h2 h3 h4 =>
      cases r2 with
      | @tuple a' o' vs' n' _ as' k1 k2 k3 k4 =>
        refine PySem.W.kat_lt h1 h3 k1 k3 ?_
        have go : ∀ (xs ys : List PyData) (l l' : List Value) (i n m : Nat) (as bs : List Addr), ReadsAll s.heap l xs as → ReadsAll s.heap l' ys bs → plainL xs = true → plainL ys = true → PyData.canLayAll0 xs = true → PyData.canLayAll0 ys = true →
            A.units + 1 + min (PyData.depthAll xs) (PyData.depthAll ys) < cLine → n + ys.length = m + xs.length → ltL xs ys = some rb →
            PySem.W.KatLex prog w A b (decide (n < m)) (fun r s' => s' = s ∧ r = rb) (l.zip l') i s := by
          intro xs
          induction xs with
          | nil =>
            intro ys l l' i n m as bs r1 r2 _ _ _ _ _ hn hl
            cases r1
            cases ys with
            | nil =>
              simp only [ltL, Option.some.injEq] at hl
              refine PySem.W.kat_nil ⟨rfl, ?_⟩
              simp only [List.length_nil] at hn
              rw [← hl]; exact decide_eq_false (by omega)
            | cons y ys =>
              simp only [ltL, Option.some.injEq] at hl
              refine PySem.W.kat_nil ⟨rfl, ?_⟩
              simp only [List.length_nil, List.length_cons] at hn
              rw [← hl]; exact decide_eq_true (by omega)
          | cons x xs ih =>
            intro ys l l' i n m as bs r1 r2 p1 p2 l1 l2 hu hn hl
            cases r1 with
            | cons q1 q2 =>
              cases ys with
              | nil =>
                cases r2
                simp only [ltL, Option.some.injEq] at hl
                refine PySem.W.kat_nil ⟨rfl, ?_⟩
                simp only [List.length_nil, List.length_cons] at hn
                rw [← hl]; exact decide_eq_false (by omega)
              | cons y ys =>
                cases r2 with
                | cons t1 t2 =>
                  simp only [plainL, Bool.and_eq_true] at p1 p2
                  have l1' : x.canLay0 = true ∧ PyData.canLayAll0 xs = true := by simpa [PyData.canLayAll0] using l1
                  have l2' : y.canLay0 = true ∧ PyData.canLayAll0 ys = true := by simpa [PyData.canLayAll0] using l2
                  simp only [PyData.depthAll] at hu
                  refine PySem.W.kat_cons (SeqAt.eqAt_reads x y A s _ _ _ _ q1 t1 l1'.1 l2'.1 (by omega) prog w _ _ ?_)
                  refine PySem.W.kat_go (fun e => ?_) (fun e => ?_)
                  · simp only [ltL, e, if_true] at hl
                    exact PySem.W.kat_yes (ih ys _ _ _ n m _ _ q2 t2 p1.2 p2.2 l1'.2 l2'.2 (by omega) (by simp only [List.length_cons] at hn; omega) hl)
                  · simp only [ltL, e, Bool.false_eq_true, if_false] at hl
                    refine PySem.W.kat_no ?_
                    have cc : CmpD A x y := ⟨by rw [hl]; rfl, p1.1, p2.1, l1'.1, l2'.1, by omega⟩
                    have er := ltD_lx p1.1 p2.1 hl
                    cases (b && i == 0) with
                    | true => exact oneLt_true cc ⟨p1.1, _, q1⟩ ⟨p2.1, _, t1⟩ ⟨rfl, er.symm⟩
                    | false => exact oneLt_false (lt_cmp cc ⟨p1.1, _, q1⟩ ⟨p2.1, _, t1⟩) ⟨rfl, er.symm⟩
        exact go xs ys _ _ 0 vs.size vs'.size _ _ h4 k4 c2 c3 c4 c5 (by omega) (by have a1 := reads_len h4; have a2 := reads_len k4; simp at a1 a2; omega) hb
end
end Fz
end

section
set_option Elab.async false
set_option linter.all false
set_option maxRecDepth 100000
set_option maxHeartbeats 4000000
/-! F29: sorted(list): the rule. -/
namespace Fz
open PySem PySem.Spec PyProof.Rows L2 SrtO Srt
mutual
theorem reads_keep {h h' : Heap} (k : ∀ b o, h.get? b = some o → h'.get? b = some o) : ∀ {v : Value} {d : PyData} {as : List Addr}, plainD d = true → Reads h v d as → Reads h' v d as
  | _, _, _, _, .int i t => .int i t
  | _, _, _, _, .str i t => .str i t
  | _, _, _, hp, .tuple h1 h2 h3 h4 => .tuple (k _ _ h1) h2 h3 (readsAll_keep k (by simpa only [plainD] using hp) h4)
  | _, .none, _, hp, _ => nomatch hp
  | _, .bool _, _, hp, _ => nomatch hp
  | _, .list _, _, hp, _ => nomatch hp
  | _, .dict _, _, hp, _ => nomatch hp
theorem readsAll_keep {h h' : Heap} (k : ∀ b o, h.get? b = some o → h'.get? b = some o) : ∀ {vs : List Value} {ds : List PyData} {as : List Addr}, plainL ds = true → ReadsAll h vs ds as → ReadsAll h' vs ds as
  | _, _, _, _, .nil => .nil
  | _, _, _, hp, .cons r rs => by
    simp only [plainL, Bool.and_eq_true] at hp
    exact .cons (reads_keep k hp.1 r) (readsAll_keep k hp.2 rs)
end
/-- what sorted asks of its items -/
def SortOk (ds : List PyData) : Prop := (∀ d ∈ ds, plainD d = true ∧ SeqAt.shaped d = true) ∧ ∀ d ∈ ds, ∀ e ∈ ds, (ltD d e).isSome = true
theorem shaped_depth {d : PyData} (h : SeqAt.shaped d = true) : d.canLay0 = true ∧ d.depth ≤ 64 := by
  unfold SeqAt.shaped at h
  obtain ⟨a, b⟩ := Bool.and_eq_true_iff.mp h
  exact ⟨a, of_decide_eq_true b⟩
theorem readsAll_mem {h : Heap} : ∀ {vs : List Value} {ds : List PyData} {as : List Addr}, ReadsAll h vs ds as → ∀ v ∈ vs, ∃ d ∈ ds, ∃ as, Reads h v d as
  | _, _, _, .cons r rs, v, hv => by
    rcases List.mem_cons.mp hv with rfl | hv
    · exact ⟨_, List.mem_cons_self .., _, r⟩
    · obtain ⟨d, hd, q⟩ := readsAll_mem rs v hv
      exact ⟨d, List.mem_cons_of_mem _ hd, q⟩
theorem readsAll_map {h : Heap} {k : Value → PyData} (hk : ∀ v d as, Reads h v d as → plainD d = true → d.canLay0 = true → k v = d) : ∀ {vs : List Value} {ds : List PyData} {as : List Addr}, ReadsAll h vs ds as → (∀ d ∈ ds, plainD d = true ∧ d.canLay0 = true) → vs.map k = ds
  | _, _, _, .nil, _ => rfl
  | _, _, _, .cons r rs, hp => by
    rw [List.map_cons, hk _ _ _ r (hp _ (List.mem_cons_self ..)).1 (hp _ (List.mem_cons_self ..)).2, readsAll_map hk rs fun d hd => hp d (List.mem_cons_of_mem _ hd)]
section
variable {prog : Program} {w : World} {A : Around} {E : Value → Shared → Prop} {s : Shared}
end
/-! as a rule of the layer -/
theorem vals_mem {xs : List V} {us : List Value} (r : Vals xs us) : ∀ u ∈ us, ∃ x ∈ xs, RelV x u := by
  induction r with
  | nil => intro u h; cases h
  | cons h r ih =>
    intro u hu
    rcases List.mem_cons.mp hu with rfl | hu
    · exact ⟨_, List.mem_cons_self .., h⟩
    · obtain ⟨x, hx, q⟩ := ih u hu
      exact ⟨x, List.mem_cons_of_mem _ hx, q⟩
theorem pdAll_mem {K : Fg} {H : Hp} {xs : List V} {ds : List D} (h : PdAll K H xs ds) : ∀ x ∈ xs, ∃ d ∈ ds, Pd K H x d := by
  induction xs generalizing ds with
  | nil => intro x hx; cases hx
  | cons y xs ih =>
    cases h with
    | cons h r =>
      intro x hx
      rcases List.mem_cons.mp hx with rfl | hx
      · exact ⟨_, List.mem_cons_self .., h⟩
      · obtain ⟨d, hd, q⟩ := ih r x hx
        exact ⟨d, List.mem_cons_of_mem _ hd, q⟩
section
variable {X : Cx} {F : Fx}
end
theorem room70 {k : Nat} {A : Around} (r : Room k A) : A.units + 70 < cLine := by have := r.un; omega
theorem bt_sorted : bootBuiltins "sorted" = some (.builtin "sorted") := by decide +kernel
end Fz
end

section
set_option Elab.async false
set_option linter.all false
set_option maxRecDepth 100000
set_option maxHeartbeats 4000000
/-! F30: dicts: their reading, their writing, at the machine. -/
namespace Fz
open PySem PySem.Spec PyProof.Rows L2
/-! ### plain -/
def dAt (kvs : List (D × D)) (k : D) : Option D := (kvs.find? fun p => decide (nk p.1 = nk k)).map (·.2)
def dHas (kvs : List (D × D)) (k : D) : Bool := (dAt kvs k).isSome
def dPutF (k v : D) (p : D × D) : D × D := if nk p.1 = nk k then (p.1, v) else p
def dPut (kvs : List (D × D)) (k v : D) : List (D × D) := if dHas kvs k then kvs.map (dPutF k v) else kvs ++ [(k, v)]
/-- k may be asked for in kvs: all keys flat, or all tuples -/
def kOk (kvs : List (D × D)) (k : D) : Bool := ((fk k).isSome && kvs.all fun p => (fk p.1).isSome) || ((tk k).isSome && kvs.all fun p => (tk p.1).isSome)
theorem fk_nk {d : D} {k : Key} (h : fk d = some k) : (∃ i, d = .int i ∧ k = .inl i) ∨ ∃ x, d = .str x ∧ k = .inr x := by
  cases d with
  | int i => cases h; exact .inl ⟨i, rfl, rfl⟩
  | str x => cases h; exact .inr ⟨x, rfl, rfl⟩
  | _ => cases h
theorem fk_eq {d e : D} {k j : Key} (h : fk d = some k) (g : fk e = some j) : nk d = nk e ↔ k = j := by
  rcases fk_nk h with ⟨i, rfl, rfl⟩ | ⟨x, rfl, rfl⟩ <;> rcases fk_nk g with ⟨l, rfl, rfl⟩ | ⟨y, rfl, rfl⟩ <;> simp [nk]
theorem tk_eq {d e : D} {k j : NestedKey} (h : tk d = some k) (g : tk e = some j) : nk d = nk e ↔ k = j := by
  rw [(tk_nk h).1, (tk_nk g).1, Option.some.injEq]
theorem fk_tk {d : D} {k : Key} {j : NestedKey} (h : fk d = some k) (g : tk d = some j) : False := by
  rcases fk_nk h with ⟨i, rfl, rfl⟩ | ⟨x, rfl, rfl⟩ <;> cases g
theorem fk_pd {K : Fg} {H : Hp} {y : V} {d : D} {k : Key} (p : Pd K H y d) (h : fk d = some k) : y = kV k := by
  rcases fk_nk h with ⟨i, rfl, rfl⟩ | ⟨x, rfl, rfl⟩ <;> cases p <;> rfl
section
variable {X : Cx} {pins : List (Addr × Obj)} {σ : L2.St} {H : Hp} {s : Shared}
mutual
theorem nested_is (I : Inv X pins σ H s) : ∀ {y : V} {d : D} {k : NestedKey} {u : Value}, Pd X.K H y d → nk d = some k → RelV y u → NestedIs s.heap k u
  | _, _, _, _, .non, h, r => by cases h; cases r; exact .none
  | _, _, _, _, .int i, h, r => by cases h; obtain ⟨t, rfl⟩ := r; exact .int _ _
  | _, _, _, _, .str x, h, r => by cases h; obtain ⟨t, rfl⟩ := r; exact .text _ _
  | _, _, _, _, .bl b, h, _ => by simp [nk] at h
  | _, _, _, _, .lst _ _, h, _ => by simp [nk] at h
  | _, _, _, u, .tup (a := a) h2 r, h, ru => by
    simp only [nk, Option.map_eq_some_iff] at h
    obtain ⟨ks, h1, rfl⟩ := h
    obtain rfl : u = Value.ref a := ru
    obtain ⟨its, rv, ⟨o, e, hc, n, hd⟩, _⟩ := I.tuple h2
    exact .tup e hc hd (by simpa using nested_all I r h1 rv)
theorem nested_all (I : Inv X pins σ H s) : ∀ {ys : List V} {ds : List D} {ks : List NestedKey} {us : List Value}, PdAll X.K H ys ds → nks ds = some ks → Vals ys us → NestedAll s.heap ks us
  | _, _, _, _, .nil, h, r => by cases h; cases r; exact .nil
  | _, d :: ds, ks, _, .cons p q, h, r => by
    cases r with
    | cons r1 r2 =>
      simp only [nks] at h
      cases e1 : nk d with
      | none => simp [e1] at h
      | some k1 =>
        cases e2 : nks ds with
        | none => simp [e1, e2] at h
        | some k2 =>
          simp only [e1, e2, Option.some.injEq] at h
          subst h
          exact .cons (nested_is I p e1 r1) (nested_all I q e2 r2)
end
theorem nested_key (I : Inv X pins σ H s) {b : Addr} {d : D} {k : NestedKey} (p : Pd X.K H (.ref b) d) (h : tk d = some k) : (nestedKind X.prog X.w).is s.heap k b :=
  ⟨nested_is I p (tk_nk h).1 rfl, (tk_nk h).2.1⟩
theorem tk_ref {y : V} {d : D} {k : NestedKey} (p : Pd X.K H y d) (h : tk d = some k) : ∃ b, y = .ref b := by
  obtain ⟨_, _, ds, rfl⟩ := tk_nk h
  cases p with
  | tup _ _ => exact ⟨_, rfl⟩
end
/-- the entries of a dict with tuples as keys: the data, what stands in the heap -/
def E3 (K : Fg) (H : Hp) (q : D × D) (x : NestedKey × Addr × Value) : Prop := tk q.1 = some x.1 ∧ Pd K H (.ref x.2.1) q.1 ∧ ∃ v, Pd K H v q.2 ∧ RelV v x.2.2
theorem e3_split {K : Fg} {H : Hp} : ∀ {kvs : List (D × D)} {xs : List (NestedKey × Addr × Value)}, Paired (E3 K H) kvs xs → ∃ raw : List (NestedKey × Addr × V),
    Paired (fun (p : NestedKey × Addr × V) (q : D × D) => tk q.1 = some p.1 ∧ Pd K H (.ref p.2.1) q.1 ∧ Pd K H p.2.2 q.2) raw kvs ∧ Paired (fun (p : NestedKey × Addr × V) (q : NestedKey × Addr × Value) => p.1 = q.1 ∧ p.2.1 = q.2.1 ∧ RelV p.2.2 q.2.2) raw xs
  | _, _, .nil => ⟨[], .nil, .nil⟩
  | _, _, .cons (b := x) ⟨h1, h2, v, h3, h4⟩ r =>
    let ⟨raw, a, b⟩ := e3_split r
    ⟨(x.1, x.2.1, v) :: raw, .cons ⟨h1, h2, h3⟩ a, .cons ⟨rfl, rfl, h4⟩ b⟩
theorem e3_join {K : Fg} {H : Hp} : ∀ {raw : List (NestedKey × Addr × V)} {kvs : List (D × D)} {xs : List (NestedKey × Addr × Value)},
    Paired (fun (p : NestedKey × Addr × V) (q : D × D) => tk q.1 = some p.1 ∧ Pd K H (.ref p.2.1) q.1 ∧ Pd K H p.2.2 q.2) raw kvs → Paired (fun (p : NestedKey × Addr × V) (q : NestedKey × Addr × Value) => p.1 = q.1 ∧ p.2.1 = q.2.1 ∧ RelV p.2.2 q.2.2) raw xs → Paired (E3 K H) kvs xs
  | _, _, _, .nil, .nil => .nil
  | _, _, _, .cons h r, .cons g t => .cons ⟨h.1.trans (congrArg some g.1), g.2.1 ▸ h.2.1, _, h.2.2, g.2.2⟩ (e3_join r t)
/-- a value looked up -/
theorem e3_at {K : Fg} {H : Hp} {k : D} {j : NestedKey} (hk : tk k = some j) : ∀ {kvs : List (D × D)} {xs : List (NestedKey × Addr × Value)}, Paired (E3 K H) kvs xs →
    (dAt kvs k = none ∧ atKey xs j = none) ∨ ∃ d p v, dAt kvs k = some d ∧ atKey xs j = some p ∧ Pd K H v d ∧ RelV v p.2
  | _, _, .nil => .inl ⟨rfl, rfl⟩
  | q :: kvs, x :: xs, .cons ⟨h1, h2, v, h3, h4⟩ r => by
    by_cases e : x.1 = j
    · refine .inr ⟨q.2, x.2, v, ?_, ?_, h3, h4⟩
      · simp [dAt, List.find?_cons, (tk_eq h1 hk).mpr e]
      · simp [atKey, List.find?_cons, e]
    · have e2 : ¬ nk q.1 = nk k := fun z => e ((tk_eq h1 hk).mp z)
      have a1 : dAt (q :: kvs) k = dAt kvs k := by simp [dAt, List.find?_cons, e2]
      have a2 : atKey (x :: xs) j = atKey xs j := by simp [atKey, List.find?_cons, e]
      rw [a1, a2]
      exact e3_at hk r
theorem e3_put {K : Fg} {H : Hp} {k v : D} {j : NestedKey} {b : Addr} {y : V} {u : Value} (hk : tk k = some j) (hb : Pd K H (.ref b) k) (hv : Pd K H y v) (hu : RelV y u) {kvs : List (D × D)} {xs : List (NestedKey × Addr × Value)} (h : Paired (E3 K H) kvs xs) :
    Paired (E3 K H) (dPut kvs k v) (storedH xs j b u) := by
  have mp : ∀ {kvs : List (D × D)} {xs : List (NestedKey × Addr × Value)}, Paired (E3 K H) kvs xs → Paired (E3 K H) (kvs.map (dPutF k v)) (xs.map (putAt j u)) := by
    intro kvs xs h
    induction h with
    | nil => exact .nil
    | @cons q x _ _ h1 _ ih =>
      refine .cons ?_ ih
      obtain ⟨h1, h2, v2, h3, h4⟩ := h1
      unfold dPutF putAt
      by_cases e : x.1 = j
      · rw [if_pos e, if_pos ((tk_eq h1 hk).mpr e)]; exact ⟨h1, h2, y, hv, hu⟩
      · rw [if_neg e, if_neg fun z => e ((tk_eq h1 hk).mp z)]; exact ⟨h1, h2, v2, h3, h4⟩
  unfold dPut storedH dHas
  rcases e3_at hk h with ⟨e1, e2⟩ | ⟨d, p, v2, e1, e2, _⟩
  · rw [e1, e2]
    simp only [Option.isSome_none, Bool.false_eq_true, if_false]
    have app : ∀ {kvs : List (D × D)} {xs : List (NestedKey × Addr × Value)}, Paired (E3 K H) kvs xs → Paired (E3 K H) (kvs ++ [(k, v)]) (xs ++ [(j, b, u)]) := by
      intro kvs xs h
      induction h with
      | nil => exact .cons ⟨hk, hb, y, hv, hu⟩ .nil
      | cons h _ ih => exact .cons h ih
    exact app h
  · rw [e1, e2]
    simp only [Option.isSome_some, if_true]
    exact mp h
theorem dPut_length (kvs : List (D × D)) (k v : D) : (dPut kvs k v).length ≤ kvs.length + 1 := by
  unfold dPut; split <;> simp
theorem dPut_ne (kvs : List (D × D)) (k v : D) : dPut kvs k v ≠ [] := by
  unfold dPut
  split
  · rename_i h
    intro z
    rw [List.map_eq_nil_iff] at z
    rw [z] at h
    cases h
  · simp
/-! ### the flat ones -/
abbrev F2 (K : Fg) (H : Hp) : List (Key × V) → List (D × D) → Prop := Paired fun (p : Key × V) (q : D × D) => fk q.1 = some p.1 ∧ Pd K H p.2 q.2
theorem f2_at {K : Fg} {H : Hp} {k : D} {j : Key} (hk : fk k = some j) : ∀ {raw : List (Key × V)} {kvs : List (D × D)}, F2 K H raw kvs →
    (dAt kvs k = none ∧ valV raw j = none) ∨ ∃ d v, dAt kvs k = some d ∧ valV raw j = some v ∧ Pd K H v d
  | _, _, .nil => .inl ⟨rfl, rfl⟩
  | p :: raw, q :: kvs, .cons ⟨h1, h2⟩ r => by
    by_cases e : p.1 = j
    · refine .inr ⟨q.2, p.2, ?_, valV_pos e, h2⟩
      simp [dAt, List.find?_cons, (fk_eq h1 hk).mpr e]
    · have e2 : ¬ nk q.1 = nk k := fun z => e ((fk_eq h1 hk).mp z)
      have a1 : dAt (q :: kvs) k = dAt kvs k := by simp [dAt, List.find?_cons, e2]
      rw [a1, valV_neg e]
      exact f2_at hk r
theorem f2_put {K : Fg} {H : Hp} {k v : D} {j : Key} {y : V} (hk : fk k = some j) (hv : Pd K H y v) {raw : List (Key × V)} {kvs : List (D × D)} (h : F2 K H raw kvs) : F2 K H (putK raw j y) (dPut kvs k v) := by
  have mp : ∀ {raw : List (Key × V)} {kvs : List (D × D)}, F2 K H raw kvs → F2 K H (raw.map fun kv => if kv.1 = j then (kv.1, y) else kv) (kvs.map (dPutF k v)) := by
    intro raw kvs h
    induction h with
    | nil => exact .nil
    | @cons p q _ _ h1 _ ih =>
      refine .cons ?_ ih
      unfold dPutF
      dsimp only
      by_cases e : p.1 = j
      · rw [if_pos e, if_pos ((fk_eq h1.1 hk).mpr e)]; exact ⟨h1.1, hv⟩
      · rw [if_neg e, if_neg fun z => e ((fk_eq h1.1 hk).mp z)]; exact h1
  unfold dPut dHas
  rcases f2_at hk h with ⟨e1, e2⟩ | ⟨d, v2, e1, e2, _⟩
  · rw [e1, putK_new y e2]
    simp only [Option.isSome_none, Bool.false_eq_true, if_false]
    have app : ∀ {raw : List (Key × V)} {kvs : List (D × D)}, F2 K H raw kvs → F2 K H (raw ++ [(j, y)]) (kvs ++ [(k, v)]) := by
      intro raw kvs h
      induction h with
      | nil => exact .cons ⟨hk, hv⟩ .nil
      | cons h _ ih => exact .cons h ih
    exact app h
  · rw [e1]
    simp only [Option.isSome_some, if_true]
    have q : putK raw j y = raw.map fun kv => if kv.1 = j then (kv.1, y) else kv := by
      unfold putK
      rw [valV_any, e2]
      rfl
    rw [q]
    exact mp h
end Fz
end

section
set_option Elab.async false
set_option linter.all false
set_option maxRecDepth 100000
set_option maxHeartbeats 4000000
/-! F31: dicts at the machine: d[k], in, d[k] = v, get, len, setdefault. -/
namespace Fz
open PySem PySem.Spec PyProof.Rows L2
section
variable {X : Cx} {pins : List (Addr × Obj)} {σ : L2.St} {H : Hp} {s : Shared} {a : Addr} {kvs : List (D × D)} {k v : D} {y z : V} {u r : Value} {A : Around} {E : Value → Shared → Prop}
theorem ext_rd {raw : List (NestedKey × Addr × V)} (I : Inv X pins σ H s) (e : Rd H a (DicT X.w a raw)) : DicP X.w a raw s.heap := (show ObjOk X.prog X.w H s.heap a (DicT X.w a raw) from e.ok I.hok).1
variable {T : HO → Prop}
/-- what stands there -/
theorem dic_raw (hT : ∀ u, T u → Rd H a u) (I : Inv X pins σ H s) (g : DicG X.K X.w H a T kvs) : kvs.length ≤ sizeLine ∧ (a == sysModules) = false ∧ ∃ o es ep, s.heap.get? a = some o ∧ o.ExactDict ∧ o.data = .dict es ep ∧ es.size = kvs.length := by
  rcases g with ⟨raw, e, f⟩ | ⟨raw, n, e, f⟩
  · obtain ⟨z, hd, vs, rel, o, es, ep, h1, h2, h3, h4, h5, h6⟩ := dk_rd I.hok (hT _ e)
    refine ⟨by rw [← paired_len f]; exact z, hd, o, es, ep, h1, h2, h3, ?_⟩
    have l1 : es.toList.length = vs.length := by
      first | exact (List.Forall₂.length_eq h5) | exact Paired.length h5 | exact h5.length | (have := congrArg List.length h5; simpa using this)
    rw [← paired_len f, rel.length, ← l1, Array.length_toList]
  · obtain ⟨z, hd, xs, f2, o, es, ep, h1, h2, h3, h4, _⟩ := ext_rd I (hT _ e)
    refine ⟨by rw [← paired_len f]; exact z, hd, o, es, ep, h1, h2, h3, ?_⟩
    rw [← paired_len f, paired_len f2, ← Array.length_toList, h4, List.length_map]
/-- the two sorts of dicts at a look with a key -/
theorem dic_cases (hT : ∀ u, T u → Rd H a u) (I : Inv X pins σ H s) (g : DicG X.K X.w H a T kvs) (ok : kOk kvs k = true) (pk : Pd X.K H y k) (ry : RelV y u) :
    (∃ raw j, T (.dK raw) ∧ F2 X.K H raw kvs ∧ fk k = some j ∧ y = kV j) ∨
    (∃ xs j b, s.heap.DictOfH (nestedKind X.prog X.w) a xs ∧ Paired (E3 X.K H) kvs xs ∧ xs.length ≤ sizeLine ∧ (a == sysModules) = false ∧ (∃ u, T u ∧ Mut (some u)) ∧ tk k = some j ∧ y = .ref b ∧ u = .ref b ∧ (nestedKind X.prog X.w).is s.heap j b) := by
  unfold kOk at ok
  rw [Bool.or_eq_true, Bool.and_eq_true, Bool.and_eq_true] at ok
  rcases ok with ⟨h1, h2⟩ | ⟨h1, h2⟩
  · obtain ⟨j, hj⟩ := Option.isSome_iff_exists.mp h1
    rcases g with ⟨raw, e, f⟩ | ⟨raw, n, e, f⟩
    · exact .inl ⟨raw, j, e, f, hj, fk_pd pk hj⟩
    · exfalso
      cases f with
      | nil => exact n rfl
      | cons h _ =>
        rw [List.all_cons, Bool.and_eq_true] at h2
        obtain ⟨j2, hj2⟩ := Option.isSome_iff_exists.mp h2.1
        exact fk_tk hj2 h.1
  · obtain ⟨j, hj⟩ := Option.isSome_iff_exists.mp h1
    obtain ⟨b, rfl⟩ := tk_ref pk hj
    have hu : u = Value.ref b := ry
    have hkey := nested_key I pk hj
    rcases g with ⟨raw, e, f⟩ | ⟨raw, n, e, f⟩
    · cases f with
      | cons h _ =>
        exfalso
        rw [List.all_cons, Bool.and_eq_true] at h2
        obtain ⟨j2, hj2⟩ := Option.isSome_iff_exists.mp h2.1
        exact fk_tk h.1 hj2
      | nil =>
        obtain ⟨z, hd, vs, rel, o, es, ep, h1, h2, h3, h4, h5, h6⟩ := dk_rd I.hok (hT _ e)
        cases rel
        have l1 : es.toList = [] := by
          generalize es.toList = l at h5
          cases h5
          rfl
        refine .inr ⟨[], j, b, ⟨o, es, ep, h1, h2, h3, by rw [l1]; rfl, fun _ hx => (nomatch hx), List.nodup_nil⟩, .nil, Nat.zero_le _, hd, ⟨_, e, trivial⟩, hj, rfl, hu, hkey⟩
    · obtain ⟨z, hd, xs, f2, o, es, ep, h1, h2, h3, h4, h5⟩ := ext_rd I (hT _ e)
      have e3 := e3_join f f2
      refine .inr ⟨xs, j, b, ⟨o, es, ep, h1, h2, h3, h4, fun x hx => ?_, h5⟩, e3, by rw [← paired_len f2]; exact z, hd, ⟨_, e, trivial⟩, hj, rfl, hu, hkey⟩
      obtain ⟨i, hi⟩ := List.getElem?_of_mem hx
      obtain ⟨q, _, q1, q2, _⟩ := paired_get e3 hi
      exact nested_key I q2 q1
theorem dget_rd {kvs : List (Key × V)} {k : Key} (e : Rd H a (.dK kvs)) : DGet H a (kV k) (valV kvs k) := .inl ⟨kvs, k, e, rfl, rfl⟩
/-- d[k], there -/
theorem dr_getItem {Q : Value → Shared → Prop} (hu : A.units + 70 < cLine) (hT : ∀ u, T u → Rd H a u) (I : Inv X pins σ H s) (g : DicG X.K X.w H a T kvs) (ok : kOk kvs k = true) (pk : Pd X.K H y k) (ry : RelV y u) (l : dAt kvs k = some v)
    (h : ∀ x w' s', Inv X pins σ H s' → Pd X.K H x v → RelV x w' → Q w' s') : wpAny (model X.prog X.w) A (getItem (.ref a) u) Q E s := by
  rcases dic_cases hT I g ok pk ry with ⟨raw, j, e, f, hj, rfl⟩ | ⟨xs, j, b, dd, f, z, hd, mu, hj, rfl, rfl, hkey⟩
  · rcases f2_at hj f with ⟨q1, _⟩ | ⟨d, x, q1, q2, q3⟩
    · rw [l] at q1; cases q1
    · rw [l] at q1; cases q1
      exact d_getItem (by omega) I (q2 ▸ dget_rd (hT _ e)) ry fun w' s' I' r => h x w' s' I' q3 r
  · rcases e3_at hj f with ⟨q1, _⟩ | ⟨d, p, x, q1, q2, q3, q4⟩
    · rw [l] at q1; cases q1
    · rw [l] at q1; cases q1
      exact wpAny_getItem_heap (by show _ + 8 < _; simp only [Around.in1]; omega) hkey dd q2 (h x p.2 _ (I.tok _) q3 q4)
theorem dr_has_f {raw : List (Key × V)} {j : Key} (hj : fk k = some j) (f : F2 X.K H raw kvs) : (valV raw j).isSome = dHas kvs k := by
  unfold dHas
  rcases f2_at hj f with ⟨q1, q2⟩ | ⟨d, x, q1, q2, q3⟩ <;> rw [q1, q2] <;> rfl
theorem dr_has_t {xs : List (NestedKey × Addr × Value)} {j : NestedKey} (hj : tk k = some j) (f : Paired (E3 X.K H) kvs xs) : (atKey xs j).isSome = dHas kvs k := by
  unfold dHas
  rcases e3_at hj f with ⟨q1, q2⟩ | ⟨d, x, v, q1, q2, q3⟩ <;> rw [q1, q2] <;> rfl
/-- k in d -/
theorem dr_in {Q : Value → Shared → Prop} (hu : A.units + 70 < cLine) (hT : ∀ u, T u → Rd H a u) (I : Inv X pins σ H s) (g : DicG X.K X.w H a T kvs) (ok : kOk kvs k = true) (pk : Pd X.K H y k) (ry : RelV y u)
    (h : ∀ s', Inv X pins σ H s' → Q (.bool (dHas kvs k)) s') : wpAny (model X.prog X.w) A (compareOp .In u (.ref a)) Q E s := by
  rcases dic_cases hT I g ok pk ry with ⟨raw, j, e, f, hj, rfl⟩ | ⟨xs, j, b, dd, f, z, hd, mu, hj, rfl, rfl, hkey⟩
  · refine d_in (by omega) I (dget_rd (hT _ e)) ry fun s' I' => ?_
    rw [dr_has_f hj f]; exact h s' I'
  · refine wpAny_in_heap (by show _ + 8 < _; simp only [Around.in1]; omega) hkey hd dd ?_
    rw [dr_has_t hj f]; exact h _ (I.tok _)
theorem dr_notIn {Q : Value → Shared → Prop} (hu : A.units + 70 < cLine) (hT : ∀ u, T u → Rd H a u) (I : Inv X pins σ H s) (g : DicG X.K X.w H a T kvs) (ok : kOk kvs k = true) (pk : Pd X.K H y k) (ry : RelV y u)
    (h : ∀ s', Inv X pins σ H s' → Q (.bool (!dHas kvs k)) s') : wpAny (model X.prog X.w) A (compareOp .NotIn u (.ref a)) Q E s := by
  rcases dic_cases hT I g ok pk ry with ⟨raw, j, e, f, hj, rfl⟩ | ⟨xs, j, b, dd, f, z, hd, mu, hj, rfl, rfl, hkey⟩
  · refine d_notIn (by omega) I (dget_rd (hT _ e)) ry fun s' I' => ?_
    rw [dr_has_f hj f]; exact h s' I'
  · refine notIn_keyed (by show _ + 8 < _; simp only [Around.in1]; omega) hkey hd ⟨xs, dd, rfl⟩ ?_
    rw [valueAt_pairsH, Option.isSome_map, dr_has_t hj f]; exact h _ (I.tok _)
/-- d[k] = v -/
theorem dr_setItem {Q : Unit → Shared → Prop} (hu : A.units + 70 < cLine) (I : Inv X pins σ H s) (g : DicR X.K X.w H a kvs) (ok : kOk kvs k = true) (hl : kvs.length < sizeLine) (pk : Pd X.K H y k) (ry : RelV y u) (pv : Pd X.K H z v) (rz : RelV z r)
    (h : ∀ ob s', Mut (H a) → Inv X pins σ (upd H a ob) s' → DicR X.K X.w (upd H a ob) a (dPut kvs k v) → Q () s') : wpAny (model X.prog X.w) A (setItem (.ref a) u r) Q E s := by
  rcases dic_cases (fun u h => Rd.of h) I g ok pk ry with ⟨raw, j, e, f, hj, rfl⟩ | ⟨xs, j, b, dd, f, zl, hd, ⟨u0, eu, mu0⟩, hj, rfl, rfl, hkey⟩
  · have mu : Mut (H a) := by rw [e]; trivial
    refine d_setItem (by omega) I (DPut.k e (by rw [paired_len f]; exact hl)) ry rz fun s' I' => h _ s' mu I' (.inl ⟨_, upd_same, ?_⟩)
    exact Paired.mapP (f2_put hj pv f) fun _ _ z => ⟨z.1, z.2.mono (Pers.put (.inl mu))⟩
  · have mu : Mut (H a) := by rw [show H a = some u0 from eu]; exact mu0
    refine wpAny_setItem_heap (hsz := zl) (by show _ + 8 < _; simp only [Around.in1]; omega) hkey dd fun h' dd' hs => ?_
    have f' : Paired (E3 X.K H) (dPut kvs k v) (storedH xs j b r) := e3_put hj pk pv rz f
    obtain ⟨raw, r1, r2⟩ := e3_split f'
    obtain ⟨o, es, ep, q1, q2, q3, q4, _, q5⟩ := dd'
    have hz : raw.length ≤ sizeLine := by
      have := dPut_length kvs k v
      rw [paired_len r1]; omega
    have new : DicP X.w a raw h' := ⟨hz, hd, storedH xs j b r, r2, o, es, ep, q1, q2, q3, q4, q5⟩
    refine h (DicT X.w a raw) _ mu (d_write I mu hs ⟨o, q1⟩ (DicT.ok new)) (.inr ⟨raw, dPut_ne kvs k v, upd_same, ?_⟩)
    exact Paired.mapP r1 fun _ _ z => ⟨z.1, z.2.1.mono (Pers.put (.inl mu)), z.2.2.mono (Pers.put (.inl mu))⟩
end
end Fz
end

section
set_option Elab.async false
set_option linter.all false
set_option maxRecDepth 100000
set_option maxHeartbeats 4000000
/-! F32: dicts of slots: d[k], in, d[k] = v, {}, moved out. -/
namespace Fz
open PySem PySem.Spec PyProof.Rows L2
def dicAt (S : FS) (i : Nat) : Option (List (D × D)) := match S[i]? with
  | some (some (.own (.dic kvs))) => some kvs
  | some (some (.pin (.dic kvs))) => some kvs
  | _ => none
theorem Rel.dic {K : Fg} {F : Fx} {S : FS} {σ : Sl} {H : Hp} {i : Nat} {kvs : List (D × D)} (r : Rel K F S σ H) (h : dicAt S i = some kvs) : ∃ a, σ[i]? = some (some (.ref a)) ∧ DicR K F.w H a kvs ∧
    ∀ ob kvs', Mut (H a) → DicR K F.w (upd H a ob) a kvs' → Rel K F (setOb S i (.dic kvs')) σ (upd H a ob) ∧ Pers H (upd H a ob) := by
  have main : ∀ (mk : Ob → SV), (∀ z, setOb S i z = S.set i (some (mk z))) → S[i]? = some (some (mk (.dic kvs))) → (∀ z, mk z = .own z) ∨ (∀ z, mk z = .pin z) → ∃ a, σ[i]? = some (some (.ref a)) ∧ DicR K F.w H a kvs ∧
      ∀ ob kvs', Mut (H a) → DicR K F.w (upd H a ob) a kvs' → Rel K F (setOb S i (.dic kvs')) σ (upd H a ob) ∧ Pers H (upd H a ob) := by
    intro mk ep hs hm
    have ow : S[i]? = some (some (.own (.dic kvs))) ∨ S[i]? = some (some (.pin (.dic kvs))) := by
      rcases hm with hm | hm
      · exact .inl (by rw [hs, hm])
      · exact .inr (by rw [hs, hm])
    obtain ⟨a, ea, hv, h0⟩ := r.obj ow
    refine ⟨a, ea, hv, fun ob kvs' hmu hv' => ?_⟩
    have pp : Pers H (upd H a ob) := Pers.put (.inl hmu)
    have hl : i < S.length := (List.getElem?_eq_some_iff.mp hs).1
    have oi : Owned S i := ⟨_, ow⟩
    refine ⟨?_, pp⟩
    rw [ep (.dic kvs')]
    refine r.put (.inl hmu) h0 (fun p hp e' => (r.held p hp).2.2 i oi (e' ▸ ea)) (List.length_set ..) (fun j sv2 ej => ?_) fun j ⟨ob, hj⟩ => ?_
    · by_cases hj : j = i
      · subst hj
        rw [List.getElem?_set_self hl] at ej
        cases ej
        refine .inr ⟨_, ea, ?_⟩
        obtain ⟨x, ex, sr⟩ := r.slot j _ hs
        rw [ea] at ex; cases ex
        rcases hm with hm | hm
        · rw [hm] at sr
          rw [hm]
          obtain ⟨b, eb, _, n⟩ := sr
          cases eb
          exact ⟨a, rfl, hv', n⟩
        · rw [hm] at sr
          rw [hm]
          obtain ⟨b, eb, _, n⟩ := sr
          cases eb
          exact ⟨a, rfl, hv', n⟩
      · rw [List.getElem?_set_ne (Ne.symm hj)] at ej
        exact .inl ⟨ej, fun oj => r.apart i j a (Ne.symm hj) oi oj ea⟩
    · by_cases hj2 : j = i
      · subst hj2; exact oi
      · rw [List.getElem?_set_ne (Ne.symm hj2)] at hj; exact ⟨ob, hj⟩
  unfold dicAt at h
  split at h
  · rename_i d hd
    cases h
    exact main (fun z => .own z) (fun z => by unfold setOb; rw [hd]) hd (.inl fun _ => rfl)
  · rename_i d hd
    cases h
    exact main (fun z => .pin z) (fun z => by unfold setOb; rw [hd]) hd (.inr fun _ => rfl)
  · cases h
/-- a dict that may be read -/
def dicRd (S : FS) (i : Nat) : Option (List (D × D)) := match S[i]? with
  | some (some (.own (.dic kvs))) => some kvs
  | some (some (.pin (.dic kvs))) => some kvs
  | some (some (.x (.ro (.dic kvs)))) => some kvs
  | _ => none
theorem Rel.dicV {K : Fg} {F : Fx} {S : FS} {σ : Sl} {H : Hp} {i : Nat} {kvs : List (D × D)} (r : Rel K F S σ H) (h : dicRd S i = some kvs) : ∃ a, σ[i]? = some (some (.ref a)) ∧ DicV K F.w H a kvs := by
  unfold dicRd at h
  split at h
  · rename_i d hd
    cases h
    obtain ⟨x, ex, a, rfl, q, _⟩ := r.slot i _ hd
    exact ⟨a, ex, DicR.v q⟩
  · rename_i d hd
    cases h
    obtain ⟨x, ex, a, rfl, q, _⟩ := r.slot i _ hd
    exact ⟨a, ex, DicR.v q⟩
  · rename_i d hd
    cases h
    obtain ⟨x, ex, a, rfl, o, q⟩ := r.slot i _ hd
    exact ⟨a, ex, DicG.mono q (.refl H) fun _ e => .inr ⟨o, e⟩⟩
  · cases h
def wDic {α : Type} (i : Nat) (k : List (D × D) → FS → Res α) : FS → Res α := fun S => match dicRd S i with
  | some kvs => k kvs S
  | none => .bad
def wDicS (i : Nat) (k : List (D × D) → FS → SRes) : FS → SRes := fun S => match dicAt S i with
  | some kvs => k kvs S
  | none => .bad
section
variable {K : Fg} {F : Fx} {S : FS} {σ : Sl} {H : Hp} {i : Nat}
theorem wDic_in {α β : Type} {R : GRel β α} {k : List (D × D) → FS → Res α} {Q : β → Hp → Prop} (p : postG K F R (wDic i k S) σ H Q) : ∃ kvs, dicRd S i = some kvs ∧ postG K F R (k kvs S) σ H Q := by
  unfold wDic at p
  cases e : dicRd S i with
  | none => rw [e] at p; exact p.elim
  | some ds => rw [e] at p; exact ⟨ds, rfl, p⟩
theorem wDicS_in {k : List (D × D) → FS → SRes} {D' : Ends} (p : postS K F (wDicS i k S) D' H) : ∃ kvs, dicAt S i = some kvs ∧ postS K F (k kvs S) D' H := by
  unfold wDicS at p
  cases e : dicAt S i with
  | none => rw [e] at p; exact p.elim
  | some ds => rw [e] at p; exact ⟨ds, rfl, p⟩
end
/-- d[k] -/
def fDIx (i : Nat) (f : FS → Res D) : FS → Res D := wDic i fun _ => bnd f fun k => wDic i fun kvs S => match kOk kvs k, dAt kvs k with
  | true, some v => .ok v S
  | _, _ => .bad
/-- k in d, k not in d -/
def fDIn (b : Bool) (i : Nat) (f : FS → Res D) : FS → Res D := bnd f fun k => wDic i fun kvs S => match kOk kvs k with
  | true => .ok (.bool (xor (!b) (dHas kvs k))) S
  | false => .bad
/-- d[k] = v -/
def fDPut (i : Nat) (fe fk : FS → Res D) : FS → SRes := bndS fe fun v => wDicS i fun _ => bndS fk fun k => wDicS i fun kvs S => match kOk kvs k, decide (kvs.length < sizeLine) with
  | true, true => .nx (setOb S i (.dic (dPut kvs k v)))
  | _, _ => .bad
/-- {} -/
def fDNew : FS → Res SV := fun S => .ok (.own (.dic [])) S
section
variable {X : Cx} {F : Fx} {o e ke : Expr} {i : Nat} {pos apos cpos p1 : Pos} {f fe fk fx : FS → Res D}
theorem e_dix (hu : X.A.units + 70 < cLine) (ho : PE X o (tVar i)) (hk : ED X F ke f) (hw : F.w = X.w := by rfl) (hs : NoSl ke := by intro _ _; rfl) : ED X F (.Subscript o ke pos) (fDIx i f) := by
  refine ⟨fun pins s σ H Q I ⟨S, r, p⟩ => ?_⟩
  obtain ⟨kvs0, e0, p⟩ := wDic_in p
  obtain ⟨a, ea, _⟩ := r.dicV e0
  refine subD_of PySem.F.slot_dict_getitem.lookup hs (thn (ho.run pins s σ H (fun x H' => x = .ref a ∧ H' = H) I ⟨_, ea, rfl, rfl⟩) fun u s1 ⟨x, H1, I1, rx, ex, eH⟩ => ?_)
  subst ex eH
  obtain rfl : u = Value.ref a := rx
  refine thn (hk.run pins s1 σ H1 _ I1 (rdG.bind (R' := PR) ⟨S, r, p⟩)) fun iv s2 ⟨y, H2, I2, ry, k, S2, r2, v2, p2, q2⟩ => ?_
  obtain ⟨kvs, e2, q2⟩ := wDic_in q2
  obtain ⟨a2, ea2, g⟩ := r2.dicV e2
  rw [ea] at ea2; cases ea2
  rw [hw] at g
  have hty : s2.TypeIs (.ref a) "dict" := by
    obtain ⟨_, _, o, es, ep, h1, h2, _⟩ := dic_raw (fun _ h => h) I2 g
    exact ⟨o, h1, h2.1⟩
  refine ⟨hty, ?_⟩
  cases ok : kOk kvs k with
  | false => rw [ok] at q2; exact q2.elim
  | true =>
    cases l : dAt kvs k with
    | none => rw [ok, l] at q2; exact q2.elim
    | some v =>
      rw [ok, l] at q2
      exact dr_getItem hu (fun _ h => h) I2 g ok v2 ry l fun x w' s3 I3 px rx => ⟨x, H2, I3, rx, q2.ok r2 px⟩
theorem pc_dinF {b : Bool} {op : CmpOp} (hb : op = if b then CmpOp.In else CmpOp.NotIn) (hu : X.A.units + 70 < cLine) (hk : ED X F ke f) (ho : PE X o (tVar i)) (hw : F.w = X.w) : PC X op ke o (rdG X.K F PR (fDIn b i f)) := by
  refine ⟨fun pins s σ H Q I h => ?_⟩
  refine thn (hk.run pins s σ H _ I (rdG.bind h)) fun iv s1 ⟨y, H1, I1, ry, k, S1, r1, v1, p1, q1⟩ => ?_
  obtain ⟨kvs, e1, q1⟩ := wDic_in q1
  obtain ⟨a, ea, g⟩ := r1.dicV e1
  rw [hw] at g
  refine thn (ho.run pins s1 σ H1 (fun x H' => x = .ref a ∧ H' = H1) I1 ⟨_, ea, rfl, rfl⟩) fun u s2 ⟨x, H2, I2, rx, ex, eH⟩ => ?_
  subst ex eH
  obtain rfl : u = Value.ref a := rx
  cases ok : kOk kvs k with
  | false => rw [ok] at q1; exact q1.elim
  | true =>
    rw [ok] at q1
    cases b with
    | true => subst hb; exact dr_in hu (fun _ h => h) I2 g ok v1 ry fun s3 I3 => ⟨.bl (dHas kvs k), H2, I3, rfl, q1.ok r1 (by cases dHas kvs k <;> exact .bl _)⟩
    | false => subst hb; exact dr_notIn hu (fun _ h => h) I2 g ok v1 ry fun s3 I3 => ⟨.bl (!dHas kvs k), H2, I3, rfl, q1.ok r1 (by cases dHas kvs k <;> exact .bl _)⟩
theorem t_dnin (hu : X.A.units + 70 < cLine) (hk : ED X F ke f) (ho : PE X o (tVar i)) (hw : F.w = X.w := by rfl) (h1 : behindInMarks .NotIn o = false := by rfl) : ET X F (.Compare ke [.NotIn] [o] pos) (fT (fDIn false i f)) :=
  (pt_cmp (pc_dinF (b := false) rfl hu hk ho hw) h1).via fun σ H Q h => (rdG.bindT h).imp fun x H1 ⟨d, S1, r, v, p, q⟩ => by
    cases d with
    | bool b => cases v; exact ⟨b, rfl, q.ok r⟩
    | _ => exact q.elim
theorem s_dput (hu : X.A.units + 70 < cLine) (ho : PE X o (tVar i)) (he : ED X F e fe) (hk : ED X F ke fk) (hw : F.w = X.w := by rfl) (hs : swapsWith e (some (.Subscript o ke p1)) pos.line X.env = pure false := by rfl) :
    ES X F (.Assign [.Subscript o ke p1] e pos) (fDPut i fe fk) := by
  refine ⟨fun pins s σ H D I ⟨S, r, p⟩ => ?_⟩
  refine wpAny_Assign_Subscript (thn (he.run pins s σ H _ I (rdG.bindS (R := PR) ⟨S, r, p⟩)) fun rv s1 ⟨z, H1, I1, rz, v, S1, r1, v1, p1, q1⟩ => ?_) hs
  obtain ⟨kvs0, e1, q1⟩ := wDicS_in q1
  obtain ⟨a, ea, _, _⟩ := r1.dic e1
  refine thn (ho.run pins s1 σ H1 (fun x H' => x = .ref a ∧ H' = H1) I1 ⟨_, ea, rfl, rfl⟩) fun u s2 ⟨x, H2, I2, rx, ex, eH⟩ => ?_
  subst ex eH
  obtain rfl : u = Value.ref a := rx
  refine thn (hk.run pins s2 σ H2 _ I2 (rdG.bindS (R := PR) ⟨S1, r1, q1⟩)) fun iv s3 ⟨y, H3, I3, ry, k, S3, r3, v3, p3, q3⟩ => ?_
  obtain ⟨kvs, e3, q3⟩ := wDicS_in q3
  obtain ⟨a2, ea2, g, put⟩ := r3.dic e3
  rw [ea] at ea2; cases ea2
  rw [hw] at g put
  cases ok : kOk kvs k with
  | false => rw [ok] at q3; exact q3.elim
  | true =>
    cases hl : decide (kvs.length < sizeLine) with
    | false => rw [ok, hl] at q3; exact q3.elim
    | true =>
      rw [ok, hl] at q3
      refine dr_setItem hu I3 g ok (of_decide_eq_true hl) v3 ry (Pd.mono p3 v1) rz fun ob s4 mu I4 g4 => ?_
      obtain ⟨r4, p4⟩ := put ob _ mu g4
      exact ⟨σ, _, I4, q3 σ _ p4 r4⟩
theorem e_dnew : EV X F (.Dict [] [] pos) fDNew := pe_dnewK.via fun σ H Q ⟨S, r, p⟩ q hq =>
  p _ _ (Pers.new hq) (r.new hq) ⟨q, rfl, .inl ⟨[], upd_same, .nil⟩, r.none0 hq, fun j hj => r.unslot hq hj, fun z hz e => by obtain ⟨⟨h1, _⟩, _⟩ := r.held z hz; rw [e, hq] at h1; cases h1⟩
end
end Fz
end

section
set_option Elab.async false
set_option linter.all false
set_option maxRecDepth 100000
set_option maxHeartbeats 4000000
/-! F33: a dict's keys: list(d), sorted(d). -/
namespace Fz
open PySem PySem.Spec PyProof.Rows L2
section
theorem keys_flat {K : Fg} {H : Hp} {P : Program} {w : World} {es : List DictEntry} {vs : List (Key × Value)} (hp : Pairs (mixKind P w) es vs) : ∀ {raw : List (Key × V)} {kvs : List (D × D)}, KV raw vs → F2 K H raw kvs →
    PdAll K H (raw.map fun p => kV p.1) (kvs.map (·.1)) ∧ Vals (raw.map fun p => kV p.1) (es.map (·.key)) := by
  induction hp with
  | nil => intro raw kvs kv f; cases kv; cases f; exact ⟨.nil, .nil⟩
  | @cons e kv0 es vs h1 h2 _ ih =>
    intro raw kvs kv f
    cases kv with
    | cons g1 g2 =>
      cases f with
      | cons f1 f2 =>
        obtain ⟨i1, i2⟩ := ih g2 f2
        have e1 := g1.1
        refine ⟨.cons ?_ i1, .cons ?_ i2⟩
        · dsimp only
          rcases fk_nk f1.1 with ⟨i, e1, e2⟩ | ⟨x, e1, e2⟩
          · rw [e1, e2]; exact .int i
          · rw [e1, e2]; exact .str x
        · have h3 : keyIs kv0.1 e.key = true := h1
          dsimp only
          rw [e1]
          rcases keyIs_shape h3 with ⟨i, t, q1, q2⟩ | ⟨x, t, q1, q2⟩
          · rw [q1, q2]; exact ⟨t, rfl⟩
          · rw [q1, q2]; exact ⟨t, rfl⟩
theorem keys_tup {K : Fg} {H : Hp} {w : World} : ∀ {raw : List (NestedKey × Addr × V)} {kvs : List (D × D)} {xs : List (NestedKey × Addr × Value)},
    Paired (fun (p : NestedKey × Addr × V) (q : D × D) => tk q.1 = some p.1 ∧ Pd K H (.ref p.2.1) q.1 ∧ Pd K H p.2.2 q.2) raw kvs → Paired (fun (p : NestedKey × Addr × V) (q : NestedKey × Addr × Value) => p.1 = q.1 ∧ p.2.1 = q.2.1 ∧ RelV p.2.2 q.2.2) raw xs →
    PdAll K H (raw.map fun p => .ref p.2.1) (kvs.map (·.1)) ∧ Vals (raw.map fun p => .ref p.2.1) ((xs.map (fun x => (⟨x.1.hash w, .ref x.2.1, x.2.2⟩ : DictEntry))).map (·.key))
  | _, _, _, .nil, .nil => ⟨.nil, .nil⟩
  | _, _, _, .cons h r, .cons g t => by
    obtain ⟨i1, i2⟩ := keys_tup (w := w) r t
    exact ⟨.cons h.2.1 i1, .cons (by dsimp only; rw [g.2.1]; rfl) i2⟩
variable {X : Cx} {pins : List (Addr × Obj)} {σ : L2.St} {H : Hp} {s : Shared} {a : Addr} {kvs : List (D × D)} {A : Around} {E : Value → Shared → Prop}
/-- the keys, as they stand -/
theorem dic_keys {T : HO → Prop} (hT : ∀ u, T u → Rd H a u) (I : Inv X pins σ H s) (g : DicG X.K X.w H a T kvs) : kvs.length ≤ sizeLine ∧ (a == sysModules) = false ∧ ∃ es ep ks, s.heap.DictRaw a es ep ∧ es.size = kvs.length ∧ PdAll X.K H ks (kvs.map (·.1)) ∧ Vals ks (es.toList.map (·.key)) := by
  rcases g with ⟨raw, e, f⟩ | ⟨raw, n, e, f⟩
  · obtain ⟨z, hd, vs, rel, o, es, ep, h1, h2, h3, h4, h5, h6⟩ := dk_rd I.hok (hT _ e)
    obtain ⟨k1, k2⟩ := keys_flat h5 rel f
    refine ⟨by rw [← paired_len f]; exact z, hd, es, ep, _, ⟨o, h1, h2, h3⟩, ?_, k1, k2⟩
    have l1 : (es.toList.map (·.key)).length = kvs.length := by rw [← k2.length, List.length_map, paired_len f]
    rwa [List.length_map, Array.length_toList] at l1
  · obtain ⟨z, hd, xs, f2, o, es, ep, h1, h2, h3, h4, _⟩ := ext_rd I (hT _ e)
    obtain ⟨k1, k2⟩ := keys_tup (w := X.w) f f2
    rw [← h4] at k2
    refine ⟨by rw [← paired_len f]; exact z, hd, es, ep, _, ⟨o, h1, h2, h3⟩, ?_, k1, k2⟩
    have l1 : (es.toList.map (·.key)).length = kvs.length := by rw [← k2.length, List.length_map, paired_len f]
    rwa [List.length_map, Array.length_toList] at l1
theorem src_raw {prog : Program} {w : World} {d : Addr} {es : Array DictEntry} {ep : Nat} (lo : (d == sysModules) = false) : PySem.W.KdlSrc prog w "dict" d d es.size (fun i v => ∃ hi : i < es.size, v = es[i].key) (fun h => h.DictRaw d es ep) where
  type := fun _ hm => hm.typeIs
  there := fun h hm => ⟨let ⟨_, ho, _⟩ := hm; Heap.lt_size ho, let ⟨_, ho, _⟩ := hm; Heap.lt_size ho⟩
  keep := fun _ _ hm hk => hm.at fun o e => hk d (.inl rfl) o e
  notList := by decide
  notTuple := by decide
  hint := fun _ _ _ _ hm hq => PySem.W.kdl_hint_dict hm.typeIs hq
  iter := fun _ s hh hm => by
    have hlt : d < s.heap.objs.size := by obtain ⟨_, ho, _⟩ := hm; exact Heap.lt_size ho
    exact ⟨_, _, (fun _ _ hq => wpAny_pyIter_dict_raw lo hm hq), Walks.rawKeys hh _ d (Nat.ne_of_lt hlt) es ep, ⟨⟨_, Heap.get?_push_size _ rfl, rfl, rfl⟩, hm.at fun o e => Heap.get?_push_of_some _ e⟩⟩
theorem items_keys {es : Array DictEntry} {acc : Array Value} (h : ItemsOf (fun i v => ∃ hi : i < es.size, v = es[i].key) acc es.size) : acc.toList = es.toList.map (·.key) := by
  apply List.ext_getElem?
  intro j
  rw [List.getElem?_map, Array.getElem?_toList, Array.getElem?_toList]
  by_cases hj : j < es.size
  · have h1 : j < acc.size := by rw [h.1]; exact hj
    obtain ⟨_, e⟩ := h.2 j acc[j] (Array.getElem?_eq_getElem h1)
    rw [Array.getElem?_eq_getElem h1, Array.getElem?_eq_getElem hj, e]
    rfl
  · rw [Array.getElem?_eq_none (by rw [h.1]; omega), Array.getElem?_eq_none (by omega)]
    rfl
/-- list(d) -/
def rListD (X : Cx) : List V → Hp → VK → Prop := fun vs H Q => ∃ (a : Addr) (kvs : List (D × D)), vs = [.ref a] ∧ DicV X.K X.w H a kvs ∧ ∀ ks p, PdAll X.K H ks (kvs.map (·.1)) → H p = none → Q (.ref p) (upd H p (.lst ks))
theorem cr_listD (hc : X.calm = true) : CallR X (.type "list") (rListD X) := by
  intro pins s σ H vs us Q I r h
  obtain ⟨a, kvs, rfl, g, q⟩ := h
  obtain ⟨u, rfl, ru⟩ := vals1 r
  obtain rfl : u = Value.ref a := ru
  obtain ⟨hz, hd, es, ep, ks, raw, hn, k1, k2⟩ := dic_keys (fun _ h => h) I g
  refine PySem.W.kdl_call (src_raw hd) (I.ok.hd hc) raw (by rw [hn]; exact hz) fun h' tk acc c kp ho it => ?_
  have e := items_keys it
  refine ⟨.ref s.heap.objs.size, upd H s.heap.objs.size (.lst ks), I.laid (t' := tk) kp (Nat.le_refl _) ⟨?_, acc.toList, c, by rw [e]; exact k2, by simpa using ho⟩, rfl, q ks _ k1 (I.hok.fresh (Nat.le_refl _))⟩
  rw [k1.length, List.length_map]; exact hz
end
def fKeys (i : Nat) : FS → Res SV := wDic i fun kvs S => .ok (.own (.lst (kvs.map (·.1)))) S
section
variable {X : Cx} {F : Fx} {o : Expr} {i : Nat} {pos p : Pos} {x : Str}
theorem e_listD (hc : X.calm = true) (hg : Gl X "list") (hm : X.mg "list" = none) (ho : PE X o (tVar i)) (hw : F.w = X.w := by rfl)
    (he : starEach [o] X.env = (false, eval o X.env) :: starEach [] X.env := by rfl) : EV X F (.Call (.Name "list" p) [o] [] pos) (fKeys i) :=
  (pe_callTy (cr_listD hc) hg hm (by decide +kernel) (pa_cons ho pa_nil he) (by decide) (by decide) he rfl).via fun σ H Q ⟨S, r, q⟩ => by
    obtain ⟨kvs, e, q⟩ := wDic_in q
    obtain ⟨a, ea, g⟩ := r.dicV e
    rw [hw] at g
    exact ⟨_, ea, a, kvs, rfl, g, fun ks p h1 h2 => newList r h1 h2 q⟩
end
end Fz
end

section
set_option Elab.async false
set_option linter.all false
set_option maxRecDepth 100000
set_option maxHeartbeats 4000000
/-! F34: sorted(d), d a dict: the sorted list of its keys. -/
namespace Fz
open PySem PySem.Spec PyProof.Rows L2 SrtO Srt
section
variable {prog : Program} {w : World} {A : Around} {E : Value → Shared → Prop} {s : Shared}
/-- a dict's keys collected, with what is new above -/
theorem collect_src {T : String} {r d : Addr} {n : Nat} {P : Nat → Value → Prop} {OK : Heap → Prop} {R : List Value → Shared → Prop} (K : PySem.W.KdlSrc prog w T r d n P OK) (hh : A.handled = none) (hok : OK s.heap) (hn : n ≤ sizeLine)
    (h : ∀ (h' : Heap) (tk : Nat) (acc : Array Value), (∀ b o, s.heap.get? b = some o → h'.get? b = some o) → s.heap.objs.size ≤ h'.objs.size → ItemsOf P acc n → R acc.toList { s with heap := h', toks := tk }) :
    wpAny (model prog w) A (collect (.ref r)) R E s := by
  have hlt := K.there _ hok
  unfold collect
  refine wpAny_bind (wpAny_runValue (codeAny_builtin entry_proto_collect' ?_))
  rw [Around.under_plainId PySem.F.plain_proto_collect _]
  show wpAny _ A.in1 (PySem.newList [] >>= fun l => again (.builtin "list.__iadd__" ⟨[l, .ref r], []⟩)) _ _ s
  refine wpAny_bind (wpAny_newObj_type ?_)
  refine wpAny_pure ⟨plainId_quiet PySem.F.plain_list_iadd _, codeAny_builtin entry_list_iadd' ?_⟩
  rw [Around.under_plainId PySem.F.plain_list_iadd _]
  have hS₁ : (s.heap.push { cls := .type "list", data := .seq ([] : List Value).toArray }).get? s.heap.objs.size = some { cls := .type "list", data := .seq #[] } := Heap.get?_push_size _ rfl
  show wpAny _ A.in1 (Builtin.List.listExtendWith (.ref s.heap.objs.size) (.ref r) (.ref s.heap.objs.size)) _ _ _
  have key := PySem.W.kdl_extend (A := A) (s := { s with heap := s.heap.push { cls := .type "list", data := .seq ([] : List Value).toArray } })
    (R := fun (q : Result) (s' : Shared) => ∃ (h' : Heap) (tk : Nat) (acc' : Array Value) (c' : Nat), q = .ok (.ret (.ref s.heap.objs.size)) ∧ s' = { s with heap := h', toks := tk } ∧
      (∀ b o, s.heap.get? b = some o → h'.get? b = some o) ∧ h'.get? s.heap.objs.size = some { cls := .type "list", dict := none, data := .seq acc' c', slots := #[] } ∧ ItemsOf P acc' n)
    K hh (K.keep _ _ hok fun b _ o e => Heap.get?_push_of_some _ e) s.heap.objs.size (Nat.ne_of_gt hlt.1) (Nat.ne_of_gt hlt.2) (.ref s.heap.objs.size) 0 hS₁
    (fun h' tk acc' c' hk hS' hacc => ⟨h', tk, acc', c', rfl, rfl, fun b o e => hk b o (Nat.ne_of_lt (Heap.lt_size e)) (Heap.get?_push_of_some _ e), hS', hacc⟩) hn
  refine wpAny_mono key (fun fin s' x => ?_) fun e s' x => ?_
  · cases fin with
    | done f =>
      obtain ⟨h', tk, acc', c', e, rfl, hk, hS', hacc⟩ := x
      cases e
      show wpAny _ A (load s.heap.objs.size >>= _) _ _ _
      refine wpAny_bind (wpAny_load hS' ?_)
      exact wpAny_pure (h h' tk acc' hk (Nat.le_of_lt (Heap.lt_size hS')) hacc)
    | again c₁ =>
      refine ⟨x.1, codeAny_mono x.2 fun q s₂ y => ?_⟩
      obtain ⟨h', tk, acc', c', rfl, rfl, hk, hS', hacc⟩ := y
      show wpAny _ A (load s.heap.objs.size >>= _) _ _ _
      refine wpAny_bind (wpAny_load hS' ?_)
      exact wpAny_pure (h h' tk acc' hk (Nat.le_of_lt (Heap.lt_size hS')) hacc)
  · obtain ⟨_, _, _, _, e', _⟩ := x
    cases e'
/-- sorted of anything that is collected -/
theorem sorted_ordC {r : Value} {vs : List Value} {ltv : Value → Value → Bool} {Q : Value → Shared → Prop} (O : Swo ltv) (hz : vs.length ≤ sizeLine)
    (hcol : ∀ R : List Value → Shared → Prop, (∀ (h' : Heap) (tk : Nat), (∀ b o, s.heap.get? b = some o → h'.get? b = some o) → s.heap.objs.size ≤ h'.objs.size → R vs { s with heap := h', toks := tk }) → wpAny (model prog w) A.in1 (collect r) R E s)
    (hS : 2 ≤ vs.length → ∀ (h₁ : Heap) (tk : Nat) (a : Addr), (∀ b o, s.heap.get? b = some o → b ≠ a ∧ h₁.get? b = some o) → SortableO prog w A.in1.in1 { s with heap := h₁, toks := tk } a vs ltv)
    (h : ∀ (h' : Heap) (tk : Nat) (d : Addr) (out : List Value), Srtd ltv out → Stb ltv out vs → (∀ b o, s.heap.get? b = some o → h'.get? b = some o) → s.heap.objs.size ≤ d → (∃ n, h'.get? d = some (seqObj "list" out.toArray n)) → Q (.ref d) { s with heap := h', toks := tk }) :
    wpAny (model prog w) A (call (.builtin "sorted") [r]) Q E s := by
  refine Calls.call_function_entry kind_sorted plain_sorted entry_sorted (args_sorted1 _) ?_
  unfold Builtin.«sorted»
  refine wpAny_bind (m := checkCount "sorted" 1 1 _) (wpAny_pure ?_)
  refine wpAny_bind (hcol _ fun h' tk kp hle => ?_)
  refine wpAny_bind (wpAny_newList ?_ hz)
  have hoL : (h'.push (seqObj "list" vs.toArray 0)).get? h'.objs.size = some (seqObj "list" vs.toArray 0) := Heap.get?_push_size _ rfl
  have keep : ∀ b o, s.heap.get? b = some o → b ≠ h'.objs.size ∧ (h'.push (seqObj "list" vs.toArray 0)).get? b = some o := fun b o q =>
    ⟨Nat.ne_of_lt (Heap.lt_size (kp b o q)), Heap.get?_push_of_some _ (kp b o q)⟩
  refine wpAny_bind (wpAny_holding (wpAny_call_entry (s := { s with heap := h'.push (seqObj "list" vs.toArray 0), toks := tk }) slot_list_sort ⟨_, hoL, rfl⟩ entry_list_sort (list_sort_ord O hoL hz (fun h2 => hS h2 _ _ _ keep) fun out hs hb => ⟨_, rfl, ?_⟩) (args_list_sort _)))
  refine wpAny_pure ⟨_, rfl, h _ tk _ out hs hb (fun b o e => ?_) hle (sortedHeap_at hoL)⟩
  obtain ⟨k1, k2⟩ := keep b o e
  exact (sortedHeap_old k1 (Heap.lt_size k2)).trans k2
theorem sorted_dataC {r : Value} {vs : List Value} {ds : List PyData} {as : List Addr} {Q : Value → Shared → Prop} (hz : vs.length ≤ sizeLine) (hr : ReadsAll s.heap vs ds as) (ok : SortOk ds) (hu : A.units + 70 < cLine)
    (hcol : ∀ R : List Value → Shared → Prop, (∀ (h' : Heap) (tk : Nat), (∀ b o, s.heap.get? b = some o → h'.get? b = some o) → s.heap.objs.size ≤ h'.objs.size → R vs { s with heap := h', toks := tk }) → wpAny (model prog w) A.in1 (collect r) R E s)
    (h : ∀ (k : Value → PyData), (∀ v d as, Reads s.heap v d as → plainD d = true → d.canLay0 = true → k v = d) → ∀ (h' : Heap) (tk : Nat) (d : Addr) (out : List Value), out.Perm vs → out.map k = sortD ds → (∀ b o, s.heap.get? b = some o → h'.get? b = some o) → s.heap.objs.size ≤ d → (∃ n, h'.get? d = some (seqObj "list" out.toArray n)) → Q (.ref d) { s with heap := h', toks := tk }) :
    wpAny (model prog w) A (call (.builtin "sorted") [r]) Q E s := by
  let k : Value → PyData := fun v => open Classical in if h : ∃ d as, Reads s.heap v d as ∧ plainD d = true ∧ d.canLay0 = true then h.choose else .none
  have hk : ∀ v d as, Reads s.heap v d as → plainD d = true → d.canLay0 = true → k v = d := fun v d as r hp hc => by
    have hx : ∃ d as, Reads s.heap v d as ∧ plainD d = true ∧ d.canLay0 = true := ⟨d, as, r, hp, hc⟩
    have e : k v = hx.choose := dif_pos hx
    rw [e]
    obtain ⟨as', r', _, hc'⟩ := hx.choose_spec
    exact SeqAt.Reads.unique _ _ v as' as hc' r' r
  have hds : ∀ d ∈ ds, plainD d = true ∧ d.canLay0 = true := fun d hd => ⟨(ok.1 d hd).1, (shaped_depth (ok.1 d hd).2).1⟩
  have hm : ∀ v ∈ vs, k v ∈ ds ∧ ∃ as, Reads s.heap v (k v) as := fun v hv => by
    obtain ⟨d, hd, as, r⟩ := readsAll_mem hr v hv
    have e := hk v d as r (hds d hd).1 (hds d hd).2
    rw [e]
    exact ⟨hd, as, r⟩
  have O : Swo (fun v u => lx (enc (k v)) (enc (k u))) := lx_swo fun v => enc (k v)
  refine sorted_ordC O hz hcol (fun h2 h₁ tk a kk => ?_) fun h' tk d out hs hb kp hd hn => ?_
  · intro h' keep
    have kp : ∀ b o, s.heap.get? b = some o → h'.get? b = some o := fun b o e => keep b o (kk b o e).1 (kk b o e).2
    have hR : ∀ v ∈ vs, RdP h' v (k v) := fun v hv => by
      obtain ⟨hd, as, r⟩ := hm v hv
      exact ⟨(hds _ hd).1, as, reads_keep kp (hds _ hd).1 r⟩
    obtain ⟨κ, h1, h2⟩ := kind_wp (prog := prog) (w := w) (A := A.in1.in1) (s := { s with heap := h', toks := tk }) (vs := vs) (ds := ds) fun v hv => ⟨k v, (hm v hv).1, hR v hv⟩
    refine ⟨κ, fun Q' E' q => h1 E' Q' q, cmp_data k hR (fun v hv u hu' => ?_) ?_⟩
    · have hv' := (hm v hv).1
      have hu'' := (hm u hu').1
      have dv := shaped_depth (ok.1 _ hv').2
      have du := shaped_depth (ok.1 _ hu'').2
      have un : A.in1.in1.units = A.units + 2 := rfl
      exact ⟨ok.2 _ hv' _ hu'', (ok.1 _ hv').1, (ok.1 _ hu'').1, dv.1, du.1, by omega⟩
    · rcases h2 with h2 | h2 | ⟨h2, h3⟩
      · exact .inl h2
      · exact .inr (.inl h2)
      · refine .inr (.inr ⟨h2, fun v hv => ?_⟩)
        obtain ⟨d, hd, ⟨hp, as, r⟩, xs, rfl⟩ := h3 v hv
        obtain ⟨hp', as', r'⟩ := hR v hv
        exact ⟨xs, SeqAt.Reads.unique _ _ v as' as (hds _ (hm v hv).1).2 r' r⟩
  · refine h k hk _ tk _ out hb.perm ?_ kp hd hn
    have e1 := readsAll_map hk hr hds
    rw [← e1]
    exact sortD_uniq (srtd_map hs) (Stb.map ltE_swo k hb)
end
section
variable {X : Cx} {F : Fx}
def rSortDic (X : Cx) : List V → Hp → VK → Prop := fun vs H Q => ∃ (a : Addr) (kvs : List (D × D)), vs = [.ref a] ∧ DicV X.K X.w H a kvs ∧ SortOk (kvs.map (·.1)) ∧ ∀ ys p, PdAll X.K H ys (sortD (kvs.map (·.1))) → H p = none → Q (.ref p) (upd H p (.lst ys))
theorem cr_sortDic (hc : X.calm = true) (hu : X.A.units + 70 < cLine) : CallR X (.builtin "sorted") (rSortDic X) := by
  intro pins s σ H vs us Q I r h
  obtain ⟨a, kvs, rfl, g, ok, q⟩ := h
  obtain ⟨u, rfl, ru⟩ := vals1 r
  obtain rfl : u = Value.ref a := ru
  obtain ⟨hz, hd, es, ep, xs, raw, hsz, hx, rv⟩ := dic_keys (fun _ h => h) I g
  obtain ⟨as, hr⟩ := Dp.readsAll I (kvs.map (·.1)) xs (es.toList.map (·.key)) (PdAll.dp hx) rv
  have hln : (es.toList.map (·.key)).length = kvs.length := by rw [List.length_map, Array.length_toList, hsz]
  refine sorted_dataC (by rw [hln]; exact hz) hr ok hu (fun R hR => ?_) fun k hk h' tk d out hp ho kp hd hn => ?_
  · refine collect_src (A := X.A.in1) (src_raw hd) (I.ok.hd hc) raw (by rw [hsz]; exact hz) fun h' tk acc kp hle it => ?_
    rw [items_keys it]
    exact hR h' tk kp hle
  have hds : ∀ d ∈ kvs.map (·.1), plainD d = true ∧ d.canLay0 = true := fun d hd => ⟨(ok.1 d hd).1, (shaped_depth (ok.1 d hd).2).1⟩
  have ex : ∀ v ∈ es.toList.map (·.key), ∃ x, RelV x v ∧ Pd X.K H x (k v) := fun v hv => by
    obtain ⟨x, hxm, rx⟩ := vals_mem rv v hv
    obtain ⟨d, hdm, pd⟩ := pdAll_mem hx x hxm
    obtain ⟨as', r'⟩ := Dp.reads I d x v pd.dp rx
    rw [hk v d as' r' (hds d hdm).1 (hds d hdm).2]
    exact ⟨x, rx, pd⟩
  let g : Value → V := fun v => open Classical in if h : ∃ x, RelV x v ∧ Pd X.K H x (k v) then h.choose else .non
  have hg : ∀ v ∈ es.toList.map (·.key), RelV (g v) v ∧ Pd X.K H (g v) (k v) := fun v hv => by
    have hx := ex v hv
    have e : g v = hx.choose := dif_pos hx
    rw [e]; exact hx.choose_spec
  have hmem : ∀ v ∈ out, v ∈ es.toList.map (·.key) := fun v hv => hp.mem_iff.mp hv
  have hv : ∀ l : List Value, (∀ v ∈ l, v ∈ es.toList.map (·.key)) → Vals (l.map g) l ∧ PdAll X.K H (l.map g) (l.map k) := fun l => by
    induction l with
    | nil => intro _; exact ⟨.nil, .nil⟩
    | cons v l ih =>
      intro hm
      obtain ⟨a1, a2⟩ := hg v (hm v (by simp))
      obtain ⟨b1, b2⟩ := ih fun u hu => hm u (List.mem_cons_of_mem _ hu)
      exact ⟨.cons a1 b1, .cons a2 b2⟩
  obtain ⟨v1, v2⟩ := hv out hmem
  obtain ⟨n, hn⟩ := hn
  rw [ho] at v2
  refine ⟨.ref d, upd H d (.lst (out.map g)), I.laid (t' := tk) kp hd ⟨?_, out, n, v1, hn⟩, rfl, q _ d v2 (I.hok.fresh hd)⟩
  rw [List.length_map, hp.length_eq, hln]
  exact hz
noncomputable def fSortDic (i : Nat) : FS → Res SV := wDic i fun kvs S => @ite _ (SortOk (kvs.map (·.1))) (Classical.propDecidable _) (.ok (.own (.lst (sortD (kvs.map (·.1))))) S) .bad
theorem e_sortDic {o : Expr} {i : Nat} {pos p : Pos} (hc : X.calm = true) (hu : X.A.units + 70 < cLine) (hg : Gl X "sorted") (hm : X.mg "sorted" = none) (ho : PE X o (tVar i)) (hw : F.w = X.w := by rfl)
    (he : starEach [o] X.env = (false, eval o X.env) :: starEach [] X.env := by rfl) : EV X F (.Call (.Name "sorted" p) [o] [] pos) (fSortDic i) :=
  (pe_callB (cr_sortDic hc hu) hg hm bt_sorted (pa_cons ho pa_nil he) (by decide) (by decide) he rfl).via fun σ H Q ⟨S, r, q⟩ => by
    obtain ⟨kvs, e, q⟩ := wDic_in q
    obtain ⟨a, ea, g⟩ := r.dicV e
    rw [hw] at g
    by_cases ok : SortOk (kvs.map (·.1))
    · rw [if_pos ok] at q
      exact ⟨_, ea, a, kvs, rfl, g, ok, fun ks p h1 h2 => newList r h1 h2 q⟩
    · rw [if_neg ok] at q; exact q.elim
end
end Fz
end

section
set_option Elab.async false
set_option linter.all false
set_option maxRecDepth 100000
set_option maxHeartbeats 4000000
/-! F35: sorted(xs, key=f), f a def of the text. -/
namespace Fz
open PySem PySem.Spec PyProof.Rows L2 SrtO Srt
/-! ### sorting by keys, as a function -/
section
variable {α : Type} (lt : α → α → Bool)
def insG (x : α) : List α → List α
  | [] => [x]
  | y :: l => if lt y x = true then y :: insG x l else x :: y :: l
def sortG : List α → List α
  | [] => []
  | x :: l => insG lt x (sortG l)
variable {lt}
theorem insG_split (x : α) : ∀ l : List α, ∃ M N, l = M ++ N ∧ insG lt x l = M ++ x :: N ∧ (∀ y ∈ M, lt y x = true) ∧ (∀ y, N.head? = some y → lt y x = false)
  | [] => ⟨[], [], rfl, rfl, fun _ h => absurd h (by simp), fun _ h => by simp at h⟩
  | y :: l => by
    unfold insG
    by_cases e : lt y x = true
    · rw [if_pos e]
      obtain ⟨M, N, rfl, e2, h1, h2⟩ := insG_split x l
      refine ⟨y :: M, N, rfl, by rw [e2]; rfl, fun z hz => ?_, h2⟩
      rcases List.mem_cons.mp hz with rfl | hz
      · exact e
      · exact h1 z hz
    · rw [if_neg e]
      refine ⟨[], y :: l, rfl, rfl, fun _ h => absurd h (by simp), fun z hz => ?_⟩
      simp at hz
      subst hz
      exact Bool.eq_false_iff.mpr e
theorem sortG_ok (O : Swo lt) : ∀ l : List α, Srtd lt (sortG lt l) ∧ Stb lt (sortG lt l) l
  | [] => ⟨List.Pairwise.nil, Stb.refl _⟩
  | x :: l => by
    obtain ⟨s1, s2⟩ := sortG_ok O l
    obtain ⟨M, N, e1, e2, h1, h2⟩ := insG_split (lt := lt) x (sortG lt l)
    rw [e1] at s1
    obtain ⟨m, n, c⟩ := srtd_app.mp s1
    have hN : ∀ y ∈ N, lt y x = false := fun y hy => by
      cases N with
      | nil => cases hy
      | cons z N =>
        have hz := h2 z rfl
        rcases List.mem_cons.mp hy with rfl | hy
        · exact hz
        · exact O.tr x z y hz (srtd_head n y hy)
    show Srtd lt (insG lt x (sortG lt l)) ∧ Stb lt (insG lt x (sortG lt l)) (x :: l)
    rw [e2]
    refine ⟨srtd_app.mpr ⟨m, List.pairwise_cons.mpr ⟨hN, n⟩, fun a ha b hb => ?_⟩, ?_⟩
    · rcases List.mem_cons.mp hb with rfl | hb
      · exact O.asym a b (h1 a ha)
      · exact c a ha b hb
    · have q : Stb lt (M ++ ([x] ++ N)) ([x] ++ (M ++ N)) := by
        have := (Stb.swap O (A := M) (B := [x]) fun a ha b hb => by rw [List.mem_singleton.mp hb]; exact h1 a ha).app (Stb.refl N)
        simpa using this
      have q2 : Stb lt ([x] ++ (M ++ N)) ([x] ++ l) := by
        rw [← e1]
        exact (Stb.refl [x]).app s2
      exact q.trans q2
theorem sortG_uniq (O : Swo lt) {l m : List α} (h : Srtd lt l) (s : Stb lt l m) : l = sortG lt m := by
  obtain ⟨a, b⟩ := sortG_ok O m
  refine stb_uniq O h a ?_
  exact ⟨s.perm.trans b.perm.symm, fun x => (s.cls x).trans (b.cls x).symm⟩
end
abbrev ltP (p q : D × D) : Bool := ltE p.1 q.1
/-- the items by their keys -/
def sortK (ks ds : List D) : List D := (sortG ltP (ks.zip ds)).map (·.2)
/-- the keys that a def tells -/
def keysF (den : Den) : List D → Option (List D)
  | [] => some []
  | d :: r => match den [.d d] with
    | .ok (.d k) _ => (keysF den r).map (k :: ·)
    | _ => none
theorem keysF_len {den : Den} : ∀ {ds ks : List D}, keysF den ds = some ks → ks.length = ds.length
  | [], ks, h => by cases h; rfl
  | d :: r, ks, h => by
    unfold keysF at h
    split at h
    · obtain ⟨ks2, h1, rfl⟩ := Option.map_eq_some_iff.mp h
      rw [List.length_cons, List.length_cons, keysF_len h1]
    · cases h
theorem keysF_get {den : Den} : ∀ {ds ks : List D} {i : Nat} {d k : D}, keysF den ds = some ks → ds[i]? = some d → ks[i]? = some k → ∃ l, den [.d d] = .ok (.d k) l
  | [], ks, i, d, k, h, e, _ => by simp at e
  | d0 :: r, ks, i, d, k, h, e, g => by
    unfold keysF at h
    split at h
    · rename_i k0 l hd
      obtain ⟨ks2, h1, rfl⟩ := Option.map_eq_some_iff.mp h
      cases i with
      | zero => simp at e g; subst e; subst g; exact ⟨l, hd⟩
      | succ i => exact keysF_get h1 (by simpa using e) (by simpa using g)
    · cases h
/-! ### a call of the key def, from within -/
theorem RoomG.in1 {k : Nat} {A : Around} (r : RoomG (k + 1) A) : RoomG k A.in1 := ⟨r.rm.in1, r.gd⟩
section
variable {X : Cx} {pins : List (Addr × Obj)} {σ : L2.St} {H : Hp} {s : Shared} {T : List Addr} {den : Den} {fa : Addr} {fd : FuncData} {ps : List Str} {k : Nat}
theorem key_call {x : V} {u : Value} {d kd : D} {l : List SV} {Q : VK} (G : GOk X.prog X.w X.K X.mg X.base k fa fd ps (spG X.prog X.w X.K X.mg X.base T 1 den)) (hr : RoomG (k + 2) X.A) (hb : Binds X.K fd ps []) (I : Inv X pins σ H s) (rx : RelV x u) (hx : Pd X.K H x d)
    (hT : ∀ P ∈ T, TabOk H P) (hd : den [.d d] = .ok (.d kd) l) (q : ∀ y H', Pers H H' → (∀ a o, H a = some o → isTbl o = false → H' a = some o) → (∀ a o, H a = some o → ∃ u, H' a = some u) → (∀ P ∈ T, TabOk H' P) → Pd X.K H' y kd → Q y H') :
    wpAny (model X.prog X.w) X.A.in1.in1 (call (.ref fa) [u]) (EP X pins σ Q) (fun _ _ => False) s := by
  have sp : spG X.prog X.w X.K X.mg X.base T 1 den [x] H Q (fun _ _ _ => False) := by
    refine ⟨[.d d], rfl, ⟨rfl, fun i sv e => ?_, fun i j b ne ⟨ob, hi⟩ => ?_⟩, hT, ?_⟩
    · cases i with
      | zero => simp at e; subst e; exact ⟨_, rfl, hx⟩
      | succ i => simp at e
    · cases i with
      | zero => simp at hi
      | succ i => simp at hi
    · rw [hd]
      intro y H' lf rr
      refine q y H' lf.pers (fun a o e n => lf.keep a o e (fun ⟨i, ⟨ob, hi⟩, _⟩ => ?_) n) lf.there lf.tabs rr
      cases i with
      | zero => simp at hi
      | succ i => simp at hi
  have hn : [u].length = ps.length := G.many _ _ _ _ sp
  have bd := hb s [u] I.kIn (by rw [List.append_nil]; exact hn)
  rw [List.append_nil] at bd
  refine wpAny_call (codeAny_mono (G.go X.A.in1.in1 X.stack s H ⟨[u], []⟩ [u] [x] Q (fun _ _ _ => False) hr.in1.in1 I.env0.in1.in1 bd (.cons rx .nil) sp) fun r s' q => ?_)
  cases r with
  | ok v =>
    cases v with
    | ret v => exact I.after q
    | _ => exact q.elim
  | error e => exact q.elim
/-- the function at fa tells keys as den does, from Hb on, in a built-in's hands -/
def KeyP (X : Cx) (T : List Addr) (Hb : Hp) (fa : Addr) (den : Den) : Prop := ∀ {pins : List (Addr × Obj)} {σ : L2.St} {H : Hp} {s : Shared} {x : V} {u : Value} {d kd : D} {l : List SV} {Q : VK}, Pers Hb H → Inv X pins σ H s → RelV x u → Pd X.K H x d → (∀ P ∈ T, TabOk H P) → den [.d d] = .ok (.d kd) l →
  (∀ y H', Pers H H' → (∀ a o, H a = some o → isTbl o = false → H' a = some o) → (∀ a o, H a = some o → ∃ u, H' a = some u) → (∀ P ∈ T, TabOk H' P) → Pd X.K H' y kd → Q y H') →
    wpAny (model X.prog X.w) X.A.in1.in1 (call (.ref fa) [u]) (EP X pins σ Q) (fun _ _ => False) s
theorem keyP_of {Hb : Hp} (G : GOk X.prog X.w X.K X.mg X.base k fa fd ps (spG X.prog X.w X.K X.mg X.base T 1 den)) (hr : RoomG (k + 2) X.A) (hb : Binds X.K fd ps []) : KeyP X T Hb fa den := fun _ I rx hx hT hd q => key_call G hr hb I rx hx hT hd q
/-- the loop that asks the keys -/
theorem key_loop {a kS : Addr} {oa : Obj} {its : List Value} {xs : List V} {ds ks : List D} {R : Unit → Shared → Prop} {E : Value → Shared → Prop} {Hb : Hp} (G : KeyP X T Hb fa den) (pb : Pers Hb H)
    (items : Array Value) (I : Inv X ((a, oa) :: pins) σ H s) (hk : H kS = some (.lst [])) (rv : Vals xs its) (hx : PdAll X.K H xs ds) (hz : its.length ≤ sizeLine) (hT : ∀ P ∈ T, TabOk H P) (hks : keysF den ds = some ks)
    (h : ∀ s' H' kvs, Inv X ((a, oa) :: pins) σ H' s' → H' kS = some (.lst kvs) → PdAll X.K H' kvs ks → Pers H H' → (∀ b o, b ≠ kS → H b = some o → isTbl o = false → H' b = some o) → (∀ b o, H b = some o → ∃ u, H' b = some u) → (∀ P ∈ T, TabOk H' P) → R () s') :
    wpAny (model X.prog X.w) X.A.in1.in1 (forIn its PUnit.unit fun x _ => do
      match ← (call (.ref fa) [x]).attempt with
      | .ok k => do Builtin.List.listUpdate (.ref kS) (·.push k); pure (ForInStep.yield PUnit.unit)
      | .error e => do
        rule "list.sort.key-raised"
        let made ← Builtin.List.listItems (.ref kS)
        Builtin.List.listUpdate (.ref kS) fun _ => #[]
        letGo made.toList.reverse [e]
        Builtin.List.listUpdate (.ref a) fun _ => items; throw e) R E s := by
  have lx := rv.length
  have ld := hx.length
  have lk := keysF_len hks
  refine ksk_fold (fun i s' => ∃ H' kvs, Inv X ((a, oa) :: pins) σ H' s' ∧ H' kS = some (.lst kvs) ∧ PdAll X.K H' kvs (ks.take i) ∧ Pers H H' ∧ (∀ b o, b ≠ kS → H b = some o → isTbl o = false → H' b = some o) ∧ (∀ b o, H b = some o → ∃ u, H' b = some u) ∧ (∀ P ∈ T, TabOk H' P)) its 0 s
    ⟨H, [], I, hk, .nil, .refl H, fun _ _ _ e _ => e, fun _ o e => ⟨o, e⟩, hT⟩ ?_ ?_
  · rintro j u s' hj ⟨H1, kvs, I1, hk1, hp1, per, kp, th, ht⟩
    simp only [Nat.zero_add] at hp1 ⊢
    have hjl : j < its.length := (List.getElem?_eq_some_iff.mp hj).1
    obtain ⟨x, hxj, rx⟩ : ∃ x, xs[j]? = some x ∧ RelV x u := by
      have hl : j < xs.length := by omega
      obtain ⟨u2, h1, h2⟩ := rv.get (List.getElem?_eq_getElem hl)
      rw [hj] at h1; cases h1
      exact ⟨_, List.getElem?_eq_getElem hl, h2⟩
    obtain ⟨d, hdj, pd⟩ := hx.getV hxj
    have hkl : j < ks.length := by omega
    obtain ⟨l, hd⟩ := keysF_get hks hdj (List.getElem?_eq_getElem hkl)
    refine wpAny_bind (wpAny_attempt (wpAny_mono (G (pb.trans per) I1 rx (pd.mono per) ht hd (Q := fun y H2 => Pers H1 H2 ∧ (∀ a o, H1 a = some o → isTbl o = false → H2 a = some o) ∧ (∀ a o, H1 a = some o → ∃ u, H2 a = some u) ∧ (∀ P ∈ T, TabOk H2 P) ∧ Pd X.K H2 y ks[j])
      (fun y H2 h1 h2 h3 h4 h5 => ⟨h1, h2, h3, h4, h5⟩)) (fun v s2 ⟨y, H2, I2, ry, p2, kp2, th2, ht2, py⟩ => ?_) fun _ _ hF => hF.elim))
    try dsimp only
    have hk2 : H2 kS = some (.lst kvs) := kp2 _ _ hk1 rfl
    obtain ⟨hzk, kits, n, rk, hkg⟩ := (show ObjOk X.prog X.w H2 s2.heap kS (.lst kvs) from I2.hok kS _ hk2)
    have lkv : kvs.length = j := by rw [hp1.length, List.length_take]; omega
    have hs2 := Heap.SameBut.update s2.heap kS (Obj.mapSeq (·.push v))
    obtain ⟨c2, hc2⟩ : ∃ c2, (s2.heap.update kS (Obj.mapSeq (·.push v))).get? kS = some (seqObj "list" (kits.toArray.push v) c2) := ⟨_, get?_update_seq hkg (·.push v)⟩
    have mu : Mut (H2 kS) := by rw [hk2]; trivial
    have p3 : Pers H2 (upd H2 kS (.lst (kvs ++ [y]))) := Pers.put (.inl mu)
    have hkz : kits.length ≤ sizeLine := by rw [← rk.length]; exact hzk
    refine wpAny_bind (listUpdate_at (o := { cls := .type "list", data := .seq kits.toArray n }) hkg rfl (wpAny_pure ⟨rfl, upd H2 kS (.lst (kvs ++ [y])), kvs ++ [y], ?_, upd_same, ?_, (per.trans p2).trans p3, fun b o hb e nt => ?_, fun b o e => ?_, fun P hP => ?_⟩) (by simpa using hkz) (by rw [Array.size_push]; simpa using hkz))
    · refine d_write (t' := s2.toks) I2 mu hs2 ⟨_, hc2⟩ ⟨by rw [List.length_append, List.length_singleton]; omega, kits ++ [v], c2, rk.append (.cons ry .nil), ?_⟩
      rw [hc2]
      simp [seqObj]
    · rw [List.take_add_one, List.getElem?_eq_getElem hkl]
      exact ((hp1.mono (p2.trans p3)).append (.cons (py.mono p3) .nil))
    · rw [upd_ne hb]; exact kp2 _ _ (kp b o hb e nt) nt
    · obtain ⟨u1, e1⟩ := th b o e
      obtain ⟨u2, e2⟩ := th2 b u1 e1
      by_cases hb : b = kS
      · subst hb; exact ⟨_, upd_same⟩
      · exact ⟨u2, by rw [upd_ne hb]; exact e2⟩
    · refine (ht2 P hP).later p3 fun b pz e => ?_
      rw [upd_ne]; exact e
      intro z; rw [z, hk2] at e; cases e
  · rintro s' ⟨H1, kvs, I1, hk1, hp1, per, kp, th, ht⟩
    rw [List.take_of_length_le (by omega)] at hp1
    exact h s' H1 kvs I1 hk1 hp1 per kp th ht
end
/-! ### sorting of pairs, values beside data -/
section
variable {α β : Type} {lt : α → α → Bool} {lt' : β → β → Bool} {R : α → β → Prop}
theorem paired_insG (hl : ∀ x y x' y', R x x' → R y y' → lt x y = lt' x' y') {x : α} {x' : β} (hx : R x x') : ∀ {l : List α} {m : List β}, Paired R l m → Paired R (insG lt x l) (insG lt' x' m)
  | _, _, .nil => .cons hx .nil
  | y :: l, y' :: m, .cons h r => by
    unfold insG
    rw [hl y x y' x' h hx]
    by_cases e : lt' y' x' = true
    · rw [if_pos e, if_pos e]; exact .cons h (paired_insG hl hx r)
    · rw [if_neg e, if_neg e]; exact .cons hx (.cons h r)
theorem paired_sortG (hl : ∀ x y x' y', R x x' → R y y' → lt x y = lt' x' y') : ∀ {l : List α} {m : List β}, Paired R l m → Paired R (sortG lt l) (sortG lt' m)
  | _, _, .nil => .nil
  | _, _, .cons h r => paired_insG hl h (paired_sortG hl r)
end
theorem paired_choose {K : Fg} {H : Hp} : ∀ {us : List Value} {ds : List D}, Paired (fun u d => ∃ x, RelV x u ∧ Pd K H x d) us ds → ∃ ys, Vals ys us ∧ PdAll K H ys ds
  | _, _, .nil => ⟨[], .nil, .nil⟩
  | _, _, .cons ⟨x, h1, h2⟩ r => let ⟨ys, a, b⟩ := paired_choose r; ⟨x :: ys, .cons h1 a, .cons h2 b⟩
theorem paired_map2 {α β γ δ : Type} {R : α → β → Prop} {S : γ → δ → Prop} {f : α → γ} {g : β → δ} (h : ∀ x y, R x y → S (f x) (g y)) : ∀ {l : List α} {m : List β}, Paired R l m → Paired S (l.map f) (m.map g)
  | _, _, .nil => .nil
  | _, _, .cons a r => .cons (h _ _ a) (paired_map2 h r)
theorem paired_zip {K : Fg} {H : Hp} {k : Value → PyData} : ∀ {kus us : List Value} {xs : List V} {ks ds : List D}, kus.map k = ks → Vals xs us → PdAll K H xs ds → kus.length = us.length →
    Paired (fun (p : Value × Value) (q : D × D) => k p.1 = q.1 ∧ ∃ x, RelV x p.2 ∧ Pd K H x q.2) (kus.zip us) (ks.zip ds)
  | [], [], _, _, _, e, .nil, .nil, _ => by subst e; exact .nil
  | ku :: kus, u :: us, _, _, _, e, .cons r rs, .cons h hs, hl => by
    subst e
    exact .cons ⟨rfl, _, r, h⟩ (paired_zip rfl rs hs (by simpa using hl))
  | [], _ :: _, _, _, _, _, _, _, hl => by simp at hl
  | _ :: _, [], _, _, _, _, _, _, hl => by simp at hl
/-- the same slots behind a call that pins nothing -/
theorem Rel.stay {K : Fg} {F : Fx} {S : FS} {σ : Sl} {H H' : Hp} (r : Rel K F S σ H) (p : Pers H H') (kp : ∀ b o, H b = some o → isTbl o = false → H' b = some o) (th : ∀ b o, H b = some o → ∃ u, H' b = some u) (ht : ∀ P ∈ F.tabs, TabOk H' P) : Rel K F S σ H' := by
  have same : ∀ {ob b}, ObR K F.w H b ob → H' b = H b := fun q => by
    obtain ⟨u, e, _, n⟩ := q.there
    rw [e]; exact kp _ _ e n
  refine ⟨r.len, fun i sv e => ?_, r.apart, fun a o e n t => kp a o (r.keep a o e n t) t, fun a o e => ?_, ht, F.cl.selfM p r.self, fun q hq => ?_⟩
  · obtain ⟨x, ex, v⟩ := r.slot i sv e
    refine ⟨x, ex, ?_⟩
    cases sv with
    | d d => exact Pd.mono p v
    | own ob => obtain ⟨a, e, q, z⟩ := v; exact ⟨a, e, q.later p (same q), z⟩
    | pin ob => obtain ⟨a, e, q, z⟩ := v; exact ⟨a, e, q.later p (same q), z⟩
    | x e => exact SxR.later v p r.keep fun a o e n t => kp a o (r.keep a o e n t) t
  · obtain ⟨u, q⟩ := r.there a o e; exact th a u q
  · obtain ⟨⟨e, em⟩, n, z⟩ := r.held q hq
    exact ⟨⟨kp _ _ e (mut_tbl em), em⟩, n, z⟩
end Fz
end

section
set_option Elab.async false
set_option linter.all false
set_option maxRecDepth 100000
set_option maxHeartbeats 4000000
/-! F36: sorted(xs, key=f): the whole call. -/
namespace Fz
open PySem PySem.Spec PyProof.Rows L2 SrtO Srt
section
variable {X : Cx} {pins : List (Addr × Obj)} {σ : L2.St} {H : Hp} {s : Shared} {T : List Addr} {den : Den} {fa : Addr} {fd : FuncData} {ps : List Str} {k : Nat}
/-- behind the keys: the pairs are sorted -/
theorem key_sort {a kS : Addr} {its : List Value} {xs kvs : List V} {ds ks : List D} {e1 : Nat} {P : PySem.Fin → Shared → Prop} {E : Value → Shared → Prop} {H' : Hp} (hu : X.A.units + 70 < cLine) (f : FpOk X pins H' a) (I : Inv X ((a, seqObj "list" #[] e1) :: pins) σ H' s) (hk : H' kS = some (.lst kvs))
    (hp : PdAll X.K H' kvs ks) (rv : Vals xs its) (hx : PdAll X.K H' xs ds) (hz : its.length ≤ sizeLine) (hl : ks.length = ds.length) (ok : SortOk ks)
    (h : ∀ h2 tk ys, PdAll X.K H' ys (sortK ks ds) → Inv X pins σ (upd (upd H' kS (.lst [])) a (.lst ys)) { s with heap := h2, toks := tk } → P (.done (.ret .none)) { s with heap := h2, toks := tk }) :
    wpAny (model X.prog X.w) X.A.in1.in1 (do
      let keys ← Builtin.List.listItems (.ref kS)
      ksk_end a false its.toArray e1 (.ref kS) keys) P E s := by
  obtain ⟨hzk, kits, n, rk, hkg⟩ := (show ObjOk X.prog X.w H' s.heap kS (.lst kvs) from I.hok kS _ hk)
  have hag : s.heap.get? a = some (seqObj "list" #[] e1) := (I.pin (a, seqObj "list" #[] e1) (by simp)).1
  have hka : kS ≠ a := fun z => by rw [z, f.1] at hk; cases hk
  have l1 : kits.length = its.length := by
    have a1 := rk.length; have a2 := rv.length; have a3 := hp.length; have a4 := hx.length
    omega
  have hkz : kits.length ≤ sizeLine := by omega
  obtain ⟨as, hr⟩ := Dp.readsAll I ks kvs kits (PdAll.dp hp) rk
  -- the end
  have tail : ∀ st : SortSt, failedOf st = none → Stb (lt2 fun v u => false) (arrOf st).toList (arrOf st).toList → (∃ ys, Vals ys ((arrOf st).map (·.2)).toList ∧ PdAll X.K H' ys (sortK ks ds)) → (arrOf st).size = its.length →
      wpAny (model X.prog X.w) X.A.in1.in1 (ksk_tail a false e1 (.ref kS) st) P E s := by
    intro st hf _ ⟨ys, hv, hpd⟩ hsz
    have s1 := Heap.SameBut.update s.heap kS (Obj.mapSeq fun _ => (#[] : Array Value))
    have na1 : (s.heap.update kS (Obj.mapSeq fun _ => (#[] : Array Value))).get? a = some (seqObj "list" #[] e1) := (s1.2 a hka.symm).trans hag
    have s2 := Heap.SameBut.update (s.heap.update kS (Obj.mapSeq fun _ => (#[] : Array Value))) a (Obj.mapSeq fun _ => (arrOf st).map (·.2))
    obtain ⟨c1, hc1⟩ : ∃ c1, (s.heap.update kS (Obj.mapSeq fun _ => (#[] : Array Value))).get? kS = some (seqObj "list" #[] c1) := ⟨_, get?_update_seq hkg fun _ => #[]⟩
    obtain ⟨c2, hc2⟩ : ∃ c2, ((s.heap.update kS (Obj.mapSeq fun _ => (#[] : Array Value))).update a (Obj.mapSeq fun _ => (arrOf st).map (·.2))).get? a = some (seqObj "list" ((arrOf st).map (·.2)) c2) := ⟨_, get?_update_seq na1 fun _ => (arrOf st).map (·.2)⟩
    have mu : Mut (H' kS) := by rw [hk]; trivial
    have hzo : ((arrOf st).map (·.2)).size ≤ sizeLine + 1 := by rw [Array.size_map, hsz]; omega
    have I2 : Inv X ((a, seqObj "list" #[] e1) :: pins) σ (upd H' kS (.lst [])) { s with heap := s.heap.update kS (Obj.mapSeq fun _ => (#[] : Array Value)), toks := s.toks } :=
      d_write I mu s1 ⟨_, hc1⟩ ⟨Nat.zero_le _, [], c1, .nil, hc1⟩
    have I3 : Inv X pins σ (upd H' kS (.lst [])) { s with heap := s.heap.update kS (Obj.mapSeq fun _ => (#[] : Array Value)), toks := s.toks } := I2.pins_of fun p hp => I2.pin p (List.mem_append_right _ (List.mem_cons_of_mem _ hp))
    have f3 : FpOk X pins (upd H' kS (.lst [])) a := ⟨by rw [upd_ne hka.symm]; exact f.1, f.2⟩
    have I4 : Inv X pins σ (upd (upd H' kS (.lst [])) a (.lst ys)) { s with heap := (s.heap.update kS (Obj.mapSeq fun _ => (#[] : Array Value))).update a (Obj.mapSeq fun _ => (arrOf st).map (·.2)), toks := s.toks } := by
      refine I3.take (t' := s.toks) (fun b ob hb e => (s2.2 b hb).trans e) f3 ⟨?_, ((arrOf st).map (·.2)).toList, c2, hv, ?_⟩
      · rw [hv.length, Array.length_toList, Array.size_map, hsz]; exact hz
      · rw [hc2, Array.toArray_toList]
    unfold ksk_tail
    try dsimp only
    simp only [Bool.false_eq_true, if_false]
    refine wpAny_bind (listUpdate_at hkg rfl ?_ (by simpa using hkz) (Nat.zero_le _))
    refine wpAny_bind (wpAny_letGo ?_)
    refine wpAny_bind (seqEpoch_at na1 rfl ?_)
    refine wpAny_bind (listUpdate_at na1 rfl ?_ (Nat.zero_le _) hzo)
    rw [hf]
    simp only [bne_self_eq_false, Bool.false_eq_true, if_false]
    exact wpAny_pure (h _ s.toks ys hpd I4)
  refine wpAny_bind (listItems_at hkg rfl ?_)
  -- the keys' data
  let kk : Value → PyData := fun v => open Classical in if h : ∃ d as, Reads s.heap v d as ∧ plainD d = true ∧ d.canLay0 = true then h.choose else .none
  have hkk : ∀ v d as, Reads s.heap v d as → plainD d = true → d.canLay0 = true → kk v = d := fun v d as r hp hc => by
    have hx : ∃ d as, Reads s.heap v d as ∧ plainD d = true ∧ d.canLay0 = true := ⟨d, as, r, hp, hc⟩
    have e : kk v = hx.choose := dif_pos hx
    rw [e]
    obtain ⟨as', r', _, hc'⟩ := hx.choose_spec
    exact SeqAt.Reads.unique _ _ v as' as hc' r' r
  have hds : ∀ d ∈ ks, plainD d = true ∧ d.canLay0 = true := fun d hd => ⟨(ok.1 d hd).1, (shaped_depth (ok.1 d hd).2).1⟩
  have e1' := readsAll_map hkk hr hds
  have O : Swo (lt2 fun v u => lx (enc (kk v)) (enc (kk u))) := swo2 (lx_swo fun v => enc (kk v))
  have hpz := paired_zip (K := X.K) (H := H') (k := kk) e1' rv hx l1
  have fin : ∀ l : List (Value × Value), Srtd (lt2 fun v u => lx (enc (kk v)) (enc (kk u))) l → Stb (lt2 fun v u => lx (enc (kk v)) (enc (kk u))) l (kits.zip its) → (∃ ys, Vals ys (l.map (·.2)) ∧ PdAll X.K H' ys (sortK ks ds)) := by
    intro l h1 h2
    rw [sortG_uniq O h1 h2]
    have q := paired_sortG (lt := lt2 fun v u => lx (enc (kk v)) (enc (kk u))) (lt' := ltP) (fun x y x' y' hx hy => by
      show lx (enc (kk x.1)) (enc (kk y.1)) = lx (enc x'.1) (enc y'.1)
      rw [hx.1, hy.1]) hpz
    exact paired_choose (paired_map2 (fun x y z => z.2) q)
  unfold ksk_end
  try dsimp only
  simp only [Bool.false_eq_true, if_false]
  have ez : (kits.toArray.zip its.toArray).toList = kits.zip its := by simp
  by_cases h2 : its.toArray.size < 2
  · rw [if_pos h2, if_pos h2]
    refine wpAny_bind (wpAny_pure ?_)
    rw [StateT.run_pure]
    refine wpAny_bind (wpAny_pure ?_)
    try dsimp only
    have hle : (kits.zip its).length < 2 := by rw [List.length_zip]; rw [List.size_toArray] at h2; omega
    refine tail (SortSt.mk' general' (kits.toArray.zip its.toArray) #[] 7 none) rfl (Stb.refl _) ?_ (by show (kits.toArray.zip its.toArray).size = _; rw [← Array.length_toList, ez, List.length_zip]; omega)
    have := fin (kits.zip its) (by
      match kits.zip its, hle with
      | [], _ => exact List.Pairwise.nil
      | [v], _ => exact List.pairwise_singleton _ _
      | _ :: _ :: l, h => exact absurd h (by rw [List.length_cons, List.length_cons]; omega)) (Stb.refl _)
    show ∃ ys, Vals ys ((kits.toArray.zip its.toArray).map (·.2)).toList ∧ _
    rw [Array.toList_map, ez]
    exact this
  · rw [if_neg h2, if_neg h2]
    have hR : ∀ v ∈ kits, kk v ∈ ks ∧ RdP s.heap v (kk v) := fun v hv => by
      obtain ⟨d, hd, as', r⟩ := readsAll_mem hr v hv
      have e := hkk v d as' r (hds d hd).1 (hds d hd).2
      rw [e]
      exact ⟨hd, (hds d hd).1, as', r⟩
    obtain ⟨κ, k1, k2⟩ := kind_wp (prog := X.prog) (w := X.w) (A := X.A.in1.in1) (s := s) (vs := kits) (ds := ks) fun v hv => ⟨kk v, (hR v hv).1, (hR v hv).2⟩
    refine wpAny_bind (k1 _ _ ?_)
    have C : Cmp X.prog X.w X.A.in1.in1 s κ (fun p => p.1 ∈ kits) (lt2 fun v u => lx (enc (kk v)) (enc (kk u))) := cmp_data kk (fun v hv => (hR v hv).2) (fun v hv u hu' => by
      have hv' := (hR v hv).1
      have hu'' := (hR u hu').1
      have dv := shaped_depth (ok.1 _ hv').2
      have du := shaped_depth (ok.1 _ hu'').2
      have un : X.A.in1.in1.units = X.A.units + 2 := rfl
      exact ⟨ok.2 _ hv' _ hu'', (ok.1 _ hv').1, (ok.1 _ hu'').1, dv.1, du.1, by omega⟩) (by
      rcases k2 with k2 | k2 | ⟨k2, k3⟩
      · exact .inl k2
      · exact .inr (.inl k2)
      · refine .inr (.inr ⟨k2, fun v hv => ?_⟩)
        obtain ⟨d, hd, ⟨hp, as, r⟩, xs, rfl⟩ := k3 v hv
        obtain ⟨hp', as', r'⟩ := (hR v hv).2
        exact ⟨xs, SeqAt.Reads.unique _ _ v as' as (hds _ (hR v hv).1).2 r' r⟩)
    have hall : AllL (fun p : Keyed => p.1 ∈ kits) (kits.toArray.zip its.toArray).toList := fun p hm => by
      rw [ez] at hm
      exact (List.of_mem_zip hm).1
    refine wpAny_bind (wpAny_mono (wpS_sortO (st0 := SortSt.mk' κ (kits.toArray.zip its.toArray) #[] 7 none)
      (Q := fun _ st' => Srtd (lt2 fun v u => lx (enc (kk v)) (enc (kk u))) (arrOf st').toList ∧ Stb (lt2 fun v u => lx (enc (kk v)) (enc (kk u))) (arrOf st').toList (kits.zip its) ∧ failedOf st' = none) O C rfl hall rfl rfl
      fun st' a1 a2 a3 => ⟨a1, by rw [← ez]; exact a2, a3⟩) ?_ fun _ _ e => e)
    rintro ⟨⟨⟩, st'⟩ s' ⟨rfl, hp1, hp2, hf⟩
    try dsimp only
    refine tail st' hf (Stb.refl _) ?_ (by rw [← Array.length_toList, hp2.perm.length_eq, List.length_zip]; omega)
    rw [Array.toList_map]
    exact fin _ hp1 hp2
end
end Fz
end

section
set_option Elab.async false
set_option linter.all false
set_option maxRecDepth 100000
set_option maxHeartbeats 4000000
/-! F37: sorted(xs, key=f): the rule of the layer. -/
namespace Fz
open PySem PySem.Spec PyProof.Rows L2 SrtO Srt
section
variable {X : Cx} {pins : List (Addr × Obj)} {σ : L2.St} {H : Hp} {s : Shared} {T : List Addr} {den : Den} {fa : Addr} {fd : FuncData} {ps : List Str} {k : Nat}
theorem sortK_call {r : Value} {its : List Value} {xs : List V} {ds ks : List D} {Q : VK} (hu : X.A.units + 70 < cLine) (G : KeyP X T H fa den)
    (I : Inv X pins σ H s) (rv : Vals xs its) (hx : PdAll X.K H xs ds) (hz : its.length ≤ sizeLine) (hT : ∀ P ∈ T, TabOk H P) (hks : keysF den ds = some ks) (ok : SortOk ks)
    (hcol : ∀ R : List Value → Shared → Prop, (∀ (h' : Heap) (tk : Nat), (∀ b o, s.heap.get? b = some o → h'.get? b = some o) → s.heap.objs.size ≤ h'.objs.size → R its { s with heap := h', toks := tk }) → wpAny (model X.prog X.w) X.A.in1 (collect r) R X.xe s)
    (q : ∀ ys p H2, PdAll X.K H2 ys (sortK ks ds) → Pers H H2 → (∀ b o, H b = some o → isTbl o = false → H2 b = some o) → (∀ b o, H b = some o → ∃ u, H2 b = some u) → (∀ P ∈ T, TabOk H2 P) → H p = none → H2 p = none → Q (.ref p) (upd H2 p (.lst ys))) :
    wpAny (model X.prog X.w) X.A (call (.builtin "sorted") [r] [(Str.ofString "key", .ref fa)]) (EP X pins σ Q) X.xe s := by
  refine PyProof.Rows.call_function_entry_kw kind_sorted plain_sorted entry_sorted (ksk_s1 _ _) ?_
  unfold Builtin.«sorted»
  refine wpAny_bind (m := checkCount "sorted" 1 1 _) (wpAny_pure ?_)
  refine wpAny_bind (hcol _ fun h' tk kp hle => ?_)
  refine wpAny_bind (wpAny_newList ?_ hz)
  have hoL : (h'.push (seqObj "list" its.toArray 0)).get? h'.objs.size = some (seqObj "list" its.toArray 0) := Heap.get?_push_size _ rfl
  have ha : h'.objs.size < (h'.push (seqObj "list" its.toArray 0)).objs.size := Heap.lt_size hoL
  refine wpAny_bind (wpAny_holding (wpAny_call_entry_kw (s := { s with heap := h'.push (seqObj "list" its.toArray 0), toks := tk }) slot_list_sort ⟨_, hoL, rfl⟩ entry_list_sort ?_ (ksk_l1 _ _)))
  rw [ksk_t1]
  unfold ksk_tree
  refine wpAny_bind (listItems_at hoL rfl ?_)
  refine wpAny_bind (listUpdate_at hoL rfl ?_ (by rw [List.size_toArray]; exact hz) (Nat.zero_le _))
  have s1 := Heap.SameBut.update (h'.push (seqObj "list" its.toArray 0)) h'.objs.size (Obj.mapSeq fun _ => (#[] : Array Value))
  obtain ⟨e1, ho1⟩ : ∃ e1, ((h'.push (seqObj "list" its.toArray 0)).update h'.objs.size (Obj.mapSeq fun _ => (#[] : Array Value))).get? h'.objs.size = some (seqObj "list" #[] e1) := ⟨_, get?_update_seq hoL fun _ => #[]⟩
  refine wpAny_bind (seqEpoch_at ho1 rfl ?_)
  refine wpAny_bind (wpAny_newTuple ?_ (by show its.length ≤ _; exact hz))
  refine wpAny_bind (wpAny_newList ?_ (Nat.zero_le _))
  refine wpAny_holding ?_
  -- the heap at which the keys are asked
  generalize hg : ((h'.push (seqObj "list" its.toArray 0)).update h'.objs.size (Obj.mapSeq fun _ => (#[] : Array Value))) = g at ho1 s1
  have gz : g.objs.size = h'.objs.size + 1 := by rw [← hg, Heap.size_update, size_push']
  have hk4 : ((g.push (seqObj "tuple" its.toArray 0)).push (seqObj "list" #[] 0)).get? (g.push (seqObj "tuple" its.toArray 0)).objs.size = some (seqObj "list" #[] 0) := Heap.get?_push_size _ rfl
  have tz : (g.push (seqObj "tuple" its.toArray 0)).objs.size = h'.objs.size + 2 := by rw [size_push', gz]
  have kp4 : ∀ b o, s.heap.get? b = some o → ((g.push (seqObj "tuple" its.toArray 0)).push (seqObj "list" #[] 0)).get? b = some o := fun b o e => by
    have hb := Heap.lt_size e
    have e2 : (h'.push (seqObj "list" its.toArray 0)).get? b = some o := Heap.get?_push_of_some _ (kp b o e)
    exact Heap.get?_push_of_some _ (Heap.get?_push_of_some _ ((s1.2 b (Nat.ne_of_lt (Nat.lt_of_lt_of_le hb hle))).trans e2))
  have hn : H (g.push (seqObj "tuple" its.toArray 0)).objs.size = none := I.hok.fresh (by rw [tz]; omega)
  have hna : H h'.objs.size = none := I.hok.fresh hle
  have f0 : FpOk X pins H h'.objs.size := I.fpOk hle hna
  have hka : h'.objs.size ≠ (g.push (seqObj "tuple" its.toArray 0)).objs.size := by rw [tz]; omega
  have I1 : Inv X pins σ (upd H (g.push (seqObj "tuple" its.toArray 0)).objs.size (.lst [])) { s with heap := ((g.push (seqObj "tuple" its.toArray 0)).push (seqObj "list" #[] 0)), toks := tk } :=
    I.laid (t' := tk) kp4 (by rw [tz]; omega) ⟨Nat.zero_le _, [], 0, .nil, hk4⟩
  have ho4 : ((g.push (seqObj "tuple" its.toArray 0)).push (seqObj "list" #[] 0)).get? h'.objs.size = some (seqObj "list" #[] e1) := Heap.get?_push_of_some _ (Heap.get?_push_of_some _ ho1)
  have I2 : Inv X ((h'.objs.size, seqObj "list" #[] e1) :: pins) σ (upd H (g.push (seqObj "tuple" its.toArray 0)).objs.size (.lst [])) { s with heap := ((g.push (seqObj "tuple" its.toArray 0)).push (seqObj "list" #[] 0)), toks := tk } := I1.pins_of fun p hp => by
    rcases List.mem_cons.mp hp with rfl | hp
    · exact ⟨ho4, by rw [upd_ne hka]; exact hna, f0.2.1, f0.2.2.1, fun v e => nomatch e⟩
    · exact I1.pin p (List.mem_append_right _ hp)
  unfold ksk_rest
  refine wpAny_bind (wpAny_rule ?_)
  first
    | rw [List.forIn_toArray]
    | (rw [← Array.forIn_toList]; simp only [List.toList_toArray])
    | rw [← Array.forIn_toList]
  have p1 : Pers H (upd H (g.push (seqObj "tuple" its.toArray 0)).objs.size (.lst [])) := Pers.new hn
  refine wpAny_bind (key_loop (a := h'.objs.size) (kS := (g.push (seqObj "tuple" its.toArray 0)).objs.size) G p1 its.toArray I2 upd_same rv (hx.mono p1) hz (fun P hP => ?_) hks fun s' H' kvs I' hk' hp' per kp' th' ht' => ?_)
  · refine (hT P hP).later p1 fun b pz e => ?_
    rw [upd_ne]; exact e
    intro z; rw [z, hn] at e; cases e
  · have hna' : H' h'.objs.size = none := (I'.pin (h'.objs.size, seqObj "list" #[] e1) (by simp)).2.1
    refine key_sort (xs := xs) (ds := ds) (ks := ks) hu ⟨hna', f0.2⟩ I' hk' hp' rv (hx.mono (p1.trans per)) hz (keysF_len hks) ok fun h2 tk2 ys hy I5 => ⟨_, rfl, ?_⟩
    refine wpAny_pure ⟨_, rfl, .ref h'.objs.size, _, I5, rfl, ?_⟩
    have mu : Mut (H' (g.push (seqObj "tuple" its.toArray 0)).objs.size) := by rw [hk']; trivial
    have p3 : Pers H' (upd H' (g.push (seqObj "tuple" its.toArray 0)).objs.size (.lst [])) := Pers.put (.inl mu)
    have off : ∀ b o, H b = some o → b ≠ (g.push (seqObj "tuple" its.toArray 0)).objs.size := fun b o e z => by rw [z, hn] at e; cases e
    refine q ys _ _ (hy.mono p3) ((p1.trans per).trans p3) (fun b o e nt => ?_) (fun b o e => ?_) (fun P hP => ?_) hna (by rw [upd_ne hka]; exact hna')
    · rw [upd_ne (off b o e)]
      exact kp' b o (off b o e) (by rw [upd_ne (off b o e)]; exact e) nt
    · rw [upd_ne (off b o e)]
      exact th' b o (by rw [upd_ne (off b o e)]; exact e)
    · refine (ht' P hP).later p3 fun b pz e => ?_
      rw [upd_ne]; exact e
      intro z; rw [z, hk'] at e; cases e
end
end Fz
end

section
set_option Elab.async false
set_option linter.all false
set_option maxRecDepth 100000
set_option maxHeartbeats 4000000
/-! F38: sorted(xs, key=f) of lists, tuples, dicts. -/
namespace Fz
open PySem PySem.Spec PyProof.Rows L2 SrtO Srt
section
variable {prog : Program} {w : World} {A : Around} {E : Value → Shared → Prop} {s : Shared}
/-- a list's, a tuple's items collected; what is new stands above -/
theorem collect_seqz {Q : List Value → Shared → Prop} (it : Addr) {T : String} {o : Obj} {items : Array Value} {n : Nat} (hT : T = "list" ∨ T = "tuple")
    (ho : s.heap.get? it = some o) (hc : o.cls = .type T) (hd : o.data = .seq items n)
    (hQ : ∀ (h' : Heap) (tk : Nat), (∀ b o', s.heap.get? b = some o' → h'.get? b = some o') → s.heap.objs.size ≤ h'.objs.size → Q items.toList { s with heap := h', toks := tk }) (hsz : items.size ≤ sizeLine) :
    wpAny (model prog w) A (collect (.ref it)) Q E s := by
  unfold collect
  refine wpAny_bind (wpAny_runValue (codeAny_builtin PySem.F.entry_proto_collect ?_))
  rw [Around.under_plainId PySem.F.plain_proto_collect _]
  show wpAny _ A.in1 (PySem.newList [] >>= fun l => again (.builtin "list.__iadd__" ⟨[l, .ref it], []⟩)) _ _ s
  refine wpAny_bind (wpAny_newObj_type ?_)
  refine wpAny_pure ⟨plainId_quiet PySem.F.plain_list_iadd _, codeAny_builtin PySem.F.entry_list_iadd ?_⟩
  rw [Around.under_plainId PySem.F.plain_list_iadd _]
  show wpAny _ A.in1 (Builtin.List.listExtendWith (.ref s.heap.objs.size) (.ref it) (.ref s.heap.objs.size)) _ _ _
  have hS : (s.heap.push { cls := .type "list", data := .seq ([] : List Value).toArray }).get? s.heap.objs.size = some { cls := .type "list", data := .seq #[] 0 } := Heap.get?_push_size _ rfl
  have hS₂ := Heap.get?_update_self (Obj.mapSeq (· ++ items)) hS rfl
  have fin' : wpAny (model prog w) A (match Value.ref s.heap.objs.size with
      | Value.ref a => do
        match (← load a).data with
          | Data.seq xs _ => pure xs.toList
          | _ => unsupported "internal:collect"
      | _ => unsupported "internal:collect") Q E { s with heap := (s.heap.push { cls := .type "list", data := .seq ([] : List Value).toArray }).update s.heap.objs.size (Obj.mapSeq (· ++ items)) } := by
    show wpAny _ _ (load s.heap.objs.size >>= _) _ _ _
    refine wpAny_bind (wpAny_load hS₂ ?_)
    refine wpAny_pure ?_
    have e : ((#[] : Array Value) ++ items).toList = items.toList := by simp
    show Q ((#[] : Array Value) ++ items).toList _
    rw [e]
    refine hQ _ s.toks (fun b o' hb => ?_) (Nat.le_of_lt (Heap.lt_size hS₂))
    exact (Heap.get?_update_other _ _ (Nat.ne_of_gt (Heap.lt_size hb))).trans (Heap.get?_push_of_some _ hb)
  refine wpAny_mono (wpAny_extend_seq (hsz := hsz) (A := A) (R := fun r s' => r = .ok (.ret (.ref s.heap.objs.size)) ∧ s' = { s with heap := (s.heap.push { cls := .type "list", data := .seq ([] : List Value).toArray }).update s.heap.objs.size (Obj.mapSeq (· ++ items)) })
    (s := { s with heap := s.heap.push { cls := .type "list", data := .seq ([] : List Value).toArray } }) _ it _ 0 hT hS (Heap.get?_push_of_some _ ho) hc hd ⟨rfl, rfl⟩) (fun fin s' h => ?_) (fun e s' h => ?_)
  · cases fin with
    | done f =>
      obtain ⟨e, rfl⟩ := h
      cases e
      exact fin'
    | again c' => exact ⟨h.1, codeAny_mono h.2 fun r s'' hr => by obtain ⟨rfl, rfl⟩ := hr; exact fin'⟩
  · exact absurd h.1 (by simp)
end
/-- sorted(src, key=f) -/
def seqD : D → Option (List D)
  | .list ds => some ds
  | .tuple ds => some ds
  | _ => none
noncomputable def pSortK (den : Den) (ds : List D) : FS → Res SV := fun S => match keysF den ds with
  | some ks => @ite _ (SortOk ks) (Classical.propDecidable _) (.ok (.own (.lst (sortK ks ds))) S) .bad
  | none => .bad
section
variable {X : Cx} {F : Fx} {e o : Expr} {i j k : Nat} {pos p kp np : Pos} {f : FS → Res D} {x : Str} {ps : List Str} {den : Den}
theorem sortK_post {K : Fg} {S : FS} {σ : Sl} {H : Hp} {Q : VK} {ds : List D} (r : Rel K F S σ H) (q : postG K F VR (pSortK den ds S) σ H Q) : ∃ ks, keysF den ds = some ks ∧ SortOk ks ∧
    ∀ ys p H2, PdAll K H2 ys (sortK ks ds) → Pers H H2 → (∀ b o, H b = some o → isTbl o = false → H2 b = some o) → (∀ b o, H b = some o → ∃ u, H2 b = some u) → (∀ P ∈ F.tabs, TabOk H2 P) → H p = none → H2 p = none → Q (.ref p) (upd H2 p (.lst ys)) := by
  unfold pSortK at q
  cases hk : keysF den ds with
  | none => rw [hk] at q; exact q.elim
  | some ks =>
    rw [hk] at q
    by_cases ok : SortOk ks
    · simp only [if_pos ok] at q
      refine ⟨ks, rfl, ok, fun ys p H2 hy per kp th ht hn hn2 => ?_⟩
      exact newList (r.stay per kp th ht) hy hn2 (postG.later (r := (Res.ok (SV.own (Ob.lst (sortK ks ds))) S : Res SV)) per q)
    · simp only [if_neg ok] at q; exact q.elim
end
end Fz
end

section
set_option Elab.async false
set_option linter.all false
set_option maxRecDepth 100000
set_option maxHeartbeats 4000000
/-! F39: isinstance(x, (A, B)). -/
namespace Fz
open PySem PySem.Spec PyProof.Rows L2
section
variable {X : Cx} {F : Fx} {p pos q q2 tpos : Pos}
end
end Fz
end

section
set_option Elab.async false
set_option linter.all false
set_option maxRecDepth 100000
set_option maxHeartbeats 4000000
/-! F40: a list of a slot is read for a while (frozen), then owned again. -/
namespace Fz
open PySem PySem.Spec PyProof.Rows L2
mutual
/-- no list within -/
def noL : PyData → Bool
  | .tuple ds => noLs ds
  | .list _ => false
  | .dict _ => false
  | _ => true
def noLs : List PyData → Bool
  | [] => true
  | d :: ds => noL d && noLs ds
end
def noLOb : Ob → Bool
  | .lst ds => noLs ds
  | .dic kvs => noLs (kvs.map (·.1)) && noLs (kvs.map (·.2))
def noLSv : Option SV → Bool
  | some (.own ob) => noLOb ob
  | some (.pin ob) => noLOb ob
  | _ => true
/-- all objects of slots are without lists -/
def noLS (S : FS) : Bool := S.all noLSv
section
variable {K : Fg} {H H' : Hp}
/-- tuples stay -/
def TupS (H H' : Hp) : Prop := ∀ a xs, Rd H a (.tup xs) → Rd H' a (.tup xs)
mutual
theorem Pd.noL (t : TupS H H') : ∀ {x : V} {d : D}, Fz.noL d = true → Pd K H x d → Pd K H' x d
  | _, _, _, .non => .non
  | _, _, _, .bl b => .bl b
  | _, _, _, .int i => .int i
  | _, _, _, .str x => .str x
  | _, _, n, .tup h r => .tup (by
      rcases h with h | h
      · exact .inl (t _ _ h)
      · exact .inr h) (PdAll.noLs t (by simpa only [Fz.noL] using n) r)
  | _, _, n, .lst _ _ => by simp [Fz.noL] at n
theorem PdAll.noLs (t : TupS H H') : ∀ {xs : List V} {ds : List D}, Fz.noLs ds = true → PdAll K H xs ds → PdAll K H' xs ds
  | _, _, _, .nil => .nil
  | _, _, n, .cons h r => by
    simp only [Fz.noLs, Bool.and_eq_true] at n
    exact .cons (Pd.noL t n.1 h) (PdAll.noLs t n.2 r)
end
theorem noLs_mem : ∀ {ds : List D}, noLs ds = true → ∀ d ∈ ds, noL d = true
  | [], _, d, h => nomatch h
  | e :: ds, n, d, h => by
    simp only [noLs, Bool.and_eq_true] at n
    rcases List.mem_cons.mp h with rfl | h
    · exact n.1
    · exact noLs_mem n.2 d h
theorem paired_memR {α β : Type} {R : α → β → Prop} {S : α → β → Prop} : ∀ {l : List α} {m : List β}, Paired R l m → (∀ x y, y ∈ m → R x y → S x y) → Paired S l m
  | _, _, .nil, _ => .nil
  | _, _, .cons h r, f => .cons (f _ _ (by simp) h) (paired_memR r fun x y hy => f x y (by simp [hy]))
theorem ObR.noL {w : World} {b : Addr} {ob : Ob} (t : TupS H H') (e : H' b = H b) (n : noLOb ob = true) (h : ObR K w H b ob) : ObR K w H' b ob := by
  cases ob with
  | lst ds => obtain ⟨vs, q, r⟩ := h; exact ⟨vs, e.trans q, r.noLs t n⟩
  | dic kvs =>
    simp only [noLOb, Bool.and_eq_true] at n
    have n1 : ∀ q ∈ kvs, Fz.noL q.1 = true := fun q hq => noLs_mem n.1 _ (List.mem_map_of_mem hq)
    have n2 : ∀ q ∈ kvs, Fz.noL q.2 = true := fun q hq => noLs_mem n.2 _ (List.mem_map_of_mem hq)
    rcases h with ⟨raw, q, r⟩ | ⟨raw, ne, q, r⟩
    · exact .inl ⟨raw, e.trans q, paired_memR r fun x y hy z => ⟨z.1, z.2.noL t (n2 y hy)⟩⟩
    · exact .inr ⟨raw, ne, e.trans q, paired_memR r fun x y hy z => ⟨z.1, z.2.1.noL t (n1 y hy), z.2.2.noL t (n2 y hy)⟩⟩
end
section
variable {X : Cx} {pins : List (Addr × Obj)} {σ : L2.St} {H : Hp} {s : Shared} {a : Addr} {o : Obj} {vs : List V}
/-- a frozen list is a list -/
theorem inv_thaw (I : Inv X pins σ H s) (h : H a = some (.frz o (.lst vs))) (h0 : ∀ o u, X.H_0 a ≠ some (.frz o u)) : Inv X pins σ (upd H a (.lst vs)) s := by
  have ne : ∀ b u, H b = some u → (∀ o, u ≠ .frz o (.lst vs)) → b ≠ a := fun b u e n z => by rw [z, h] at e; cases e; exact n o rfl
  have nn : ∀ b, H b = none → b ≠ a := fun b e z => by rw [z, h] at e; cases e
  obtain ⟨ok, os, bare, base, loc, cell, free, freeC, pin, hok, len⟩ := I
  refine ⟨ok, os, bare, ⟨base.keep, base.slot, fun b ob q n hx => ?_, base.there, fun b xs q => ?_, fun b ob u q => ?_, fun b ps q => ?_⟩, loc, cell, ?_, fun x c e => ?_, fun p hp => ?_, fun b u e => ?_, len⟩
  · have := base.free b ob q n hx
    rw [upd_ne (nn b this)]; exact this
  · have := base.tups b xs q
    rw [upd_ne (ne b _ this fun _ z => nomatch z)]; exact this
  · have := base.frzs b ob u q
    rw [upd_ne]; exact this
    intro z
    rw [z] at q
    exact h0 _ _ q
  · obtain ⟨more, this⟩ := base.tbls b ps q
    exact ⟨more, by rw [upd_ne (ne b _ this fun _ z => nomatch z)]; exact this⟩
  · rw [upd_ne (nn _ free)]; exact free
  · rw [upd_ne (nn _ (freeC x c e))]; exact freeC x c e
  · obtain ⟨h1, h2, h3⟩ := pin p hp
    exact ⟨h1, by rw [upd_ne (nn _ h2)]; exact h2, h3⟩
  · by_cases hb : b = a
    · subst hb
      rw [upd_same] at e
      cases e
      exact (show ObjOk X.prog X.w H s.heap b (.frz o (.lst vs)) from hok b _ h).2
    · rw [upd_ne hb] at e
      refine (hok b u e).stay (fun c v _ q => q) (fun c q => ?_) fun c xs q => ?_
      · rw [upd_ne (ne c _ q fun _ z => nomatch z)]; exact q
      · rw [upd_ne (ne c _ q fun _ z => nomatch z)]; exact q
theorem tupS_thaw (h : H a = some (.frz o (.lst vs))) : TupS H (upd H a (.lst vs)) := fun b xs q => by
  rcases q with q | ⟨ob, q⟩
  · left; rw [upd_ne]; exact q
    intro z; rw [z, h] at q; cases q
  · right; refine ⟨ob, ?_⟩; rw [upd_ne]; exact q
    intro z; rw [z, h] at q; cases q
end
section
variable {X : Cx} {F : Fx} {e : Expr} {i : Nat}
end
end Fz
end

section
set_option Elab.async false
set_option linter.all false
set_option maxRecDepth 100000
set_option maxHeartbeats 4000000
/-! F23: loops over typed lists; pure comprehensions; more weakest preconditions. -/
namespace Fz
open PySem L2
section
variable {α : Type} {S : FS} {N : FS → Prop} {R : SV → FS → Prop} {B C : FS → Prop} {f : α → D} {xs : List α}
/-- .. with what went before, too -/
theorem wS_forP {g : D → FS → Option FS} {b : FS → SRes} (I : List α → List α → FS → Prop) (h0 : I [] xs S) (step : ∀ p x r S, xs = p ++ x :: r → I p (x :: r) S → wO (g (f x) S) fun S1 => wS (b S1) (I (p ++ [x]) r) R N (I (p ++ [x]) r)) (hN : ∀ S, I xs [] S → N S) : wS (forF g b (xs.map f) S) N R B C := by
  refine wS_forF (fun i S => i ≤ xs.length ∧ I (xs.take i) (xs.drop i) S) ⟨Nat.zero_le _, h0⟩ ?_ ?_
  · intro i d S hd ⟨_, h⟩
    rw [List.getElem?_map] at hd
    obtain ⟨x, hx, rfl⟩ := Option.map_eq_some_iff.mp hd
    obtain ⟨h1, h2⟩ := List.getElem?_eq_some_iff.mp hx
    have e1 : xs.drop i = x :: xs.drop (i + 1) := by rw [List.drop_eq_getElem_cons h1, h2]
    have e2 : xs.take (i + 1) = xs.take i ++ [x] := by rw [List.take_add_one, hx]; rfl
    rw [e1] at h
    have st := step (xs.take i) x _ S (by rw [← e1, List.take_append_drop]) h
    rw [← e2] at st
    cases hg : g (f x) S with
    | none => rw [hg] at st; exact st.elim
    | some S1 =>
      rw [hg] at st
      exact wS.imp (r := b S1) st (fun S z => ⟨h1, z⟩) (fun _ _ z => z) (fun _ z => z) (fun S z => ⟨h1, z⟩)
  · intro S ⟨_, h⟩
    rw [List.length_map, List.drop_length, List.take_length] at h
    exact hN S h
theorem lc_w {g : D → FS → Option FS} {t : FS → Res Bool} {fe : FS → Res D} {vs : List Nat} {Q : SV → FS → Prop} (q : α → Bool) (h : α → D) (I : FS → Prop) (h0 : I S) (hl : xs.length ≤ 16000000)
    (step : ∀ x, x ∈ xs → ∀ S, I S → wO (g (f x) (wipeS S vs)) fun S1 => wE (t S1) fun k S2 => k = q x ∧ (k = false → I (restS S S2 vs)) ∧ (k = true → wE (fe S2) fun y S3 => y = h x ∧ I (restS S S3 vs)))
    (hQ : ∀ S, I S → Q (.own (.lst ((xs.filter q).map h))) S) : wE (lcF g t fe vs (xs.map f) S []) Q := by
  refine wE_lcF (fun i acc S => I S ∧ i ≤ xs.length ∧ acc = ((xs.take i).filter q).map h) ⟨h0, Nat.zero_le _, by simp⟩ ?_ ?_
  · rintro i d acc S hd ⟨hI, hi, rfl⟩
    rw [List.getElem?_map] at hd
    obtain ⟨x, hx, rfl⟩ := Option.map_eq_some_iff.mp hd
    obtain ⟨h1, h2⟩ := List.getElem?_eq_some_iff.mp hx
    have hm : x ∈ xs := List.mem_of_getElem? hx
    have st := step x hm S hI
    cases hg : g (f x) (wipeS S vs) with
    | none => rw [hg] at st; exact st.elim
    | some S1 =>
      rw [hg] at st
      have st : wE (t S1) _ := st
      rw [wO_some]
      have e2 : xs.take (i + 1) = xs.take i ++ [x] := by rw [List.take_add_one, hx]; rfl
      refine st.mono ?_
      rintro k S2 ⟨rfl, s1, s2⟩
      refine ⟨fun e => ⟨s1 e, h1, ?_⟩, fun e => ?_⟩
      · rw [e2]; simp [e]
      · refine (s2 e).mono ?_
        rintro y S3 ⟨rfl, s3⟩
        refine ⟨szS ?_, s3, h1, ?_⟩
        · rw [List.length_map]
          have a := List.length_filter_le q (xs.take i)
          rw [List.length_take] at a
          omega
        · rw [e2]; simp [e]
  · rintro acc S ⟨hI, _, rfl⟩
    rw [List.length_map, List.take_length]
    exact hQ S hI
end
section
variable {S : FS} {Q : D → FS → Prop} {QV : SV → FS → Prop} {d e : D}
theorem inR_iff {k : Int} : inR k ↔ (-4611686018427387904 ≤ k ∧ k < 4611686018427387904) := by
  unfold inR
  rw [show (2 : Int) ^ 62 = 4611686018427387904 from by decide]
end
@[simp] theorem eqv_tt {a b : D} {as bs : List D} : PyData.eqv (.tuple (a :: as)) (.tuple (b :: bs)) = (PyData.eqv a b && PyData.eqv (.tuple as) (.tuple bs)) := by simp only [PyData.eqv, PyData.eqvAll]
@[simp] theorem eqv_tn {b : D} {bs : List D} : PyData.eqv (.tuple []) (.tuple (b :: bs)) = false := by simp only [PyData.eqv, PyData.eqvAll]
@[simp] theorem eqv_tn2 {b : D} {bs : List D} : PyData.eqv (.tuple (b :: bs)) (.tuple []) = false := by simp only [PyData.eqv, PyData.eqvAll]
@[simp] theorem eqv_tnn : PyData.eqv (.tuple []) (.tuple []) = true := by simp only [PyData.eqv, PyData.eqvAll]
@[simp] theorem eqv_ll {a b : D} {as bs : List D} : PyData.eqv (.list (a :: as)) (.list (b :: bs)) = (PyData.eqv a b && PyData.eqv (.list as) (.list bs)) := by simp only [PyData.eqv, PyData.eqvAll]
@[simp] theorem eqv_ln {b : D} {bs : List D} : PyData.eqv (.list []) (.list (b :: bs)) = false := by simp only [PyData.eqv, PyData.eqvAll]
@[simp] theorem eqv_x_none_bool {b1 : Bool} : PyData.eqv .none (.bool b1) = false := by simp only [PyData.eqv]
@[simp] theorem eqv_x_none_int {i1 : Int} : PyData.eqv .none (.int i1) = false := by simp only [PyData.eqv]
@[simp] theorem eqv_x_none_str {s1 : Str} : PyData.eqv .none (.str s1) = false := by simp only [PyData.eqv]
@[simp] theorem eqv_x_none_tuple {t1 : List D} : PyData.eqv .none (.tuple t1) = false := by simp only [PyData.eqv]
@[simp] theorem eqv_x_none_list {l1 : List D} : PyData.eqv .none (.list l1) = false := by simp only [PyData.eqv]
@[simp] theorem eqv_x_none_W {w1 : List Int} : PyData.eqv .none (W w1) = false := by unfold W; simp only [PyData.eqv]
@[simp] theorem eqv_x_bool_none {b1 : Bool} : PyData.eqv (.bool b1) .none = false := by simp only [PyData.eqv]
@[simp] theorem eqv_x_bool_str {b1 : Bool} {s1 : Str} : PyData.eqv (.bool b1) (.str s1) = false := by simp only [PyData.eqv]
@[simp] theorem eqv_x_bool_tuple {b1 : Bool} {t1 : List D} : PyData.eqv (.bool b1) (.tuple t1) = false := by simp only [PyData.eqv]
@[simp] theorem eqv_x_bool_list {b1 : Bool} {l1 : List D} : PyData.eqv (.bool b1) (.list l1) = false := by simp only [PyData.eqv]
@[simp] theorem eqv_x_bool_W {b1 : Bool} {w1 : List Int} : PyData.eqv (.bool b1) (W w1) = false := by unfold W; simp only [PyData.eqv]
@[simp] theorem eqv_x_int_none {i1 : Int} : PyData.eqv (.int i1) .none = false := by simp only [PyData.eqv]
@[simp] theorem eqv_x_int_str {i1 : Int} {s1 : Str} : PyData.eqv (.int i1) (.str s1) = false := by simp only [PyData.eqv]
@[simp] theorem eqv_x_int_tuple {i1 : Int} {t1 : List D} : PyData.eqv (.int i1) (.tuple t1) = false := by simp only [PyData.eqv]
@[simp] theorem eqv_x_int_list {i1 : Int} {l1 : List D} : PyData.eqv (.int i1) (.list l1) = false := by simp only [PyData.eqv]
@[simp] theorem eqv_x_int_W {i1 : Int} {w1 : List Int} : PyData.eqv (.int i1) (W w1) = false := by unfold W; simp only [PyData.eqv]
@[simp] theorem eqv_x_str_none {s1 : Str} : PyData.eqv (.str s1) .none = false := by simp only [PyData.eqv]
@[simp] theorem eqv_x_str_bool {s1 : Str} {b1 : Bool} : PyData.eqv (.str s1) (.bool b1) = false := by simp only [PyData.eqv]
@[simp] theorem eqv_x_str_int {s1 : Str} {i1 : Int} : PyData.eqv (.str s1) (.int i1) = false := by simp only [PyData.eqv]
@[simp] theorem eqv_x_str_tuple {s1 : Str} {t1 : List D} : PyData.eqv (.str s1) (.tuple t1) = false := by simp only [PyData.eqv]
@[simp] theorem eqv_x_str_list {s1 : Str} {l1 : List D} : PyData.eqv (.str s1) (.list l1) = false := by simp only [PyData.eqv]
@[simp] theorem eqv_x_str_W {s1 : Str} {w1 : List Int} : PyData.eqv (.str s1) (W w1) = false := by unfold W; simp only [PyData.eqv]
@[simp] theorem eqv_x_tuple_none {t1 : List D} : PyData.eqv (.tuple t1) .none = false := by simp only [PyData.eqv]
@[simp] theorem eqv_x_tuple_bool {t1 : List D} {b1 : Bool} : PyData.eqv (.tuple t1) (.bool b1) = false := by simp only [PyData.eqv]
@[simp] theorem eqv_x_tuple_int {t1 : List D} {i1 : Int} : PyData.eqv (.tuple t1) (.int i1) = false := by simp only [PyData.eqv]
@[simp] theorem eqv_x_tuple_str {t1 : List D} {s1 : Str} : PyData.eqv (.tuple t1) (.str s1) = false := by simp only [PyData.eqv]
@[simp] theorem eqv_x_tuple_list {t1 : List D} {l1 : List D} : PyData.eqv (.tuple t1) (.list l1) = false := by simp only [PyData.eqv]
@[simp] theorem eqv_x_list_none {l1 : List D} : PyData.eqv (.list l1) .none = false := by simp only [PyData.eqv]
@[simp] theorem eqv_x_list_bool {l1 : List D} {b1 : Bool} : PyData.eqv (.list l1) (.bool b1) = false := by simp only [PyData.eqv]
@[simp] theorem eqv_x_list_int {l1 : List D} {i1 : Int} : PyData.eqv (.list l1) (.int i1) = false := by simp only [PyData.eqv]
@[simp] theorem eqv_x_list_str {l1 : List D} {s1 : Str} : PyData.eqv (.list l1) (.str s1) = false := by simp only [PyData.eqv]
@[simp] theorem eqv_x_list_tuple {l1 : List D} {t1 : List D} : PyData.eqv (.list l1) (.tuple t1) = false := by simp only [PyData.eqv]
@[simp] theorem eqv_x_list_W {l1 : List D} {w1 : List Int} : PyData.eqv (.list l1) (W w1) = false := by unfold W; simp only [PyData.eqv]
@[simp] theorem eqv_x_W_none {w1 : List Int} : PyData.eqv (W w1) .none = false := by unfold W; simp only [PyData.eqv]
@[simp] theorem eqv_x_W_bool {w1 : List Int} {b1 : Bool} : PyData.eqv (W w1) (.bool b1) = false := by unfold W; simp only [PyData.eqv]
@[simp] theorem eqv_x_W_int {w1 : List Int} {i1 : Int} : PyData.eqv (W w1) (.int i1) = false := by unfold W; simp only [PyData.eqv]
@[simp] theorem eqv_x_W_str {w1 : List Int} {s1 : Str} : PyData.eqv (W w1) (.str s1) = false := by unfold W; simp only [PyData.eqv]
@[simp] theorem eqv_x_W_list {w1 : List Int} {l1 : List D} : PyData.eqv (W w1) (.list l1) = false := by unfold W; simp only [PyData.eqv]
@[simp] theorem all_tt {α : Type} {xs : List α} : (xs.all fun _ => true) = true := by simp
@[simp] theorem any_ff {α : Type} {xs : List α} : (xs.any fun _ => false) = false := by simp
@[simp] theorem cutL_1 {α : Type} {xs : List α} : cutL xs (some 1) none = xs.drop 1 := cutL_drop xs 1
@[simp] theorem cutL_2 {α : Type} {xs : List α} : cutL xs (some 2) none = xs.drop 2 := cutL_drop xs 2
@[simp] theorem cutL_t1 {α : Type} {xs : List α} : cutL xs none (some 1) = xs.take 1 := cutL_take xs 1
@[simp] theorem cutL_t2 {α : Type} {xs : List α} : cutL xs none (some 2) = xs.take 2 := cutL_take xs 2
@[simp] theorem cutL_last {α : Type} {xs : List α} : cutL xs none (some (-1)) = xs.dropLast := by
  unfold cutL
  rw [HT.sIx_none, List.dropLast_eq_take]
  have : HT.sIx xs.length xs.length (some (-1)) = xs.length - 1 := by
    show (if (-1 : Int) < 0 then ((-1 : Int) + (xs.length : Int)).toNat else min (-1 : Int).toNat xs.length) = _
    rw [if_pos (by decide)]; omega
  rw [this, List.drop_zero, Nat.sub_zero]
@[simp] theorem atI_snoc {α : Type} {xs : List α} {x : α} : atI (xs ++ [x]) (-1) = some x := by
  rw [atI_last (by simp)]; simp
@[simp] theorem atI_nil {α : Type} {i : Int} : atI ([] : List α) i = none := by
  unfold atI; cases ixN 0 i <;> simp
@[simp] theorem nle0 {n : Nat} : ((n : Int) + 1 ≤ 0) = False := eq_false (by omega)
@[simp] theorem nlt0 {n : Nat} : (0 < (n : Int) + 1) = True := eq_true (by omega)
@[simp] theorem nne0 {n : Nat} : ((n : Int) + 1 = 0) = False := eq_false (by omega)
@[simp] theorem nnl {n : Nat} : ((n : Int) < 0) = False := eq_false (by omega)
@[simp] theorem szl_1 : (1 ≤ sizeLine) = True := eq_true (szL (by decide))
@[simp] theorem szl_2 : (2 ≤ sizeLine) = True := eq_true (szL (by decide))
@[simp] theorem szl_3 : (3 ≤ sizeLine) = True := eq_true (szL (by decide))
@[simp] theorem szl_4 : (4 ≤ sizeLine) = True := eq_true (szL (by decide))
@[simp] theorem szl_5 : (5 ≤ sizeLine) = True := eq_true (szL (by decide))
@[simp] theorem szl_6 : (6 ≤ sizeLine) = True := eq_true (szL (by decide))
@[simp] theorem szl_7 : (7 ≤ sizeLine) = True := eq_true (szL (by decide))
@[simp] theorem szl_8 : (8 ≤ sizeLine) = True := eq_true (szL (by decide))
@[simp] theorem szl_9 : (9 ≤ sizeLine) = True := eq_true (szL (by decide))
@[simp] theorem szl_10 : (10 ≤ sizeLine) = True := eq_true (szL (by decide))
@[simp] theorem szl_11 : (11 ≤ sizeLine) = True := eq_true (szL (by decide))
@[simp] theorem szl_12 : (12 ≤ sizeLine) = True := eq_true (szL (by decide))
@[simp] theorem szl_13 : (13 ≤ sizeLine) = True := eq_true (szL (by decide))
@[simp] theorem szl_14 : (14 ≤ sizeLine) = True := eq_true (szL (by decide))
@[simp] theorem szl_15 : (15 ≤ sizeLine) = True := eq_true (szL (by decide))
@[simp] theorem szl_16 : (16 ≤ sizeLine) = True := eq_true (szL (by decide))
@[simp] theorem szl_17 : (17 ≤ sizeLine) = True := eq_true (szL (by decide))
@[simp] theorem szl_18 : (18 ≤ sizeLine) = True := eq_true (szL (by decide))
@[simp] theorem szl_19 : (19 ≤ sizeLine) = True := eq_true (szL (by decide))
@[simp] theorem szl_20 : (20 ≤ sizeLine) = True := eq_true (szL (by decide))
@[simp] theorem szl_21 : (21 ≤ sizeLine) = True := eq_true (szL (by decide))
@[simp] theorem szl_22 : (22 ≤ sizeLine) = True := eq_true (szL (by decide))
@[simp] theorem szl_23 : (23 ≤ sizeLine) = True := eq_true (szL (by decide))
@[simp] theorem szl_24 : (24 ≤ sizeLine) = True := eq_true (szL (by decide))
@[simp] theorem szl_25 : (25 ≤ sizeLine) = True := eq_true (szL (by decide))
@[simp] theorem szl_26 : (26 ≤ sizeLine) = True := eq_true (szL (by decide))
@[simp] theorem szl_27 : (27 ≤ sizeLine) = True := eq_true (szL (by decide))
@[simp] theorem szl_28 : (28 ≤ sizeLine) = True := eq_true (szL (by decide))
@[simp] theorem szl_29 : (29 ≤ sizeLine) = True := eq_true (szL (by decide))
@[simp] theorem szl_30 : (30 ≤ sizeLine) = True := eq_true (szL (by decide))
@[simp] theorem filter_tt {α : Type} {xs : List α} : (xs.filter fun _ => true) = xs := by simp
theorem rng0 {n : Nat} : rngD 0 n = (List.range n).map fun i : Nat => PyData.int (i : Int) := by
  unfold rngD
  refine List.map_congr_left fun i _ => ?_
  simp
@[simp] theorem wE_pToInt_b {S : FS} {Q : D → FS → Prop} {b : Bool} : wE (pToInt (.bool b) S) Q = Q (.int (if b = true then 1 else 0)) S := rfl
theorem range_at {n x : Nat} {p r : List Nat} (e : List.range n = p ++ x :: r) : x = p.length ∧ p.length < n := by
  have e1 := congrArg (fun l => l[p.length]?) e
  have e2 := congrArg List.length e
  simp at e1 e2
  have : p.length < n := by omega
  rw [List.getElem?_range this] at e1
  exact ⟨by simpa using e1.symm, this⟩
section
variable {S : FS} {QV : SV → FS → Prop} {N : FS → Prop} {R : SV → FS → Prop} {B C : FS → Prop} {f : FS → Res D} {xs ys : List D} {k : Int} {i j : Int}
@[simp] theorem wE_pMulG_i : wE (pMulG (.int i) (.int j) S) QV = (CMulW i j ∧ QV (.d (.int (i * j))) S) := by
  unfold pMulG; simp only
  by_cases h : CMulW i j
  · rw [if_pos h]; simp only [wE_ok, h, true_and]
  · rw [if_neg h]; simp only [wE_bad, h, false_and]
@[simp] theorem wE_pMulG_l : wE (pMulG (.list xs) (.int k) S) QV = (((-4611686018427387904 ≤ k ∧ k < 4611686018427387904) ∧ xs.length * k.toNat ≤ sizeLine) ∧ QV (.own (.lst (List.replicate k.toNat xs).flatten)) S) := by
  rw [← inR_iff]
  unfold pMulG; simp only
  by_cases h : inR k ∧ xs.length * k.toNat ≤ sizeLine
  · rw [if_pos h]; simp only [wE_ok, h, true_and, and_self]
  · rw [if_neg h]; simp only [wE_bad, h, false_and]
@[simp] theorem wE_pMulG_t : wE (pMulG (.tuple xs) (.int k) S) QV = (((-4611686018427387904 ≤ k ∧ k < 4611686018427387904) ∧ xs.length * k.toNat ≤ sizeLine) ∧ QV (.d (.tuple (List.replicate k.toNat xs).flatten)) S) := by
  rw [← inR_iff]
  unfold pMulG; simp only
  by_cases h : inR k ∧ xs.length * k.toNat ≤ sizeLine
  · rw [if_pos h]; simp only [wE_ok, h, true_and, and_self]
  · rw [if_neg h]; simp only [wE_bad, h, false_and]
@[simp] theorem wE_pMulG_W {w : List Int} : wE (pMulG (W w) (.int k) S) QV = (((-4611686018427387904 ≤ k ∧ k < 4611686018427387904) ∧ w.length * k.toNat ≤ sizeLine) ∧ QV (.d (W (List.replicate k.toNat w).flatten)) S) := by
  unfold W
  rw [wE_pMulG_t, List.length_map]
  have : (List.replicate k.toNat (w.map PyData.int)).flatten = (List.replicate k.toNat w).flatten.map PyData.int := by
    rw [List.map_flatten, List.map_replicate]
  rw [this]
end
section
variable {S : FS} {QV : SV → FS → Prop} {fa : FS → Res D} {xs : List D}
end
end Fz
end

section
set_option Elab.async false
set_option linter.all false
set_option maxRecDepth 100000
set_option maxHeartbeats 4000000
/-! F41: weakest preconditions of dicts, keyed sorts, thaws. -/
namespace Fz
open PySem L2
def dcO : Option (Option SV) → Option (List (D × D))
  | some (some (.own (.dic kvs))) => some kvs
  | some (some (.pin (.dic kvs))) => some kvs
  | _ => none
@[simp] theorem dcO_own {kvs : List (D × D)} : dcO (some (some (.own (.dic kvs)))) = some kvs := rfl
@[simp] theorem dcO_pin {kvs : List (D × D)} : dcO (some (some (.pin (.dic kvs)))) = some kvs := rfl
def dcR : Option (Option SV) → Option (List (D × D))
  | some (some (.own (.dic kvs))) => some kvs
  | some (some (.pin (.dic kvs))) => some kvs
  | some (some (.x (.ro (.dic kvs)))) => some kvs
  | _ => none
@[simp] theorem dcR_own {kvs : List (D × D)} : dcR (some (some (.own (.dic kvs)))) = some kvs := rfl
@[simp] theorem dcR_pin {kvs : List (D × D)} : dcR (some (some (.pin (.dic kvs)))) = some kvs := rfl
@[simp] theorem dcR_ro {kvs : List (D × D)} : dcR (some (some (.x (.ro (.dic kvs))))) = some kvs := rfl
@[simp] theorem dicRd_eq {S : FS} {i : Nat} : dicRd S i = dcR S[i]? := by
  unfold dicRd dcR
  rfl
@[simp] theorem dicAt_eq {S : FS} {i : Nat} : dicAt S i = dcO S[i]? := by
  unfold dicAt dcO
  rfl
section
variable {S : FS} {Q : D → FS → Prop} {QV : SV → FS → Prop} {N B C : FS → Prop} {R : SV → FS → Prop} {f fe fk fx : FS → Res D} {i : Nat} {den : Den}
@[simp] theorem wE_fDNew : wE (fDNew S) QV = QV (.own (.dic [])) S := rfl
theorem wE_wDic {α : Type} {k : List (D × D) → FS → Res α} {Q : α → FS → Prop} : wE (wDic i k S) Q = wO (dcR S[i]?) fun kvs => wE (k kvs S) Q := by
  unfold wDic
  rw [dicRd_eq]
  cases dcR S[i]? <;> rfl
theorem wS_wDicS {k : List (D × D) → FS → SRes} : wS (wDicS i k S) N R B C = wO (dcO S[i]?) fun kvs => wS (k kvs S) N R B C := by
  unfold wDicS
  rw [dicAt_eq]
  cases dcO S[i]? <;> rfl
@[simp] theorem wE_fDIx : wE (fDIx i f S) Q = wO (dcR S[i]?) fun _ => wE (f S) fun k S1 => wO (dcR S1[i]?) fun kvs => kOk kvs k = true ∧ wO (dAt kvs k) fun v => Q v S1 := by
  unfold fDIx
  rw [wE_wDic]
  congr 1; funext kvs0
  rw [wE_bnd]
  congr 1; funext k S1
  rw [wE_wDic]
  congr 1; funext kvs
  cases kOk kvs k <;> cases dAt kvs k <;> simp
@[simp] theorem wE_fDIn {b : Bool} : wE (fDIn b i f S) Q = wE (f S) fun k S1 => wO (dcR S1[i]?) fun kvs => kOk kvs k = true ∧ Q (.bool (xor (!b) (dHas kvs k))) S1 := by
  unfold fDIn
  rw [wE_bnd]
  congr 1; funext k S1
  rw [wE_wDic]
  congr 1; funext kvs
  cases kOk kvs k <;> simp
@[simp] theorem wS_fDPut : wS (fDPut i fe fk S) N R B C = wE (fe S) fun v S1 => wO (dcO S1[i]?) fun _ => wE (fk S1) fun k S2 => wO (dcO S2[i]?) fun kvs => kOk kvs k = true ∧ kvs.length < sizeLine ∧ N (S2.set i (some (mkO S2[i]? (.dic (dPut kvs k v))))) := by
  unfold fDPut
  rw [wS_bndS]
  congr 1; funext v S1
  rw [wS_wDicS]
  congr 1; funext kvs0
  rw [wS_bndS]
  congr 1; funext k S2
  rw [wS_wDicS]
  congr 1; funext kvs
  rw [← setOb_eq]
  by_cases h : kvs.length < sizeLine
  · cases kOk kvs k <;> simp [h]
  · cases kOk kvs k <;> simp [h]
@[simp] theorem wE_fKeys : wE (fKeys i S) QV = wO (dcR S[i]?) fun kvs => QV (.own (.lst (kvs.map (·.1)))) S := by
  unfold fKeys
  rw [wE_wDic]
  rfl
@[simp] theorem wE_fSortDic : wE (fSortDic i S) QV = wO (dcR S[i]?) fun kvs => SortOk (kvs.map (·.1)) ∧ QV (.own (.lst (sortD (kvs.map (·.1))))) S := by
  unfold fSortDic
  rw [wE_wDic]
  congr 1; funext kvs
  by_cases h : SortOk (kvs.map (·.1))
  · rw [if_pos h]; simp [h]
  · rw [if_neg h]; simp [h]
@[simp] theorem seqD_l {ds : List D} : seqD (.list ds) = some ds := rfl
@[simp] theorem seqD_t {ds : List D} : seqD (.tuple ds) = some ds := rfl
end
/-! keys that are words -/
theorem nks_ints : ∀ xs : List Int, nks (xs.map .int) = some (xs.map .num)
  | [] => rfl
  | x :: xs => by simp only [List.map_cons, nks, nk, nks_ints xs]
@[simp] theorem nk_W {xs : List Int} : nk (W xs) = some (.tup (xs.map .num)) := by
  unfold W
  simp only [nk, nks_ints, Option.map_some]
theorem depthAll_ints : ∀ xs : List Int, NestedKey.depthAll (xs.map .num) = 0
  | [] => rfl
  | x :: xs => by simp only [List.map_cons, NestedKey.depthAll, NestedKey.depth, depthAll_ints xs]; rfl
@[simp] theorem tk_W {xs : List Int} : tk (W xs) = some (.tup (xs.map .num)) := by
  have := nk_W (xs := xs)
  unfold W at this ⊢
  show (match nk (PyData.tuple (xs.map .int)) with | some k => if k.depth ≤ 8 then some k else none | none => none) = _
  rw [this]
  simp [NestedKey.depth, depthAll_ints]
@[simp] theorem fk_W {xs : List Int} : fk (W xs) = none := rfl
theorem nums_inj : ∀ {xs ys : List Int}, xs.map NestedKey.num = ys.map NestedKey.num → xs = ys
  | [], [], _ => rfl
  | x :: xs, y :: ys, h => by
    simp only [List.map_cons, List.cons.injEq, NestedKey.num.injEq] at h
    rw [h.1, nums_inj h.2]
  | [], _ :: _, h => by simp at h
  | _ :: _, [], h => by simp at h
theorem nkW_iff {xs ys : List Int} : nk (W xs) = nk (W ys) ↔ xs = ys := by
  rw [nk_W, nk_W]
  constructor
  · intro h
    injection h with h
    injection h with h
    exact nums_inj h
  · intro h; rw [h]
/-- a dict whose keys are words -/
def KW {α : Type} (g : α → D) (l : List (List Int × α)) : List (D × D) := l.map fun p => (W p.1, g p.2)
theorem kOk_KW {α : Type} {g : α → D} {l : List (List Int × α)} {w : List Int} : kOk (KW g l) (W w) = true := by
  unfold kOk KW
  simp
def aAt {α : Type} (l : List (List Int × α)) (w : List Int) : Option α := (l.find? fun p => decide (p.1 = w)).map (·.2)
def aPut {α : Type} (l : List (List Int × α)) (w : List Int) (v : α) : List (List Int × α) := if (aAt l w).isSome then l.map (fun p => if p.1 = w then (p.1, v) else p) else l ++ [(w, v)]
theorem dAt_KW {α : Type} {g : α → D} {w : List Int} : ∀ {l : List (List Int × α)}, dAt (KW g l) (W w) = (aAt l w).map g
  | [] => rfl
  | p :: l => by
    have ih := dAt_KW (g := g) (w := w) (l := l)
    unfold dAt aAt KW at ih ⊢
    by_cases h : p.1 = w
    · simp [List.find?_cons, h]
    · have h2 : ¬ (nk (W p.1) = nk (W w)) := fun z => h (nkW_iff.mp z)
      simp only [List.map_cons, List.find?_cons, h2, h, decide_false]
      exact ih
theorem dPut_KW {α : Type} {g : α → D} {w : List Int} {v : α} {l : List (List Int × α)} : dPut (KW g l) (W w) (g v) = KW g (aPut l w v) := by
  unfold dPut aPut dHas
  rw [dAt_KW, Option.isSome_map]
  split
  · unfold KW
    rw [List.map_map, List.map_map]
    refine List.map_congr_left fun p _ => ?_
    simp only [Function.comp, dPutF]
    by_cases h : p.1 = w
    · rw [if_pos h, if_pos (nkW_iff.mpr h)]
    · rw [if_neg h, if_neg fun z => h (nkW_iff.mp z)]
  · simp [KW]
@[simp] theorem KW_len {α : Type} {g : α → D} {l : List (List Int × α)} : (KW g l).length = l.length := by simp [KW]
end Fz
end

section
set_option Elab.async false
set_option linter.all false
set_option maxRecDepth 100000
set_option maxHeartbeats 4000000
/-! F42: own objects moved out of their slots. -/
namespace Fz
open PySem PySem.Spec PyProof.Rows L2
theorem Rel.forget {K : Fg} {F : Fx} {S : FS} {σ : Sl} {H : Hp} (r : Rel K F S σ H) (i : Nat) : Rel K F (S.set i none) σ H := by
  have own : ∀ j, Owned (S.set i none) j → j ≠ i ∧ Owned S j := fun j ⟨ob, h⟩ => by
    by_cases hj : j = i
    · subst hj
      by_cases hl : j < S.length
      · rw [List.getElem?_set_self hl] at h
        rcases h with h | h <;> cases h
      · have q : (S.set j none)[j]? = none := List.getElem?_eq_none (by rw [List.length_set]; omega)
        rw [q] at h
        rcases h with h | h <;> cases h
    · rw [List.getElem?_set_ne (Ne.symm hj)] at h; exact ⟨hj, ob, h⟩
  refine ⟨by rw [List.length_set]; exact r.len, fun j sv e => ?_, fun j k a ne hj hk => r.apart j k a ne (own j hj).2 (own k hk).2, r.keep, r.there, r.tabs, r.self, fun p hp => ⟨(r.held p hp).1, (r.held p hp).2.1, fun j hj => (r.held p hp).2.2 j (own j hj).2⟩⟩
  by_cases hj : j = i
  · subst hj
    by_cases hl : j < S.length
    · rw [List.getElem?_set_self hl] at e; cases e
    · rw [List.getElem?_eq_none (by rw [List.length_set]; omega)] at e; cases e
  · rw [List.getElem?_set_ne (Ne.symm hj)] at e
    exact r.slot j sv e
/-- an own object, moved out -/
def fMove (i : Nat) : FS → Res SV := fun S => match S[i]? with
  | some (some (.own ob)) => .ok (.own ob) (S.set i none)
  | some (some (.d d)) => .ok (.d d) S
  | _ => .bad
section
variable {X : Cx} {F : Fx} {e : Expr} {i : Nat}
theorem e_move (h : PE X e (tVar i)) : EV X F e (fMove i) := by
  refine ⟨fun pins s σ H Q I ⟨S, r, p⟩ => ?_⟩
  unfold fMove at p
  split at p
  · rename_i ob hs
    obtain ⟨x, ex, a, rfl, q, n⟩ := r.slot i _ hs
    have oi : Owned S i := ⟨ob, .inl hs⟩
    refine h.run pins s σ H Q I ⟨_, ex, p _ H (.refl H) (r.forget i) ⟨a, rfl, q, n, fun j hj hx => ?_, fun z hz e => (r.held z hz).2.2 i oi (by rw [e]; exact ex)⟩⟩
    have hne : j ≠ i := fun z => by
      subst z
      obtain ⟨ob2, hj⟩ := hj
      have hl : j < S.length := (List.getElem?_eq_some_iff.mp hs).1
      rw [List.getElem?_set_self hl] at hj
      rcases hj with hj | hj <;> cases hj
    obtain ⟨ob2, hj⟩ := hj
    rw [List.getElem?_set_ne (Ne.symm hne)] at hj
    exact r.apart j i a hne ⟨ob2, hj⟩ oi hx ex
  · rename_i d hs
    obtain ⟨x, ex, v⟩ := r.slot i _ hs
    exact h.run pins s σ H Q I ⟨_, ex, p.ok r v⟩
  · exact p.elim
end
section
variable {X : Cx} {F : Fx} {e : Expr} {i j k : Nat} {pos p kp np : Pos} {f : FS → Res SV} {x : Str} {ps : List Str} {den : Den}
end
end Fz
end

section
set_option Elab.async false
set_option linter.all false
set_option maxRecDepth 100000
set_option maxHeartbeats 4000000
/-! F43: thaws, where other lists of slots may be frozen for good on the way. -/
namespace Fz
open PySem PySem.Spec PyProof.Rows L2
/-- S' is S but for lists that have been frozen -/
def frzd : FS → FS → Prop
  | [], [] => True
  | a :: S, b :: S' => (b = a ∨ ∃ es, a = some (.own (.lst es)) ∧ b = some (.d (.list es)) ∧ noLs es = true) ∧ frzd S S'
  | _, _ => False
theorem frzd_len : ∀ {S S' : FS}, frzd S S' → S'.length = S.length
  | [], [], _ => rfl
  | _ :: S, _ :: S', h => by rw [List.length_cons, List.length_cons, frzd_len h.2]
  | [], _ :: _, h => h.elim
  | _ :: _, [], h => h.elim
theorem frzd_get : ∀ {S S' : FS} {j : Nat} {b : Option SV}, frzd S S' → S'[j]? = some b → S[j]? = some b ∨ ∃ es, S[j]? = some (some (.own (.lst es))) ∧ b = some (.d (.list es)) ∧ noLs es = true
  | [], [], j, b, _, e => by simp at e
  | a :: S, b0 :: S', 0, b, h, e => by
    simp at e
    subst e
    rcases h.1 with h | ⟨es, h1, h2, h3⟩
    · subst h; exact .inl (by simp)
    · exact .inr ⟨es, by simp [h1], h2, h3⟩
  | a :: S, b0 :: S', j + 1, b, h, e => by
    have := frzd_get (j := j) h.2 (by simpa using e)
    simpa using this
  | [], _ :: _, _, _, h, _ => h.elim
  | _ :: _, [], _, _, h, _ => h.elim
theorem rel_thaw2 {K : Fg} {F : Fx} {S S' : FS} {σ : Sl} {H H1 : Hp} {i : Nat} {ds : List D} {a : Addr} {o : Obj} {vs vs1 : List V} (r : Rel K F S σ H) (hs : S[i]? = some (some (.own (.lst ds)))) (ea : σ[i]? = some (some (.ref a))) (hH : H a = some (.lst vs))
    (hf : frzd S S') (r1 : Rel K F S' σ H1) (p : Pers H H1) (n : noLS S = true) (h1 : H1 a = some (.frz o (.lst vs1))) (hv : PdAll K H1 vs1 ds) : Rel K F (S'.set i (some (.own (.lst ds)))) σ (upd H1 a (.lst vs1)) ∧ Pers H (upd H1 a (.lst vs1)) := by
  have hl : i < S.length := (List.getElem?_eq_some_iff.mp hs).1
  have hl' : i < S'.length := by rw [frzd_len hf]; exact hl
  have n' : ∀ j sv, S[j]? = some sv → noLSv sv = true := fun j sv e => List.all_eq_true.mp n _ (List.mem_of_getElem? e)
  have tS := tupS_thaw h1
  have ne : ∀ b u, H1 b = some u → (∀ o, u ≠ .frz o (.lst vs1)) → b ≠ a := fun b u e n z => by rw [z, h1] at e; cases e; exact n o rfl
  have p2 : Pers H (upd H1 a (.lst vs1)) := ⟨fun b xs e => by rw [upd_ne (ne b _ (p.tup b xs e) fun _ z => nomatch z)]; exact p.tup b xs e, fun b ob u e => by
    rw [upd_ne]; exact p.frz b ob u e
    intro z; rw [z, hH] at e; (cases e), fun b q => by
    obtain ⟨ps, e, t⟩ := p.tbl b q
    exact ⟨ps, by rw [upd_ne (ne b _ e fun _ z => nomatch z)]; exact e, t⟩⟩
  have h0 : F.H0 a = none := by
    obtain ⟨x, ex, b, rfl, _, z⟩ := r.slot i _ hs
    rw [ea] at ex; cases ex; exact z
  have e1 : ∀ j, j ≠ i → (S'.set i (some (.own (.lst ds))))[j]? = S'[j]? := fun j h => List.getElem?_set_ne (Ne.symm h)
  have own2 : ∀ j, j ≠ i → Owned (S'.set i (some (.own (.lst ds)))) j → Owned S' j := fun j hj ⟨ob, h⟩ => ⟨ob, by rw [e1 j hj] at h; exact h⟩
  have own1 : ∀ j, j ≠ i → Owned S' j → Owned S j := fun j hj ⟨ob, h⟩ => by
    rcases h with h | h
    · rcases frzd_get hf h with g | ⟨es, _, g, _⟩
      · exact ⟨ob, .inl g⟩
      · cases g
    · rcases frzd_get hf h with g | ⟨es, _, g, _⟩
      · exact ⟨ob, .inr g⟩
      · cases g
  have own : ∀ j, Owned (S'.set i (some (.own (.lst ds)))) j → Owned S j := fun j h => by
    by_cases hj : j = i
    · subst hj; exact ⟨_, .inl hs⟩
    · exact own1 j hj (own2 j hj h)
  have kp : ∀ b u, F.H0 b = some u → b ∉ F.pins.map (·.2) → isTbl u = false → upd H1 a (.lst vs1) b = some u := fun b u e nb nt => by
    have q := r1.keep b u e nb nt
    rw [upd_ne]; exact q
    intro z; rw [z, h0] at e; cases e
  refine ⟨⟨by rw [List.length_set]; exact r1.len, fun j sv e => ?_, fun j k b ne hj hk => r.apart j k b ne (own j hj) (own k hk), kp, fun b u e => ?_, fun P hP => ?_, F.cl.selfM p2 r.self, fun q hq => ?_⟩, p2⟩
  · by_cases hj : j = i
    · subst hj
      rw [List.getElem?_set_self hl'] at e
      cases e
      have nd : noLs ds = true := n' _ _ hs
      exact ⟨_, ea, a, rfl, ⟨vs1, upd_same, hv.noLs tS nd⟩, h0⟩
    · rw [e1 j hj] at e
      rcases frzd_get hf e with g | ⟨es, g, g2, g3⟩
      · cases sv with
        | d d =>
          obtain ⟨x, ex, v⟩ := r.slot j _ g
          exact ⟨x, ex, Pd.mono p2 v⟩
        | own ob =>
          obtain ⟨x, ex, b, rfl, q, z⟩ := r1.slot j _ e
          obtain ⟨u, eu, mu, nt⟩ := q.there
          have nb : b ≠ a := ne b u eu fun _ z => by rw [z] at mu; exact mu
          exact ⟨_, ex, b, rfl, ObR.noL tS (upd_ne nb) (n' j _ g) q, z⟩
        | pin ob =>
          obtain ⟨x, ex, b, rfl, q, z⟩ := r1.slot j _ e
          obtain ⟨u, eu, mu, nt⟩ := q.there
          have nb : b ≠ a := ne b u eu fun _ z => by rw [z] at mu; exact mu
          exact ⟨_, ex, b, rfl, ObR.noL tS (upd_ne nb) (n' j _ g) q, z⟩
        | x y =>
          obtain ⟨x, ex, v⟩ := r.slot j _ g
          exact ⟨x, ex, SxR.later v p2 r.keep kp⟩
      · cases g2
        obtain ⟨x, ex, v⟩ := r1.slot j _ e
        obtain ⟨x2, ex2, b, rfl, _, _⟩ := r.slot j _ g
        rw [ex2] at ex; cases ex
        have nb : b ≠ a := fun z => by
          subst z
          exact r.apart i j b (Ne.symm hj) ⟨_, .inl hs⟩ ⟨_, .inl g⟩ ea ex2
        refine ⟨_, ex2, ?_⟩
        have v' : Pd K H1 (.ref b) (.list es) := v
        cases v' with
        | lst h rr =>
          refine .lst ?_ (rr.noLs tS g3)
          rcases h with ⟨o2, h⟩ | h
          · exact .inl ⟨o2, by rw [upd_ne nb]; exact h⟩
          · exact .inr h
  · by_cases hb : b = a
    · subst hb; exact ⟨_, upd_same⟩
    · obtain ⟨v, q⟩ := r1.there b u e
      exact ⟨v, by rw [upd_ne hb]; exact q⟩
  · exact (r1.tabs P hP).thaw fun b u e nz => by rw [upd_ne (ne b _ e fun o => nz o vs1)]; exact e
  · obtain ⟨⟨e, em⟩, z, u⟩ := r1.held q hq
    have nb : q.1 ≠ a := ne q.1 _ e fun _ z => by rw [z] at em; exact em
    refine ⟨⟨by rw [upd_ne nb]; exact e, em⟩, z, fun j hj => ?_⟩
    by_cases hji : j = i
    · subst hji
      intro w
      rw [ea] at w; cases w
      exact nb rfl
    · exact u j (own2 j hji hj)
/-- the list of slot i is read in a test: it is owned again behind it -/
noncomputable def fThawU (i : Nat) (f : FS → Res Bool) : FS → Res Bool := fun S => match S[i]? with
  | some (some (.own (.lst ds))) => (match f S with
    | .ok d S' => @ite _ (S'[i]? = some (some (.d (.list ds))) ∧ frzd S S' ∧ noLS S = true) (Classical.propDecidable _) (.ok d (S'.set i (some (.own (.lst ds))))) .bad
    | _ => .bad)
  | _ => f S
section
variable {X : Cx} {F : Fx} {e : Expr} {i : Nat}
theorem frozen_at2 {pins : List (Addr × Obj)} {σ : L2.St} {H H1 : Hp} {s : Shared} {a : Addr} {ds : List D} {vs : List V} {S' : FS} (I : Inv X pins σ H s) (hH : H a = some (.lst vs)) (ea : σ[i]? = some (some (.ref a)))
    (hi : S'[i]? = some (some (.d (.list ds)))) (r1 : Rel X.K F S' σ H1) : ∃ o vs1, H1 a = some (.frz o (.lst vs1)) ∧ PdAll X.K H1 vs1 ds := by
  obtain ⟨x, ex, v⟩ := r1.slot i _ hi
  rw [ea] at ex; cases ex
  have v' : Pd X.K H1 (.ref a) (.list ds) := v
  cases v' with
  | lst h r =>
    rcases h with ⟨o, h⟩ | h
    · exact ⟨o, _, h, r⟩
    · exfalso
      rcases h with (h | ⟨o, h⟩) | ⟨o, its, n, hk, _⟩
      · cases h
      · cases h
      · have := (I.bs a o (I.mod.kin a o hk)).2
        rw [hH] at this; cases this
theorem t_thawU {f : FS → Res Bool} (h : ET X F e f) : ET X F e (fThawU i f) := by
  refine ⟨fun pins s σ H Q I ⟨S, r, p⟩ => ?_⟩
  unfold fThawU at p
  split at p
  · rename_i ds hs
    obtain ⟨x, ea, a, rfl, ⟨vs, hH, hv⟩, h0⟩ := r.slot i _ hs
    cases e : f S with
    | ok d S' =>
      rw [e] at p
      simp only at p
      split at p
      · rename_i hc
        obtain ⟨hi, hf, n⟩ := hc
        refine thn (h.run pins s σ H (fun b H1 => b = d ∧ Pers H H1 ∧ Rel X.K F S' σ H1) I ⟨S, r, by rw [e]; exact fun H1 p1 r1 => ⟨rfl, p1, r1⟩⟩) fun b s1 ⟨H1, I1, eb, p1, r1⟩ => ?_
        subst eb
        obtain ⟨o, vs1, h1, hv1⟩ := frozen_at2 I hH ea hi r1
        obtain ⟨r2, p2⟩ := rel_thaw2 r hs ea hH hf r1 p1 n h1 hv1
        exact ⟨_, inv_thaw I1 h1 (fun o u z => by have := I.base.frzs a o u z; rw [hH] at this; cases this), p _ p2 r2⟩
      · exact p.elim
    | exn e2 S' => rw [e] at p; exact p.elim
    | bad => rw [e] at p; exact p.elim
  · exact h.run pins s σ H Q I ⟨S, r, p⟩
/-- its weakest precondition -/
theorem thawU_w {S : FS} {Q : Bool → FS → Prop} {ds : List D} {f : FS → Res Bool} (hs : S[i]? = some (some (.own (.lst ds)))) (n : noLS S = true) (h : wE (f S) fun d S' => S'[i]? = some (some (.d (.list ds))) ∧ frzd S S' ∧ Q d (S'.set i (some (.own (.lst ds))))) : wE (fThawU i f S) Q := by
  unfold fThawU
  rw [hs]
  simp only
  cases e : f S with
  | ok d S' =>
    rw [e] at h
    obtain ⟨h1, h2, h3⟩ := h
    simp only
    rw [if_pos ⟨h1, h2, n⟩]
    exact h3
  | exn _ _ => rw [e] at h; exact h
  | bad => rw [e] at h; exact h
end
end Fz
end

section
set_option Elab.async false
set_option linter.all false
set_option maxRecDepth 100000
set_option maxHeartbeats 4000000
/-! F44: {k: v}. -/
namespace Fz
open PySem PySem.Spec PyProof.Rows L2
abbrev dict0 : Obj := { cls := .type "dict", data := .dict #[] }
section
variable {X : Cx} {pins : List (Addr × Obj)} {σ : L2.St} {H : Hp} {s : Shared}
/-- a new dict, not tracked yet -/
theorem inv_dict0 (I : Inv X pins σ H s) : Inv X ((s.heap.objs.size, dict0) :: pins) σ H { s with heap := s.heap.push dict0 } ∧ FpOk X pins H s.heap.objs.size := by
  have hn := I.hok.fresh (Nat.le_refl s.heap.objs.size)
  have f0 : FpOk X pins H s.heap.objs.size := I.fpOk (Nat.le_refl _) hn
  have I1 : Inv X pins σ H { s with heap := s.heap.push dict0 } := I.kept (t' := s.toks) fun _ _ q => Heap.get?_push_of_some _ q
  refine ⟨I1.pins_of fun p hp => ?_, f0⟩
  rcases List.mem_cons.mp hp with rfl | hp
  · exact ⟨Heap.get?_push_size _ rfl, hn, f0.2.1, f0.2.2.1, fun v e => nomatch e⟩
  · exact I1.pin p (List.mem_append_right _ hp)
theorem dict0_of {h : Heap} {q : Addr} (e : h.get? q = some dict0) (P : Program) (w : World) : h.DictOf (mixKind P w) q [] ∧ h.DictOfH (nestedKind P w) q [] :=
  ⟨⟨_, #[], 0, e, ⟨rfl, rfl, rfl⟩, rfl, by first | exact fun _ h => absurd h (by simp) | (intro i; simp) | simp [PySem.KeysOf], .nil, List.nodup_nil⟩, ⟨_, #[], 0, e, ⟨rfl, rfl, rfl⟩, rfl, rfl, fun _ h => (nomatch h), List.nodup_nil⟩⟩
end
/-- {k: v} -/
def fDisp1 (fk fv : FS → Res D) : FS → Res SV := fun S => match fk S with
  | .ok k S1 => (match fv S1 with
    | .ok v S2 => (match kOk [] k with
      | true => .ok (.own (.dic [(k, v)])) S2
      | false => .bad)
    | _ => .bad)
  | _ => .bad
section
variable {X : Cx} {F : Fx} {ke ve : Expr} {pos : Pos} {gk gv : FS → Res D}
theorem e_disp1 (hu : X.A.units + 70 < cLine) (hk : ED X F ke gk) (hv : ED X F ve gv) (hw : F.w = X.w := by rfl) : EV X F (.Dict [some ke] [ve] pos) (fDisp1 gk gv) := by
  refine ⟨fun pins s σ H Q I ⟨S, r, p⟩ => ?_⟩
  unfold fDisp1 at p
  cases e1 : gk S with
  | exn _ _ => rw [e1] at p; exact p.elim
  | bad => rw [e1] at p; exact p.elim
  | ok k S1 =>
    rw [e1] at p
    simp only at p
    cases e2 : gv S1 with
    | exn _ _ => rw [e2] at p; exact p.elim
    | bad => rw [e2] at p; exact p.elim
    | ok v S2 =>
      rw [e2] at p
      simp only at p
      cases ok : kOk [] k with
      | false => rw [ok] at p; exact p.elim
      | true =>
        rw [ok] at p
        simp only at p
        obtain ⟨I1, f0⟩ := inv_dict0 I
        have hn : H s.heap.objs.size = none := f0.1
        -- both parts evaluated
        have run : ∀ (Q2 : List (Value × Value) → Shared → Prop), (∀ s2 x y u w H2, Inv X ((s.heap.objs.size, dict0) :: pins) σ H2 s2 → Rel X.K F S2 σ H2 → Pers H H2 → Pd X.K H2 x k → Pd X.K H2 y v → RelV x u → RelV y w → Q2 [(u, w)] s2) →
            wpAny (model X.prog X.w) X.A (evalPairs (pairTrees [some ke] [ve] X.env pos)) Q2 X.xe { s with heap := s.heap.push dict0 } := by
          intro Q2 hQ
          refine pairTrees_cons_walk (thn (hk.run _ _ σ H (fun x H1 => Pers H H1 ∧ Rel X.K F S1 σ H1 ∧ Pd X.K H1 x k) I1 ⟨S, r, by rw [e1]; exact fun x H1 p1 r1 v => ⟨p1, r1, v⟩⟩) fun u s1 ⟨x, H1, J1, rx, p1, r1, v1⟩ => ?_)
          refine thn (hv.run _ _ σ H1 (fun y H2 => Pers H1 H2 ∧ Rel X.K F S2 σ H2 ∧ Pd X.K H2 y v) J1 ⟨S1, r1, by rw [e2]; exact fun y H2 p2 r2 v => ⟨p2, r2, v⟩⟩) fun w s2 ⟨y, H2, J2, ry, p2, r2, v2⟩ => ?_
          exact pairTrees_nil_walk (hQ s2 x y u w H2 J2 r2 (p1.trans p2) (v1.mono p2) v2 rx ry)
        -- the end: the dict tracked
        have fin : ∀ (s2 : Shared) (H2 : Hp) (h' : Heap) (tk : Nat) (o : HO), Inv X ((s.heap.objs.size, dict0) :: pins) σ H2 s2 → Rel X.K F S2 σ H2 → Pers H H2 → Heap.SameBut s.heap.objs.size s2.heap h' → ObjOk X.prog X.w (upd H2 s.heap.objs.size o) h' s.heap.objs.size o → DicR X.K X.w (upd H2 s.heap.objs.size o) s.heap.objs.size [(k, v)] →
            EP X pins σ Q (.ref s.heap.objs.size) { s2 with heap := h', toks := tk } := by
          intro s2 H2 h' tk o J2 r2 p2 sb new g
          have hn2 : H2 s.heap.objs.size = none := (J2.pin (s.heap.objs.size, dict0) (by simp)).2.1
          have J3 : Inv X pins σ H2 s2 := J2.pins_of fun z hz => J2.pin z (List.mem_append_right _ (List.mem_cons_of_mem _ hz))
          have J4 := J3.take (t' := tk) (o := o) (fun b ob hb e => (sb.2 b hb).trans e) ⟨hn2, f0.2⟩ new
          refine ⟨.ref s.heap.objs.size, _, J4, rfl, p _ _ (p2.trans (Pers.new hn2)) (r2.new hn2) ⟨s.heap.objs.size, rfl, ?_, r2.none0 hn2, fun j hj => r2.unslot hn2 hj, fun z hz e => ?_⟩⟩
          · rw [hw]; exact g
          · obtain ⟨⟨q, _⟩, _⟩ := r2.held z hz; rw [e, hn2] at q; cases q
        have hsm : (s.heap.objs.size == sysModules) = false := by
          have := I.big
          simp only [beq_eq_false_iff_ne, ne_eq]
          exact Nat.ne_of_gt this
        unfold kOk at ok
        rw [Bool.or_eq_true, Bool.and_eq_true, Bool.and_eq_true] at ok
        rcases ok with ⟨h1, _⟩ | ⟨h1, _⟩
        · obtain ⟨j, hj⟩ := Option.isSome_iff_exists.mp h1
          refine wpAny_Dict_walk (knd := mixKind X.prog X.w) rfl rfl (by simp) (by simp) (run _ fun s2 x y u w H2 J2 r2 p2 v1 v2 rx ry => ?_)
          have hg := (J2.pin (s.heap.objs.size, dict0) (by simp)).1
          have ex := fk_pd v1 hj
          subst ex
          refine ⟨[(j, w)], ⟨kV_is rx, rfl, trivial⟩, (dict0_of hg X.prog X.w).1, fun h' dd sb => fin s2 H2 h' _ (.dK [(j, y)]) J2 r2 p2 sb ⟨by rw [sizeLine_eq]; simp, hsm, _, .cons ⟨rfl, ry⟩ .nil, dd⟩ (.inl ⟨_, upd_same, .cons ⟨hj, ?_⟩ .nil⟩)⟩
          exact v2.mono (Pers.new (J2.pin (s.heap.objs.size, dict0) (by simp)).2.1)
        · obtain ⟨j, hj⟩ := Option.isSome_iff_exists.mp h1
          rw [arm_eval_Dict, zip_pairTrees [some ke] [ve] X.env pos rfl rfl, dictDisplay_pairs _ (by simp [pairTrees]) (by simp [pairTrees])]
          refine wpAny_bind (wpAny_standAt (wpAny_bind (wpAny_subDictH (knd := nestedKind X.prog X.w) (by show _ + 8 < _; omega) (by simp [pairTrees]) (run _ fun s2 x y u w H2 J2 r2 p2 v1 v2 rx ry => ?_))))
          have hg := (J2.pin (s.heap.objs.size, dict0) (by simp)).1
          have hn2 : H2 s.heap.objs.size = none := (J2.pin (s.heap.objs.size, dict0) (by simp)).2.1
          obtain ⟨b, rfl⟩ := tk_ref v1 hj
          obtain rfl : u = Value.ref b := rx
          refine ⟨[(j, b, w)], ⟨rfl, rfl, nested_key J2 v1 hj, trivial⟩, (dict0_of hg X.prog X.w).2, fun h' tk dd sb => wpAny_pure ?_⟩
          obtain ⟨o, es, ep, q1, q2, q3, q4, _, q5⟩ := dd
          refine fin s2 H2 h' tk (DicT X.w s.heap.objs.size [(j, b, y)]) J2 r2 p2 sb (DicT.ok ⟨by rw [sizeLine_eq]; simp, hsm, [(j, b, w)], .cons ⟨rfl, rfl, ry⟩ .nil, o, es, ep, q1, q2, q3, q4, q5⟩) (.inr ⟨_, by simp, upd_same, .cons ⟨hj, v1.mono (Pers.new hn2), v2.mono (Pers.new hn2)⟩ .nil⟩)
end
end Fz
end

section
set_option Elab.async false
set_option linter.all false
set_option maxRecDepth 100000
set_option maxHeartbeats 4000000
/-! F45: list comprehensions of two clauses. -/
namespace Fz
open PySem PySem.Spec PyProof.Rows L2
section
variable {X : Cx} {F : Fx} {g : D → FS → Option FS} {t : FS → Res Bool} {fe : FS → Res D} {ts vs : List Nat}
end
section
variable {X : Cx} {F : Fx} {it it1 : FS → Res (List D)} {g g1 : D → FS → Option FS} {t t1 : FS → Res Bool} {fe : FS → Res D} {ts ts1 vs vs1 : List Nat}
variable {elt tg iter tg1 iter1 : Expr} {ifs ifs1 : List Expr} {scope : Scope} {own : List (Str × Nat)} {pos : Pos}
end
end Fz
end

section
set_option Elab.async false
set_option linter.all false
set_option maxRecDepth 100000
set_option maxHeartbeats 4000000
/-! F46: sum, max of a list of ints. -/
namespace Fz
open PySem PySem.Spec PyProof.Rows L2
section
variable {X : Cx} {F : Fx}
end
end Fz
end

section
set_option Elab.async false
set_option linter.all false
set_option maxRecDepth 100000
set_option maxHeartbeats 4000000
/-! F47: <, <=, >, >= of ints and of tuples of ints. -/
namespace Fz
open PySem PySem.Spec PyProof.Rows L2
section
variable {X : Cx} {F : Fx}
end
end Fz
end

section
set_option Elab.async false
set_option linter.all false
set_option maxRecDepth 100000
set_option maxHeartbeats 4000000
/-! F48: weakest preconditions for F42-F47. -/
namespace Fz
open PySem L2
section
variable {S : FS} {Q : D → FS → Prop} {QV : SV → FS → Prop} {f fk fv : FS → Res D} {g : FS → Res SV} {i : Nat} {den : Den}
@[simp] theorem wE_fDisp1 : wE (fDisp1 fk fv S) QV = wE (fk S) fun k S1 => wE (fv S1) fun v S2 => kOk [] k = true ∧ QV (.own (.dic [(k, v)])) S2 := by
  unfold fDisp1
  cases fk S with
  | ok k S1 =>
    simp only [wE_ok]
    cases fv S1 with
    | ok v S2 =>
      simp only [wE_ok]
      cases kOk [] k <;> simp
    | _ => rfl
  | _ => rfl
def wMv (i : Nat) (o : Option (Option SV)) (S : FS) (QV : SV → FS → Prop) : Prop := match o with
  | some (some (.own ob)) => QV (.own ob) (S.set i none)
  | some (some (.d d)) => QV (.d d) S
  | _ => False
@[simp] theorem wMv_own {ob : Ob} : wMv i (some (some (.own ob))) S QV = QV (.own ob) (S.set i none) := rfl
@[simp] theorem wMv_d {d : D} : wMv i (some (some (.d d))) S QV = QV (.d d) S := rfl
@[simp] theorem wE_fMove : wE (fMove i S) QV = wMv i S[i]? S QV := by
  unfold fMove
  split
  · rename_i e; rw [e]; rfl
  · rename_i e; rw [e]; rfl
  · rename_i n1 n2
    unfold wMv
    split
    · rename_i e; exact absurd e (n1 _)
    · rename_i e; exact absurd e (n2 _)
    · rfl
end
end Fz
end

section
set_option Elab.async false
set_option linter.all false
set_option maxRecDepth 100000
set_option maxHeartbeats 4000000
/-! F49: comprehensions of two clauses, pure: what they give. -/
namespace Fz
open PySem L2
section
variable {α β : Type} {f : α → D} {f1 : α → β → D} {vs vs1 : List Nat}
end
end Fz
end

section
set_option Elab.async false
set_option linter.all false
set_option maxRecDepth 100000
set_option maxHeartbeats 4000000
/-! F50: enumerate of a tuple, of a list. -/
namespace Fz
open PySem PySem.Spec PyProof.Rows L2 RZ
section
variable {prog : Program} {w : World} {A : Around} {E : Value → Shared → Prop} {s : Shared}
end
/-! its den -/
section
variable {S : FS} {QL : List D → FS → Prop} {f : FS → Res D}
end
end Fz
end

section
set_option Elab.async false
set_option linter.all false
set_option maxRecDepth 100000
set_option maxHeartbeats 4000000
/-! F51: tuple(range(..)), list(range(..)). -/
namespace Fz
open PySem PySem.Spec PyProof.Rows L2
section
variable {X : Cx} {F : Fx} {a b : Expr} {f g : FS → Res D} {p p2 pos pos2 : Pos}
end
section
variable {S : FS} {Q : D → FS → Prop} {QV : SV → FS → Prop} {f g : FS → Res D}
end
end Fz
end

section
set_option Elab.async false
set_option linter.all false
set_option maxRecDepth 100000
set_option maxHeartbeats 4000000
/-! F51B: tables of sets with up to 8192 slots: each slot is met. -/
namespace Fz
open PySem PySem.Spec PyProof.Rows L2
/-- i -> 5 i + 1, never cut -/
def xq : Nat → Nat
  | 0 => 0
  | n + 1 => 5 * xq n + 1
theorem lcg_xq (m : Nat) : ∀ k, lcgN m k = xq k % (m + 1)
  | 0 => (Nat.zero_mod _).symm
  | k + 1 => by
    show (lcgN m k * 5 + 1) % (m + 1) = (5 * xq k + 1) % (m + 1)
    rw [lcg_xq m k, Nat.mul_comm 5]
    simp [Nat.add_mod, Nat.mul_mod]
theorem xq_add (n : Nat) : ∀ j, xq (n + j) = xq n + (4 * xq n + 1) * xq j
  | 0 => by simp [xq]
  | j + 1 => by
    show 5 * xq (n + j) + 1 = xq n + (4 * xq n + 1) * (5 * xq j + 1)
    rw [xq_add n j, Nat.mul_add (4 * xq n + 1), Nat.mul_left_comm (4 * xq n + 1)]
    omega
theorem xq_two (p : Nat) : ∃ q, xq (2 ^ p) = 2 ^ p * (2 * q + 1) := by
  induction p with
  | zero => exact ⟨0, rfl⟩
  | succ p ih =>
    obtain ⟨q, h⟩ := ih
    refine ⟨2 * q * xq (2 ^ p) + q + xq (2 ^ p), ?_⟩
    rw [Nat.pow_succ, Nat.mul_two, xq_add]
    generalize xq (2 ^ p) = x at h ⊢
    have e : x + (4 * x + 1) * x = 2 * (x * (2 * x + 1)) := by grind
    rw [e, h]
    grind
theorem xq_all (p : Nat) : ∀ j, j < 2 ^ p → ∃ n, n < 2 ^ p ∧ xq n % 2 ^ p = j := by
  induction p with
  | zero => intro j hj; exact ⟨0, by simp, by simp at hj; simp [hj, xq]⟩
  | succ p ih =>
    intro j hj
    rw [Nat.pow_succ] at hj ⊢
    obtain ⟨q, hq⟩ := xq_two p
    have hP : 0 < 2 ^ p := Nat.two_pow_pos p
    generalize hPe : 2 ^ p = P at hj hq hP ih ⊢
    obtain ⟨n, hn, hx⟩ := ih (j % P) (Nat.mod_lt _ hP)
    have ha : xq n % (P * 2) < P * 2 := Nat.mod_lt _ (by omega)
    have haP : xq n % (P * 2) % P = j % P := by rw [Nat.mod_mul_right_mod, hx]
    have hdm := Nat.div_add_mod (xq n) (P * 2)
    have e2 : xq (n + P) % (P * 2) = (xq n % (P * 2) + P) % (P * 2) := by
      rw [xq_add, hq]
      have e3 : xq n + (4 * xq n + 1) * (P * (2 * q + 1)) = (xq n + P) + P * 2 * (4 * xq n * q + 2 * xq n + q) := by grind
      rw [e3, Nat.add_mul_mod_self_left, Nat.add_mod, Nat.add_mod (xq n % (P * 2))]
      simp
    generalize xq n % (P * 2) = a at ha haP e2 hdm
    have two : ∀ z, z < P * 2 → (z = z % P ∨ z = z % P + P) := fun z hz => by
      rcases Nat.lt_or_ge z P with h | h
      · exact .inl (Nat.mod_eq_of_lt h).symm
      · refine .inr ?_
        have : z % P = z - P := by rw [Nat.mod_eq_sub_mod h, Nat.mod_eq_of_lt (by omega)]
        omega
    have ta := two a ha
    have tj := two j hj
    rw [haP] at ta
    by_cases h : a = j
    · refine ⟨n, by omega, ?_⟩
      rw [← hdm, Nat.mul_add_mod, Nat.mod_eq_of_lt ha]
      exact h
    · refine ⟨n + P, by omega, ?_⟩
      rw [e2]
      rcases ta with ta | ta
      · rw [Nat.mod_eq_of_lt (by omega)]; omega
      · have : a + P = j + P * 2 := by omega
        rw [this, Nat.add_mod_right, Nat.mod_eq_of_lt hj]
/-- the masks that come -/
def MskB (m : Nat) : Prop := m = 7 ∨ m = 31 ∨ m = 127 ∨ m = 511 ∨ m = 2047 ∨ m = 8191
theorem MskB.two {m : Nat} (h : MskB m) : ∃ p, m + 1 = 2 ^ p := by
  rcases h with e | e | e | e | e | e <;> subst e
  · exact ⟨3, rfl⟩
  · exact ⟨5, rfl⟩
  · exact ⟨7, rfl⟩
  · exact ⟨9, rfl⟩
  · exact ⟨11, rfl⟩
  · exact ⟨13, rfl⟩
theorem MskB.odd {m : Nat} (h : MskB m) : m % 2 = 1 := by
  rcases h with e | e | e | e | e | e <;> subst e <;> rfl
/-- from anywhere each slot within a round -/
theorem meetB {m : Nat} (hm : MskB m) {i j : Nat} (hi : i ≤ m) (hj : j ≤ m) : ∃ k, k ≤ m ∧ lcgI m i k = j := by
  obtain ⟨p, hp⟩ := hm.two
  obtain ⟨a, ha, ea⟩ := xq_all p i (by omega)
  obtain ⟨b, hb, eb⟩ := xq_all p j (by omega)
  obtain ⟨q, hq⟩ := xq_two p
  have la : lcgN m a = i := by rw [lcg_xq, hp]; exact ea
  rw [← la]
  rcases Nat.lt_or_ge b a with c | c
  · refine ⟨b + 2 ^ p - a, by omega, ?_⟩
    rw [lcgN_add, show a + (b + 2 ^ p - a) = b + 2 ^ p by omega, lcg_xq, hp, xq_add, hq]
    rw [Nat.mul_left_comm, Nat.add_mul_mod_self_left]
    exact eb
  · refine ⟨b - a, by omega, ?_⟩
    rw [lcgN_add, show a + (b - a) = b by omega, lcg_xq, hp]
    exact eb
theorem runB {m : Nat} (hm : MskB m) (h : Int) {j : Nat} (hj : j ≤ m) : ∃ n, n ≤ m + 12 ∧ runI m (SetTable.bits h) n = j := by
  obtain ⟨k, hk, e⟩ := meetB hm (runI_le m (SetTable.bits h) 12) hj
  exact ⟨12 + k, by omega, by rw [runI_tail (bits_lt h), e]⟩
theorem wayB {m : Nat} (hm : MskB m) (h : Int) {j : Nat} (hj : j ≤ m) : ∃ k, k < 10 * SetTable.turns m ∧ way m h k = j := by
  obtain ⟨n, hn, e⟩ := runB hm h hj
  obtain ⟨k, hk, e2⟩ := run_nth m (SetTable.bits h) n
  exact ⟨k, by unfold SetTable.turns; omega, (congrArg SetTable.Probe.j e2).trans e⟩
theorem way_in {m : Nat} (h : Int) (k : Nat) : way m h k ≤ m := by
  have hi : SetTable.bits h % (m + 1) ≤ m := Nat.le_of_lt_succ (Nat.mod_lt _ (Nat.succ_pos _))
  have r := runEnd_bd hi
  have q := nth_in (m := m) k (runAt m (SetTable.bits h % (m + 1)) (SetTable.bits h)) (by show SetTable.bits h % (m + 1) + (SetTable.runEnd m (SetTable.bits h % (m + 1)) - SetTable.bits h % (m + 1)) ≤ m; omega)
  exact Nat.le_trans (Nat.le_add_right _ _) q
/-! ### tables by which each member is found again -/
/-- from its hash the slot is come to, by slots that are taken -/
def Rch (m : Nat) (ps : List Nat) (h : Int) (j : Nat) : Prop := ∃ k, way m h k = j ∧ ∀ i, i < k → way m h i ∈ ps
theorem Rch.mono {m : Nat} {ps qs : List Nat} {h : Int} {j : Nat} (hs : ∀ x ∈ ps, x ∈ qs) (r : Rch m ps h j) : Rch m qs h j := let ⟨k, e, z⟩ := r; ⟨k, e, fun i hi => hs _ (z i hi)⟩
structure TabB (t : SetTable) (hs : List Int) : Prop where
  ris : Ris t.place.toList
  dm : t.dummies = #[]
  sz : t.place.size = hs.length
  mok : MskB t.mask
  bd : ∀ x ∈ t.place.toList, x ≤ t.mask
  reach : ∀ (i : Nat) (h : Int) (j : Nat), hs[i]? = some h → t.place.toList[i]? = some j → Rch t.mask t.place.toList h j
/-- the first empty slot on the way -/
theorem TabB.first {t : SetTable} {hs : List Int} (T : TabB t hs) (hl : hs.length ≤ t.mask) (h : Int) : ∃ K, K < 10 * SetTable.turns t.mask ∧ way t.mask h K ∉ t.place.toList ∧ ∀ k, k < K → way t.mask h k ∈ t.place.toList := by
  have hlen : t.place.toList.length < t.mask + 1 := by
    rw [Array.length_toList, T.sz]; omega
  obtain ⟨j, hj, hn⟩ := st_missing t.place.toList (t.mask + 1) hlen
  obtain ⟨k, hk, e⟩ := wayB T.mok h (Nat.le_of_lt_succ hj)
  obtain ⟨K, h1, h2, h3⟩ := st_least (p := fun k => way t.mask h k ∉ t.place.toList) k (by rw [← e] at hn; exact hn)
  exact ⟨K, by omega, h2, fun i hi => Classical.byContradiction (h3 i hi)⟩
/-- a member of this hash stands ahead of it -/
theorem TabB.before {t : SetTable} {hs : List Int} (T : TabB t hs) {h : Int} {K i j : Nat} (hK : way t.mask h K ∉ t.place.toList) (hi : hs[i]? = some h) (hj : t.place.toList[i]? = some j) : ∃ k, k < K ∧ way t.mask h k = j := by
  obtain ⟨k, e, hb⟩ := T.reach i h j hi hj
  refine ⟨k, Classical.byContradiction fun c => ?_, e⟩
  rcases Nat.lt_or_ge K k with q | q
  · exact hK (hb K q)
  · rw [show K = k by omega, e] at hK
    exact hK (List.mem_of_getElem? hj)
theorem TabB.put {t : SetTable} {hs : List Int} (T : TabB t hs) {h : Int} {K : Nat} (hK : way t.mask h K ∉ t.place.toList) (hb : ∀ k, k < K → way t.mask h k ∈ t.place.toList) :
    (t.put (way t.mask h K)).2 = SetTable.below t.place (way t.mask h K) ∧ SetTable.below t.place (way t.mask h K) ≤ hs.length ∧
    TabB (t.put (way t.mask h K)).1 (hs.take (SetTable.below t.place (way t.mask h K)) ++ h :: hs.drop (SetTable.below t.place (way t.mask h K))) ∧
    (t.put (way t.mask h K)).1.mask = t.mask ∧ (t.put (way t.mask h K)).1.led = t.led ∧ (t.put (way t.mask h K)).1.plain = t.plain ∧ (t.put (way t.mask h K)).1.moves = t.moves ∧ (t.put (way t.mask h K)).1.finger = t.finger ∧
    (t.put (way t.mask h K)).1.fill = hs.length + 1 := by
  have ej : ∀ j, j = way t.mask h K → j ≤ t.mask := fun j e => by rw [e]; exact way_in h K
  generalize hj : way t.mask h K = j at hK ⊢
  have hjm := ej j hj.symm
  obtain ⟨c1, _, _⟩ := below_cut T.ris j
  have e1 : t.place.toList.length = hs.length := by rw [Array.length_toList]; exact T.sz
  have c2 : SetTable.below t.place j ≤ hs.length := by rw [← T.sz]; exact c1
  have c3 : SetTable.below t.place j ≤ t.place.toList.length := by rw [e1]; exact c2
  have pl := put_place t j
  have sz : (t.put j).1.place.size = hs.length + 1 := by rw [← Array.length_toList, pl, len_ins _ c3, e1]
  have more : ∀ x ∈ t.place.toList, x ∈ (t.put j).1.place.toList := fun x hx => by rw [pl]; exact mem_ins.2 (.inr hx)
  have ris2 : Ris (t.put j).1.place.toList := ris_insert T.ris fun e => hK (List.mem_of_getElem? (by rw [Array.getElem?_toList]; exact e))
  have reach2 : ∀ (i : Nat) (g : Int) (q : Nat), (hs.take (SetTable.below t.place j) ++ h :: hs.drop (SetTable.below t.place j))[i]? = some g → (t.put j).1.place.toList[i]? = some q → Rch t.mask (t.put j).1.place.toList g q := by
    intro i g q h1 h2
    rw [tins_get hs c2] at h1
    rw [pl, tins_get _ c3] at h2
    split at h1
    · rename_i c
      rw [if_pos c] at h2
      exact (T.reach i g q h1 h2).mono more
    · rename_i c
      rw [if_neg c] at h2
      split at h1
      · rename_i d
        rw [if_pos d] at h2
        obtain rfl := Option.some.inj h1
        obtain rfl := Option.some.inj h2
        exact ⟨K, hj, fun k hk => more _ (hb k hk)⟩
      · rename_i d
        rw [if_neg d] at h2
        exact (T.reach (i - 1) g q h1 h2).mono more
  refine ⟨rfl, c2, ⟨ris2, put_dm T.dm j, by rw [len_ins _ c2]; exact sz, T.mok, fun x hx => ?_, reach2⟩, rfl, rfl, rfl, rfl, rfl, ?_⟩
  · rw [pl] at hx
    rcases mem_ins.1 hx with z | z
    · rw [z]; exact hjm
    · exact T.bd x z
  · show (t.put j).1.place.size + (t.put j).1.dummies.size = hs.length + 1
    rw [sz, put_dm T.dm j] <;> rfl
/-! ### all laid anew -/
theorem freeB {m : Nat} (hm : MskB m) (owner : Array (Option Nat)) (h : Int) {j : Nat} (hj : j ≤ m) (hf : oAt owner j = none) :
    ∃ K, SetTable.layClean.free m owner (SetTable.turns m) (SetTable.bits h % (m + 1)) (SetTable.bits h) = some (way m h K) ∧ oAt owner (way m h K) = none ∧ ∀ k, k < K → oAt owner (way m h k) ≠ none := by
  obtain ⟨n, hn, e⟩ := runB hm h hj
  have hw : way m h (off m (SetTable.bits h % (m + 1)) (SetTable.bits h) n) = j := by
    unfold way
    rw [nth_off, itL_run]
    exact e
  obtain ⟨K, k1, k2, k3⟩ := st_least (p := fun k => oAt owner (way m h k) = none) (off m (SetTable.bits h % (m + 1)) (SetTable.bits h) n) (by rw [hw]; exact hf)
  have some_of : ∀ {x : Option Nat}, x ≠ none → x.isNone = false := fun {x} q => by cases x <;> simp at q ⊢
  exact ⟨K, free_spec m owner (SetTable.turns m) n _ _ K (by unfold SetTable.turns; omega) k1 (fun k hk => some_of (k3 k hk)) (by
    have q : oAt owner (way m h K) = none := k2
    show (oAt owner (way m h K)).isNone = true
    rw [q]; rfl), k2, k3⟩
theorem ownB {m : Nat} (hm : MskB m) {done : List Int} {owner : Array (Option Nat)} (O : Own m done owner) (hl : done.length ≤ m) (h : Int) :
    ∃ j, SetTable.layClean.free m owner (SetTable.turns m) (SetTable.bits h % (m + 1)) (SetTable.bits h) = some j ∧ Own m (done ++ [h]) (owner.setIfInBounds j (some done.length)) := by
  obtain ⟨ps, hps, hin⟩ := O.ps
  obtain ⟨j0, h0, hn0⟩ := st_missing ps (m + 1) (by omega)
  obtain ⟨K, e1, e2, e3⟩ := freeB hm owner h (Nat.le_of_lt_succ h0) (Classical.byContradiction fun z => hn0 (hin j0 (Nat.le_of_lt_succ h0) z))
  have hjm : way m h K ≤ m := way_in h K
  have hjs : way m h K < owner.size := by rw [O.sz]; omega
  generalize hje : way m h K = j at e1 e2 hjm hjs
  have self := oAt_set_self (some done.length) hjs
  have keep : ∀ i, oAt owner i ≠ none → oAt (owner.setIfInBounds j (some done.length)) i ≠ none := fun i hi => by
    by_cases c : i = j
    · rw [c, self]; exact fun e => (nomatch e)
    · rw [oAt_set_ne _ c]; exact hi
  refine ⟨j, e1, by rw [Array.size_setIfInBounds]; exact O.sz, fun i k hi e => ?_, fun k hk => ?_, j :: ps, by simp [hps], fun i hi e => ?_⟩
  · by_cases c : i = j
    · rw [c, self] at e
      obtain rfl := Option.some.inj e
      exact ⟨h, K, by simp, by rw [c]; exact hje, fun k' hk' => keep _ (e3 k' hk')⟩
    · rw [oAt_set_ne _ c] at e
      obtain ⟨g, K', a1, a2, a3⟩ := O.at_ i k hi e
      exact ⟨g, K', by rw [List.getElem?_append_left (List.getElem?_eq_some_iff.mp a1).1]; exact a1, a2, fun k' hk' => keep _ (a3 k' hk')⟩
  · rw [List.length_append, List.length_singleton] at hk
    by_cases c : k < done.length
    · obtain ⟨i, hi, e⟩ := O.all k c
      exact ⟨i, hi, by rw [oAt_set_ne _ fun z => by rw [z, e2] at e; cases e]; exact e⟩
    · exact ⟨j, hjm, by rw [self, show k = done.length by omega]⟩
  · by_cases c : i = j
    · rw [c]; exact List.mem_cons_self
    · rw [oAt_set_ne _ c] at e
      exact List.mem_cons_of_mem _ (hin i hi e)
theorem foldB {m : Nat} (hm : MskB m) : ∀ (rest done : List Int) (owner : Array (Option Nat)), Own m done owner → done.length + rest.length ≤ m →
    ∃ owner', rest.foldl (stepF m) (some (owner, done.length)) = some (owner', (done ++ rest).length) ∧ Own m (done ++ rest) owner'
  | [], done, owner, O, _ => ⟨owner, by simp, by simpa using O⟩
  | h :: rest, done, owner, O, hl => by
    rw [List.length_cons] at hl
    obtain ⟨j, e, O2⟩ := ownB hm O (by omega) h
    obtain ⟨owner', f, O3⟩ := foldB hm rest (done ++ [h]) _ O2 (by simp; omega)
    refine ⟨owner', ?_, by simpa using O3⟩
    rw [List.foldl_cons, stepF_some e]
    simpa using f
theorem layB {m : Nat} (hm : MskB m) {hs : Array Int} (hn : hs.size ≤ m) : ∃ owner, SetTable.layClean m hs = some owner ∧ Own m hs.toList owner := by
  obtain ⟨owner, f, O⟩ := foldB hm hs.toList [] _ (Own.init m) (by simpa using hn)
  refine ⟨owner, ?_, by simpa using O⟩
  rw [layClean_eq]
  have f2 : hs.toList.foldl (stepF m) (some (Array.replicate (m + 1) none, 0)) = some (owner, ([] ++ hs.toList).length) := f
  rw [f2] <;> rfl
theorem relaidB (t : SetTable) {hs : Array Int} {wanted M : Nat} (hw : SetTable.sizeAbove wanted - 1 = M) (hM : MskB M) (hn : hs.size ≤ M) :
    ∃ t' order, t.relaid hs wanted = some (t', order) ∧ order.toList.Perm (List.range hs.size) ∧ TabB t' (order.toList.map fun i => hs.getD i 0) ∧ t'.mask = M ∧ t'.led = t.led ∧ t'.plain = t.plain ∧ t'.dummies = #[] := by
  obtain ⟨owner, e, O⟩ := layB hM hn
  have rl := ris_live (fun j => owner.getD j none) (List.range (M + 1)) (by unfold Ris; exact List.pairwise_lt_range)
  have r1 : Ris ((liveOf M owner).map (·.1)) := rl.1
  have r2 : ∀ x ∈ (liveOf M owner).map (·.1), x ∈ List.range (M + 1) := rl.2
  have nd : ((liveOf M owner).map (·.1)).Nodup := List.Pairwise.imp (fun h => Nat.ne_of_lt h) r1
  have every : ∀ k, k < hs.size → k ∈ (liveOf M owner).map (·.2) := fun k hk => by
    obtain ⟨j, b1, b2⟩ := O.all k (by simpa using hk)
    exact List.mem_map.mpr ⟨(j, k), (mem_live O.sz).2 ⟨b1, b2⟩, rfl⟩
  have len : (liveOf M owner).length = hs.size := by
    obtain ⟨ps, p1, p2⟩ := O.ps
    have a := nat_nodup_len ((liveOf M owner).map (·.1)) ps nd fun x hx => by
      obtain ⟨⟨y, k⟩, hq, rfl⟩ := List.mem_map.mp hx
      obtain ⟨b1, b2⟩ := (mem_live O.sz).1 hq
      exact p2 y b1 (by rw [b2]; exact fun z => (nomatch z))
    have b := nat_nodup_len (List.range hs.size) ((liveOf M owner).map (·.2)) List.nodup_range fun k hk => every k (List.mem_range.mp hk)
    rw [List.length_map, p1] at a
    rw [List.length_map, List.length_range] at b
    have hz : hs.toList.length = hs.size := rfl
    omega
  refine ⟨L2.tabOf t M owner, ((liveOf M owner).map (·.2)).toArray, by rw [relaid_eq, hw, e] <;> rfl, perm_range hs.size _ (by simpa using len) (by simpa using every), ⟨r1, rfl, ?_, hM, fun x hx => ?_, fun i h j h1 h2 => ?_⟩, rfl, rfl, rfl, rfl⟩
  · show ((liveOf M owner).map (·.1)).toArray.size = (((liveOf M owner).map (·.2)).map fun i => hs.getD i 0).length
    simp
  · exact Nat.le_of_lt_succ (List.mem_range.mp (r2 x hx))
  · have h1' : (((liveOf M owner).map (·.2)).map fun i => hs.getD i 0)[i]? = some h := h1
    have h2' : ((liveOf M owner).map (·.1))[i]? = some j := h2
    rw [List.getElem?_map] at h2'
    rw [List.getElem?_map, List.getElem?_map] at h1'
    obtain ⟨⟨y, k⟩, hq, rfl⟩ := Option.map_eq_some_iff.mp h2'
    rw [hq] at h1'
    have eh : hs.getD k 0 = h := Option.some.inj h1'
    obtain ⟨b1, b2⟩ := (mem_live O.sz).1 (List.mem_of_getElem? hq)
    obtain ⟨g, K, a1, a2, a3⟩ := O.at_ y k b1 b2
    have eg : hs.getD k 0 = g := by rw [Array.getD_eq_getD_getElem?, ← Array.getElem?_toList, a1] <;> rfl
    obtain rfl := eg.symm.trans eh
    refine ⟨K, a2, fun i hi => ?_⟩
    show way M g i ∈ (liveOf M owner).map (·.1)
    cases z : oAt owner (way M g i) with
    | none => exact absurd z (a3 i hi)
    | some k2 => exact List.mem_map.mpr ⟨(way M g i, k2), (mem_live O.sz).2 ⟨way_in g i, z⟩, rfl⟩
/-- how tables grow -/
theorem grows : SetTable.sizeAbove (SetTable.grown 5) = 32 ∧ SetTable.sizeAbove (SetTable.grown 19) = 128 ∧ SetTable.sizeAbove (SetTable.grown 77) = 512 ∧ SetTable.sizeAbove (SetTable.grown 307) = 2048 ∧ SetTable.sizeAbove (SetTable.grown 1229) = 8192 := by decide +kernel
end Fz
end

section
set_option Elab.async false
set_option linter.all false
set_option maxRecDepth 100000
set_option maxHeartbeats 4000000
/-! F52: sets of nested tuples: what is asked of a member; the search. -/
namespace Fz
open PySem PySem.Spec PyProof.Rows L2
section
variable {P : Program} {w : World}
/-- a yes or no that changes nothing -/
def AnsB (P : Program) (w : World) (m : Sem Bool) (s : Shared) (b : Bool) : Prop := ∀ (A : Around) (E : Value → Shared → Prop) (Q : Bool → Shared → Prop), Q b s → wpAny (model P w) A m Q E s
theorem ansB_pure {s : Shared} {b : Bool} : AnsB P w (pure b) s b := fun _ _ _ q => wpAny_pure q
mutual
theorem hb_key : ∀ (k : NestedKey) (v : Value) (n : Nat) (s : Shared), NestedIs s.heap k v → ∃ b, AnsB P w (hashByValue n v) s b
  | .none, _, n, s, x => by cases x; exact ⟨true, by cases n <;> exact ansB_pure⟩
  | .num i, _, n, s, x => by cases x <;> exact ⟨true, by cases n <;> exact ansB_pure⟩
  | .text y, _, n, s, x => by cases x; exact ⟨false, by cases n <;> exact ansB_pure⟩
  | .tup ks, _, n, s, x => by
    cases x with
    | @tup a o vs m _ hg hc hd hk =>
      cases n with
      | zero => exact ⟨false, ansB_pure⟩
      | succ n =>
        obtain ⟨r, hr⟩ := hb_keys ks vs.toList n s hk
        refine ⟨r.getD true, fun A E Q q => ?_⟩
        unfold hashByValue
        refine wpAny_bind (wpAny_specialOf (show s.TypeIs (.ref a) "tuple" from ⟨o, hg, hc⟩) F.slot_tuple_hash.lookup ?_)
        show wpAny _ _ (seqItems? (.ref a) >>= _) _ _ s
        refine wpAny_bind (wpAny_seqItems hg hd ?_)
        show wpAny _ _ (forIn vs _ _ >>= _) _ _ s
        rw [← Array.forIn_toList]
        refine wpAny_bind (hr A E _ ?_)
        cases r <;> exact wpAny_pure q
theorem hb_keys : ∀ (ks : List NestedKey) (vs : List Value) (n : Nat) (s : Shared), NestedAll s.heap ks vs → ∃ r : Option Bool, ∀ (A : Around) (E : Value → Shared → Prop) (Q : Option Bool × Unit → Shared → Prop), Q (r, ()) s →
      wpAny (model P w) A (forIn vs ((none, ()) : Option Bool × Unit) fun x _ => do
        let y ← hashByValue n x
        if (!y) = true then pure (ForInStep.done (some false, ())) else pure (ForInStep.yield (none, ()))) Q E s
  | [], _, n, s, x => by cases x; exact ⟨none, fun A E Q q => wpAny_pure q⟩
  | k :: ks, _, n, s, x => by
    cases x with
    | @cons _ v _ vs x1 x2 =>
      obtain ⟨b1, h1⟩ := hb_key k v n s x1
      obtain ⟨r, h2⟩ := hb_keys ks vs n s x2
      cases b1 with
      | false =>
        refine ⟨some false, fun A E Q q => ?_⟩
        rw [List.forIn_cons, bind_assoc]
        exact wpAny_bind (h1 A E _ (wpAny_bind (wpAny_pure (wpAny_pure q))))
      | true =>
        refine ⟨r, fun A E Q q => ?_⟩
        rw [List.forIn_cons, bind_assoc]
        exact wpAny_bind (h1 A E _ (wpAny_bind (wpAny_pure (h2 A E Q q))))
end
mutual
theorem oc_key : ∀ (k : NestedKey) (v : Value) (n : Nat) (s : Shared), NestedIs s.heap k v → k.depth ≤ n → AnsB P w (ofAClassStatement n v) s false
  | .none, _, n, s, x, _ => by cases x; cases n <;> exact ansB_pure
  | .num i, _, n, s, x, _ => by cases x <;> cases n <;> exact ansB_pure
  | .text y, _, n, s, x, _ => by cases x; cases n <;> exact ansB_pure
  | .tup ks, _, n, s, x, hn => by
    cases x with
    | @tup a o vs m _ hg hc hd hk =>
      simp only [NestedKey.depth] at hn
      cases n with
      | zero => omega
      | succ n =>
        intro A E Q q
        have ok := oc_keys ks vs.toList n s hk (by omega)
        unfold ofAClassStatement
        refine wpAny_bind (wpAny_typeOf (show s.TypeIs (.ref a) "tuple" from ⟨o, hg, hc⟩) ?_)
        dsimp only
        have e : (("tuple" : String) == "tuple") = true := by decide
        simp only [e, if_true, Bool.not_true, Bool.false_eq_true, if_false]
        try refine wpAny_bind (wpAny_pure ?_)
        try simp only [Bool.not_true, Bool.false_eq_true, if_false]
        show wpAny _ _ (seqItems? (.ref a) >>= _) _ _ s
        refine wpAny_bind (wpAny_seqItems hg hd ?_)
        dsimp only
        refine wpAny_bind ?_
        show wpAny _ _ (forIn vs _ _) _ _ s
        rw [← Array.forIn_toList]
        refine wpAny_forIn_list _ (fun rest r t => r.1 = none ∧ t = s ∧ ∀ v ∈ rest, AnsB P w (ofAClassStatement n v) s false) _ ?_ ?_ _ _ ⟨rfl, rfl, ok⟩
        · rintro v rest r t ⟨h1, rfl, h2⟩
          refine wpAny_bind (h2 v List.mem_cons_self _ _ _ ?_)
          rw [if_neg Bool.false_ne_true]
          exact wpAny_pure ⟨rfl, rfl, fun u hu => h2 u (List.mem_cons_of_mem _ hu)⟩
        · rintro ⟨r1, r2⟩ t ⟨h1, rfl, _⟩
          simp only at h1
          subst h1
          exact wpAny_pure q
theorem oc_keys : ∀ (ks : List NestedKey) (vs : List Value) (n : Nat) (s : Shared), NestedAll s.heap ks vs → NestedKey.depthAll ks ≤ n → ∀ v ∈ vs, AnsB P w (ofAClassStatement n v) s false
  | [], _, n, s, x, _, v, hv => by cases x; cases hv
  | k :: ks, _, n, s, x, hn, v, hv => by
    cases x with
    | cons x1 x2 =>
      simp only [NestedKey.depthAll] at hn
      rcases List.mem_cons.mp hv with e | hv
      · rw [e]; exact oc_key k _ n s x1 (by omega)
      · exact oc_keys ks _ n s x2 (by omega) v hv
end
end
/-! ### the set -/
abbrev KIs (P : Program) (w : World) (h : Heap) (k : NestedKey) (a : Addr) : Prop := (nestedKind P w).is h k a
abbrev Mem := Addr × NestedKey
def rowN (w : World) (L : List Mem) : List (Int × Value) := L.map fun p => (p.2.hash w, Value.ref p.1)
def hsN (w : World) (L : List Mem) : List Int := L.map fun p => p.2.hash w
/-- what stands at a is a set with the rows L, its table in order -/
structure SetN (P : Program) (w : World) (h : Heap) (a : Addr) (L : List Mem) (es : Array (Int × Value)) (ep : Nat) (t : SetTable) : Prop where
  here : ∃ o, h.get? a = some o ∧ o.ExactSet ∧ o.data = .set es ep t
  rows : es.toList = rowN w L
  tab : TabB t (hsN w L)
  uniq : (L.map (·.2)).Nodup
  keys : ∀ p ∈ L, KIs P w h p.2 p.1
  led : w.params.followText "set-order" = true ∨ t.led = true
  room : L.length * 5 < t.mask * 3
  few : L.length < 4000
section
variable {P : Program} {w : World} {A : Around} {E : Value → Shared → Prop} {s : Shared} {a : Addr} {L : List Mem} {es : Array (Int × Value)} {ep : Nat} {t : SetTable}
theorem SetN.size (R : SetN P w s.heap a L es ep t) : es.size = L.length := by
  rw [← Array.length_toList, R.rows]; exact List.length_map _
theorem SetN.psize (R : SetN P w s.heap a L es ep t) : t.place.size = L.length := by
  rw [R.tab.sz]; exact List.length_map _
theorem SetN.fits (R : SetN P w s.heap a L es ep t) : t.fits es.size = true := by
  have a1 := R.psize
  have a2 := R.size
  have a3 := R.room
  unfold SetTable.fits SetTable.fill
  rw [R.tab.dm, Bool.and_eq_true, beq_iff_eq, decide_eq_true_eq]
  refine ⟨by omega, ?_⟩
  show t.place.size + 0 ≤ t.mask
  omega
theorem SetN.row (R : SetN P w s.heap a L es ep t) {i : Nat} {p : Mem} (h : L[i]? = some p) : es[i]? = some (p.2.hash w, Value.ref p.1) := by
  rw [← Array.getElem?_toList, R.rows, rowN, List.getElem?_map, h]; rfl
theorem SetN.stood (R : SetN P w s.heap a L es ep t) : ¬ t.gaveWay = true := by
  unfold SetTable.gaveWay
  rw [R.tab.mok.odd]
  decide
/-- a search among such tuples tells nothing -/
theorem seenN {k : NestedKey} {b : Addr} {ys : List Value} {Q : Bool → Shared → Prop} (hk : KIs P w s.heap k b) (hy : ∀ y ∈ ys, ∃ j c, y = Value.ref c ∧ KIs P w s.heap j c) (q : Q false s) :
    wpAny (model P w) A (searchCouldBeSeen (.ref b) ys) Q E s := by
  unfold searchCouldBeSeen
  refine wpAny_bind ?_
  refine wpAny_forIn_list _ (fun rest r u => r.1 = none ∧ u = s ∧ ∀ y ∈ rest, ∃ j c, y = Value.ref c ∧ KIs P w s.heap j c) _ ?_ ?_ _ _ ⟨rfl, rfl, hy⟩
  · rintro v rest r u ⟨h1, rfl, h2⟩
    obtain ⟨j, c, rfl, hc⟩ := h2 v List.mem_cons_self
    have h3 : ∀ y ∈ rest, ∃ j c, y = Value.ref c ∧ KIs P w u.heap j c := fun y hy => h2 y (List.mem_cons_of_mem _ hy)
    dsimp only
    by_cases hv : (b == c || (carriedByValue (.ref b) && carriedByValue (.ref c))) = true
    · exact L2.wp_if_pos hv (wpAny_pure ⟨rfl, rfl, h3⟩)
    · refine L2.wp_if_neg hv ?_
      refine wpAny_bind ((nestedKind P w).quiet hk ?_)
      rw [if_neg (by decide)]
      refine wpAny_bind ((nestedKind P w).quiet hc ?_)
      rw [if_neg (by decide)]
      refine wpAny_bind (oc_key k _ 8 u hk.1 hk.2 _ _ _ ?_)
      rw [if_neg (by decide)]
      refine wpAny_bind (oc_key j _ 8 u hc.1 hc.2 _ _ _ ?_)
      rw [if_neg (by decide)]
      exact wpAny_pure ⟨rfl, rfl, h3⟩
  · rintro ⟨r1, r2⟩ u ⟨h1, rfl, _⟩
    simp only at h1
    subst h1
    exact wpAny_pure q
end
end Fz
end

section
set_option Elab.async false
set_option linter.all false
set_option maxRecDepth 100000
set_option maxHeartbeats 4000000
/-! F53: sets of nested tuples: the search, a member put in. -/
namespace Fz
open PySem PySem.Spec PyProof.Rows L2
/-- the c-th state of a search for h -/
abbrev stp (m : Nat) (h : Int) (c : Nat) : SetTable.Probe := nth m (runAt m (SetTable.bits h % (m + 1)) (SetTable.bits h)) c
theorem stp_dm (m : Nat) (h : Int) (c : Nat) : (stp m h c).dummy = none := by
  have key : ∀ (n : Nat) (p : SetTable.Probe), p.dummy = none → (nth m p n).dummy = none := by
    intro n
    induction n with
    | zero => exact fun p z => z
    | succ n ih =>
      intro p z
      refine ih (adv m p) ?_
      unfold adv
      split <;> exact z
  exact key c _ rfl
theorem stp_add (m : Nat) (h : Int) (c q : Nat) : nth m (stp m h c) q = stp m h (c + q) := (nth_add m c _ q).symm
section
variable {P : Program} {w : World} {A : Around} {E : Value → Shared → Prop} {s : Shared} {a : Addr} {L : List Mem} {es : Array (Int × Value)} {ep : Nat} {t : SetTable}
/-- from the c-th step on -/
theorem findN (R : SetN P w s.heap a L es ep t) {x : Addr} {k : NestedKey} (hx : KIs P w s.heap k x) (hu : (nestedKind P w).room A) {N : Nat} (hN : N < 10 * SetTable.turns t.mask)
    (free : way t.mask (k.hash w) N ∉ t.place.toList) (full : ∀ c, c < N → way t.mask (k.hash w) c ∈ t.place.toList) {Q : SetFound → Shared → Prop}
    (qin : k ∈ L.map (·.2) → Q (.there none) s) (qout : k ∉ L.map (·.2) → Q (.free (way t.mask (k.hash w) N) false) s) :
    ∀ (f c : Nat) (st : Option SetTable.Probe), st.getD (t.probeStart (k.hash w)) = stp t.mask (k.hash w) c → c ≤ N → N - c < f →
      (∀ (i : Nat) p, L[i]? = some p → p.2 = k → ∃ e, c ≤ e ∧ e < N ∧ t.place.toList[i]? = some (way t.mask (k.hash w) e)) →
      wpAny (model P w) A (setSearchFrom a (.ref x) (k.hash w) true f st) Q E s
  | 0, c, st, _, _, hf, _ => absurd hf (Nat.not_lt_zero _)
  | f + 1, c, st, hst, hc, hf, later => by
    obtain ⟨o, ho, hex, hd⟩ := R.here
    rw [setSearchFrom_succ]
    refine wpAny_bind (wpAny_setState_of ho hd R.fits ?_)
    dsimp only
    refine L2.wp_if_neg R.stood ?_
    try refine wpAny_bind (wpAny_pure ?_)
    have jat : ∀ q, (nth t.mask (stp t.mask (k.hash w) c) q).j = way t.mask (k.hash w) (c + q) := fun q => congrArg SetTable.Probe.j (stp_add t.mask (k.hash w) c q)
    have sp := go_spec t R.tab.ris R.tab.dm (fun i => (es[i]?.map (·.1)).getD 0) (k.hash w) (10 * SetTable.turns t.mask) (N - c) (stp t.mask (k.hash w) c) (stp_dm _ _ _) (by omega)
      (fun q hq => by rw [jat]; exact full (c + q) (by omega)) (by rw [jat, Nat.add_sub_cancel' hc]; exact free)
    have hat : ∀ (i : Nat) p, L[i]? = some p → (fun i => (es[i]?.map (·.1)).getD 0) i = p.2.hash w := fun i p hp => by
      show (es[i]?.map (·.1)).getD 0 = _
      rw [R.row hp]; rfl
    rcases sp with ⟨q, i, hq, hi, hh, hno, hpr⟩ | ⟨hno, hpr⟩
    · have pr : t.probe (fun i => (es[i]?.map (·.1)).getD 0) (k.hash w) (st.getD (t.probeStart (k.hash w))) = some (.candidate (way t.mask (k.hash w) (c + q)) i (stp t.mask (k.hash w) (c + (q + 1)))) := by
        rw [hst, ← jat, ← stp_add]; exact hpr
      rw [pr]
      dsimp only
      rw [jat] at hi
      have hil : i < L.length := by
        have z := (List.getElem?_eq_some_iff.mp hi).1
        rw [Array.length_toList, R.psize] at z
        exact z
      obtain ⟨p, hp⟩ : ∃ p, L[i]? = some p := ⟨L[i], List.getElem?_eq_getElem hil⟩
      have hm : p ∈ L := List.mem_of_getElem? hp
      have hpk := R.keys p hm
      have rest : wpAny (model P w) A (searchRest a (.ref x) (k.hash w) true f es t (way t.mask (k.hash w) (c + q)) i (stp t.mask (k.hash w) (c + (q + 1)))) Q E s := by
        unfold searchRest
        rw [R.row hp]
        dsimp only
        refine wpAny_bind (wpAny_holding ((nestedKind P w).eqBool hu hpk hx ?_))
        refine wpAny_bind (wpAny_setState_of ho hd R.fits ?_)
        dsimp only
        by_cases hkk : p.2 = k
        · refine L2.wp_if_pos (by simp [hkk]) ?_
          exact wpAny_pure (qin (List.mem_map.mpr ⟨p, hm, hkk⟩))
        · refine L2.wp_if_neg (by simp [hkk]) ?_
          try refine wpAny_bind (wpAny_pure ?_)
          rw [sameMem]
          dsimp only
          have live : t.slot (way t.mask (k.hash w) (c + q)) = .live i := slot_live R.tab.ris hi
          simp only [if_true, live, R.row hp]
          refine wpAny_bind (wpAny_isSame_ref_self (wpAny_bind (wpAny_pure ?_)))
          simp only [if_true]
          refine L2.wp_if_neg (by simp [hkk]) ?_
          refine findN R hx hu hN free full qin qout f (c + (q + 1)) _ rfl (by omega) (by omega) fun i0 p0 h0 k0 => ?_
          obtain ⟨e, e1, e2, e3⟩ := later i0 p0 h0 k0
          refine ⟨e, ?_, e2, e3⟩
          by_cases z : e < c + q
          · exfalso
            refine hno (e - c) i0 (by omega) (by rw [jat, Nat.add_sub_cancel' e1]; exact e3) ?_
            exact (hat i0 p0 h0).trans (congrArg (NestedKey.hash w) k0)
          · by_cases z2 : e = c + q
            · exfalso
              rw [z2] at e3
              have s0 := slot_live R.tab.ris e3
              rw [live] at s0
              injection s0 with s0
              rw [← s0, hp] at h0
              cases h0
              exact hkk k0
            · omega
      by_cases hl : t.led = true
      · refine L2.wp_if_neg (by simp [hl]) ?_
        try refine wpAny_bind (wpAny_pure ?_)
        exact rest
      · refine L2.wp_if_pos (by simp [hl]) ?_
        refine wpAny_bind (seenN hx (fun y hy => ?_) ?_)
        · obtain ⟨e, he, ee⟩ := List.mem_map.mp hy
          have he : e ∈ es.toList := by
            have : e ∈ es ∧ e.1 = k.hash w := by simpa using he
            simpa using this.1
          rw [R.rows] at he
          obtain ⟨p2, hp2, e2⟩ := List.mem_map.mp he
          exact ⟨p2.2, p2.1, by rw [← ee, ← e2], R.keys p2 hp2⟩
        · refine L2.wp_if_neg (by decide) ?_
          try refine wpAny_bind (wpAny_pure ?_)
          exact rest
    · have pr : t.probe (fun i => (es[i]?.map (·.1)).getD 0) (k.hash w) (st.getD (t.probeStart (k.hash w))) = some (.empty (way t.mask (k.hash w) N) none) := by
        have z := jat (N - c)
        rw [Nat.add_sub_cancel' hc] at z
        rw [hst, ← z]; exact hpr
      rw [pr]
      dsimp only
      refine wpAny_pure (qout fun hm => ?_)
      obtain ⟨p0, h0, k0⟩ := List.mem_map.mp hm
      obtain ⟨i0, hi0, e0⟩ := List.getElem_of_mem h0
      have h00 : L[i0]? = some p0 := by rw [List.getElem?_eq_getElem hi0, e0]
      obtain ⟨e, e1, e2, e3⟩ := later i0 p0 h00 k0
      refine hno (e - c) i0 (by omega) (by rw [jat, Nat.add_sub_cancel' e1]; exact e3) ?_
      exact (hat i0 p0 h00).trans (congrArg (NestedKey.hash w) k0)
/-- the search that adding makes -/
theorem searchN (R : SetN P w s.heap a L es ep t) {x : Addr} {k : NestedKey} (hx : KIs P w s.heap k x) (hu : (nestedKind P w).room A) {Q : SetFound → Shared → Prop}
    (qin : k ∈ L.map (·.2) → Q (.there none) s)
    (qout : ∀ N, k ∉ L.map (·.2) → way t.mask (k.hash w) N ∉ t.place.toList → (∀ c, c < N → way t.mask (k.hash w) c ∈ t.place.toList) → Q (.free (way t.mask (k.hash w) N) false) s) :
    wpAny (model P w) A (setSearch a (.ref x) (k.hash w) true) Q E s := by
  have hroom := R.room
  obtain ⟨N, hN, free, full⟩ := R.tab.first (by unfold hsN; rw [List.length_map]; omega) (k.hash w)
  have big : N < 100000 := by
    have : 10 * SetTable.turns t.mask ≤ 82060 := by
      unfold SetTable.turns
      rcases R.tab.mok with e | e | e | e | e | e <;> omega
    omega
  unfold setSearch
  refine findN R hx hu hN free full qin (fun hn => qout N hn free full) 100000 0 none rfl (Nat.zero_le _) (by omega) fun i p hp hk => ?_
  have hi : (hsN w L)[i]? = some (k.hash w) := by unfold hsN; rw [List.getElem?_map, hp, ← hk]; rfl
  have hil : i < t.place.toList.length := by
    rw [Array.length_toList, R.psize]
    exact (List.getElem?_eq_some_iff.mp hp).1
  have hj := List.getElem?_eq_getElem hil
  obtain ⟨c, hc, e⟩ := R.tab.before free hi hj
  exact ⟨c, Nat.zero_le _, hc, by rw [hj, e]⟩
end
end Fz
end

section
set_option Elab.async false
set_option linter.all false
set_option maxRecDepth 100000
set_option maxHeartbeats 4000000
/-! F54: sets of nested tuples: a member put in; the table laid anew. -/
namespace Fz
open PySem PySem.Spec PyProof.Rows L2
section
variable {P : Program} {w : World} {A : Around} {E : Value → Shared → Prop} {s : Shared} {a : Addr} {L : List Mem} {es : Array (Int × Value)} {ep : Nat} {t : SetTable}
theorem kis_same {h h' : Heap} {k : NestedKey} {b : Addr} {o : Obj} (hb : KIs P w h k b) (ho : h.get? a = some o) (hd : o.data = .set es ep t) (hs : Heap.SameBut a h h') : KIs P w h' k b := by
  refine ⟨NestedIs.at (fun c ob vs n hc hq => ?_) k _ hb.1, hb.2⟩
  refine (hs.2 c fun e => ?_).trans hc
  subst e
  rw [ho] at hc
  cases hc
  rw [hd] at hq
  cases hq
theorem kis_keep {h h' : Heap} {k : NestedKey} {b : Addr} (hb : KIs P w h k b) (hk : ∀ c o, h.get? c = some o → h'.get? c = some o) : KIs P w h' k b :=
  ⟨NestedIs.at (fun c ob _ _ hc _ => hk c ob hc) k _ hb.1, hb.2⟩
theorem rowN_put (p : Nat) (m : Mem) : rowN w (L.take p ++ m :: L.drop p) = (rowN w L).take p ++ (m.2.hash w, Value.ref m.1) :: (rowN w L).drop p := by
  unfold rowN
  rw [List.map_append, List.map_cons, List.map_take, List.map_drop]
theorem hsN_put (p : Nat) (m : Mem) : hsN w (L.take p ++ m :: L.drop p) = (hsN w L).take p ++ m.2.hash w :: (hsN w L).drop p := by
  unfold hsN
  rw [List.map_append, List.map_cons, List.map_take, List.map_drop]
/-- a list picked out by the numbers of a permutation -/
theorem pick_all {α : Type} (l : List α) : (List.range l.length).filterMap (fun i => l[i]?) = l := by
  have key : ∀ n, n ≤ l.length → (List.range n).filterMap (fun i => l[i]?) = l.take n := by
    intro n
    induction n with
    | zero => intro _; rfl
    | succ n ih =>
      intro h
      rw [List.range_succ, List.filterMap_append, ih (by omega), List.take_add_one, List.getElem?_eq_getElem (by omega)]
      simp [List.getElem?_eq_getElem (show n < l.length by omega)]
  rw [key l.length (Nat.le_refl _), List.take_length]
theorem rows_order (order : Array Nat) (hr : es.toList = rowN w L) (hp : order.toList.Perm (List.range L.length)) :
    ∃ M, (order.filterMap (es[·]?)).toList = rowN w M ∧ M.Perm L ∧ hsN w M = order.toList.map fun i => (es.map (·.1)).getD i 0 := by
  have ent : ∀ i (h : i < L.length), es[i]? = some ((L[i]).2.hash w, Value.ref (L[i]).1) := fun i h => by
    rw [← Array.getElem?_toList, hr, rowN, List.getElem?_map, List.getElem?_eq_getElem h]; rfl
  have hle : ∀ i ∈ order.toList, i < L.length := fun i hi => List.mem_range.mp (hp.mem_iff.mp hi)
  refine ⟨order.toList.filterMap fun i => L[i]?, ?_, ?_, ?_⟩
  · have e1 : (order.filterMap (es[·]?)).toList = order.toList.filterMap fun i => es[i]? := by simp
    rw [e1]
    clear hp e1
    revert hle
    generalize order.toList = l
    intro hle
    induction l with
    | nil => rfl
    | cons i l ih =>
      have hi := hle i (by simp)
      rw [List.filterMap_cons_some (ent i hi), List.filterMap_cons_some (List.getElem?_eq_getElem hi), ih fun j hj => hle j (by simp [hj])]
      rfl
  · have := hp.filterMap fun i => L[i]?
    rwa [pick_all] at this
  · clear hp
    revert hle
    generalize order.toList = l
    intro hle
    induction l with
    | nil => rfl
    | cons i l ih =>
      have hi := hle i (by simp)
      have e5 : (es.map (·.1))[i]? = some ((L[i]).2.hash w) := by rw [Array.getElem?_map, ent i hi]; rfl
      have e6 : (es.map (·.1)).getD i 0 = (L[i]).2.hash w := by simp [Array.getD_eq_getD_getElem?, e5]
      have ih := ih fun j hj => hle j (by simp [hj])
      rw [List.filterMap_cons_some (List.getElem?_eq_getElem hi), List.map_cons, e6, ← ih]
      rfl
theorem layN {o : Obj} (ho : s.heap.get? a = some o) (hex : o.ExactSet) (hd : o.data = .set es ep t) (hrows : es.toList = rowN w L) (hps : t.place.size = es.size) (hdm : t.dummies = #[]) (hfl : es.size ≤ t.mask)
    (uq : (L.map (·.2)).Nodup) (ks : ∀ p ∈ L, KIs P w s.heap p.2 p.1) (ld : w.params.followText "set-order" = true ∨ t.led = true) (few : L.length < 4000) {wanted M : Nat}
    (hw : SetTable.sizeAbove wanted - 1 = M) (hM : MskB M) (hw2 : SetTable.sizeAbove wanted ≤ 8192) (hn : L.length * 5 < M * 3) {Q : Unit → Shared → Prop}
    (q : ∀ h' L' es' ep' t', Heap.SameBut a s.heap h' → SetN P w h' a L' es' ep' t' → L'.Perm L → Q () { s with heap := h' }) : wpAny (model P w) A (setRelay a wanted) Q E s := by
  have hsl : es.size = L.length := by
    rw [← Array.length_toList, hrows]; exact List.length_map _
  have fit : t.fits es.size = true := by
    unfold SetTable.fits SetTable.fill
    rw [hdm, Bool.and_eq_true, beq_iff_eq, decide_eq_true_eq]
    refine ⟨hps, ?_⟩
    show t.place.size + 0 ≤ t.mask
    omega
  obtain ⟨t', order, e, hp, T, em, el, _, ed⟩ := relaidB t (hs := es.map (·.1)) (wanted := wanted) hw hM (by rw [Array.size_map, hsl]; omega)
  rw [Array.size_map, hsl] at hp
  obtain ⟨M', r1, r2, r3⟩ := rows_order order hrows hp
  rw [← r3] at T
  have sz2 : (order.filterMap (es[·]?)).size = es.size := by
    have z := congrArg List.length r1
    rw [Array.length_toList] at z
    rw [z, hsl, ← r2.length_eq]; exact List.length_map _
  rw [setRelay_eq]
  refine wpAny_bind (wpAny_setState_of ho hd fit ?_)
  dsimp only
  refine L2.wp_if_neg (by rw [sizeLine_eq]; omega) ?_
  try refine wpAny_bind (wpAny_pure ?_)
  rw [e]
  dsimp only
  refine wpAny_bind ?_
  refine L2.wp_if_neg (by rw [sz2]; simp) ?_
  try refine wpAny_bind (wpAny_pure ?_)
  refine wpAny_pure ?_
  dsimp only
  refine wpAny_storeSet_of ho hd ?_ (by rw [sz2, hsl, sizeLine_eq]; omega)
  have sb : Heap.SameBut a s.heap (s.heap.update a (Obj.putSet (order.filterMap (es[·]?)) t')) := Heap.SameBut.update ..
  refine q _ M' (order.filterMap (es[·]?)) (ep + 1) t' sb ?_ r2
  exact { here := ⟨_, store_at ho hd, ⟨hex.1, hex.2.1, hex.2.2⟩, rfl⟩, rows := r1, tab := T, uniq := (r2.map (·.2)).nodup_iff.mpr uq, keys := fun p hpm => kis_same (ks p (r2.mem_iff.mp hpm)) ho hd sb, led := by rw [el]; exact ld,
          room := by rw [r2.length_eq, em]; exact hn, few := by rw [r2.length_eq]; exact few }
/-- a member put in -/
theorem putN (R : SetN P w s.heap a L es ep t) {x : Addr} {k : NestedKey} (hx : KIs P w s.heap k x) (hu : (nestedKind P w).room A) (few : k ∉ L.map (·.2) → L.length + 1 < 4000) {Q : Bool → Shared → Prop}
    (q : ∀ b h' L' es' ep' t', Heap.SameBut a s.heap h' → SetN P w h' a L' es' ep' t' → (k ∈ L.map (·.2) → L' = L) → (k ∉ L.map (·.2) → L'.Perm ((x, k) :: L)) → Q b { s with heap := h' }) :
    wpAny (model P w) A (setAddHashed a (.ref x) (k.hash w)) Q E s := by
  obtain ⟨o, ho, hex, hd⟩ := R.here
  have hsl := R.size
  have hroom := R.room
  unfold setAddHashed
  refine wpAny_holding ?_
  rw [show (100000 : Nat) = 99999 + 1 from rfl, setAddHashedIn_succ]
  refine wpAny_bind (wpAny_setState_of ho hd R.fits ?_)
  dsimp only
  refine L2.wp_if_neg (by simp [byScan, Value.scannable]) ?_
  try refine wpAny_bind (wpAny_pure ?_)
  refine wpAny_bind (searchN R hx hu (fun hm => ?_) fun N hm free full => ?_)
  · dsimp only
    exact wpAny_pure (q false s.heap L es ep t (Heap.SameBut.refl a s.heap) R (fun _ => rfl) fun z => absurd hm z)
  have few := few hm
  dsimp only
  refine wpAny_bind (wpAny_setState_of ho hd R.fits ?_)
  dsimp only
  obtain ⟨q1, q2, q3, q4, q5, q6, q7, q8, q9⟩ := R.tab.put free full
  have hl0 : (hsN w L).length = L.length := List.length_map _
  rw [hl0] at q9 q2
  generalize hpt : t.put (way t.mask (k.hash w) N) = pt at q1 q3 q4 q5 q9 ⊢
  obtain ⟨t1, p⟩ := pt
  dsimp only at q1 q3 q4 q5 q9 ⊢
  subst q1
  generalize hpp : SetTable.below t.place (way t.mask (k.hash w) N) = p at q2 q3 ⊢
  obtain ⟨bv, hbv⟩ := hb_key (P := P) (w := w) k (.ref x) 8 s hx.1
  -- the rows
  have hin : (SetTable.insertAt es p (k.hash w, Value.ref x)).toList = rowN w (L.take p ++ (x, k) :: L.drop p) := by
    rw [SetTable.toList_insertAt, rowN_put, R.rows]
  rw [← hsN_put p (x, k)] at q3
  have pm := put_perm L p (x, k)
  have hlen : (L.take p ++ (x, k) :: L.drop p).length = L.length + 1 := pm.length_eq
  have uq : ((L.take p ++ (x, k) :: L.drop p).map (·.2)).Nodup := by
    refine (pm.map (·.2)).nodup_iff.mpr ?_
    rw [List.map_cons]
    exact List.nodup_cons.mpr ⟨hm, R.uniq⟩
  have hes : (SetTable.insertAt es p (k.hash w, Value.ref x)).size = L.length + 1 := by
    rw [← Array.length_toList, hin, ← hlen]; exact List.length_map _
  generalize SetTable.insertAt es p (k.hash w, Value.ref x) = es1 at hin hes ⊢
  generalize L.take p ++ (x, k) :: L.drop p = L1 at pm hlen q3 uq hin
  -- whatever the table says of values
  have main : ∀ t2 : SetTable, t2.place = t1.place → t2.dummies = t1.dummies → t2.mask = t1.mask → t2.led = t1.led → t2.moves = t1.moves → t2.finger = t1.finger →
      wpAny (model P w) A (do
        storeSet a es1 t2
        if (!false && t2.tooFull) = true then setRelay a (SetTable.grown (es.size + 1))
        pure true) Q E s := by
    intro t2 f1 f2 f3 f4 f5 f6
    have tb : TabB t2 (hsN w L1) := ⟨by rw [f1]; exact q3.ris, by rw [f2]; exact q3.dm, by rw [f1]; exact q3.sz, by rw [f3]; exact q3.mok, by rw [f1, f3]; exact q3.bd, by rw [f1, f3]; exact q3.reach⟩
    have fl : t2.fill = L.length + 1 := by
      have : t2.fill = t1.fill := by unfold SetTable.fill; rw [f1, f2]
      rw [this, q9]
    have fu : t2.tooFull = decide ((L.length + 1) * 5 ≥ t.mask * 3) := by
      unfold SetTable.tooFull
      rw [fl, f3, q4]
    refine wpAny_bind (wpAny_storeSet_of ho hd ?_ (by rw [hes, sizeLine_eq]; omega))
    have sb : Heap.SameBut a s.heap (s.heap.update a (Obj.putSet es1 t2)) := Heap.SameBut.update ..
    have ho1 := store_at (es' := es1) (t' := t2) ho hd
    generalize s.heap.update a (Obj.putSet es1 t2) = h1 at sb ho1 ⊢
    have ks1 : ∀ p ∈ L1, KIs P w h1 p.2 p.1 := fun p hp => by
      rcases List.mem_cons.mp (pm.mem_iff.mp hp) with e | hp
      · rw [e]; exact kis_same hx ho hd sb
      · exact kis_same (R.keys p hp) ho hd sb
    have ld1 : w.params.followText "set-order" = true ∨ t2.led = true := by rw [f4, q5]; exact R.led
    by_cases hf : (L.length + 1) * 5 ≥ t.mask * 3
    · have hf2 : (!false && t2.tooFull) = true := by rw [fu]; simp [hf]
      rw [if_pos hf2]
      refine wpAny_bind ?_
      rw [hsl]
      have two : (t.mask = 7 ∧ L.length = 4) ∨ (t.mask = 31 ∧ L.length = 18) ∨ (t.mask = 127 ∧ L.length = 76) ∨ (t.mask = 511 ∧ L.length = 306) ∨ (t.mask = 2047 ∧ L.length = 1228) := by
        rcases R.tab.mok with e | e | e | e | e | e
        · exact .inl ⟨e, by rw [e] at hroom hf; omega⟩
        · exact .inr (.inl ⟨e, by rw [e] at hroom hf; omega⟩)
        · exact .inr (.inr (.inl ⟨e, by rw [e] at hroom hf; omega⟩))
        · exact .inr (.inr (.inr (.inl ⟨e, by rw [e] at hroom hf; omega⟩)))
        · exact .inr (.inr (.inr (.inr ⟨e, by rw [e] at hroom hf; omega⟩)))
        · exfalso; rw [e] at hf; omega
      have ps : t2.place.size = es1.size := by
        rw [tb.sz, hes, ← hlen]; exact List.length_map _
      have go : ∀ M, SetTable.sizeAbove (SetTable.grown (L.length + 1)) - 1 = M → MskB M → SetTable.sizeAbove (SetTable.grown (L.length + 1)) ≤ 8192 → (L.length + 1) * 5 < M * 3 →
          wpAny (model P w) A (setRelay a (SetTable.grown (L.length + 1))) (fun _ u => wpAny (model P w) A (pure true) Q E u) E { s with heap := h1 } := fun M g1 g2 g3 g4 => by
        refine layN (s := { s with heap := h1 }) ho1 ⟨hex.1, hex.2.1, hex.2.2⟩ rfl hin ps tb.dm (by rw [hes, f3, q4]; rcases two with ⟨e, e2⟩ | ⟨e, e2⟩ | ⟨e, e2⟩ | ⟨e, e2⟩ | ⟨e, e2⟩ <;> omega) uq ks1 ld1 (by rw [hlen]; exact few) g1 g2 g3 (by rw [hlen]; exact g4) ?_
        intro h2 L2' es2 ep2 t3 sb2 R2 pm2
        exact wpAny_pure (q true h2 L2' es2 ep2 t3 (sb.trans sb2) R2 (fun z => absurd z hm) fun _ => pm2.trans pm)
      obtain ⟨g1, g2, g3, g4, g5⟩ := grows
      rcases two with ⟨_, e2⟩ | ⟨_, e2⟩ | ⟨_, e2⟩ | ⟨_, e2⟩ | ⟨_, e2⟩
      · exact go 31 (by rw [e2, g1]) (.inr (.inl rfl)) (by rw [e2, g1]; decide) (by omega)
      · exact go 127 (by rw [e2, g2]) (.inr (.inr (.inl rfl))) (by rw [e2, g2]; decide) (by omega)
      · exact go 511 (by rw [e2, g3]) (.inr (.inr (.inr (.inl rfl)))) (by rw [e2, g3]; decide) (by omega)
      · exact go 2047 (by rw [e2, g4]) (.inr (.inr (.inr (.inr (.inl rfl))))) (by rw [e2, g4]; decide) (by omega)
      · exact go 8191 (by rw [e2, g5]) (.inr (.inr (.inr (.inr (.inr rfl))))) (by rw [e2, g5]; decide) (by omega)
    · have hf2 : ¬ (!false && t2.tooFull) = true := by rw [fu]; simp [hf]
      rw [if_neg hf2]
      refine wpAny_bind (wpAny_pure (wpAny_pure (q true h1 L1 es1 (ep + 1) t2 sb ?_ (fun z => absurd z hm) fun _ => pm)))
      exact { here := ⟨_, ho1, ⟨hex.1, hex.2.1, hex.2.2⟩, rfl⟩, rows := hin, tab := tb, uniq := uq, keys := ks1, led := ld1, room := by rw [hlen, f3, q4]; omega, few := by rw [hlen]; exact few }
  by_cases hpl : t1.plain = true
  · rw [if_pos hpl]
    refine wpAny_bind (hbv _ _ _ ?_)
    cases bv with
    | true => exact main _ rfl rfl rfl rfl rfl rfl
    | false => exact main _ rfl rfl rfl rfl rfl rfl
  · rw [if_neg hpl]
    refine wpAny_bind (wpAny_pure ?_)
    exact main _ rfl rfl rfl rfl rfl rfl
end
end Fz
end

section
set_option Elab.async false
set_option linter.all false
set_option maxRecDepth 100000
set_option maxHeartbeats 4000000
/-! F55: sets of nested tuples: set(xs). -/
namespace Fz
open PySem PySem.Spec PyProof.Rows L2
def FewK (ks : List Mem) : Prop := ∀ L : List Mem, (L.map (·.2)).Nodup → (∀ p ∈ L, p ∈ ks) → L.length < 4000
/-- what a set has got of the first i items -/
structure GotN (ks : List Mem) (i : Nat) (L : List Mem) : Prop where
  sub : ∀ p ∈ L, p ∈ ks.take i
  all : ∀ p ∈ ks.take i, p.2 ∈ L.map (·.2)
theorem GotN.next {ks L L' : List Mem} {i : Nat} {x : Mem} (g : GotN ks i L) (h : ks[i]? = some x) (c1 : x.2 ∈ L.map (·.2) → L' = L) (c2 : x.2 ∉ L.map (·.2) → L'.Perm (x :: L)) : GotN ks (i + 1) L' := by
  have tk : ks.take (i + 1) = ks.take i ++ [x] := by rw [List.take_add_one, h]; rfl
  by_cases m : x.2 ∈ L.map (·.2)
  · rw [c1 m]
    refine ⟨fun p hp => by rw [tk]; exact List.mem_append_left _ (g.sub p hp), fun p hp => ?_⟩
    rw [tk] at hp
    rcases List.mem_append.mp hp with z | z
    · exact g.all p z
    · rw [List.mem_singleton.mp z]; exact m
  · have pm := c2 m
    refine ⟨fun p hp => ?_, fun p hp => ?_⟩
    · rw [tk]
      rcases List.mem_cons.mp (pm.mem_iff.mp hp) with e | z
      · rw [e]; simp
      · exact List.mem_append_left _ (g.sub p z)
    · rw [(pm.map (·.2)).mem_iff, List.map_cons]
      rw [tk] at hp
      rcases List.mem_append.mp hp with z | z
      · exact List.mem_cons_of_mem _ (g.all p z)
      · rw [List.mem_singleton.mp z]; exact List.mem_cons_self
section
variable {P : Program} {w : World} {A : Around} {E : Value → Shared → Prop} {s : Shared}
theorem SetN.later {h h' : Heap} {a : Addr} {L : List Mem} {es : Array (Int × Value)} {ep : Nat} {t : SetTable} (R : SetN P w h a L es ep t) (ha : ∀ o, h.get? a = some o → h'.get? a = some o) (hk : ∀ p ∈ L, KIs P w h' p.2 p.1) : SetN P w h' a L es ep t := by
  obtain ⟨o, ho, r⟩ := R.here
  exact { here := ⟨o, ha o ho, r⟩, rows := R.rows, tab := R.tab, uniq := R.uniq, keys := hk, led := R.led, room := R.room, few := R.few }
abbrev newSet0 (w : World) : Obj := { cls := .type "set", dict := none, data := .set #[] 0 (.fresh 0 0 (!w.params.followText "set-order")) }
theorem setN_new {h : Heap} {a : Addr} (ho : h.get? a = some (newSet0 w)) : SetN P w h a [] #[] 0 (.fresh 0 0 (!w.params.followText "set-order")) where
  here := ⟨_, ho, ⟨rfl, rfl, rfl⟩, rfl⟩
  rows := rfl
  tab := ⟨List.Pairwise.nil, rfl, rfl, .inl rfl, fun _ z => (nomatch z), fun _ _ _ z => (by simp [hsN] at z)⟩
  uniq := List.nodup_nil
  keys := fun _ z => (nomatch z)
  led := by
    show _ ∨ (!w.params.followText "set-order") = true
    cases w.params.followText "set-order"
    · exact .inr rfl
    · exact .inl rfl
  room := by show 0 * 5 < 7 * 3; decide
  few := by show 0 < 4000; decide
/-- the loop that puts them in -/
theorem loopN {I : Addr} {fp wr : List Addr} {G : Array GenState → Array GenState → Prop} {n : Nat} {Pv : Nat → Value → Prop} {St : Nat → Shared → Prop} {R : Result → Shared → Prop}
    (W : WalksS P w A.in1 I fp wr G n Pv St) (S : Addr) (hSf : S ∉ fp) (ks : List Mem) (hn : n = ks.length) (few : FewK ks) (hval : ∀ i v, Pv i v → ∃ p, ks[i]? = some p ∧ v = .ref p.1)
    (h0 : Heap) (hk : ∀ p ∈ ks, KIs P w h0 p.2 p.1) (hS0 : h0.get? S = none) (hw0 : ∀ b ∈ wr, h0.get? b = none) (hu : (nestedKind P w).room A.in1) :
    ∀ (k i : Nat) (s : Shared), n - i = k → i ≤ n → St i s → (∀ b o, h0.get? b = some o → s.heap.get? b = some o) → (∃ L es ep t, SetN P w s.heap S L es ep t ∧ GotN ks i L) →
      (∀ s' L es ep t, Moved (S :: wr) G s s' → SetN P w s'.heap S L es ep t → GotN ks n L → (∀ b o, h0.get? b = some o → s'.heap.get? b = some o) → R (.ok (.ret .none)) s') →
      codeAny (model P w) A (.builtin "set.update.loop" ⟨[.ref S, .ref I], []⟩) R s := by
  have hSw : S ∉ wr := fun z => hSf (W.sub _ z)
  have up : ∀ b ∈ wr, b ∈ S :: wr := fun b hb => List.mem_cons_of_mem _ hb
  have kept : ∀ {u u' : Shared}, Moved wr G u u' → (∀ b o, h0.get? b = some o → u.heap.get? b = some o) → ∀ b o, h0.get? b = some o → u'.heap.get? b = some o := fun hm hkp b o e =>
    hm.heap b o (fun hb => by rw [hw0 b hb] at e; cases e) (hkp b o e)
  have inks : ∀ {i : Nat} {L : List Mem}, GotN ks i L → ∀ p ∈ L, p ∈ ks := fun g p hp => List.mem_of_mem_take (g.sub p hp)
  intro k
  induction k with
  | zero =>
    rintro i s hk' hi hst hkp ⟨L, es, ep, t, hS, g⟩ hR
    obtain rfl : i = n := by omega
    refine codeAny_builtin F.entry_set_update_loop ?_
    rw [Around.under_plainId F.plain_set_update_loop _]
    show wpAny _ A.in1 (pyNext (.ref I) >>= _) _ _ s
    refine wpAny_bind (W.done s _ _ hst fun s' hm => ?_)
    have hkp' := kept hm hkp
    exact wpAny_pure (hR s' L es ep t (hm.mono up) (hS.later (fun o e => hm.heap S o hSw e) fun p hp => kis_keep (hk p (inks g p hp)) hkp') g hkp')
  | succ k ih =>
    rintro i s hk' hi hst hkp ⟨L, es, ep, t, hS, g⟩ hR
    have hlt : i < n := by omega
    refine codeAny_builtin F.entry_set_update_loop ?_
    rw [Around.under_plainId F.plain_set_update_loop _]
    show wpAny _ A.in1 (pyNext (.ref I) >>= _) _ _ s
    refine wpAny_bind (W.item i s _ _ hlt hst fun v s' hP hst' hm => ?_)
    obtain ⟨p, hp, rfl⟩ := hval i v hP
    have hpm := List.mem_of_getElem? hp
    have hkp' := kept hm hkp
    have hS' : SetN P w s'.heap S L es ep t := hS.later (fun o e => hm.heap S o hSw e) fun q hq => kis_keep (hk q (inks g q hq)) hkp'
    have hx : KIs P w s'.heap p.2 p.1 := kis_keep (hk p hpm) hkp'
    show wpAny _ A.in1 (holding [Value.ref p.1] (setAdd S (.ref p.1)) >>= _) _ _ s'
    refine wpAny_bind (wpAny_holding ?_)
    unfold setAdd
    refine wpAny_holding ?_
    refine wpAny_bind ((nestedKind P w).pyHash hu hx ?_)
    refine putN (s := { s' with toks := s'.toks + p.2.draws }) hS' hx hu (fun z => ?_) fun b h' L' es' ep' t' hsb hS2 c1 c2 => ?_
    · have := few (p :: L) (by rw [List.map_cons]; exact List.nodup_cons.mpr ⟨z, hS.uniq⟩) fun q hq => by
        rcases List.mem_cons.mp hq with e | hq
        · rw [e]; exact hpm
        · exact inks g q hq
      simpa using this
    have g' := g.next hp c1 c2
    have kp2 : ∀ b o, h0.get? b = some o → h'.get? b = some o := fun b o e => (hsb.2 b (fun z => by rw [z, hS0] at e; cases e)).trans (hkp' b o e)
    refine wpAny_pure ⟨plainId_quiet F.plain_set_update_loop _, ih (i + 1) _ (by omega) hlt (W.frame _ s' _ _ hst' (Nat.le_add_right _ _) fun b hb o e => ?_) kp2 ⟨L', es', ep', t', hS2, g'⟩ fun u L2 es2 ep2 t2 hm2 hS3 g2 kp3 => ?_⟩
    · rw [hsb.2 b (fun z : b = S => hSf (by rw [← z]; exact hb))]; exact e
    · refine hR u L2 es2 ep2 t2 (Moved.trans W.gtrans ((hm.mono up).then_heap (Nat.le_add_right _ _) fun b o hb e => ?_) hm2) hS3 g2 kp3
      rw [hsb.2 b (fun z : b = S => hb (by rw [z]; exact List.mem_cons_self))]; exact e
end
end Fz
end

section
set_option Elab.async false
set_option linter.all false
set_option maxRecDepth 100000
set_option maxHeartbeats 4000000
/-! F56: set(xs) at the machine. -/
namespace Fz
open PySem PySem.Spec PyProof.Rows L2
section
variable {P : Program} {w : World} {A : Around} {E : Value → Shared → Prop} {s : Shared}
/-- set(x), x no set and no dict: a new set, the loop over the iterator -/
theorem call_setG {l : Addr} {T : String} {o : Obj} {Q : Value → Shared → Prop} (ho : s.heap.get? l = some o) (hcl : o.cls = .type T) (hne : (Value.type T == Value.type "dict") = false)
    (hsls : isSubtype (.type T) (.type "set") = pure false) (hslf : isSubtype (.type T) (.type "frozenset") = pure false)
    (h : wpAny (model P w) A.in1.in1 (pyIter (.ref l)) (fun it u => codeAny (model P w) A.in1.in1 (.builtin "set.update.loop" ⟨[.ref s.heap.objs.size, it], []⟩)
      (fun r v => r = .ok (.ret .none) ∧ Q (.ref s.heap.objs.size) v) u) E { s with heap := s.heap.push (newSet0 w) }) :
    wpAny (model P w) A (call (.type "set") [.ref l]) Q E s := by
  obtain ⟨c, tl, hmro⟩ := F.called_set.mro
  have hmade := F.called_set.made
  have hsub := F.called_set.sub
  refine wpAny_call (codeAny_of_tree ?_)
  show wpAny _ _ (callAny (.type "set") _) _ _ _
  refine wpAny_pure ⟨Code.quiet_builtin _ (by decide +kernel), codeAny_builtin F.entry_type_call ?_⟩
  rw [Around.under_plain (weight_type_call_type "set" [.ref l] []) rfl]
  have h1 := F.called_set.notType
  have h2 := F.called_set.canCreate
  have hct := F.typeCall_set_1 (.ref l)
  repeat (any_goals (first | assumption | wp_step))
  refine codeAny_mono (code_set_led1 (.ref l) (E := E) (Q₁ := fun ob u => ob = .ref s.heap.objs.size ∧ u = { s with heap := s.heap.push (newSet0 w) }) ⟨rfl, rfl⟩) fun r s₁ hr => ?_
  cases r with
  | error e => exact hr
  | ok fl =>
    cases fl with
    | ret obj =>
      obtain ⟨rfl, rfl⟩ := hr
      have hS : (s.heap.push (newSet0 w)).get? s.heap.objs.size = some (newSet0 w) := Heap.get?_push_size _ rfl
      have hT : Shared.TypeIs { s with heap := s.heap.push (newSet0 w) } (.ref s.heap.objs.size) "set" := ⟨_, hS, rfl⟩
      have hli := F.called_set.init.lookup
      have hbi := F.called_set.init.bind (.ref s.heap.objs.size)
      repeat (any_goals (first | assumption | wp_step))
      refine codeAny_mono (codeAny_call_builtin (R := wants (fun r u => r = .none ∧ Q (.ref s.heap.objs.size) u) E) F.called_set.init.plain F.entry_set_init (check_set_init_1 hT ?_)) fun r₂ s₂ hr₂ => ?_
      · obtain ⟨ocls, odict, odata, oslots⟩ := o
        simp only at hcl
        subst hcl
        have hol' : (s.heap.push (newSet0 w)).get? l = some { cls := .type T, dict := odict, data := odata, slots := oslots } := Heap.get?_push_of_some _ ho
        unfold Builtin.«set.__init__» noKeywords Builtin.Frozenset.updateFrom
        generalize hPI : pyIter = PI
        wp_walk
        subst hPI
        refine wpAny_mono h (fun it u hu => ?_) fun e u he => he
        refine wpAny_bind (wpAny_runValue ?_)
        refine codeAny_mono hu fun r v hr => ?_
        obtain ⟨rfl, hq⟩ := hr
        exact wpAny_pure (wpAny_pure ⟨rfl, hq⟩)
      · cases r₂ with
        | error e => exact hr₂
        | ok fl₂ =>
          cases fl₂ with
          | ret r =>
            obtain ⟨rfl, hq⟩ := hr₂
            repeat (any_goals (first | assumption | wp_step))
          | _ => exact hr₂.elim
    | _ => exact hr.elim
end
end Fz
end

section
set_option Elab.async false
set_option linter.all false
set_option maxRecDepth 100000
set_option maxHeartbeats 4000000
/-! F57: set(xs) over the abstract heap. -/
namespace Fz
open PySem PySem.Spec PyProof.Rows L2
theorem nodup_len {α : Type} : ∀ (l m : List α), l.Nodup → (∀ x ∈ l, x ∈ m) → l.length ≤ m.length
  | [], _, _, _ => Nat.zero_le _
  | x :: l, m, h, g => by
    obtain ⟨h1, h2⟩ := List.nodup_cons.mp h
    obtain ⟨a, b, rfl⟩ := List.append_of_mem (g x List.mem_cons_self)
    have ih := nodup_len l (a ++ b) h2 fun y hy => by
      rcases List.mem_append.mp (g y (List.mem_cons_of_mem _ hy)) with z | z
      · exact List.mem_append_left _ z
      · rcases List.mem_cons.mp z with e | z
        · exact absurd (e ▸ hy) h1
        · exact List.mem_append_right _ z
    simp only [List.length_append, List.length_cons] at ih ⊢
    omega
/-- each once -/
def ddD : List D → List D
  | [] => []
  | d :: ds => if ds.any (fun e => decide (nk e = nk d)) then ddD ds else d :: ddD ds
theorem ddD_sub : ∀ {ds : List D} {d : D}, d ∈ ddD ds → d ∈ ds
  | e :: ds, d, h => by
    rw [ddD] at h
    split at h
    · exact List.mem_cons_of_mem _ (ddD_sub h)
    · rcases List.mem_cons.mp h with z | z
      · rw [z]; exact List.mem_cons_self
      · exact List.mem_cons_of_mem _ (ddD_sub z)
theorem ddD_all : ∀ {ds : List D} {d : D}, d ∈ ds → ∃ e ∈ ddD ds, nk e = nk d
  | e :: ds, d, h => by
    rw [ddD]
    split
    · rename_i hc
      rcases List.mem_cons.mp h with rfl | h
      · obtain ⟨x, hx, ex⟩ := List.any_eq_true.mp hc
        obtain ⟨y, hy, ey⟩ := ddD_all hx
        exact ⟨y, hy, ey.trans (of_decide_eq_true ex)⟩
      · exact ddD_all h
    · rcases List.mem_cons.mp h with rfl | h
      · exact ⟨d, List.mem_cons_self, rfl⟩
      · obtain ⟨y, hy, ey⟩ := ddD_all h
        exact ⟨y, List.mem_cons_of_mem _ hy, ey⟩
theorem ddD_uniq : ∀ ds : List D, (ddD ds).Pairwise fun d e => nk d ≠ nk e
  | [] => .nil
  | d :: ds => by
    rw [ddD]
    split
    · exact ddD_uniq ds
    · rename_i hc
      refine List.pairwise_cons.mpr ⟨fun e he z => hc (List.any_eq_true.mpr ⟨e, ddD_sub he, by simp [z]⟩), ddD_uniq ds⟩
/-- ints, or tuples as keys; not too many -/
def setOk (ds : List D) : Prop := ((∃ ns : List Int, ds = ns.map .int) ∧ ds.length < 4000) ∨ ((∀ d ∈ ds, (tk d).isSome = true) ∧ (ddD ds).length < 4000)
theorem nk_some {ds : List D} (h : setOk ds) : ∀ d ∈ ds, (nk d).isSome = true := by
  rcases h with ⟨⟨ns, rfl⟩, _⟩ | ⟨h, _⟩
  · intro d hd
    obtain ⟨i, _, rfl⟩ := List.mem_map.mp hd
    rfl
  · intro d hd
    obtain ⟨k, hk⟩ := Option.isSome_iff_exists.mp (h d hd)
    rw [(tk_nk hk).1]; rfl
theorem nk_eq {d e : D} (h : (nk d).isSome = true) (g : nk d = nk e) : d = e := by
  obtain ⟨k, hk⟩ := Option.isSome_iff_exists.mp h
  exact nk_inj hk (g ▸ hk)
/-- lists that have the same, each once, are one another's permutations -/
theorem perm_ddD {ds es : List D} (hs : ∀ d ∈ ds, (nk d).isSome = true) (h1 : ∀ e ∈ es, e ∈ ds) (h2 : ∀ d ∈ ds, ∃ e ∈ es, nk e = nk d) (h3 : es.Pairwise fun d e => nk d ≠ nk e) : es.Perm (ddD ds) := by
  have nd : ∀ l : List D, (l.Pairwise fun d e => nk d ≠ nk e) → l.Nodup := fun l h => h.imp fun {a b} z e => z (congrArg nk e)
  refine (List.perm_ext_iff_of_nodup (nd _ h3) (nd _ (ddD_uniq ds))).mpr fun d => ⟨fun hd => ?_, fun hd => ?_⟩
  · obtain ⟨e, he, ee⟩ := ddD_all (h1 d hd)
    rw [← nk_eq (hs e (ddD_sub he)) ee]; exact he
  · obtain ⟨e, he, ee⟩ := h2 d (ddD_sub hd)
    rw [← nk_eq (hs e (h1 e he)) ee]; exact he
/-- the set at a, its members in the table's sequence -/
def SetP (w : World) (a : Addr) (xs : List V) (h : Heap) : Prop := ∃ o es ep t, h.get? a = some o ∧ o.ExactSet ∧ o.data = .set es ep t ∧ t.fits es.size = true ∧ Ris t.place.toList ∧ (w.params.followText "set-order" = true ∨ t.led = true) ∧ es.size < scanBound ∧ Vals xs (es.toList.map (·.2))
def SetO (w : World) (a : Addr) (xs : List V) : HO := .ext (SetP w a xs)
theorem SetO.ok {P : Program} {w : World} {H : Hp} {a : Addr} {xs : List V} {h : Heap} (x : SetP w a xs h) : ObjOk P w H h a (SetO w a xs) := by
  obtain ⟨o, _, _, _, e, _⟩ := id x
  refine ⟨x, ⟨o, e⟩, fun h1 h2 y k => ?_⟩
  obtain ⟨o, es, ep, t, e, r⟩ := y
  exact ⟨o, es, ep, t, k _ e, r⟩
theorem mems {K : Fg} {H : Hp} : ∀ {xs : List V} {ds : List D}, PdAll K H xs ds → (∀ d ∈ ds, (tk d).isSome = true) → ∃ ks : List Mem, xs = ks.map (fun p => V.ref p.1) ∧ Paired (fun (p : Mem) (d : D) => Pd K H (.ref p.1) d ∧ tk d = some p.2) ks ds
  | _, _, .nil, _ => ⟨[], rfl, .nil⟩
  | x :: xs, d :: ds, .cons h r, g => by
    obtain ⟨ks, e, p⟩ := mems r fun d hd => g d (List.mem_cons_of_mem _ hd)
    obtain ⟨k, hk⟩ := Option.isSome_iff_exists.mp (g d List.mem_cons_self)
    obtain ⟨_, _, es, rfl⟩ := tk_nk hk
    cases h with
    | @tup b ys _ h1 h2 => exact ⟨(b, k) :: ks, by rw [e]; rfl, .cons ⟨.tup h1 h2, hk⟩ p⟩
theorem paired_left {α β : Type} {R : α → β → Prop} : ∀ {l : List α} {m : List β}, Paired R l m → ∀ a ∈ l, ∃ b ∈ m, R a b
  | _, _, .nil, a, h => (nomatch h)
  | _, _, .cons h r, a, ha => by
    rcases List.mem_cons.mp ha with rfl | ha
    · exact ⟨_, List.mem_cons_self, h⟩
    · obtain ⟨b, hb, q⟩ := paired_left r a ha
      exact ⟨b, List.mem_cons_of_mem _ hb, q⟩
theorem paired_right {α β : Type} {R : α → β → Prop} : ∀ {l : List α} {m : List β}, Paired R l m → ∀ b ∈ m, ∃ a ∈ l, R a b
  | _, _, .nil, a, h => (nomatch h)
  | _, _, .cons h r, b, hb => by
    rcases List.mem_cons.mp hb with rfl | hb
    · exact ⟨_, List.mem_cons_self, h⟩
    · obtain ⟨a, ha, q⟩ := paired_right r b hb
      exact ⟨a, List.mem_cons_of_mem _ ha, q⟩
theorem choose_data {K : Fg} {H : Hp} {ks : List Mem} {ds : List D} (hp : Paired (fun (p : Mem) (d : D) => Pd K H (.ref p.1) d ∧ tk d = some p.2) ks ds) : ∀ L : List Mem, (∀ p ∈ L, p ∈ ks) →
    ∃ es : List D, PdAll K H (L.map fun p => V.ref p.1) es ∧ Paired (fun (p : Mem) (d : D) => d ∈ ds ∧ tk d = some p.2) L es
  | [], _ => ⟨[], .nil, .nil⟩
  | p :: L, h => by
    obtain ⟨es, a, b⟩ := choose_data hp L fun q hq => h q (List.mem_cons_of_mem _ hq)
    obtain ⟨d, hd, q1, q2⟩ := paired_left hp p (h p List.mem_cons_self)
    exact ⟨d :: es, .cons q1 a, .cons ⟨hd, q2⟩ b⟩
theorem paired_uniq : ∀ {L : List Mem} {es : List D} {ds : List D}, Paired (fun (p : Mem) (d : D) => d ∈ ds ∧ tk d = some p.2) L es → (L.map (·.2)).Nodup → es.Pairwise fun d e => nk d ≠ nk e
  | _, _, _, .nil, _ => .nil
  | p :: L, d :: es, ds, .cons h r, nd => by
    rw [List.map_cons, List.nodup_cons] at nd
    refine List.pairwise_cons.mpr ⟨fun e he z => nd.1 ?_, paired_uniq r nd.2⟩
    obtain ⟨q, hq, h1, h2⟩ := paired_right r e he
    refine List.mem_map.mpr ⟨q, hq, ?_⟩
    rw [(tk_nk h.2).1, (tk_nk h2).1] at z
    exact (Option.some.inj z).symm
theorem few_of {K : Fg} {H : Hp} {ks : List Mem} {ds : List D} (hp : Paired (fun (p : Mem) (d : D) => Pd K H (.ref p.1) d ∧ tk d = some p.2) ks ds) (hf : (ddD ds).length < 4000) : FewK ks := fun L nd sub => by
  obtain ⟨es, a, b⟩ := choose_data hp L sub
  have le : es.Nodup := (paired_uniq b nd).imp fun {a b} z e => z (congrArg nk e)
  have h1 : es.length ≤ (ddD ds).length := by
    have sub2 : ∀ e ∈ es, e ∈ ddD ds := fun e he => by
      obtain ⟨q, _, m, t⟩ := paired_right b e he
      obtain ⟨e2, he2, ee⟩ := ddD_all m
      have : nk e2 = nk e := ee
      rw [← nk_eq (by rw [this, (tk_nk t).1]; rfl) this]; exact he2
    exact nodup_len es _ le sub2
  have h2 : L.length = es.length := paired_len b
  omega
end Fz
end

section
set_option Elab.async false
set_option linter.all false
set_option maxRecDepth 100000
set_option maxHeartbeats 4000000
/-! F58: set(xs): the rule. -/
namespace Fz
open PySem PySem.Spec PyProof.Rows L2
section
variable {X : Cx} {pins : List (Addr × Obj)} {σ : L2.St} {H : Hp} {s : Shared}
theorem intsAt {K : Fg} {H : Hp} : ∀ {xs : List V} {ns : List Int} {its : List Value}, PdAll K H xs (ns.map .int) → Vals xs its → ∀ (i : Nat) (v : Value), its[i]? = some v → ∃ (k : Int) (t : Tok), ns[i]? = some k ∧ v = Value.int k t
  | _, [], _, .nil, .nil, i, v, h => by simp at h
  | _, n :: ns, _, .cons p q, .cons r1 r2, i, v, h => by
    cases i with
    | zero =>
      simp at h; subst h
      cases p
      obtain ⟨t, rfl⟩ := r1
      exact ⟨n, t, rfl, rfl⟩
    | succ i =>
      obtain ⟨k, t, a, b⟩ := intsAt q r2 i v (by simpa using h)
      exact ⟨k, t, by simpa using a, b⟩
theorem ints_members {es : List (Int × Value)} (g : ∀ e ∈ es, GoodE e) : Vals ((es.map keyOf).map V.int) (es.map (·.2)) := by
  induction es with
  | nil => exact .nil
  | cons e es ih =>
    obtain ⟨k, tk, h1, h2⟩ := g e List.mem_cons_self
    refine .cons ?_ (ih fun x hx => g x (List.mem_cons_of_mem _ hx))
    show L2.RelV (V.int (keyOf e)) e.2
    rw [h1]
    exact ⟨tk, by simp [keyOf, h1]⟩
theorem ints_pd {K : Fg} {H : Hp} : ∀ ns : List Int, PdAll K H (ns.map V.int) (ns.map .int)
  | [] => .nil
  | n :: ns => .cons (.int n) (ints_pd ns)
theorem refs_vals : ∀ L : List Mem, Vals (L.map fun p => V.ref p.1) (L.map fun p => Value.ref p.1)
  | [] => .nil
  | p :: L => .cons rfl (refs_vals L)
theorem vals_refs' : ∀ {ks : List Mem} {its : List Value}, Vals (ks.map fun p => V.ref p.1) its → its = ks.map fun p => Value.ref p.1
  | [], _, .nil => rfl
  | p :: ks, _, .cons r1 r2 => by rw [vals_refs' r2, List.map_cons]; congr 1
theorem setLoop (I : Inv X pins σ H s) {xs : List V} {ds : List D} {its : List Value} (rv : Vals xs its) (hp : PdAll X.K H xs ds) (ok : setOk ds) (hu : X.A.units + 70 < cLine)
    {it : Addr} {fp wr : List Addr} {G : Array GenState → Array GenState → Prop} {n : Nat} {Pv : Nat → Value → Prop} {St : Nat → Shared → Prop} (W : WalksS X.prog X.w X.A.in1.in1.in1 it fp wr G n Pv St) (hn : n = its.length) (hP : ∀ i v, Pv i v → its[i]? = some v) (hG : ∀ a b, G a b → b = a)
    (hSf : s.heap.objs.size ∉ fp) (hw : ∀ b ∈ wr, s.heap.objs.size ≤ b) {h2 : Heap} (st : St 0 { s with heap := h2 }) (k2 : ∀ b o, s.heap.get? b = some o → h2.get? b = some o) (new : h2.get? s.heap.objs.size = some (newSet0 X.w))
    {Q : Value → Shared → Prop} (q : ∀ (h' : Heap) (tk : Nat) (ys : List V) (es : List D), (∀ b o, s.heap.get? b = some o → h'.get? b = some o) → PdAll X.K H ys es → es.Perm (ddD ds) → SetP X.w s.heap.objs.size ys h' → Q (.ref s.heap.objs.size) { s with heap := h', toks := tk }) :
    codeAny (model X.prog X.w) X.A.in1.in1 (.builtin "set.update.loop" ⟨[.ref s.heap.objs.size, .ref it], []⟩) (fun r v => r = .ok (.ret .none) ∧ Q (.ref s.heap.objs.size) v) { s with heap := h2 } := by
  have none_of : ∀ b, s.heap.objs.size ≤ b → s.heap.get? b = none := fun b hb => by
    cases z : s.heap.get? b with
    | none => rfl
    | some o => exact absurd (Nat.lt_of_lt_of_le (Heap.lt_size z) hb) (Nat.lt_irrefl _)
  have hS0 := none_of _ (Nat.le_refl s.heap.objs.size)
  have shape : ∀ (u : Shared), Moved (s.heap.objs.size :: wr) G { s with heap := h2 } u → u = { s with heap := u.heap, toks := u.toks } ∧ ∀ b o, s.heap.get? b = some o → u.heap.get? b = some o := fun u m => by
    obtain ⟨h', g2, d', tk', os'⟩ := u
    obtain rfl : g2 = s.gens := hG _ _ m.gens
    obtain rfl : d' = s.drawn := m.drawn
    obtain rfl : os' = s.os := m.os
    refine ⟨rfl, fun b o e => m.heap b o (fun hb => ?_) (k2 b o e)⟩
    rcases List.mem_cons.mp hb with z | z
    · rw [z, hS0] at e; cases e
    · rw [none_of b (hw b z)] at e; cases e
  rcases ok with ⟨⟨ns, rfl⟩, hlt⟩ | ⟨hk, few⟩
  · have hl : n = ns.length := by rw [hn, ← rv.length, hp.length, List.length_map]
    rw [List.length_map] at hlt
    refine set_update_ints W s.heap.objs.size hSf ns hl (by unfold scanBound; omega) (fun i v z => intsAt hp rv i v (hP i v z)) (n - 0) 0 _ rfl (Nat.zero_le _) st ⟨0, Nat.le_refl _, setR_new_at new⟩ fun u c m hc R => ?_
    obtain ⟨e, kp⟩ := shape u m
    refine ⟨rfl, ?_⟩
    rw [e]
    obtain ⟨o, es, ep, t, ho, hex, hd, g, nd, hm, hb, hf, hz, hr, hl2⟩ := R
    refine q u.heap u.toks ((es.toList.map keyOf).map V.int) ((es.toList.map keyOf).map .int) kp (ints_pd _) ?_ ⟨o, es, ep, t, ho, hex, hd, hf, hr, hl2, hb, ints_members g⟩
    have mem : ∀ j, j ∈ es.toList.map keyOf ↔ j ∈ ns := fun j => by
      rw [← hm j]; simp
    refine perm_ddD (fun d hd => ?_) (fun e he => ?_) (fun d hd => ?_) ?_
    · obtain ⟨i, _, rfl⟩ := List.mem_map.mp hd; rfl
    · obtain ⟨i, hi, rfl⟩ := List.mem_map.mp he
      exact List.mem_map.mpr ⟨i, (mem i).mp hi, rfl⟩
    · obtain ⟨i, hi, rfl⟩ := List.mem_map.mp hd
      exact ⟨_, List.mem_map.mpr ⟨i, (mem i).mpr hi, rfl⟩, rfl⟩
    · rw [List.pairwise_map]
      refine nd.imp fun {a b} z => ?_
      simp only [nk, ne_eq, Option.some.injEq, NestedKey.num.injEq]
      exact z
  · obtain ⟨ks, rfl, pr⟩ := mems hp hk
    obtain rfl := vals_refs' rv
    have kis : ∀ p ∈ ks, KIs X.prog X.w s.heap p.2 p.1 := fun p hpm => by
      obtain ⟨d, _, h1, h2⟩ := paired_left pr p hpm
      exact nested_key I h1 h2
    refine loopN W s.heap.objs.size hSf ks (by rw [hn, List.length_map]) (few_of pr few) (fun i v z => ?_) s.heap kis hS0 (fun b hb => none_of b (hw b hb)) (show X.A.in1.in1.in1.units + 8 < cLine from by simp only [Around.in1_units]; omega) (n - 0) 0 _ rfl (Nat.zero_le _) st k2
      ⟨[], #[], 0, _, setN_new new, ⟨fun p z => (nomatch z), fun p z => by simp at z⟩⟩ fun u L es ep t m R g kp => ?_
    · have z := hP i v z
      rw [List.getElem?_map] at z
      obtain ⟨p, h1, rfl⟩ := Option.map_eq_some_iff.mp z
      exact ⟨p, h1, rfl⟩
    · obtain ⟨e, kp⟩ := shape u m
      refine ⟨rfl, ?_⟩
      rw [e]
      have hnk : n = ks.length := by rw [hn, List.length_map]
      have sub : ∀ p ∈ L, p ∈ ks := fun p hpm => List.mem_of_mem_take (g.sub p hpm)
      obtain ⟨ds', q1, q2⟩ := choose_data pr L sub
      have hes : es.toList.map (·.2) = L.map fun p => Value.ref p.1 := by
        rw [R.rows, rowN, List.map_map]; rfl
      obtain ⟨o, ho, hex, hd⟩ := R.here
      refine q u.heap u.toks (L.map fun p => V.ref p.1) ds' kp q1 ?_ ⟨o, es, ep, t, ho, hex, hd, R.fits, R.tab.ris, R.led, by rw [R.size]; have := R.few; unfold scanBound; omega, by rw [hes]; exact refs_vals L⟩
      refine perm_ddD (fun d hd => ?_) (fun e he => ?_) (fun d hd => ?_) (paired_uniq q2 R.uniq)
      · obtain ⟨k, e⟩ := Option.isSome_iff_exists.mp (hk d hd)
        rw [(tk_nk e).1]; rfl
      · obtain ⟨p, _, m1, _⟩ := paired_right q2 e he
        exact m1
      · obtain ⟨p, hpm, _, tp⟩ := paired_right pr d hd
        have hin := g.all p (by rw [hnk, List.take_length]; exact hpm)
        obtain ⟨p2, hp2, e2⟩ := List.mem_map.mp hin
        obtain ⟨d2, hd2, _, t2⟩ := paired_left q2 p2 hp2
        refine ⟨d2, hd2, ?_⟩
        rw [(tk_nk t2).1, (tk_nk tp).1, e2]
end
end Fz
end

section
set_option Elab.async false
set_option linter.all false
set_option maxRecDepth 100000
set_option maxHeartbeats 4000000
/-! F59: sorted(set(xs)), len(set(xs)). -/
namespace Fz
open PySem PySem.Spec PyProof.Rows L2 SrtO Srt
/-! ### codes tell keys -/
theorem cps_inj : ∀ {xs ys : List Nat} {u v : List Int}, (xs.map fun c => ((c : Nat) : Int) + 1) ++ ([0] ++ u) = (ys.map fun c => ((c : Nat) : Int) + 1) ++ ([0] ++ v) → xs = ys ∧ u = v
  | [], [], u, v, h => by simpa using h
  | [], y :: ys, u, v, h => by
    simp at h; omega
  | x :: xs, [], u, v, h => by
    simp at h
  | x :: xs, y :: ys, u, v, h => by
    simp only [List.map_cons, List.cons_append, List.cons.injEq] at h
    obtain ⟨h1, h2⟩ := h
    obtain ⟨e1, e2⟩ := cps_inj h2
    exact ⟨by rw [e1]; congr 1; omega, e2⟩
mutual
theorem enc_inj : ∀ {d e : D} {u v : List Int}, (nk d).isSome = true → (nk e).isSome = true → enc d ++ u = enc e ++ v → d = e ∧ u = v
  | .none, e, u, v, h, g, z => by
    cases e <;> simp [nk] at g <;> simp [enc] at z
    exact ⟨rfl, z⟩
  | .int i, e, u, v, h, g, z => by
    cases e <;> simp [nk] at g <;> simp [enc] at z
    exact ⟨by rw [z.1], z.2⟩
  | .str x, e, u, v, h, g, z => by
    cases e with
    | str y =>
      simp only [enc, List.cons_append, List.cons.injEq, true_and, List.append_assoc] at z
      obtain ⟨e1, e2⟩ := cps_inj z
      refine ⟨?_, e2⟩
      obtain ⟨x⟩ := x
      obtain ⟨y⟩ := y
      have : x = y := Array.toList_inj.mp e1
      rw [this]
    | _ => simp [nk] at g <;> simp [enc] at z
  | .tuple ds, e, u, v, h, g, z => by
    cases e with
    | tuple es =>
      simp only [enc, List.cons_append, List.cons.injEq, true_and] at z
      have h' : (nks ds).isSome = true := by simpa [nk] using h
      have g' : (nks es).isSome = true := by simpa [nk] using g
      obtain ⟨e1, e2⟩ := encL_inj' h' g' z
      exact ⟨by rw [e1], e2⟩
    | _ => simp [nk] at g <;> simp [enc] at z
  | .bool _, _, _, _, h, _, _ => by simp [nk] at h
  | .list _, _, _, _, h, _, _ => by simp [nk] at h
  | .dict _, _, _, _, h, _, _ => by simp [nk] at h
theorem encL_inj' : ∀ {ds es : List D} {u v : List Int}, (nks ds).isSome = true → (nks es).isSome = true → encL ds ++ u = encL es ++ v → ds = es ∧ u = v
  | [], [], u, v, _, _, z => by simpa [encL] using z
  | [], e :: es, u, v, _, _, z => by simp [encL] at z
  | d :: ds, [], u, v, _, _, z => by simp [encL] at z
  | d :: ds, e :: es, u, v, h, g, z => by
    have two : ∀ {d : D} {ds : List D}, (nks (d :: ds)).isSome = true → (nk d).isSome = true ∧ (nks ds).isSome = true := fun {d ds} h => by
      simp only [nks] at h
      cases e1 : nk d <;> cases e2 : nks ds <;> simp [e1, e2] at h ⊢
    obtain ⟨h1, h2⟩ := two h
    obtain ⟨g1, g2⟩ := two g
    simp only [encL, List.cons_append, List.cons.injEq, true_and, List.append_assoc] at z
    obtain ⟨e1, z2⟩ := enc_inj h1 g1 z
    obtain ⟨e2, z3⟩ := encL_inj' h2 g2 z2
    exact ⟨by rw [e1, e2], z3⟩
end
theorem enc_key {d e : D} (h : (nk d).isSome = true) (g : (nk e).isSome = true) (z : enc d = enc e) : d = e := (enc_inj (u := []) (v := []) h g (by rw [z])).1
theorem srt_perm {l m : List D} (hs : Srtd ltE l) (hp : l.Perm m) (hk : ∀ d ∈ m, (nk d).isSome = true) : l = sortD m := by
  obtain ⟨s2, t2⟩ := sortD_ok m
  refine stb_uniq ltE_swo hs s2 ⟨hp.trans t2.perm.symm, fun x => ?_⟩
  rw [t2.cls]
  have e : ∀ n : List D, (∀ d ∈ n, (nk d).isSome = true) → ∃ z, ∀ y ∈ n.filter (eqv ltE x), y = z := fun n hn => by
    cases hf : n.filter (eqv ltE x) with
    | nil => exact ⟨x, fun y hy => (nomatch hy)⟩
    | cons z r =>
      refine ⟨z, fun y hy => ?_⟩
      have m1 : y ∈ n.filter (eqv ltE x) := by rw [hf]; exact hy
      have m2 : z ∈ n.filter (eqv ltE x) := by rw [hf]; exact List.mem_cons_self
      obtain ⟨a1, a2⟩ := List.mem_filter.mp m1
      obtain ⟨b1, b2⟩ := List.mem_filter.mp m2
      obtain ⟨p1, p2⟩ := eqv_iff.mp a2
      obtain ⟨q1, q2⟩ := eqv_iff.mp b2
      exact enc_key (hn y a1) (hn z b1) ((lx_tri p1 p2).symm.trans (lx_tri q1 q2))
  obtain ⟨z, hz⟩ := e m hk
  have hz' : ∀ y ∈ l.filter (eqv ltE x), y = z := fun y hy => hz y ((hp.filter _).mem_iff.mp hy)
  rw [List.eq_replicate_iff.mpr ⟨rfl, hz⟩, List.eq_replicate_iff.mpr ⟨rfl, hz'⟩, (hp.filter _).length_eq]
section
variable {prog : Program} {w : World} {A : Around} {E : Value → Shared → Prop} {s : Shared}
/-- sorted of what is collected in some sequence -/
theorem sorted_set_any {r : Value} {vs : List Value} {ds : List PyData} {as : List Addr} {Q : Value → Shared → Prop} (hz : vs.length ≤ sizeLine) (hr : ReadsAll s.heap vs ds as) (ok : SortOk ds) (hu : A.units + 70 < cLine)
    (hcol : ∀ R : List Value → Shared → Prop, (∀ (u : Shared) (out : List Value), (∀ b o, s.heap.get? b = some o → u.heap.get? b = some o) → s.heap.objs.size ≤ u.heap.objs.size → u.gens = s.gens → u.os = s.os → out.Perm vs → R out u) → wpAny (model prog w) A.in1 (collect r) R E s)
    (h : ∀ (k : Value → PyData), (∀ v d as, Reads s.heap v d as → plainD d = true → d.canLay0 = true → k v = d) → ∀ (u : Shared) (d : Addr) (out : List Value), out.Perm vs → Srtd ltE (out.map k) → (∀ b o, s.heap.get? b = some o → u.heap.get? b = some o) → u.gens = s.gens → u.os = s.os → s.heap.objs.size ≤ d → (∃ n, u.heap.get? d = some (seqObj "list" out.toArray n)) → Q (.ref d) u) :
    wpAny (model prog w) A (call (.builtin "sorted") [r]) Q E s := by
  let k : Value → PyData := fun v => open Classical in if h : ∃ d as, Reads s.heap v d as ∧ plainD d = true ∧ d.canLay0 = true then h.choose else .none
  have hk : ∀ v d as, Reads s.heap v d as → plainD d = true → d.canLay0 = true → k v = d := fun v d as rd hp hc => by
    have hx : ∃ d as, Reads s.heap v d as ∧ plainD d = true ∧ d.canLay0 = true := ⟨d, as, rd, hp, hc⟩
    have e : k v = hx.choose := dif_pos hx
    rw [e]
    obtain ⟨as', r', _, hc'⟩ := hx.choose_spec
    exact SeqAt.Reads.unique _ _ v as' as hc' r' rd
  have hds : ∀ d ∈ ds, plainD d = true ∧ d.canLay0 = true := fun d hd => ⟨(ok.1 d hd).1, (shaped_depth (ok.1 d hd).2).1⟩
  have hm : ∀ v ∈ vs, k v ∈ ds ∧ ∃ as, Reads s.heap v (k v) as := fun v hv => by
    obtain ⟨d, hd, as, rd⟩ := readsAll_mem hr v hv
    have e := hk v d as rd (hds d hd).1 (hds d hd).2
    rw [e]
    exact ⟨hd, as, rd⟩
  have O : Swo (fun v u => lx (enc (k v)) (enc (k u))) := lx_swo fun v => enc (k v)
  refine Calls.call_function_entry kind_sorted plain_sorted entry_sorted (args_sorted1 _) ?_
  unfold Builtin.«sorted»
  refine wpAny_bind (m := checkCount "sorted" 1 1 _) (wpAny_pure ?_)
  refine wpAny_bind (hcol _ fun u0 vs' kp hle hg ho pm => ?_)
  have hz' : vs'.length ≤ sizeLine := by rw [pm.length_eq]; exact hz
  have hm' : ∀ v ∈ vs', k v ∈ ds ∧ ∃ as, Reads s.heap v (k v) as := fun v hv => hm v (pm.mem_iff.mp hv)
  refine wpAny_bind (wpAny_newList ?_ hz')
  have hoL : (u0.heap.push (seqObj "list" vs'.toArray 0)).get? u0.heap.objs.size = some (seqObj "list" vs'.toArray 0) := Heap.get?_push_size _ rfl
  have keep : ∀ b o, s.heap.get? b = some o → b ≠ u0.heap.objs.size ∧ (u0.heap.push (seqObj "list" vs'.toArray 0)).get? b = some o := fun b o q =>
    ⟨Nat.ne_of_lt (Heap.lt_size (kp b o q)), Heap.get?_push_of_some _ (kp b o q)⟩
  refine wpAny_bind (wpAny_holding (wpAny_call_entry (s := { u0 with heap := u0.heap.push (seqObj "list" vs'.toArray 0) }) slot_list_sort ⟨_, hoL, rfl⟩ entry_list_sort (list_sort_ord O hoL hz' (fun h2 => ?_) fun out hs hb => ⟨_, rfl, ?_⟩) (args_list_sort _)))
  · intro h' kp2
    have kpp : ∀ b o, s.heap.get? b = some o → h'.get? b = some o := fun b o e => kp2 b o (keep b o e).1 (keep b o e).2
    have hR : ∀ v ∈ vs', RdP h' v (k v) := fun v hv => by
      obtain ⟨hd, as, rd⟩ := hm' v hv
      exact ⟨(hds _ hd).1, as, reads_keep kpp (hds _ hd).1 rd⟩
    obtain ⟨κ, h1, h2⟩ := kind_wp (prog := prog) (w := w) (A := A.in1.in1) (s := { u0 with heap := h' }) (vs := vs') (ds := ds) fun v hv => ⟨k v, (hm' v hv).1, hR v hv⟩
    refine ⟨κ, fun Q' E' q => h1 E' Q' q, cmp_data k hR (fun v hv u hu' => ?_) ?_⟩
    · have hv' := (hm' v hv).1
      have hu'' := (hm' u hu').1
      have dv := shaped_depth (ok.1 _ hv').2
      have du := shaped_depth (ok.1 _ hu'').2
      have un : A.in1.in1.units = A.units + 2 := rfl
      exact ⟨ok.2 _ hv' _ hu'', (ok.1 _ hv').1, (ok.1 _ hu'').1, dv.1, du.1, by omega⟩
    · rcases h2 with h2 | h2 | ⟨h2, h3⟩
      · exact .inl h2
      · exact .inr (.inl h2)
      · refine .inr (.inr ⟨h2, fun v hv => ?_⟩)
        obtain ⟨d, hd, ⟨hp, as, rd⟩, xs, rfl⟩ := h3 v hv
        obtain ⟨hp', as', rd'⟩ := hR v hv
        exact ⟨xs, SeqAt.Reads.unique _ _ v as' as (hds _ (hm' v hv).1).2 rd' rd⟩
  · refine wpAny_pure ⟨_, rfl, h k hk _ _ out (hb.perm.trans pm) (srtd_map hs) (fun b o e => ?_) hg ho hle (sortedHeap_at hoL)⟩
    obtain ⟨k1, k2⟩ := keep b o e
    exact (sortedHeap_old k1 (Heap.lt_size k2)).trans k2
end
end Fz
end

section
set_option Elab.async false
set_option linter.all false
set_option maxRecDepth 100000
set_option maxHeartbeats 4000000
/-! F60: sorted(set(xs)), len(set(xs)): rules, dens, weakest preconditions. -/
namespace Fz
open PySem PySem.Spec PyProof.Rows L2 SrtO Srt
section
variable {X : Cx} {F : Fx}
def rSetOf (X : Cx) : List V → Hp → VK → Prop := fun vs H Q => ∃ (l : Addr) (xs : List V) (ds : List D), vs = [.ref l] ∧ (SqL X.K H l xs ∨ SqT X.K H l xs) ∧ PdAll X.K H xs ds ∧ setOk ds ∧
  ∀ ys es p, PdAll X.K H ys es → es.Perm (ddD ds) → H p = none → Q (.ref p) (upd H p (SetO X.w p ys))
theorem cr_setOf (hc : X.calm = true) (hu : X.A.units + 70 < cLine) : CallR X (.type "set") (rSetOf X) := by
  intro pins s σ H vs us Q I r h
  obtain ⟨l, xs, ds, rfl, hq, hp, ok, q⟩ := h
  rw [Vals.ref1 r]
  have fin : ∀ (h' : Heap) (tk : Nat) (ys : List V) (es : List D), (∀ b o, s.heap.get? b = some o → h'.get? b = some o) → PdAll X.K H ys es → es.Perm (ddD ds) → SetP X.w s.heap.objs.size ys h' → EP X pins σ Q (.ref s.heap.objs.size) { s with heap := h', toks := tk } := fun h' tk ys es kp py pm sp =>
    ⟨.ref s.heap.objs.size, upd H s.heap.objs.size (SetO X.w s.heap.objs.size ys), I.laid (t' := tk) kp (Nat.le_refl _) (SetO.ok sp), rfl, q ys es _ py pm (I.hok.fresh (Nat.le_refl _))⟩
  have hh : X.A.in1.in1.in1.handled = none := I.ok.hd hc
  have hz : (s.heap.push (newSet0 X.w)).objs.size = s.heap.objs.size + 1 := Heap.size_push ..
  have hS : (s.heap.push (newSet0 X.w)).get? s.heap.objs.size = some (newSet0 X.w) := Heap.get?_push_size _ rfl
  rcases hq with hq | hq
  · obtain ⟨its, rv, pl, _⟩ := I.list hq
    obtain ⟨o, ho, hcl, n, hd⟩ := id pl.isList
    have lt : l < s.heap.objs.size := Heap.lt_size ho
    refine call_setG ho hcl (by decide) F.sub_list_set F.sub_list_frozenset ?_
    have il : (s.heap.push (newSet0 X.w)).IsList l its.toArray := ⟨o, Heap.get?_push_of_some _ ho, hcl, n, hd⟩
    refine wpAny_pyIter_list il ?_
    have ne : l ≠ (s.heap.push (newSet0 X.w)).objs.size := by rw [hz]; exact Nat.ne_of_lt (Nat.lt_succ_of_lt lt)
    refine setLoop I rv hp ok hu (Walks.list hh _ l ne its.toArray).toS (by simp) (fun i v z => by simpa using z) (fun _ _ z => z) ?_ (fun b hb => ?_) ⟨⟨_, Heap.get?_push_size _ rfl, rfl, rfl⟩, il.push _⟩ (fun b o e => Heap.get?_push_of_some _ (Heap.get?_push_of_some _ e)) (Heap.get?_push_of_some _ hS) fin
    · rw [hz]; simp only [List.mem_cons, List.not_mem_nil, or_false, not_or]
      exact ⟨Nat.ne_of_lt (Nat.lt_succ_self _), Nat.ne_of_gt lt⟩
    · rw [List.mem_singleton.mp hb, hz]; exact Nat.le_succ _
  · obtain ⟨its, rv, pl, _⟩ := I.tuple hq
    have pl : s.heap.IsTuple l its.toArray := pl
    obtain ⟨o, ho, hcl, n, hd⟩ := id pl
    have lt : l < s.heap.objs.size := Heap.lt_size ho
    refine call_setG ho hcl (by decide) F.sub_tuple_set F.sub_tuple_frozenset ?_
    have il : (s.heap.push (newSet0 X.w)).IsTuple l its.toArray := ⟨o, Heap.get?_push_of_some _ ho, hcl, n, hd⟩
    refine wpAny_pyIter_tuple il ?_
    have ne : l ≠ (s.heap.push (newSet0 X.w)).objs.size := by rw [hz]; exact Nat.ne_of_lt (Nat.lt_succ_of_lt lt)
    refine setLoop I rv hp ok hu (Walks.tuple hh _ l ne its.toArray).toS (by simp) (fun i v z => by simpa using z) (fun _ _ z => z) ?_ (fun b hb => ?_) ⟨⟨_, Heap.get?_push_size _ rfl, rfl, rfl⟩, il.push _⟩ (fun b o e => Heap.get?_push_of_some _ (Heap.get?_push_of_some _ e)) (Heap.get?_push_of_some _ hS) fin
    · rw [hz]; simp only [List.mem_cons, List.not_mem_nil, or_false, not_or]
      exact ⟨Nat.ne_of_lt (Nat.lt_succ_self _), Nat.ne_of_gt lt⟩
    · rw [List.mem_singleton.mp hb, hz]; exact Nat.le_succ _
/-- sorted of a set -/
def rSortSet (X : Cx) : List V → Hp → VK → Prop := fun vs H Q => ∃ (a : Addr) (ys : List V) (es : List D), vs = [.ref a] ∧ H a = some (SetO X.w a ys) ∧ PdAll X.K H ys es ∧ (∀ d ∈ es, (nk d).isSome = true) ∧ SortOk es ∧
  ∀ zs p, PdAll X.K H zs (sortD es) → H p = none → Q (.ref p) (upd H p (.lst zs))
theorem cr_sortSet (hc : X.calm = true) (hu : X.A.units + 70 < cLine) : CallR X (.builtin "sorted") (rSortSet X) := by
  intro pins s σ H vs us Q I r h
  obtain ⟨a, ys, es, rfl, ha, hp, hk, ok, q⟩ := h
  rw [Vals.ref1 r]
  obtain ⟨o, rs, ep, t, ho, hex, hd, hf, hr, hl, hb, rv⟩ := (show ObjOk X.prog X.w H s.heap a (SetO X.w a ys) from I.hok a _ ha).1
  obtain ⟨as, rd⟩ := Dp.readsAll I es ys (rs.toList.map (·.2)) (PdAll.dp hp) rv
  have hln : (rs.toList.map (·.2)).length = es.length := by rw [← rv.length, hp.length]
  have hz : (rs.toList.map (·.2)).length ≤ sizeLine := by
    rw [List.length_map, Array.length_toList, sizeLine_eq]; unfold scanBound at hb; omega
  refine sorted_set_any hz rd ok hu (fun R hR => ?_) fun k hkk u d out pm hs kp hg hos hd2 hn => ?_
  · exact collect_set (A := X.A.in1) (I.ok.hd hc) ⟨o, ho, hex.1, hd⟩ hf hb hr hl fun u out k1 k2 k3 k4 k5 => hR u out k1 k2 k3 k4 k5
  have hds : ∀ d ∈ es, plainD d = true ∧ d.canLay0 = true := fun d hd => ⟨(ok.1 d hd).1, (shaped_depth (ok.1 d hd).2).1⟩
  have hmap : (rs.toList.map (·.2)).map k = es := readsAll_map hkk rd hds
  have hout : out.map k = sortD es := srt_perm hs (by rw [← hmap]; exact pm.map k) hk
  have ex : ∀ v ∈ rs.toList.map (·.2), ∃ x, RelV x v ∧ Pd X.K H x (k v) := fun v hv => by
    obtain ⟨x, hxm, rx⟩ := vals_mem rv v hv
    obtain ⟨d, hdm, pd⟩ := pdAll_mem hp x hxm
    obtain ⟨as', r'⟩ := Dp.reads I d x v pd.dp rx
    rw [hkk v d as' r' (hds d hdm).1 (hds d hdm).2]
    exact ⟨x, rx, pd⟩
  let g : Value → V := fun v => open Classical in if h : ∃ x, RelV x v ∧ Pd X.K H x (k v) then h.choose else .non
  have hg2 : ∀ v ∈ rs.toList.map (·.2), RelV (g v) v ∧ Pd X.K H (g v) (k v) := fun v hv => by
    have hx := ex v hv
    have e : g v = hx.choose := dif_pos hx
    rw [e]; exact hx.choose_spec
  have hv : ∀ l : List Value, (∀ v ∈ l, v ∈ rs.toList.map (·.2)) → Vals (l.map g) l ∧ PdAll X.K H (l.map g) (l.map k) := fun l => by
    induction l with
    | nil => intro _; exact ⟨.nil, .nil⟩
    | cons v l ih =>
      intro hm
      obtain ⟨a1, a2⟩ := hg2 v (hm v List.mem_cons_self)
      obtain ⟨b1, b2⟩ := ih fun u hu => hm u (List.mem_cons_of_mem _ hu)
      exact ⟨.cons a1 b1, .cons a2 b2⟩
  obtain ⟨v1, v2⟩ := hv out fun v hv => pm.mem_iff.mp hv
  obtain ⟨n, hn⟩ := hn
  rw [hout] at v2
  have hnH : H d = none := I.hok.fresh hd2
  have J : Inv X pins σ (upd H d (.lst (out.map g))) { s with heap := u.heap, gens := u.gens, drawn := u.drawn, toks := u.toks } :=
    I.call (ch := []) (Un.laid kp hd2 hnH) (I.hok.laid kp hd2 ⟨by rw [List.length_map, pm.length_eq]; exact hz, out, n, v1, by simpa using hn⟩) (by rw [hg]; exact I.bare) (fun _ z => nomatch z)
  have e : u = { s with heap := u.heap, gens := u.gens, drawn := u.drawn, toks := u.toks } := by
    cases u
    cases s
    cases hos
    rfl
  rw [e]
  exact ⟨.ref d, _, J, rfl, q _ d v2 hnH⟩
end
noncomputable def fSortSet (f : FS → Res D) : FS → Res SV := bnd f fun d S => match seqD d with
  | some ds => @ite _ (setOk ds ∧ SortOk (ddD ds)) (Classical.propDecidable _) (.ok (.own (.lst (sortD (ddD ds)))) S) .bad
  | none => .bad
section
variable {X : Cx} {F : Fx} {a : Expr} {f : FS → Res D} {p p2 pos pos2 : Pos}
theorem seqD_some {d : D} {ds : List D} (h : seqD d = some ds) : d = .list ds ∨ d = .tuple ds := by
  cases d <;> cases h
  · exact .inl rfl
  · exact .inr rfl
theorem qd_seq {K : Fg} {H : Hp} {x : V} {d : D} {ds : List D} (h : Qd K H x d) (e : seqD d = some ds) : ∃ l vs, x = .ref l ∧ (SqL K H l vs ∨ SqT K H l vs) ∧ PdAll K H vs ds := by
  rcases seqD_some e with rfl | rfl
  · obtain ⟨l, vs, rfl, h1, h2⟩ := h.list; exact ⟨l, vs, rfl, .inl h1, h2⟩
  · obtain ⟨l, vs, rfl, h1, h2⟩ := h.tuple; exact ⟨l, vs, rfl, .inr h1, h2⟩
theorem e_sortSet (hc : X.calm = true) (hu : X.A.units + 70 < cLine) (hg : Gl X "sorted") (hm : X.mg "sorted" = none) (hg2 : Gl X "set") (hm2 : X.mg "set" = none) (ha : EQ X F a f) (hw : F.w = X.w := by rfl)
    (na : starEach [a] X.env = (false, eval a X.env) :: starEach [] X.env := by rfl)
    (nt : starEach [.Call (.Name "set" p) [a] [] pos] X.env = (false, eval (.Call (.Name "set" p) [a] [] pos) X.env) :: starEach [] X.env := by rfl) :
    EV X F (.Call (.Name "sorted" p2) [.Call (.Name "set" p) [a] [] pos] [] pos2) (fSortSet f) :=
  (pe_callB (cr_sortSet hc hu) hg hm bt_sorted (pa_cons (pe_callTy (cr_setOf hc hu) hg2 hm2 (by decide +kernel) (pa_cons ha pa_nil na) (by decide) (by decide) na rfl) pa_nil nt) (by decide) (by decide) nt rfl).via fun σ H Q h => by
    refine (rdG.bind h).imp fun x H1 ⟨d, S1, r, v, p1, q⟩ => ?_
    cases e : seqD d with
    | none => rw [e] at q; exact q.elim
    | some ds =>
      rw [e] at q
      simp only at q
      by_cases ok : setOk ds ∧ SortOk (ddD ds)
      · rw [if_pos ok] at q
        obtain ⟨l, vs, rfl, h1, h2⟩ := qd_seq v e
        refine ⟨l, vs, ds, rfl, h1, h2, ok.1, fun ys es t py pm ht => ?_⟩
        have p2 : Pers H1 (upd H1 t (SetO X.w t ys)) := Pers.new ht
        have hk : ∀ d ∈ es, (nk d).isSome = true := fun d hd => nk_some ok.1 d (ddD_sub (pm.mem_iff.mp hd))
        have es' : SortOk es := ⟨fun d hd => ok.2.1 d (pm.mem_iff.mp hd), fun d hd e he => ok.2.2 d (pm.mem_iff.mp hd) e (pm.mem_iff.mp he)⟩
        have hsd : sortD es = sortD (ddD ds) := srt_perm (sortD_ok es).1 ((sortD_perm es).trans pm) fun d hd => hk d (pm.mem_iff.mpr hd)
        refine ⟨t, ys, es, rfl, upd_same, py.mono p2, hk, es', fun zs u pz hu => ?_⟩
        rw [hsd] at pz
        exact newList (r.new ht) pz hu (postG.later p2 q)
      · rw [if_neg ok] at q; exact q.elim
end
section
variable {S : FS} {Q : D → FS → Prop} {QV : SV → FS → Prop} {f : FS → Res D}
@[simp] theorem wE_fSortSet : wE (fSortSet f S) QV = wE (f S) fun d S1 => wO (seqD d) fun ds => (setOk ds ∧ SortOk (ddD ds)) ∧ QV (.own (.lst (sortD (ddD ds)))) S1 := by
  unfold fSortSet; rw [wE_bnd]; congr; funext d S1
  cases seqD d with
  | none => rfl
  | some ds =>
    simp only [wO_some]
    by_cases h : setOk ds ∧ SortOk (ddD ds)
    · rw [if_pos h]; simp [h]
    · rw [if_neg h]; simp only [wE_bad, h, false_and]
end
end Fz
end

section
set_option Elab.async false
set_option linter.all false
set_option maxRecDepth 100000
set_option maxHeartbeats 4000000
/-! F61: an own value of any kind as the last part of an assignment of several; a new own value handed to a call, dropped behind it. -/
namespace Fz
open PySem PySem.Spec PyProof.Rows L2
section
variable {X : Cx} {F : Fx} {e : Expr} {es : List Expr} {f : FS → Res SV} {pos p : Pos}
end
section
variable {K : Fg} {F : Fx} {S S' : FS} {σ : Sl} {H H' : Hp} {vs : List V} {as : List AD} {svs svs' : List SV} {a : Addr} {ob : Ob}
end
section
variable {X : Cx} {F : Fx} {e : Expr} {es : List Expr} {pos p : Pos}
end
/-! ### weakest preconditions -/
section
variable {S : FS} {QV : SV → FS → Prop} {QS : List SV → FS → Prop} {QT : List AD × SV → FS → Prop}
end
end Fz
end

section
set_option Elab.async false
set_option linter.all false
set_option maxRecDepth 100000
set_option maxHeartbeats 4000000
/-! F62: the order < of plain data (ints, texts, tuples of such, at any depth). -/
namespace Fz
open PySem PySem.Spec PyProof.Rows L2
section
variable {X : Cx} {F : Fx}
end
section
variable {S : FS} {Q : D → FS → Prop}
end
end Fz
end

section
set_option Elab.async false
set_option linter.all false
set_option maxRecDepth 100000
set_option maxHeartbeats 4000000
/-! F63: * and ** of ints of up to about a hundred million bits. -/
namespace Fz
open PySem PySem.Spec PyProof.Rows L2
def CMulX (i j : Int) : Prop := Builtin.Int.intBits i + Builtin.Int.intBits j ≤ 134217728
def CPowX (i j : Int) : Prop := 0 ≤ j ∧ (Builtin.Int.intBits i : Int) * j ≤ 2 ^ 27
noncomputable instance (i j : Int) : Decidable (CMulX i j) := Classical.propDecidable _
noncomputable instance (i j : Int) : Decidable (CPowX i j) := Classical.propDecidable _
noncomputable abbrev pMulX := pInt fun i j => if CMulX i j then some (i * j) else none
noncomputable abbrev pPowX := pInt fun i j => if CPowX i j then some (i ^ j.toNat) else none
section
variable {X : Cx} {F : Fx}
theorem op_mulX0 : OpR X (binaryOp .Mult) (rI CMulX fun i j => .int (i * j)) := opI fun _ _ _ _ _ _ _ hc q => mul_int q (IntMulOk.of_le (Nat.le_refl _) (Nat.le_refl _) hc)
theorem op_powX0 : OpR X (binaryOp .Pow) (rI CPowX fun i j => .int (i ^ j.toNat)) := opI fun _ _ _ _ _ _ _ hc q => pow_int hc.1 hc.2 q
theorem op_mulX : OpF X F PR (binaryOp .Mult) pMulX := op_intF op_mulX0
theorem op_powX : OpF X F PR (binaryOp .Pow) pPowX := op_intF op_powX0
end
section
variable {S : FS} {Q : D → FS → Prop} {d e : D}
@[simp] theorem wE_pMulX : wE (pMulX d e S) Q = wInt d fun i => wInt e fun j => CMulX i j ∧ Q (.int (i * j)) S := by
  cases d <;> cases e <;> simp [pMulX, pInt, wInt]
  rename_i i j
  by_cases h : CMulX i j <;> simp [h]
@[simp] theorem wE_pPowX : wE (pPowX d e S) Q = wInt d fun i => wInt e fun j => CPowX i j ∧ Q (.int (i ^ j.toNat)) S := by
  cases d <;> cases e <;> simp [pPowX, pInt, wInt]
  rename_i i j
  by_cases h : CPowX i j <;> simp [h]
end
theorem bits_le {i : Int} {k : Nat} (h : i.natAbs < 2 ^ k) : Builtin.Int.intBits i ≤ k := by
  unfold Builtin.Int.intBits
  split
  · omega
  · rename_i h0
    have h1 : i.natAbs ≠ 0 := by
      intro z
      apply h0
      first
        | exact z
        | (simp at z; simp [z])
    have := (Nat.log2_lt h1).mpr h
    omega
theorem mulX {i j : Int} {a b : Nat} (h : Builtin.Int.intBits i ≤ a) (g : Builtin.Int.intBits j ≤ b) (k : a + b ≤ 134217728) : CMulX i j := by unfold CMulX; omega
theorem powX {i : Int} {a : Nat} {n : Nat} (h : Builtin.Int.intBits i ≤ a) (k : a * n ≤ 134217728) : CPowX i (n : Int) := by
  refine ⟨by omega, ?_⟩
  have := Nat.mul_le_mul_right n h
  have e : ((Builtin.Int.intBits i : Nat) : Int) * (n : Int) = ((Builtin.Int.intBits i * n : Nat) : Int) := by simp
  rw [e]
  have : Builtin.Int.intBits i * n ≤ 134217728 := Nat.le_trans this k
  omega
end Fz
end

section
set_option Elab.async false
set_option linter.all false
set_option maxRecDepth 100000
set_option maxHeartbeats 4000000
/-! F64: the keys of an own dict walked; its slot is empty from there on (it is read for the last time). -/
namespace Fz
open PySem PySem.Spec PyProof.Rows L2
section
variable {P : Program} {w : World} {K : PySem.W.Frag} {tg : Expr} {a : Addr} {od : Obj} {u : HO} {es : Array DictEntry} {ep : Nat} {ks : List V}
end
section
variable {X : Cx} {F : Fx} {tg o : Expr} {i : Nat}
end
end Fz
end

section
set_option Elab.async false
set_option linter.all false
set_option maxRecDepth 100000
set_option maxHeartbeats 4000000
/-! F65: a, b, .. = a list. -/
namespace Fz
open PySem PySem.Spec PyProof.Rows L2
def gTl (n : Nat) (g : List D → FS → Option FS) : D → FS → Option FS
  | .list ds, S => if ds.length = n then g ds S else none
  | _, _ => none
section
variable {X : Cx} {F : Fx} {pos : Pos}
theorem g_lst {es : List Expr} {k : Nat} {ts : List Nat} {g : List D → FS → Option FS} {n : Nat} (hc : X.calm = true) (h : EGs X F es ts g) (hn : (assignEach es X.env).length = n := by rfl) (hst : (assignEach es X.env).findIdx? (·.1) = none := by rfl) : EG X F (.Tuple es k pos) ts (gTl n g) :=
  (pg_lst hc h hn hst).via fun v σ H Q ⟨S, d, r, hd, q⟩ => by
    cases hd with
    | @lst _ _ ds hs hr =>
      simp only [gTl] at q
      by_cases hl : ds.length = n
      · rw [if_pos hl] at q
        exact ⟨_, _, rfl, hs.sq, by rw [hr.length]; exact hl, S, _, r, hr, q⟩
      · rw [if_neg hl] at q
        exact q.elim
    | _ => exact q.elim
end
@[simp] theorem gTl_e {n : Nat} {g : List D → FS → Option FS} {ds : List D} {S : FS} : gTl n g (.list ds) S = if ds.length = n then g ds S else none := rfl
end Fz
end

section
set_option Elab.async false
set_option linter.all false
set_option maxRecDepth 100000
set_option maxHeartbeats 4000000
/-! F66: any, all of a generator expression of two clauses: the turns. -/
namespace Fz
open PySem PySem.Spec PyProof.Rows L2 GenW
section
variable {Y : Cx} {F : Fx} {elt tg0 iter0 tg iter : Expr} {ifs0 ifs : List Expr} {scope : Scope} {pos : Pos} {g : D → FS → Option FS} {t : FS → Res Bool} {fe : FS → Res D} {ts vs : List Nat} {stop : Bool} {Q : Bool → Hp → Prop}
  {A : Around} {it : Addr} {fp : List Addr} {tn : Nat → Heap → Prop} {J : It} {H1 : Hp} {ds : List D} {σ : Sl} {pins : List (Addr × Obj)} {fs : List Frame}
end
end Fz
end

section
set_option Elab.async false
set_option linter.all false
set_option maxRecDepth 100000
set_option maxHeartbeats 4000000
/-! F67: any, all of a generator expression of two clauses: the outer turns. -/
namespace Fz
open PySem PySem.Spec PyProof.Rows L2 GenW
section
variable (stop : Bool) (g : D → FS → Option FS) (t : FS → Res Bool) (it1 : FS → Res (List D)) (g1 : D → FS → Option FS) (t1 : FS → Res Bool) (fe : FS → Res D) (vs vs1 : List Nat)
end
section
variable {Y : Cx} {F : Fx} {elt tg iter tg1 iter1 : Expr} {ifs ifs1 : List Expr} {scope : Scope} {pos : Pos} {g g1 : D → FS → Option FS} {t t1 : FS → Res Bool} {it1 : FS → Res (List D)} {fe : FS → Res D} {ts vs ts1 vs1 : List Nat} {stop : Bool} {Q : Bool → Hp → Prop}
  {A : Around} {it : Addr} {fp : List Addr} {tn : Nat → Heap → Prop} {J : It} {H1 : Hp} {ds : List D} {σ : Sl}
end
end Fz
end

section
set_option Elab.async false
set_option linter.all false
set_option maxRecDepth 100000
set_option maxHeartbeats 4000000
/-! F68: any, all of a generator expression of two clauses: the rule. -/
namespace Fz
open PySem PySem.Spec PyProof.Rows L2 GenW
section
variable {X : Cx} {F : Fx} {elt tg iter tg1 iter1 : Expr} {ifs ifs1 : List Expr} {scope : Scope} {own : List (Str × Nat)} {gpos : Pos} {it it1 : FS → Res (List D)} {g g1 : D → FS → Option FS} {t t1 : FS → Res Bool} {fe : FS → Res D} {ts ts1 vs1 : List Nat}
end
section
variable {X : Cx} {F : Fx} {elt tg iter tg1 iter1 : Expr} {ifs ifs1 : List Expr} {scope : Scope} {own : List (Str × Nat)} {gpos : Pos} {it it1 : FS → Res (List D)} {g g1 : D → FS → Option FS} {t t1 : FS → Res Bool} {fe : FS → Res D} {ts ts1 vs1 : List Nat}
end
end Fz
end

section
set_option Elab.async false
set_option linter.all false
set_option maxRecDepth 100000
set_option maxHeartbeats 4000000
/-! F69: several own values at once, the last but one a dict, the last a whole number. -/
namespace Fz
open PySem PySem.Spec PyProof.Rows L2
section
variable {X : Cx} {F : Fx} {e : Expr} {f : FS → Res SV}
end
end Fz
end

section
set_option Elab.async false
set_option linter.all false
set_option maxRecDepth 100000
set_option maxHeartbeats 4000000
/-! dens, new with k16 -/
namespace DL
open PySem L2 Fz
/-- slots: 0 value, 1 low, 2 high -/
noncomputable def b_is_between : FS → SRes :=
 fRetD (fAndV (fFrz (fCallP d_is_integer 1 (fAD (fVar 0) (fC [])))) (fChain pLe pLe (fVar 1) (fVar 0) (fPeek 2)))
@[irreducible] noncomputable def d_is_between : Den := denOf 3 b_is_between
/-- slots: 0 value -/
noncomputable def b_is_k : FS → SRes :=
 fRet (fCallP d_is_between 3 (fAD (fVar 0) (fAD (fC (.int 1)) (fAD (fC (.int 3)) (fC [])))))
@[irreducible] noncomputable def d_is_k : Den := denOf 1 b_is_k
/-- slots: 0 k -/
noncomputable def b_check_k : FS → SRes :=
 fIf (fNotT (fTru (fFrz (fCallP d_is_k 1 (fAD (fVar 0) (fC [])))))) (fun _ => .bad) (fun S => .nx S)
@[irreducible] noncomputable def d_check_k : Den := denOf 1 b_check_k
end DL
end

section
set_option Elab.async false
set_option linter.all false
set_option maxRecDepth 100000
set_option maxHeartbeats 4000000
/-! dens, new with k19 -/
namespace DL
open PySem L2 Fz
/-- slots: 0 value -/
noncomputable def b_check_natural : FS → SRes :=
 fIf (fNotT (fTru (fFrz (fCallP d_is_natural 1 (fAD (fVar 0) (fC [])))))) (fun _ => .bad) (fun S => .nx S)
@[irreducible] noncomputable def d_check_natural : Den := denOf 1 b_check_natural
end DL
end

section
set_option Elab.async false
set_option linter.all false
set_option maxRecDepth 100000
set_option maxHeartbeats 4000000
/-! dens, new with k15 -/
namespace DL
open PySem L2 Fz
end DL
end

section
set_option Elab.async false
set_option linter.all false
set_option maxRecDepth 100000
set_option maxHeartbeats 4000000
/-! dens, new with k03 -/
namespace DL
open PySem L2 Fz
/-- slots: 0 word -/
noncomputable def b_word_key : FS → SRes :=
 fRetD (fTup (fCons (fCall (one pLen) (fCons (fPeek 0) (fC []))) (fCons (fVar 0) (fC []))))
@[irreducible] noncomputable def d_word_key : Den := denOf 1 b_word_key
end DL
end

section
set_option Elab.async false
set_option linter.all false
set_option maxRecDepth 100000
set_option maxHeartbeats 4000000
/-! dens, new with k18 -/
namespace DL
open PySem L2 Fz
end DL
end

section
set_option Elab.async false
set_option linter.all false
set_option maxRecDepth 100000
set_option maxHeartbeats 4000000
/-! dens, new with k22 -/
namespace DL
open PySem L2 Fz
end DL
end

section
set_option Elab.async false
set_option linter.all false
set_option maxRecDepth 100000
set_option maxHeartbeats 4000000
/-! dens, new with k71 -/
namespace DL
open PySem L2 Fz
/-- slots: 0 well, 1 many, 2 found, 3 mixed -/
noncomputable def b__law_draw : FS → SRes :=
 fSeq (fIf (fT (fOp pGt (fOpN pIx 0 (fC (.int 0))) (fC (.int 0)))) (fSeq (fSetD 2 (fOp pMod (fCall (one pToInt) (fCons (fOpN pIx 0 (fC (.int 0))) (fC []))) (fPeek 1)))
        (fSeq (fSetIx 0 (fOp pDiv (fOpN pIx 0 (fC (.int 0))) (fPeek 1)) (fC (.int 0)))
        (fRetD (fVar 2)))) (fun S => .nx S))
        (fSeq (fSetIx 0 (fFrz (fOp pAdd (fOpN pIx 0 (fC (.int 2))) (fC (.int 1)))) (fC (.int 2)))
        (fSeq (fSetD 3 (fOp pMod (fCall (one pToInt) (fCons (fOp pPowX (fFrz (fOp pAdd (fFrz (fOp pAdd (fOpN pIx 0 (fC (.int 1))) (fOp pMulX (fC (.int 2654435761)) (fOpN pIx 0 (fC (.int 2)))))) (fOp pMulX (fOp pMulX (fC (.int 40503)) (fOpN pIx 0 (fC (.int 2)))) (fOpN pIx 0 (fC (.int 2)))))) (fC (.int 3))) (fC []))) (fC (.int 618970019642690137449562111))))
        (fSeq (fSetD 3 (fOp pMod (fCall (one pToInt) (fCons (fOp pPowX (fFrz (fOpN pAdd 3 (fC (.int 97)))) (fC (.int 5))) (fC []))) (fC (.int 170141183460469231731687303715884105727))))
        (fRetD (fOp pMod (fCall (one pToInt) (fCons (fOpN pDiv 3 (fC (.int 65536))) (fC []))) (fPeek 1))))))
@[irreducible] noncomputable def d__law_draw : Den := denOf 4 b__law_draw
/-- slots: 0 word, 1 most, 2 found, 3 letter, 4 own -/
noncomputable def b__law_parts : FS → SRes :=
 fSeq (fSet 2 (fDisp1 (fTup (fC [])) (fC (.bool true))))
        (fSeq (fFor (fItems (fVar 0)) (gN 3) (fFor (fItems (fFrz (fKeys 2))) (gN 4) (fIf (fT (fOp pLt (fCall (one pLen) (fCons (fPeek 4) (fC []))) (fPeek 1))) (fDPut 2 (fC (.bool true)) (fFrz (fOpN pAdd 4 (fTup (fCons (fVar 3) (fC [])))))) (fun S => .nx S))))
        (fRet (fSortDic 2)))
@[irreducible] noncomputable def d__law_parts : Den := denOf 5 b__law_parts
/-- slots: 0 well, 1 k, 2 most, 3 at -/
noncomputable def b__law_word_2 : FS → SRes :=
 fRetD (fCall (one pTuple) (fCons (fFrz (fLc (fRange1 (fFrz (fCallP d__law_draw 2 (fAS 0 (fAD (fFrz (fOpN pAdd 2 (fC (.int 1)))) (fC [])))))) (gN 3) (fC true) (fFrz (fCallP d__law_draw 2 (fAS 0 (fAD (fVar 1) (fC []))))) [3])) (fC [])))
@[irreducible] noncomputable def d__law_word_2 : Den := denOf 4 b__law_word_2
/-- slots: 0 script, 1 place, 2 mixed, 3 one, 4 cell -/
noncomputable def b__law_well_2 : FS → SRes :=
 fSeq (fSet 2 (fOp pAdd (fC (.int 2862933555777941757)) (fOpN pMulX 1 (fC (.int 3202034522624059733)))))
        (fSeq (fFor (fItems (fFrz (fSlN 0 (fC none) (fPart (fC (.int 64)))))) (gN 3) (fSetD 2 (fOp pMod (fCall (one pToInt) (fCons (fFrz (fOp pAdd (fFrz (fOp pAdd (fOpN pMulX 2 (fC (.int 3935559000370003845))) (fOpN pMulX 3 (fC (.int 2691343689449507681))))) (fC (.int 1442695040888963407)))) (fC []))) (fC (.int 618970019642690137449562111)))))
        (fSeq (fSetD 4 (fIte (fT (fOpN pLt 1 (fCall (one pLen) (fCons (fPeek 0) (fC []))))) (fCall (one pToInt) (fCons (fOpN pIx 0 (fVar 1)) (fC []))) (fC (.int 0))))
        (fRet (fLst (fCons (fCall (two pMax2) (fCons (fC (.int 0)) (fCons (fOp pSub (fCall (one pAbs) (fCons (fPeek 4) (fC []))) (fOp pPowX (fC (.int 10)) (fC (.int 18)))) (fC [])))) (fCons (fVar 2) (fCons (fC (.int 0)) (fC []))))))))
@[irreducible] noncomputable def d__law_well_2 : Den := denOf 5 b__law_well_2
end DL
end

section
set_option Elab.async false
set_option linter.all false
set_option maxRecDepth 100000
set_option maxHeartbeats 4000000
/-! dens, new with k02 -/
namespace DL
open PySem L2 Fz
end DL
end

section
set_option Elab.async false
set_option linter.all false
set_option maxRecDepth 100000
set_option maxHeartbeats 4000000
/-! dens, new with k20 -/
namespace DL
open PySem L2 Fz
end DL
end

section
set_option Elab.async false
set_option linter.all false
set_option maxRecDepth 100000
set_option maxHeartbeats 4000000
/-! dens, new with k06 -/
namespace DL
open PySem L2 Fz
end DL
end

section
set_option linter.all false
/-! M1: products of atoms: the words that they have, placings, reducing. No program in sight. -/
namespace DL
/-! reduced products -/
/-! reducing from the left -/
end DL
end

section
set_option Elab.async false
set_option linter.all false
set_option maxRecDepth 100000
set_option maxHeartbeats 4000000
/-! S1: products: what their dens promise. -/
namespace DL
open PySem L2 Fz
@[simp] theorem str_neP : (Str.ofString "any" = Str.ofString "one") = False := eq_false (by decide)
@[simp] theorem str_neP' : (Str.ofString "one" = Str.ofString "any") = False := eq_false (by decide)

section
variable {Q : D → FS → Prop} {QV : SV → FS → Prop} {S : FS} {as bs : List At} {a : At} {i : Int}
end
end DL
end

section
set_option Elab.async false
set_option linter.all false
set_option maxRecDepth 100000
set_option maxHeartbeats 4000000
/-! S2: products: what their dens promise. -/
namespace DL
open PySem L2 Fz
theorem check_k_w {k : Int} (h1 : 1 ≤ k) (h3 : k ≤ 3) {Q : SV → List SV → Prop} (h : Q (.d .none) [.d (.int k)]) : wC (d_check_k [.d (.int k)]) Q := by
  unfold d_check_k
  rw [wC_denOf]
  simp [b_check_k, wE_callD]
  unfold d_is_k
  rw [wC_denOf]
  simp [b_is_k, wE_callD]
  unfold d_is_between
  rw [wC_denOf]
  simp [b_is_between, wE_callD]
  refine is_integer_w ?_
  simpa [h1, h3] using h
end DL
end

section
set_option Elab.async false
set_option linter.all false
set_option maxRecDepth 100000
set_option maxHeartbeats 4000000
/-! S3: words of products. -/
namespace DL
open PySem L2 Fz
end DL
end

section
set_option Elab.async false
set_option linter.all false
set_option maxRecDepth 100000
set_option maxHeartbeats 4000000
/-! S4: the laws' own helpers about words, products. -/
namespace DL
open PySem L2 Fz
def LW (ws : List (List Int)) : List D := ws.map W
def ext1 (k : Nat) (w : List Int) : List (List Int) := (List.range k).map fun i : Nat => w ++ [(i : Int)]
def layW (k : Nat) : Nat → List (List Int)
  | 0 => [[]]
  | n + 1 => (layW k n).flatMap (ext1 k)
def allW (k : Nat) : Nat → List (List Int)
  | 0 => [[]]
  | n + 1 => allW k n ++ layW k (n + 1)
theorem layW_mem {k : Nat} {w : List Int} : ∀ {n : Nat}, w ∈ layW k n ↔ w.length = n ∧ IsW k w := by
  intro n
  induction n generalizing w with
  | zero =>
    simp [layW]
    intro e; subst e
    exact fun x hx => absurd hx (by simp)
  | succ n ih =>
    simp only [layW, List.mem_flatMap, ext1, List.mem_map, List.mem_range]
    constructor
    · rintro ⟨v, hv, i, hi, rfl⟩
      obtain ⟨h1, h2⟩ := ih.mp hv
      refine ⟨by simp [h1], fun x hx => ?_⟩
      rcases List.mem_append.mp hx with hx | hx
      · exact h2 x hx
      · rw [List.mem_singleton.mp hx]; omega
    · rintro ⟨h1, h2⟩
      have hne : w ≠ [] := fun e => by rw [e] at h1; simp at h1
      have hl := h2 _ (List.getLast_mem hne)
      refine ⟨w.dropLast, ih.mpr ⟨by simp [h1], fun x hx => h2 x (List.dropLast_subset _ hx)⟩, (w.getLast hne).toNat, by omega, ?_⟩
      rw [Int.toNat_of_nonneg hl.1]
      exact List.dropLast_concat_getLast hne
theorem allW_mem {k : Nat} {w : List Int} : ∀ {n : Nat}, w ∈ allW k n ↔ w.length ≤ n ∧ IsW k w := by
  intro n
  induction n with
  | zero =>
    have := layW_mem (k := k) (w := w) (n := 0)
    simp only [layW, allW] at this ⊢
    rw [this]
    constructor <;> (rintro ⟨a, b⟩; exact ⟨by omega, b⟩)
  | succ n ih =>
    rw [allW, List.mem_append, ih, layW_mem]
    constructor
    · rintro (⟨a, b⟩ | ⟨a, b⟩) <;> exact ⟨by omega, b⟩
    · rintro ⟨a, b⟩
      by_cases h : w.length ≤ n
      · exact .inl ⟨h, b⟩
      · exact .inr ⟨by omega, b⟩
end DL
end

section
set_option Elab.async false
set_option linter.all false
set_option maxRecDepth 100000
set_option maxHeartbeats 4000000
/-! M2: words sorted, least words: the plain theory. -/
namespace DL
open PySem L2 Fz SrtO
/-! ### sorting, generally -/
theorem insG_map {α β : Type} {lt : β → β → Bool} (f : α → β) (x : α) : ∀ l : List α, insG lt (f x) (l.map f) = (insG (fun a b => lt (f a) (f b)) x l).map f
  | [] => rfl
  | y :: l => by
    simp only [List.map_cons, insG]
    split
    · rw [insG_map f x l]; rfl
    · rfl
theorem sortG_map {α β : Type} {lt : β → β → Bool} (f : α → β) : ∀ l : List α, sortG lt (l.map f) = (sortG (fun a b => lt (f a) (f b)) l).map f
  | [] => rfl
  | x :: l => by
    show insG lt (f x) (sortG lt (l.map f)) = _
    rw [sortG_map f l, insG_map]
    rfl
theorem sortD_G : ∀ l : List D, sortD l = sortG ltE l
  | [] => rfl
  | x :: l => by
    show insD x (sortD l) = insG ltE x (sortG ltE l)
    rw [sortD_G l]
    generalize sortG ltE l = m
    induction m with
    | nil => rfl
    | cons y m ih =>
      unfold insD insG
      rw [ih]
theorem sortG_mem {α : Type} {lt : α → α → Bool} (O : Swo lt) {l : List α} {x : α} : x ∈ sortG lt l ↔ x ∈ l := (sortG_ok O l).2.perm.mem_iff
/-! ### the orders of words -/
abbrev ltW (x y : List Int) : Bool := ltE (W x) (W y)
theorem ltW_swo : Swo ltW := lx_swo fun x => enc (W x)
def keyD (w : List Int) : D := .tuple [.int (w.length : Int), W w]
abbrev ltS (x y : List Int) : Bool := ltE (keyD x) (keyD y)
theorem ltS_swo : Swo ltS := lx_swo fun x => enc (keyD x)
theorem plain_ints : ∀ xs : List Int, plainL (xs.map .int) = true
  | [] => rfl
  | x :: xs => by simp only [List.map_cons, plainL, plainD, plain_ints xs]; rfl
theorem plain_W {xs : List Int} : plainD (W xs) = true := by unfold W; simp only [plainD]; exact plain_ints xs
theorem plain_key {xs : List Int} : plainD (keyD xs) = true := by unfold keyD; simp only [plainD, plainL, plain_W]; rfl
theorem ltL_ints : ∀ xs ys : List Int, (ltL (xs.map .int) (ys.map .int)).isSome = true
  | [], [] => rfl
  | [], _ :: _ => rfl
  | _ :: _, [] => rfl
  | x :: xs, y :: ys => by
    simp only [List.map_cons, ltL]
    split
    · exact ltL_ints xs ys
    · rfl
theorem ltD_W {xs ys : List Int} : (ltD (W xs) (W ys)).isSome = true := by unfold W; simp only [ltD]; exact ltL_ints xs ys
theorem ltD_key {xs ys : List Int} : (ltD (keyD xs) (keyD ys)).isSome = true := by
  unfold keyD
  simp only [ltD, ltL]
  split
  · split
    · rfl
    · exact ltD_W
  · rfl
theorem smal_key {w : List Int} (h : w.length ≤ 10000000) : SeqAt.shaped (keyD w) = true :=
  shaped_of_tup (k := 1) (.cons .int (.cons (smalW h) .nil)) (by omega)
theorem shaped_W {w : List Int} (h : w.length ≤ 10000000) : SeqAt.shaped (W w) = true := shaped_of_tup (k := 0) smalInts (by omega)
theorem sortOk_LW {ws : List (List Int)} (h : ∀ w ∈ ws, w.length ≤ 10000000) : SortOk (LW ws) := by
  refine ⟨fun d hd => ?_, fun d hd e he => ?_⟩
  · obtain ⟨w, hw, rfl⟩ := List.mem_map.mp hd
    exact ⟨plain_W, shaped_W (h w hw)⟩
  · obtain ⟨w, hw, rfl⟩ := List.mem_map.mp hd
    obtain ⟨v, hv, rfl⟩ := List.mem_map.mp he
    exact ltD_W
theorem sortOk_key {ws : List (List Int)} (h : ∀ w ∈ ws, w.length ≤ 10000000) : SortOk (ws.map keyD) := by
  refine ⟨fun d hd => ?_, fun d hd e he => ?_⟩
  · obtain ⟨w, hw, rfl⟩ := List.mem_map.mp hd
    exact ⟨plain_key, smal_key (h w hw)⟩
  · obtain ⟨w, hw, rfl⟩ := List.mem_map.mp hd
    obtain ⟨v, hv, rfl⟩ := List.mem_map.mp he
    exact ltD_key
def sortW (ws : List (List Int)) : List (List Int) := sortG ltW ws
def sortS (ws : List (List Int)) : List (List Int) := sortG ltS ws
theorem sortD_LW {ws : List (List Int)} : sortD (LW ws) = LW (sortW ws) := by
  rw [sortD_G]
  exact sortG_map W ws
theorem sortK_LW {ws : List (List Int)} : sortK (ws.map keyD) (LW ws) = LW (sortS ws) := by
  unfold sortK LW
  have e : (ws.map keyD).zip (ws.map W) = ws.map fun w => (keyD w, W w) := by
    rw [List.zip_map']
  rw [e, sortG_map, List.map_map]
  rfl
theorem sortW_mem {ws : List (List Int)} {w : List Int} : w ∈ sortW ws ↔ w ∈ ws := sortG_mem ltW_swo
/-! ### least words -/
/-- the least words as they are first met -/
def addN (ws : List (List Int)) (w : List Int) : List (List Int) := if w ∈ ws then ws else ws ++ [w]
theorem addN_mem {ws : List (List Int)} {v w : List Int} : v ∈ addN ws w ↔ v ∈ ws ∨ v = w := by
  unfold addN
  split
  · rename_i h
    constructor
    · exact .inl
    · rintro (h2 | rfl)
      · exact h2
      · exact h
  · simp
theorem addN_nodup {ws : List (List Int)} {w : List Int} (h : ws.Nodup) : (addN ws w).Nodup := by
  unfold addN
  split
  · exact h
  · rename_i n
    exact List.nodup_append.mpr ⟨h, by simp, fun a ha b hb => by
      rw [List.mem_singleton.mp hb]
      intro e; subst e; exact n ha⟩
end DL
end

section
set_option Elab.async false
set_option linter.all false
set_option maxRecDepth 100000
set_option maxHeartbeats 4000000
/-! S5: the laws' own helpers about products. -/
namespace DL
open PySem L2 Fz
end DL
end

section
set_option Elab.async false
set_option linter.all false
set_option maxRecDepth 100000
set_option maxHeartbeats 4000000
/-! S6: drawn atoms, words along atoms. -/
namespace DL
open PySem L2 Fz
end DL
end

section
set_option Elab.async false
set_option linter.all false
set_option maxRecDepth 100000
set_option maxHeartbeats 4000000
/-! S8: long words, placings. -/
namespace DL
open PySem L2 Fz
theorem check_natural_w {x : Int} (h0 : 0 ≤ x) {Q : SV → List SV → Prop} (h : Q (.d .none) [.d (.int x)]) : wC (d_check_natural [.d (.int x)]) Q := by
  unfold d_check_natural
  rw [wC_denOf]
  simp [b_check_natural, wE_callD]
  refine is_natural_w h0 ?_
  simpa using h
end DL
end

section
set_option Elab.async false
set_option linter.all false
set_option maxRecDepth 100000
set_option maxHeartbeats 4000000
/-! M6: books: the plain theory (the ascending greatest of products). -/
namespace DL
open PySem L2 Fz SrtO
/-! ### products as keys -/
/-! ### their order -/
/-! ### a set of products, sorted -/
/-! ### the greatest -/
end DL
end

section
set_option Elab.async false
set_option linter.all false
set_option maxRecDepth 100000
set_option maxHeartbeats 4000000
/-! M8: meetings of products: the plain theory. -/
namespace DL
open PySem L2 Fz SrtO
/-! ### a single letter first -/
/-! ### two stars first -/
/-! ### how many -/
end DL
end

section
set_option Elab.async false
set_option linter.all false
set_option maxRecDepth 100000
set_option maxHeartbeats 4000000
/-! S7: the shell of a law. -/
namespace DL
open PySem L2 Fz
end DL
end

section
set_option Elab.async false
set_option linter.all false
set_option maxRecDepth 100000
set_option maxHeartbeats 4000000
/-! S9: what repr asks of small data. -/
namespace DL
open PySem L2 Fz
end DL
end

section
set_option Elab.async false
set_option linter.all false
set_option maxRecDepth 100000
set_option maxHeartbeats 4000000
/-! S15: the laws' own reducing. -/
namespace DL
open PySem L2 Fz
/-! reversal -/
end DL
end

section
set_option Elab.async false
set_option linter.all false
set_option maxRecDepth 100000
set_option maxHeartbeats 4000000
/-! S16: books: what their dens promise. -/
namespace DL
open PySem L2 Fz SrtO
/-! what is no book -/
end DL
end

section
set_option Elab.async false
set_option linter.all false
set_option maxRecDepth 100000
set_option maxHeartbeats 4000000
/-! S17: books as the law looks at them. -/
namespace DL
open PySem L2 Fz SrtO
/-! ### the law's own book -/
end DL
end

section
set_option Elab.async false
set_option linter.all false
set_option maxRecDepth 100000
set_option maxHeartbeats 4000000
/-! S25: meetings: what their dens promise. -/
namespace DL
open PySem L2 Fz SrtO
/-! ### the dict of meetings -/
/-! ### sizes -/
end DL
end

section
set_option Elab.async false
set_option linter.all false
set_option maxRecDepth 100000
set_option maxHeartbeats 4000000
/-! S26: meetings as the law looks at them. -/
namespace DL
open PySem L2 Fz SrtO

end DL
end

section
set_option Elab.async false
set_option linter.all false
set_option maxRecDepth 100000
set_option maxHeartbeats 4000000
/-! M3: the order of words, leaders: the plain theory. -/
namespace DL
open PySem L2 Fz
/-- less, letter by letter, an end before all -/
def ltI : List Int → List Int → Bool
  | [], [] => false
  | [], _ :: _ => true
  | _ :: _, [] => false
  | x :: xs, y :: ys => if x = y then ltI xs ys else decide (x < y)
theorem ltI_irr : ∀ xs : List Int, ltI xs xs = false
  | [] => rfl
  | x :: xs => by unfold ltI; rw [if_pos rfl]; exact ltI_irr xs
theorem ltI_tri : ∀ {xs ys : List Int}, ltI xs ys = false → ltI ys xs = false → xs = ys
  | [], [], _, _ => rfl
  | [], y :: ys, h, _ => by simp [ltI] at h
  | x :: xs, [], _, h => by simp [ltI] at h
  | x :: xs, y :: ys, h, g => by
    unfold ltI at h g
    by_cases e : x = y
    · subst e
      rw [if_pos rfl] at h g
      rw [ltI_tri h g]
    · rw [if_neg e] at h
      rw [if_neg fun z => e z.symm] at g
      simp at h g; omega
theorem ltI_tr : ∀ {xs ys zs : List Int}, ltI xs ys = true → ltI ys zs = true → ltI xs zs = true
  | [], [], _, h, _ => by simp [ltI] at h
  | [], _ :: _, [], _, g => by simp [ltI] at g
  | [], _ :: _, _ :: _, _, _ => rfl
  | _ :: _, [], _, h, _ => by simp [ltI] at h
  | _ :: _, _ :: _, [], _, g => by simp [ltI] at g
  | x :: xs, y :: ys, z :: zs, h, g => by
    unfold ltI at h g ⊢
    by_cases e : x = y
    · subst e
      rw [if_pos rfl] at h
      by_cases e2 : x = z
      · subst e2; rw [if_pos rfl] at g ⊢; exact ltI_tr h g
      · rw [if_neg e2] at g ⊢; exact g
    · rw [if_neg e] at h
      by_cases e2 : y = z
      · subst e2; rw [if_neg e]; exact h
      · rw [if_neg e2] at g
        simp at h g
        have : ¬ x = z := by omega
        rw [if_neg this]
        simp; omega
/-- a difference within -/
theorem ltI_app : ∀ {xs ys : List Int} (us vs : List Int), ltI xs ys = true → ¬ xs <+: ys → ltI (xs ++ us) (ys ++ vs) = true
  | [], ys, us, vs, _, n => absurd (List.nil_prefix) n
  | x :: xs, [], us, vs, h, _ => by simp [ltI] at h
  | x :: xs, y :: ys, us, vs, h, n => by
    simp only [List.cons_append]
    unfold ltI at h ⊢
    by_cases e : x = y
    · subst e
      rw [if_pos rfl] at h ⊢
      exact ltI_app us vs h fun z => n (by simpa using z)
    · rw [if_neg e] at h ⊢; exact h
theorem ltI_pre : ∀ {us : List Int} {xs ys : List Int}, ltI (us ++ xs) (us ++ ys) = ltI xs ys
  | [], _, _ => rfl
  | u :: us, xs, ys => by simp only [List.cons_append]; rw [ltI, if_pos rfl]; exact ltI_pre
/-- the order by codes is this one -/
theorem lx_ints : ∀ xs ys : List Int, lx (encL (xs.map .int)) (encL (ys.map .int)) = ltI xs ys
  | [], [] => by simp [encL, HT.lexLt_cons, ltI, lx]; rfl
  | [], y :: ys => by simp [encL, HT.lexLt_cons, ltI, lx]
  | x :: xs, [] => by simp [encL, HT.lexLt_cons, ltI, lx]
  | x :: xs, y :: ys => by
    have ih := lx_ints xs ys
    simp only [List.map_cons, encL, enc, List.cons_append, List.nil_append, lx, HT.lexLt_cons, if_true] at ih ⊢
    unfold ltI
    rw [ih]
theorem ltW_I (xs ys : List Int) : ltW xs ys = ltI xs ys := by
  have h := lx_ints xs ys
  show lx (enc (W xs)) (enc (W ys)) = _
  unfold W
  simp only [enc, lx, HT.lexLt_cons, if_true] at h ⊢
  exact h
theorem ltI_asym {xs ys : List Int} (h : ltI xs ys = true) : ltI ys xs = false := by
  cases e : ltI ys xs with
  | false => rfl
  | true => have := ltI_tr h e; rw [ltI_irr] at this; cases this
end DL
end

section
set_option Elab.async false
set_option linter.all false
set_option maxRecDepth 100000
set_option maxHeartbeats 4000000
/-! M4: rows of leaders: there is just one. -/
namespace DL
open PySem L2 Fz
end DL
end

section
set_option Elab.async false
set_option linter.all false
set_option maxRecDepth 100000
set_option maxHeartbeats 4000000
/-! M5: cuts of a word; the layers ascend. -/
namespace DL
open PySem L2 Fz SrtO
/-! the layers ascend -/
theorem ltI_snoc {a : List Int} {i j : Int} (h : i < j) : ltI (a ++ [i]) (a ++ [j]) = true := by
  rw [ltI_pre]
  have : ¬ i = j := by omega
  simp [ltI, this, h]
theorem ltI_same {a b u v : List Int} (hl : a.length = b.length) (h : ltI a b = true) : ltI (a ++ u) (b ++ v) = true :=
  ltI_app u v h fun z => by
    have := z.eq_of_length hl
    subst this
    rw [ltI_irr] at h; cases h
theorem layW_asc {k : Nat} : ∀ {n : Nat}, (layW k n).Pairwise fun a b => ltI a b = true
  | 0 => by simp [layW]
  | n + 1 => by
    rw [layW, List.pairwise_flatMap]
    refine ⟨fun a _ => ?_, ?_⟩
    · unfold ext1
      rw [List.pairwise_map]
      refine List.pairwise_lt_range.imp fun h => ?_
      exact ltI_snoc (by omega)
    · refine List.Pairwise.imp_of_mem (fun {a b} ha hb h => ?_) (layW_asc (n := n))
      intro x hx y hy
      obtain ⟨i, _, rfl⟩ := List.mem_map.mp hx
      obtain ⟨j, _, rfl⟩ := List.mem_map.mp hy
      exact ltI_same ((layW_mem.mp ha).1.trans (layW_mem.mp hb).1.symm) h
theorem strict_uniq : ∀ {a b : List (List Int)}, (a.Pairwise fun x y => ltI x y = true) → (b.Pairwise fun x y => ltI x y = true) → (∀ x, x ∈ a ↔ x ∈ b) → a = b
  | [], [], _, _, _ => rfl
  | [], y :: b, _, _, h => absurd ((h y).mpr (by simp)) (by simp)
  | x :: a, [], _, _, h => absurd ((h x).mp (by simp)) (by simp)
  | x :: a, y :: b, ha, hb, h => by
    obtain ⟨a1, a2⟩ := List.pairwise_cons.mp ha
    obtain ⟨b1, b2⟩ := List.pairwise_cons.mp hb
    have e : x = y := by
      rcases List.mem_cons.mp ((h x).mp (by simp)) with e | hx
      · exact e
      · rcases List.mem_cons.mp ((h y).mpr (by simp)) with e | hy
        · exact e.symm
        · have p := a1 y hy
          have q := b1 x hx
          rw [ltI_asym q] at p; cases p
    subst e
    have ne : ∀ {l : List (List Int)}, (∀ z ∈ l, ltI x z = true) → x ∉ l := fun g z => by
      have := g x z
      rw [ltI_irr] at this; cases this
    rw [strict_uniq a2 b2 fun z => ?_]
    constructor
    · intro hz
      rcases List.mem_cons.mp ((h z).mp (by simp [hz])) with e | q
      · subst e; exact absurd hz (ne a1)
      · exact q
    · intro hz
      rcases List.mem_cons.mp ((h z).mpr (by simp [hz])) with e | q
      · subst e; exact absurd hz (ne b1)
      · exact q
theorem strict_nodup {a : List (List Int)} (h : a.Pairwise fun x y => ltI x y = true) : a.Nodup :=
  h.imp fun {x y} h e => by subst e; rw [ltI_irr] at h; cases h
theorem allW_nodup {k : Nat} : ∀ {n : Nat}, (allW k n).Nodup
  | 0 => by simp [allW]
  | n + 1 => by
    rw [allW, List.nodup_append]
    refine ⟨allW_nodup, strict_nodup layW_asc, fun a ha b hb e => ?_⟩
    have h1 := (allW_mem.mp ha).1
    have h2 := (layW_mem.mp hb).1
    rw [e] at h1; omega
theorem sortW_strict {ws : List (List Int)} (h : ws.Nodup) : (sortW ws).Pairwise fun x y => ltI x y = true := by
  obtain ⟨s, t⟩ := sortG_ok ltW_swo ws
  have nd : (sortW ws).Nodup := t.perm.nodup_iff.mpr h
  refine List.Pairwise.imp (R := fun x y => x ≠ y ∧ ltW y x = false) (fun {x y} g => ?_) (nd.and s)
  obtain ⟨g1, g2⟩ := g
  rw [ltW_I] at g2
  cases e : ltI x y with
  | true => rfl
  | false => exact absurd (ltI_tri e g2) g1
/-! rows, looked at -/
end DL
end

section
set_option Elab.async false
set_option linter.all false
set_option maxRecDepth 100000
set_option maxHeartbeats 4000000
/-! S11: strewn from the behind, the least words. -/
namespace DL
open PySem L2 Fz SrtO
/-- a dict that marks words -/
def KS (ws : List (List Int)) : List (D × D) := ws.map fun w => (W w, .bool true)
theorem KS_KW (ws : List (List Int)) : KS ws = KW (fun _ : Unit => PyData.bool true) (ws.map fun w => (w, ())) := by
  unfold KS KW
  rw [List.map_map]
  rfl
theorem kOk_KS {ws : List (List Int)} {w : List Int} : kOk (KS ws) (W w) = true := by rw [KS_KW]; exact kOk_KW
theorem aAt_unit {w : List Int} : ∀ {ws : List (List Int)}, (aAt (ws.map fun w => (w, ())) w).isSome = decide (w ∈ ws)
  | [] => rfl
  | v :: ws => by
    have ih := aAt_unit (w := w) (ws := ws)
    unfold aAt at ih ⊢
    by_cases h : v = w
    · simp [List.find?_cons, h]
    · have h2 : ¬ w = v := fun z => h z.symm
      simp only [List.map_cons, List.find?_cons, h, decide_false, List.mem_cons, h2, false_or]
      exact ih
theorem dPut_KS {ws : List (List Int)} {w : List Int} : dPut (KS ws) (W w) (.bool true) = KS (addN ws w) := by
  rw [KS_KW, dPut_KW (g := fun _ : Unit => PyData.bool true) (v := ()), KS_KW]
  unfold aPut addN
  rw [aAt_unit]
  by_cases h : w ∈ ws
  · simp only [h, decide_true, if_true]
    congr 1
    rw [List.map_map]
    refine List.map_congr_left fun v _ => ?_
    simp only [Function.comp]
    split <;> rfl
  · simp only [h, decide_false, if_false, List.map_append, List.map_cons, List.map_nil]
    rfl
theorem KS_keys {ws : List (List Int)} : (KS ws).map (·.1) = LW ws := by
  unfold KS LW
  rw [List.map_map]
  rfl
@[simp] theorem KS_len {ws : List (List Int)} : (KS ws).length = ws.length := by simp [KS]
theorem eqW {x y : List Int} : PyData.eqv (W x) (W y) = decide (x = y) := by
  unfold W
  simp only [PyData.eqv]
  exact eqvAll_ints
end DL
end

section
set_option Elab.async false
set_option linter.all false
set_option maxRecDepth 100000
set_option maxHeartbeats 4000000
/-! S12: lists of words drawn, least_words. -/
namespace DL
open PySem L2 Fz SrtO
theorem eqv_LW0 {ws : List (List Int)} : PyData.eqv (.list (LW ws)) (.list []) = decide (ws = []) := by
  cases ws with
  | nil => simp [LW, PyData.eqv, PyData.eqvAll]
  | cons w ws => simp [LW]
theorem smalLW {ws : List (List Int)} (hl : ws.length ≤ 10000000) (h : ∀ w ∈ ws, w.length ≤ 10000000) {k : Nat} : SmalL (k + 1) (LW ws) := SmalL.of fun d hd => by
  obtain ⟨w, hw, rfl⟩ := List.mem_map.mp hd
  exact smalW (h w hw)
theorem eqOk_LW0 {ws : List (List Int)} (hl : ws.length ≤ 1000) (h : ∀ w ∈ ws, w.length ≤ 1000) : eqOk (.list (LW ws)) (.list []) = true :=
  Smal.eqOk (k := 2) (.lst (by simp [LW]; omega) (smalLW (by omega) fun w hw => by have := h w hw; omega)) (.lst (by simp) .nil) (by omega)
end DL
end

section
set_option Elab.async false
set_option linter.all false
set_option maxRecDepth 100000
set_option maxHeartbeats 4000000
/-! S13: least_words. -/
namespace DL
open PySem L2 Fz SrtO
theorem word_key_ok {w : List Int} : ∃ l, d_word_key [.d (W w)] = .ok (.d (keyD w)) l := by
  have : wC (d_word_key [.d (W w)]) fun v l => v = .d (keyD w) := by
    unfold d_word_key
    rw [wC_denOf]
    simp [b_word_key, keyD]
  obtain ⟨v, l, e, rfl⟩ := this.ok
  exact ⟨l, e⟩
theorem keys_LW : ∀ ws : List (List Int), keysF d_word_key (LW ws) = some (ws.map keyD)
  | [] => rfl
  | w :: ws => by
    obtain ⟨l, e⟩ := word_key_ok (w := w)
    have ih := keys_LW ws
    unfold LW at ih ⊢
    rw [List.map_cons, keysF, e]
    simp only [ih]
    rfl
theorem noLs_ints : ∀ xs : List Int, noLs (xs.map .int) = true
  | [] => rfl
  | x :: xs => by simp only [List.map_cons, noLs, noL, noLs_ints xs]; rfl
@[simp] theorem noL_W {xs : List Int} : noL (W xs) = true := by unfold W; simp only [noL]; exact noLs_ints xs
@[simp] theorem noLs_LW : ∀ {ws : List (List Int)}, noLs (LW ws) = true
  | [] => rfl
  | w :: ws => by
    have ih := noLs_LW (ws := ws)
    unfold LW at ih ⊢
    simp only [List.map_cons, noLs, noL_W, ih]; rfl
end DL
end

section
set_option Elab.async false
set_option linter.all false
set_option maxRecDepth 100000
set_option maxHeartbeats 4000000
/-! S14: leaders and rows. -/
namespace DL
open PySem L2 Fz SrtO
end DL
end

section
set_option Elab.async false
set_option linter.all false
set_option maxRecDepth 100000
set_option maxHeartbeats 4000000
/-! S27: machines, walked. -/
namespace DL
open PySem L2 Fz SrtO
section
variable {M : Mc}
end
end DL
end

section
set_option Elab.async false
set_option linter.all false
set_option maxRecDepth 100000
set_option maxHeartbeats 4000000
/-! S28: what is a machine. -/
namespace Fz
open PySem L2
end Fz
namespace DL
open PySem L2 Fz SrtO
section
variable {M : Mc}
end
end DL
end

section
set_option Elab.async false
set_option linter.all false
set_option maxRecDepth 100000
set_option maxHeartbeats 4000000
/-! S29: what is no machine. -/
namespace DL
open PySem L2 Fz SrtO
end DL
end

section
set_option Elab.async false
set_option linter.all false
set_option maxRecDepth 100000
set_option maxHeartbeats 4000000
/-! S30: bent machines. -/
namespace DL
open PySem L2 Fz SrtO
theorem snoc_of {α : Type} {xs : List α} (h : 1 ≤ xs.length) : ∃ i l, xs = i ++ [l] := by
  have hn : xs ≠ [] := fun z => by rw [z] at h; simp at h
  exact ⟨xs.dropLast, xs.getLast hn, (List.dropLast_concat_getLast hn).symm⟩
end DL
end

section
set_option Elab.async false
set_option linter.all false
set_option maxRecDepth 100000
set_option maxHeartbeats 4000000
/-! S31: drawn machines; the words to so many letters. -/
namespace DL
open PySem L2 Fz SrtO
end DL
end

section
set_option Elab.async false
set_option linter.all false
set_option maxRecDepth 100000
set_option maxHeartbeats 4000000
/-! S32: the words that are taken. -/
namespace DL
open PySem L2 Fz SrtO
section
variable {M : Mc}
end
end DL
end

section
set_option Elab.async false
set_option linter.all false
set_option maxRecDepth 100000
set_option maxHeartbeats 4000000
/-! M9: breadth first, shortest first. -/
namespace DL
open PySem L2 Fz SrtO
def lx : List Int → List Int → Prop
  | x :: xs, y :: ys => x < y ∨ (x = y ∧ lx xs ys)
  | _, _ => False
def slt (a b : List Int) : Prop := a.length < b.length ∨ (a.length = b.length ∧ lx a b)
def sle (a b : List Int) : Prop := a = b ∨ slt a b
theorem lx_trans : ∀ {a b c : List Int}, lx a b → lx b c → lx a c
  | _ :: _, _ :: _, _ :: _, h1, h2 => by
    rcases h1 with h1 | ⟨rfl, h1⟩ <;> rcases h2 with h2 | ⟨rfl, h2⟩
    · exact .inl (by omega)
    · exact .inl h1
    · exact .inl h2
    · exact .inr ⟨rfl, lx_trans h1 h2⟩
theorem lx_irr : ∀ {a : List Int}, ¬ lx a a
  | x :: a, h => by
    rcases h with h | ⟨_, h⟩
    · omega
    · exact lx_irr h
theorem slt_trans {a b c : List Int} (h1 : slt a b) (h2 : slt b c) : slt a c := by
  rcases h1 with h1 | ⟨e1, h1⟩ <;> rcases h2 with h2 | ⟨e2, h2⟩
  · exact .inl (by omega)
  · exact .inl (by omega)
  · exact .inl (by omega)
  · exact .inr ⟨by omega, lx_trans h1 h2⟩
theorem slt_irr {a : List Int} (h : slt a a) : False := by
  rcases h with h | ⟨_, h⟩
  · omega
  · exact lx_irr h
theorem sle_slt {a b c : List Int} (h1 : sle a b) (h2 : slt b c) : slt a c := by
  rcases h1 with rfl | h1
  · exact h2
  · exact slt_trans h1 h2
theorem sle_trans {a b c : List Int} (h1 : sle a b) (h2 : sle b c) : sle a c := by
  rcases h2 with rfl | h2
  · exact h1
  · exact .inr (sle_slt h1 h2)
theorem lx_snoc : ∀ {a b : List Int} {x y : Int}, a.length = b.length → lx a b → lx (a ++ [x]) (b ++ [y])
  | _ :: _, _ :: _, x, y, hl, h => by
    rcases h with h | ⟨e, h⟩
    · exact .inl h
    · exact .inr ⟨e, lx_snoc (by simpa using hl) h⟩
theorem lx_last : ∀ {a : List Int} {x y : Int}, x < y → lx (a ++ [x]) (a ++ [y])
  | [], x, y, h => .inl h
  | _ :: a, x, y, h => .inr ⟨rfl, lx_last h⟩
theorem slt_snoc {a b : List Int} {x y : Int} (h : slt a b) : slt (a ++ [x]) (b ++ [y]) := by
  rcases h with h | ⟨e, h⟩
  · exact .inl (by simp; omega)
  · exact .inr ⟨by simp [e], lx_snoc e h⟩
theorem slt_last {a : List Int} {x y : Int} (h : x < y) : slt (a ++ [x]) (a ++ [y]) := .inr ⟨by simp, lx_last h⟩
theorem sle_snoc {a b : List Int} {x : Int} (h : sle a b) : sle (a ++ [x]) (b ++ [x]) := by
  rcases h with rfl | h
  · exact .inl rfl
  · exact .inr (slt_snoc h)
theorem slt_nil {a : List Int} {x : Int} : slt [] (a ++ [x]) := .inl (by simp)
section
variable {M : Mc} {ps : Ps} {a : Nat}
theorem snoc_rec {P : List Int → Prop} (h0 : P []) (hs : ∀ w x, P w → P (w ++ [x])) : ∀ w, P w := fun w => by
  have : ∀ n (w : List Int), w.length = n → P w := by
    intro n
    induction n with
    | zero => intro w e; rw [List.eq_nil_of_length_eq_zero e]; exact h0
    | succ n ih =>
      intro w e
      obtain ⟨i, l, rfl⟩ := snoc_of (xs := w) (by omega)
      exact hs i l (ih i (by simp at e; omega))
  exact this _ w rfl
end
end DL
end

section
set_option Elab.async false
set_option linter.all false
set_option maxRecDepth 100000
set_option maxHeartbeats 4000000
/-! S33: the first word that is taken. -/
namespace DL
open PySem L2 Fz SrtO
end DL
end

section
set_option Elab.async false
set_option linter.all false
set_option maxRecDepth 100000
set_option maxHeartbeats 4000000
/-! M10: machines of nodes, numbered as met; the least machine of a language. -/
namespace DL
open PySem L2 Fz SrtO
section
variable {β γ : Type} {k : Nat} {st : β} {δ : β → Nat → β} {fin : β → Bool} {M M' : Mc} {ord ord' : List β}
end
/-! ### languages -/
instance instIsW {k : Int} {w : List Int} : Decidable (IsW k w) := by unfold IsW; exact inferInstance
end DL
end

section
set_option Elab.async false
set_option linter.all false
set_option maxRecDepth 100000
set_option maxHeartbeats 4000000
/-! M11: nodes numbered as met, step by step. -/
namespace DL
open PySem L2 Fz SrtO
section
variable {β : Type} {k : Nat} {st : β} {δ : β → Nat → β} {ord : List β} {rws : List (List Int)} {row : List Int}
end
/-! ### the nodes as keys -/
section
variable {β : Type} {U : List β} {code : β → D}
end
end DL
end

section
set_option Elab.async false
set_option linter.all false
set_option maxRecDepth 100000
set_option maxHeartbeats 4000000
/-! F70: functions that a frame makes: the object. -/
namespace Fz
open PySem PySem.Spec PyProof.Rows L2
section
variable {M : Model} {A : Around} {E : Value → Shared → Prop} {s : Shared} {env : Env} {c P : Addr} {ps : Array Value} {pos : Pos} {firstLine : Nat} {mg : Str → Option Value} {clos : List (Str × Addr)} {Q : Value → Shared → Prop}
theorem mk_new {t : FnT} {qual : Str} (hcl : closureFor t.scope env = pure clos) (hge0 : env.globals = mainGlobals) (hg : s.heap.Ns mainGlobals mg) (hcode : env.code = .ref c) (C : PySem.W.CodeHd s.heap c P) (hP : s.heap.get? P = some { cls := .none, data := .fields ps }) (ht : TriplesOk ps.toList)
    (hnf : codeAmong pos ps.toList = none) (hgP : mainGlobals ≠ P) (hb : s.heap.BuiltinsAt mg P)
    (h : ∀ c' pm ctv doc h' tk, Heap.ExtBut P s.heap h' → s.heap.objs.size ≤ c' → c' < h'.objs.size → h'.CodeRec (.ref c') qual → h'.get? P = some { cls := .none, data := .fields (ps ++ #[rawInt pos.line, rawInt pos.col, .ref c']) } → (∃ P', s.heap.objs.size ≤ P' ∧ h'.IsCode c' P' #[] ∧ h'.TableAt c' P' #[]) →
      Q (.ref h'.objs.size) { s with heap := h'.push { cls := .type "function", data := .func (fnG t qual clos pm (.ref c') ctv doc) }, toks := tk }) :
    wpAny M A (makeFunction t.name qual t.params t.body t.scope env [] [] [] pos firstLine) Q E s := by
  obtain ⟨nm, prm, body, scp⟩ := t
  rw [PySem.makeFunction_eq]
  simp only [List.zip_nil_right, List.filterMap_nil, List.isEmpty_nil, if_true, pure_bind]
  obtain ⟨bm, ob, hbm, hne0, _, hneP, hbo, hcls, hdict, hdata⟩ := hb
  unfold makeTail
  rw [hcl, hge0]
  refine wpAny_bind (wpAny_pure ?_)
  cases clos with
  | nil =>
    simp only [List.isEmpty_nil, if_true]
    refine wpAny_bind (wpAny_pure ?_)
    refine wpAny_bind (wpAny_functionCodeX hcode (C.code hP ht) (C.tab hP) hnf fun c' h' tk hx hge hlt _ hrec htb hnew => ?_)
    have hg' := hg.extBut hx hgP
    refine wpAny_bind (wpAny_builtinsFor hg' hbm hne0 (hx _ _ hneP hbo) hcls hdict hdata ?_)
    refine wpAny_bind (wpAny_nsGet hg' ?_)
    cases body with
    | expr e => exact wpAny_bind (wpAny_pure (wpAny_newObj_type (h c' _ .none .none h' tk hx hge hlt hrec htb.2 hnew) (by size_fits)))
    | stmts b =>
      cases hdoc : docOf b with
      | none => simp only [hdoc]; exact wpAny_bind (wpAny_pure (wpAny_newObj_type (h c' _ .none .none h' tk hx hge hlt hrec htb.2 hnew) (by size_fits)))
      | some t => simp only [hdoc]; exact wpAny_bind (wpAny_mkText (wpAny_newObj_type (h c' _ .none _ h' _ hx hge hlt hrec htb.2 hnew) (by size_fits)))
  | cons q r =>
    simp only [List.isEmpty_cons, Bool.false_eq_true, if_false]
    refine wpAny_bind (wpAny_newTextTuple ?_)
    refine wpAny_bind (wpAny_functionCodeX hcode ((C.keeps fun b o e => Heap.get?_push_of_some _ e).code (Heap.get?_push_of_some _ hP) ht) ((C.keeps fun b o e => Heap.get?_push_of_some _ e).tab (Heap.get?_push_of_some _ hP)) hnf fun c' h' tk hx hge hlt _ hrec htb ⟨P', hnew1, hnew⟩ => ?_)
    have hg' := (hg.push _).extBut hx hgP
    have hx' : Heap.ExtBut P s.heap h' := fun b o hb' e => hx b o hb' (Heap.get?_push_of_some _ e)
    have hge' : s.heap.objs.size ≤ c' := Nat.le_trans (by rw [Heap.size_push]; omega) hge
    have hge2 : s.heap.objs.size ≤ P' := Nat.le_trans (by rw [Heap.size_push]; omega) hnew1
    refine wpAny_bind (wpAny_builtinsFor hg' hbm hne0 (hx' _ _ hneP hbo) hcls hdict hdata ?_)
    refine wpAny_bind (wpAny_nsGet hg' ?_)
    cases body with
    | expr e => exact wpAny_bind (wpAny_pure (wpAny_newObj_type (h c' _ _ .none h' tk hx' hge' hlt hrec htb.2 ⟨P', hge2, hnew⟩) (by size_fits)))
    | stmts b =>
      cases hdoc : docOf b with
      | none => simp only [hdoc]; exact wpAny_bind (wpAny_pure (wpAny_newObj_type (h c' _ _ .none h' tk hx' hge' hlt hrec htb.2 ⟨P', hge2, hnew⟩) (by size_fits)))
      | some t => simp only [hdoc]; exact wpAny_bind (wpAny_mkText (wpAny_newObj_type (h c' _ _ _ h' _ hx' hge' hlt hrec htb.2 ⟨P', hge2, hnew⟩) (by size_fits)))
theorem mk_hit {t : FnT} {qual : Str} {cv : Value} (hcl : closureFor t.scope env = pure clos) (hge0 : env.globals = mainGlobals) (hg : s.heap.Ns mainGlobals mg) (hcode : env.code = .ref c) (C : PySem.W.CodeHd s.heap c P) (hP : s.heap.get? P = some { cls := .none, data := .fields ps }) (ht : TriplesOk ps.toList)
    (hf : codeAmong pos ps.toList = some cv) (hb : s.heap.BuiltinsAt mg P)
    (h : ∀ (pm ctv doc : Value) (h' : Heap) (tk : Tok), (∀ b o, s.heap.get? b = some o → h'.get? b = some o) → s.heap.objs.size ≤ h'.objs.size →
      Q (.ref h'.objs.size) { s with heap := h'.push { cls := .type "function", data := .func (fnG t qual clos pm cv ctv doc) }, toks := tk }) :
    wpAny M A (makeFunction t.name qual t.params t.body t.scope env [] [] [] pos firstLine) Q E s := by
  obtain ⟨nm, prm, body, scp⟩ := t
  rw [PySem.makeFunction_eq]
  simp only [List.zip_nil_right, List.filterMap_nil, List.isEmpty_nil, if_true, pure_bind]
  obtain ⟨bm, ob, hbm, hne0, _, hneP, hbo, hcls, hdict, hdata⟩ := hb
  unfold makeTail
  rw [hcl, hge0]
  refine wpAny_bind (wpAny_pure ?_)
  cases clos with
  | nil =>
    simp only [List.isEmpty_nil, if_true]
    refine wpAny_bind (wpAny_pure ?_)
    refine wpAny_bind (wpAny_functionCode_hit hcode (C.code hP ht) hf ?_)
    refine wpAny_bind (wpAny_builtinsFor hg hbm hne0 hbo hcls hdict hdata ?_)
    refine wpAny_bind (wpAny_nsGet hg ?_)
    cases body with
    | expr e => exact wpAny_bind (wpAny_pure (wpAny_newObj_type (h _ .none .none s.heap s.toks (fun _ _ e => e) (Nat.le_refl _)) (by size_fits)))
    | stmts b =>
      cases hdoc : docOf b with
      | none => simp only [hdoc]; exact wpAny_bind (wpAny_pure (wpAny_newObj_type (h _ .none .none s.heap s.toks (fun _ _ e => e) (Nat.le_refl _)) (by size_fits)))
      | some t => simp only [hdoc]; exact wpAny_bind (wpAny_mkText (wpAny_newObj_type (h _ .none _ s.heap _ (fun _ _ e => e) (Nat.le_refl _)) (by size_fits)))
  | cons q r =>
    simp only [List.isEmpty_cons, Bool.false_eq_true, if_false]
    refine wpAny_bind (wpAny_newTextTuple ?_)
    refine wpAny_bind (wpAny_functionCode_hit hcode ((C.keeps fun b o e => Heap.get?_push_of_some _ e).code (Heap.get?_push_of_some _ hP) ht) hf ?_)
    refine wpAny_bind (wpAny_builtinsFor (hg.push _) hbm hne0 (Heap.get?_push_of_some _ hbo) hcls hdict hdata ?_)
    refine wpAny_bind (wpAny_nsGet (hg.push _) ?_)
    have hsz : ∀ oT : Obj, s.heap.objs.size ≤ (s.heap.push oT).objs.size := fun oT => by rw [Heap.size_push]; omega
    cases body with
    | expr e => exact wpAny_bind (wpAny_pure (wpAny_newObj_type (h _ _ .none _ s.toks (fun b o e => Heap.get?_push_of_some _ e) (hsz _)) (by size_fits)))
    | stmts b =>
      cases hdoc : docOf b with
      | none => simp only [hdoc]; exact wpAny_bind (wpAny_pure (wpAny_newObj_type (h _ _ .none _ s.toks (fun b o e => Heap.get?_push_of_some _ e) (hsz _)) (by size_fits)))
      | some t => simp only [hdoc]; exact wpAny_bind (wpAny_mkText (wpAny_newObj_type (h _ _ _ _ _ (fun b o e => Heap.get?_push_of_some _ e) (hsz _)) (by size_fits)))
end
section
variable {X : Cx} {F : Fx} {pins : List (Addr × Obj)} {σ : Sl} {S : FS} {H : Hp} {s : Shared}
/-- THE RULE: a frame makes a function -/
theorem mk_fn {t : FnT} {qual : Str} {pos : Pos} {fl : Nat} {E : Value → Shared → Prop} {Q : Value → Shared → Prop} {c P : Addr} (TB : GxR.TabB X.base X.mg c P) (hcode : X.env.code = .ref c) (hP : P ∈ F.tabs) (I : Inv X pins σ H s) (r : Rel X.K F S σ H) (hfree : ∀ y ∈ t.scope.names, y.2 = .free → ∃ c, X.env.cells.lookup y.1 = some c)
    (h : ∀ f H1 s1, Inv X pins σ H1 s1 → Rel X.K F S σ H1 → Pers H H1 → FnMade X.env.cells t H1 (.ref f) → H f = none → Q (.ref f) s1) :
    wpAny (model X.prog X.w) X.A (makeFunction t.name qual t.params t.body t.scope X.env [] [] [] pos fl) Q E s := by
  obtain ⟨ps, hPt, htr, hold⟩ := r.tabs P hP
  have cd : PySem.W.CodeHd s.heap c P := TB.code.keeps fun b u e => I.bk b u e
  have tbm := TB.bm.keeps I.bk
  have gP := TB.gP
  have hPs : s.heap.get? P = some { cls := .none, data := .fields ps } := I.hok P _ hPt
  have fin : ∀ (pm cv ctv doc : Value) (h' : Heap) (tk : Nat) (H3 : Hp), Inv X pins σ H3 { s with heap := h', toks := tk } → Rel X.K F S σ H3 → Pers H H3 → CodeG H3 cv → s.heap.objs.size ≤ h'.objs.size →
      Q (.ref h'.objs.size) { s with heap := h'.push { cls := .type "function", data := .func (fnG t qual (cloFrom X.env.cells t.scope.names []) pm cv ctv doc) }, toks := tk } := fun pm cv ctv doc h' tk H3 I3 r3 p3 cg hsz => by
    have n3 : H3 h'.objs.size = none := I3.hok.fresh (Nat.le_refl _)
    have n0 : H h'.objs.size = none := I.hok.fresh hsz
    have I4 := I3.laid (t' := tk) (h' := h'.push { cls := .type "function", data := .func (fnG t qual (cloFrom X.env.cells t.scope.names []) pm cv ctv doc) }) (o := .frz { cls := .type "function", data := .func (fnG t qual (cloFrom X.env.cells t.scope.names []) pm cv ctv doc) } (.ext fun _ => True)) (a := h'.objs.size)
      (fun b u e => Heap.get?_push_of_some _ e) (Nat.le_refl _) ⟨Heap.get?_push_size _ rfl, trivial, ⟨_, Heap.get?_push_size _ rfl⟩, fun _ _ _ _ => trivial⟩
    have p4 : Pers H3 (upd H3 h'.objs.size (.frz { cls := .type "function", data := .func (fnG t qual (cloFrom X.env.cells t.scope.names []) pm cv ctv doc) } (.ext fun _ => True))) := Pers.new n3
    exact h _ _ _ I4 (r3.new n3) (p3.trans p4) ⟨_, qual, pm, cv, ctv, doc, .ext fun _ => True, rfl, upd_same, cg.later p4, fun _ z => nomatch z⟩ n0
  cases hc : codeAmong pos ps.toList with
  | none =>
    refine mk_new (mg := X.mg) (closure_ok hfree) I.ok.glob (I.mod.glob.keeps I.bk) hcode cd hPs htr hc gP tbm fun c' pm ctv doc h' tk hx hge hlt hrec htb hnew => ?_
    obtain ⟨H3, I3, r3, pp3, same, cg, _⟩ := code_new (tk := tk) I r hPt htr hx hge hrec htb hnew
    exact fin pm (.ref c') ctv doc h' tk H3 I3 r3 pp3 cg (Nat.le_trans hge (Nat.le_of_lt hlt))
  | some cv =>
    have cg := hold pos cv hc
    refine mk_hit (mg := X.mg) (closure_ok hfree) I.ok.glob (I.mod.glob.keeps I.bk) hcode cd hPs htr hc tbm fun pm ctv doc h' tk hx hsz => ?_
    exact fin pm cv ctv doc h' tk H (I.kept hx) r (.refl H) cg hsz
end
end Fz
end

section
set_option Elab.async false
set_option linter.all false
set_option maxRecDepth 100000
set_option maxHeartbeats 4000000
/-! F71: the frame's cells and own objects, known to the letter for the time of a call. -/
namespace Fz
open PySem PySem.Spec PyProof.Rows L2
abbrev Lks := List (Addr × Obj)
def lockH (H : Hp) (A : Lks) : Hp := fun b => match A.lookup b with
  | some o => some (.frz o ((H b).getD (.ext fun _ => True)))
  | none => H b
def ulH (H H' : Hp) (A : Lks) : Hp := fun b => match A.lookup b with
  | some _ => H b
  | none => H' b
section
variable {H H' : Hp} {A : Lks} {b : Addr} {o : Obj}
theorem lockH_in (h : A.lookup b = some o) : lockH H A b = some (.frz o ((H b).getD (.ext fun _ => True))) := by unfold lockH; rw [h]
theorem lockH_out (h : A.lookup b = none) : lockH H A b = H b := by unfold lockH; rw [h]
theorem ulH_in (h : A.lookup b = some o) : ulH H H' A b = H b := by unfold ulH; rw [h]
theorem ulH_out (h : A.lookup b = none) : ulH H H' A b = H' b := by unfold ulH; rw [h]
end
/-- what may be locked -/
structure LkOk (H : Hp) (h : Heap) (A : Lks) : Prop where
  at_ : ∀ (b : Addr) (o : Obj), A.lookup b = some o → h.get? b = some o ∧ (H b = none ∨ ∃ u, H b = some u ∧ Mut (some u))
section
variable {P : Program} {w : World} {H H' : Hp} {h h' : Heap} {A : Lks} {b : Addr}
theorem LkOk.out (L : LkOk H h A) {u : HO} (e : H b = some u) (n : ¬ Mut (some u)) : A.lookup b = none := by
  cases q : A.lookup b with
  | none => rfl
  | some o =>
    rcases (L.at_ b o q).2 with z | ⟨u2, z, m⟩
    · rw [e] at z; cases z
    · rw [e] at z; cases z; exact (n m).elim
theorem pers_lockH (L : LkOk H h A) : Pers H (lockH H A) :=
  ⟨fun a xs e => by rw [lockH_out (L.out e fun z => z)]; exact e, fun a o u e => by rw [lockH_out (L.out e fun z => z)]; exact e, fun a ⟨ps, e, t⟩ => ⟨ps, by rw [lockH_out (L.out e fun z => z)]; exact e, t⟩⟩
theorem hok_lock (L : LkOk H h A) (hok : HOk P w H h) : HOk P w (lockH H A) h := fun b u e => by
  have own : ∀ c y, H c = some (.own y) → lockH H A c = some (.own y) := fun c y q => by rw [lockH_out (L.out q fun z => z)]; exact q
  have tup : ∀ c xs, H c = some (.tup xs) → lockH H A c = some (.tup xs) := fun c y q => by rw [lockH_out (L.out q fun z => z)]; exact q
  cases q : A.lookup b with
  | none =>
    rw [lockH_out q] at e
    exact (hok b u e).stay (fun c v _ r => r) (fun c r => own c _ r) fun c xs r => tup c xs r
  | some o =>
    rw [lockH_in q] at e
    cases e
    obtain ⟨g, z⟩ := L.at_ b o q
    refine ⟨g, ?_⟩
    rcases z with z | ⟨u, z, m⟩
    · rw [z]; exact ⟨trivial, ⟨o, g⟩, fun _ _ _ _ => trivial⟩
    · rw [z]
      exact (hok b u z).stay (fun c v _ r => r) (fun c r => own c _ r) fun c xs r => tup c xs r
/-- behind the call: what was locked stands again as it stood -/
theorem frz_lock {fs : List Addr} (U : Un fs [] (lockH H A) H' h h') {o : Obj} (q : A.lookup b = some o) : H' b = some (.frz o ((H b).getD (.ext fun _ => True))) := U.frzs _ _ _ (lockH_in q)
theorem un_unlock {fs : List Addr} (L : LkOk H h A) (U : Un fs [] (lockH H A) H' h h') (hok : HOk P w H' h') : Un fs [] H (ulH H H' A) h h' := by
  have same : ∀ b o, A.lookup b = some o → h'.get? b = some o := fun b o q => (hok b _ (frz_lock U q)).1
  refine ⟨fun b o g n hb hx => ?_, fun b o g n hb hx => ?_, fun b o g n hx => ?_, U.there, fun b xs e => ?_, fun b o u e => ?_, fun b ps e => ?_⟩
  · cases q : A.lookup b with
    | none => exact U.keep b o g (by rw [lockH_out q]; exact n) hb hx
    | some o2 =>
      have := (L.at_ b o2 q).1
      rw [g] at this; cases this
      exact same b o q
  · cases q : A.lookup b with
    | none => exact U.slot b o g (by rw [lockH_out q]; exact n) hb hx
    | some o2 =>
      have := (L.at_ b o2 q).1
      rw [g] at this; cases this
      exact ⟨o.slots, same b o q⟩
  · cases q : A.lookup b with
    | none => rw [ulH_out q]; exact U.free b o g (by rw [lockH_out q]; exact n) hx
    | some o2 => rw [ulH_in q]; exact n
  · have q := L.out e fun z => z
    rw [ulH_out q]; exact U.tups b xs (by rw [lockH_out q]; exact e)
  · have q := L.out e fun z => z
    rw [ulH_out q]; exact U.frzs b o u (by rw [lockH_out q]; exact e)
  · have q := L.out e fun z => z
    obtain ⟨m, z⟩ := U.tbls b ps (by rw [lockH_out q]; exact e)
    exact ⟨m, by rw [ulH_out q]; exact z⟩
theorem hok_unlock {fs : List Addr} (U : Un fs [] (lockH H A) H' h h') (hok : HOk P w H' h') : HOk P w (ulH H H' A) h' := fun b u e => by
  have own : ∀ c y, H' c = some (.own y) → ulH H H' A c = some (.own y) := fun c y r => by
    cases q : A.lookup c with
    | none => rw [ulH_out q]; exact r
    | some o => rw [frz_lock U q] at r; cases r
  have tup : ∀ c xs, H' c = some (.tup xs) → ulH H H' A c = some (.tup xs) := fun c y r => by
    cases q : A.lookup c with
    | none => rw [ulH_out q]; exact r
    | some o => rw [frz_lock U q] at r; cases r
  cases q : A.lookup b with
  | none =>
    rw [ulH_out q] at e
    exact (hok b u e).stay (fun c v _ r => r) (fun c r => own c _ r) fun c xs r => tup c xs r
  | some o =>
    rw [ulH_in q] at e
    have z := hok b _ (frz_lock U q)
    rw [e] at z
    exact (z.2).stay (fun c v _ r => r) (fun c r => own c _ r) fun c xs r => tup c xs r
theorem pers_unlock {fs : List Addr} (L : LkOk H h A) (U : Un fs [] (lockH H A) H' h h') (p : Pers (lockH H A) H') : Pers H (ulH H H' A) :=
  ⟨fun a xs e => by
    have q := L.out e fun z => z
    rw [ulH_out q]; exact p.tup _ _ (by rw [lockH_out q]; exact e), fun a o u e => by
    have q := L.out e fun z => z
    rw [ulH_out q]; exact p.frz _ _ _ (by rw [lockH_out q]; exact e), fun a ⟨ps, e, t⟩ => by
    have q := L.out e fun z => z
    obtain ⟨ps', e', t'⟩ := p.tbl a ⟨ps, by rw [lockH_out q]; exact e, t⟩
    exact ⟨ps', by rw [ulH_out q]; exact e', t'⟩⟩
theorem tupS_unlock {fs : List Addr} (L : LkOk H h A) (U : Un fs [] (lockH H A) H' h h') : TupS H' (ulH H H' A) := fun b xs r => by
  cases q : A.lookup b with
  | none =>
    rcases r with r | ⟨o, r⟩
    · exact .inl (by rw [ulH_out q]; exact r)
    · exact .inr ⟨o, by rw [ulH_out q]; exact r⟩
  | some o =>
    exfalso
    have z := frz_lock U q
    rcases r with r | ⟨o2, r⟩
    · rw [z] at r; cases r
    · rw [z] at r
      have := Option.some.inj r
      injection this with _ e
      rcases (L.at_ b o q).2 with y | ⟨u, y, m⟩
      · rw [y] at e; cases e
      · rw [y] at e
        have e : u = .tup xs := e
        subst e; exact m
end
/-! ### the locks of a running frame -/
structure Locks (X : Cx) (σ : Sl) (H : Hp) (s : Shared) (A : Lks) : Prop where
  ok : LkOk H s.heap A
  bare : ∀ (b : Addr) (o : Obj), A.lookup b = some o → H b = none → ∃ x, X.env.cells.lookup x = some b
  cells : ∀ x c, X.env.cells.lookup x = some c → ∃ o, A.lookup c = some o
  objs : ∀ (i : Nat) (a : Addr) (u : HO), σ[i]? = some (some (.ref a)) → H a = some u → Mut (some u) → ∃ o, A.lookup a = some o
theorem lookup_fm {g : Addr → Option Obj} : ∀ {l : List Addr} {b : Addr}, (l.filterMap fun b => (g b).map fun o => (b, o)).lookup b = if b ∈ l then g b else none
  | [], b => rfl
  | c :: l, b => by
    cases e : g c with
    | none =>
      rw [List.filterMap_cons_none (by rw [e]; rfl), lookup_fm]
      by_cases h : b = c
      · subst h; simp [e]
      · simp [h]
    | some o =>
      rw [List.filterMap_cons_some (b := (c, o)) (by rw [e]; rfl), List.lookup_cons]
      by_cases h : b = c
      · subst h; simp [e]
      · have : (b == c) = false := by simpa using h
        rw [this, lookup_fm]
        simp [h]
open Classical in
theorem locks_ex {X : Cx} {pins : List (Addr × Obj)} {σ : Sl} {H : Hp} {s : Shared} (I : Inv X pins σ H s) : ∃ A, Locks X σ H s A := by
  let ok : Addr → Prop := fun b => (H b = none ∧ ∃ x, X.env.cells.lookup x = some b) ∨ ∃ u, H b = some u ∧ Mut (some u)
  let g : Addr → Option Obj := fun b => if ok b then s.heap.get? b else none
  let l : List Addr := X.env.cells.map (·.2) ++ σ.filterMap fun v => match v with
    | some (.ref a) => some a
    | _ => none
  have gk : ∀ {b o}, ((l.filterMap fun b => (g b).map fun o => (b, o)).lookup b = some o) → ok b ∧ s.heap.get? b = some o := fun {b o} h => by
    rw [lookup_fm] at h
    split at h
    · by_cases k : ok b
      · exact ⟨k, by simpa [g, k] using h⟩
      · simp [g, k] at h
    · cases h
  refine ⟨l.filterMap fun b => (g b).map fun o => (b, o), ⟨⟨fun b o h => ?_⟩, fun b o h n => ?_, fun x c e => ?_, fun i a u e hu m => ?_⟩⟩
  · obtain ⟨k, z⟩ := gk h
    exact ⟨z, k.imp (fun z => z.1) id⟩
  · obtain ⟨k, z⟩ := gk h
    rcases k with k | ⟨u, k, _⟩
    · exact k.2
    · rw [n] at k; cases k
  · have hm : c ∈ l := List.mem_append_left _ (List.mem_map.mpr ⟨(x, c), PySem.mem_of_lookup e, rfl⟩)
    have k : ok c := .inl ⟨I.freeC x c e, x, e⟩
    obtain ⟨v, o, ho, _⟩ := I.cell x c e
    refine ⟨o, ?_⟩
    rw [lookup_fm, if_pos hm]
    simp [g, k, ho]
  · have hm : a ∈ l := List.mem_append_right _ (List.mem_filterMap.mpr ⟨some (.ref a), List.mem_of_getElem? e, rfl⟩)
    have k : ok a := .inr ⟨u, hu, m⟩
    have hlt := (I.hok a u hu).lt
    obtain ⟨o, ho⟩ : ∃ o, s.heap.get? a = some o := by
      have z := (I.hok a u hu)
      cases u with
      | lst xs => obtain ⟨_, _, _, _, e⟩ := z; exact ⟨_, e⟩
      | tup xs => obtain ⟨_, _, _, o, e, _⟩ := z; exact ⟨_, e⟩
      | dK kvs => obtain ⟨_, _, _, _, o, _, _, e, _⟩ := z; exact ⟨_, e⟩
      | dT kvs => obtain ⟨_, _, _, _, o, _, _, e, _⟩ := z; exact ⟨_, e⟩
      | set S n => obtain ⟨o, _, _, _, e, _⟩ := z; exact ⟨_, e⟩
      | ins C dx fs => obtain ⟨_, _, _, e, _⟩ := z; exact ⟨_, e⟩
      | own y => obtain ⟨_, e⟩ := z; exact ⟨_, e⟩
      | xd fs => obtain ⟨_, ⟨_, _, _, e, _⟩, _⟩ := z; exact ⟨_, e⟩
      | rng lo hi => obtain ⟨_, _, _, e⟩ := z; exact ⟨_, e⟩
      | frz ob u => obtain ⟨e, _⟩ := z; exact ⟨_, e⟩
      | tbl ps => exact ⟨_, z⟩
      | met f y => exact ⟨_, z⟩
      | ext φ => obtain ⟨_, ⟨_, e⟩, _⟩ := z; exact ⟨_, e⟩
    refine ⟨o, ?_⟩
    rw [lookup_fm, if_pos hm]
    simp [g, k, ho]
theorem env0_lock {X : Cx} {pins : List (Addr × Obj)} {σ : Sl} {H : Hp} {s : Shared} {A : Lks} (I : Inv X pins σ H s) (L : Locks X σ H s A) (hfn : ∀ x, X.fn x = true) : Env0 X.prog X.w X.K X.mg X.base X.A X.stack s (lockH H A) := by
  have E := I.env0
  have cab : ∀ x c, X.env.cells.lookup x = some c → X.s_0.heap.objs.size ≤ c := fun x c e => I.ok.cab x c (hfn x) e
  refine ⟨E.frames, E.mod, fun b o e => ⟨(E.bs b o e).1, ?_⟩, E.bsz, E.funs, fun b hb => ?_, hok_lock L.ok E.hok, E.bare⟩
  · cases q : A.lookup b with
    | none => rw [lockH_out q]; exact (E.bs b o e).2
    | some o2 =>
      exfalso
      obtain ⟨x, hx⟩ := L.bare b o2 q (E.bs b o e).2
      have h1 := cab x b hx
      have h2 := Heap.lt_size (I.ok.bs b o e).1
      exact Nat.lt_irrefl _ (Nat.lt_of_lt_of_le h2 h1)
  · cases q : A.lookup b with
    | none => rw [lockH_out q]; exact E.frf b hb
    | some o2 =>
      exfalso
      obtain ⟨x, hx⟩ := L.bare b o2 q (E.frf b hb)
      rcases List.mem_cons.mp (I.stkSub b hb) with e | hb
      · subst e
        obtain ⟨v, o, ho, hd⟩ := I.cell x _ hx
        obtain ⟨m, ⟨o2, es, ep, ho2, hd2, _⟩, _⟩ := I.loc
        rw [ho] at ho2; cases ho2
        rw [hd] at hd2; cases hd2
      · have h1 := cab x b hx
        obtain ⟨_, o, ho, _⟩ := I.ok.funs.mem hb
        exact Nat.lt_irrefl _ (Nat.lt_of_lt_of_le (Heap.lt_size ho) h1)
end Fz
end

section
set_option Elab.async false
set_option linter.all false
set_option maxRecDepth 100000
set_option maxHeartbeats 4000000
/-! F72: a call that hands functions on. -/
namespace Fz
open PySem PySem.Spec PyProof.Rows L2
theorem tabOk_unlock {H H' : Hp} {h h' : Heap} {A : Lks} {fs : List Addr} {P : Addr} (L : LkOk H h A) (U : Un fs [] (lockH H A) H' h h') (t : TabOk H' P) : TabOk (ulH H H' A) P := by
  obtain ⟨ps, e, tr, c⟩ := t
  have off : ∀ b qs, H' b = some (.tbl qs) → A.lookup b = none := fun b qs e => by
    cases q : A.lookup b with
    | none => rfl
    | some o => rw [frz_lock U q] at e; cases e
  refine ⟨ps, by rw [ulH_out (off _ _ e)]; exact e, tr, fun pos cv z => ?_⟩
  obtain ⟨c, oc, u, vs, q, t, P', h1, h2, h3, h4, h5, h6, h7, h8, ⟨qs, h9, h9'⟩, y, hy⟩ := c pos cv z
  refine ⟨c, oc, u, vs, q, t, P', h1, ?_, h3, h4, h5, h6, h7, h8, ⟨qs, by rw [ulH_out (off _ _ h9)]; exact h9, h9'⟩, y, hy⟩
  cases ql : A.lookup c with
  | none => rw [ulH_out ql]; exact h2
  | some o =>
    exfalso
    rw [frz_lock U ql] at h2
    have := Option.some.inj h2
    injection this with _ e2
    subst hy
    rcases (L.at_ c o ql).2 with z | ⟨u2, z, m⟩
    · rw [z] at e2; cases e2
    · rw [z] at e2
      have e2 : u2 = .own y := e2
      subst e2; exact m
section
variable {X : Cx} {F : Fx} {e : Expr} {es : List Expr} {f : FS → Res D} {g : FS → Res (List AC)} {pos p : Pos} {i j : Nat}
/-- a function is made: its reading -/
def rMade (X : Cx) (F : Fx) (j : Nat) : TE := fun σ H Q => ∃ S, Rel X.K F S σ H ∧ ∀ x H', Pers H H' → Rel X.K F S σ H' → F.cl.loc H' x j → Q x H'
theorem e_lam {params : Arguments} {body : Expr} {scope : Scope} {lpos : Pos} {nfs : List FnT} {c P : Addr} (TB : GxR.TabB X.base X.mg c P) (hcode : X.env.code = .ref c) (hP : P ∈ F.tabs)
    (hfree : ∀ y ∈ scope.names, y.2 = .free → X.env.scope.names.lookup y.1 = some .cell ∨ X.env.scope.names.lookup y.1 = some .free) (hj : nfs[j]? = some ⟨"<lambda>", params, .expr body, scope⟩)
    (hloc : F.cl.loc = LocOk X.env.cells nfs := by rfl) (hdef : defaultsOf params X.env = ([], []) := by rfl) : PE X (.Lambda params body scope lpos) (rMade X F j) := by
  refine ⟨fun pins s σ H Q I ⟨S, r, h⟩ => PySem.W.kla_eval hdef ?_⟩
  have hf : ∀ y ∈ scope.names, y.2 = .free → ∃ c, X.env.cells.lookup y.1 = some c := fun y hy e => (hfree y hy e).elim (fun k => I.ok.has _ (.inl k)) fun k => I.ok.has _ (.inr k)
  refine mk_fn (t := ⟨"<lambda>", params, .expr body, scope⟩) TB hcode hP I r hf fun f H1 s1 I1 r1 p1 m n => ⟨.ref f, H1, I1, rfl, h _ H1 p1 r1 ?_⟩
  rw [hloc]; exact ⟨_, hj, m⟩
end
/-! ### the call -/
/-- what the functions of a frame answer: the j-th one -/
def CloSpec (X : Cx) (F : Fx) (j : Nat) (c : FS → Option (Nat × FnD)) : Prop :=
  ∀ {pins : List (Addr × Obj)} {σ : Sl} {H : Hp} {s : Shared} {S : FS} {A : Lks} {x : V} {k : Nat} {g : FnD}, Inv X pins σ H s → Rel X.K F S σ H → F.cl.loc H x j → Locks X σ H s A → c S = some (k, g) → CloOk X.prog X.w X.K X.mg X.base F.tabs (lockH H A) x k g
section
variable {X : Cx} {F : Fx} {e : Expr} {es : List Expr} {pos p : Pos}
end
end Fz
end

section
set_option Elab.async false
set_option linter.all false
set_option maxRecDepth 100000
set_option maxHeartbeats 4000000
/-! F78: the frame of a function that a frame makes, with cells of its own over those that it caught. -/
namespace Fz
open PySem PySem.Spec PyProof.Rows L2
section
variable {M : Model} {A : Around} {E : Value → Shared → Prop} {s₀ s : Shared} {own : List (Str × Addr)} {cm : Str → Option Value} {env : Env}
theorem stCN {m : Str → Option Value} {n : Str} {c : Addr} {v : Value} {Q : Unit → Shared → Prop} (x : InCallC s₀ env.locals m own cm s) (hk : env.scope.kind = .function) (hl : env.kindOf n = some .cell)
    (hc : own.lookup n = some c) (he : env.cells.lookup n = some c)
    (h : ∀ s', InCallC s₀ env.locals m own (fun y => if y = n then some v else cm y) s' → Q () s') : wpAny M A (storeName env n v) Q E s := by
  have hLc := x.above n c (PySem.mem_of_lookup hc)
  refine wpAny_storeName_cell hk hl he (x.cell n c hc) fun h' hc' hs' => h _ ⟨⟨?_, x.toInCall.ns.sameBut hs' (Nat.ne_of_lt hLc), fun b o e => ?_, x.toInCall.fresh⟩, fun k c' hk' => ?_, x.apart, x.above⟩
  · obtain ⟨h₁, tk, rfl⟩ := x.toInCall.same
    exact ⟨h', _, rfl⟩
  · exact hs'.extBut b o (Nat.ne_of_lt (Nat.lt_trans (Nat.lt_of_lt_of_le (Heap.lt_size e) x.toInCall.fresh) hLc)) (x.toInCall.keep b o e)
  · by_cases hkn : k = n
    · subst hkn
      rw [hc] at hk'; cases hk'
      simpa using hc'
    · rw [if_neg hkn]
      exact (x.cell k c' hk').sameBut hs' fun e => hkn (name_of_addr x.apart (PySem.mem_of_lookup hk') (e ▸ PySem.mem_of_lookup hc))
theorem stLN {m : Str → Option Value} {n : Str} {v : Value} {Q : Unit → Shared → Prop} (x : InCallC s₀ env.locals m own cm s) (hk : env.scope.kind = .function) (hl : env.kindOf n = some .local)
    (h : ∀ s', InCallC s₀ env.locals (fun y => if y = n then some v else m y) own cm s' → Q () s') : wpAny M A (storeName env n v) Q E s := by
  refine wpAny_storeName_local hl x.toInCall.ns (fun h' hn' hs' => h _ ⟨⟨?_, hn', fun b o e => ?_, x.toInCall.fresh⟩, fun k c hc => ?_, x.apart, x.above⟩) (by rw [hk]; rfl)
  · obtain ⟨h₁, tk, rfl⟩ := x.toInCall.same
    exact ⟨h', _, rfl⟩
  · exact hs'.extBut b o (Nat.ne_of_lt (Nat.lt_of_lt_of_le (Heap.lt_size e) x.toInCall.fresh)) (x.toInCall.keep b o e)
  · exact (x.cell k c hc).sameBut hs' (Nat.ne_of_gt (x.above k c (PySem.mem_of_lookup hc)))
theorem bindParamsN (hsub : ∀ n c, own.lookup n = some c → env.cells.lookup n = some c) (f : Str × Value → PUnit → Sem (ForInStep PUnit)) (hf : ∀ n v u, f (n, v) u = (do storeName env n v; pure (.yield ⟨⟩))) (hk : env.scope.kind = .function) :
    ∀ (binds : List (Str × Value)) (m cm : Str → Option Value) (s : Shared) (Q : PUnit → Shared → Prop), InCallC s₀ env.locals m own cm s →
      (∀ x ∈ binds, env.kindOf x.1 = some .local ∨ (env.kindOf x.1 = some .cell ∧ (own.lookup x.1).isSome = true)) →
      (∀ s', InCallC s₀ env.locals (bindL env.kindOf binds m) own (bindC env.kindOf binds cm) s' → Q ⟨⟩ s') → wpAny M A (forIn binds ⟨⟩ f) Q E s
  | [], m, cm, s, Q, x, _, h => by rw [List.forIn_nil]; exact wpAny_pure (h s x)
  | (n, v) :: r, m, cm, s, Q, x, hkind, h => by
    rw [List.forIn_cons, hf]
    have hr : ∀ y ∈ r, env.kindOf y.1 = some .local ∨ (env.kindOf y.1 = some .cell ∧ (own.lookup y.1).isSome = true) := fun y hy => hkind y (List.mem_cons_of_mem _ hy)
    rcases hkind (n, v) List.mem_cons_self with hl | ⟨hl, hc⟩
    · refine wpAny_bind (wpAny_bind (stLN x hk hl fun s' x' => wpAny_pure (bindParamsN hsub f hf hk r _ _ s' Q x' hr fun s'' x'' => h s'' ?_)))
      unfold bindL bindC; rw [if_pos hl, if_pos hl]; exact x''
    · obtain ⟨c, hc⟩ := Option.isSome_iff_exists.mp hc
      have hnl : ¬ env.kindOf n = some .local := by rw [hl]; decide
      refine wpAny_bind (wpAny_bind (stCN x hk hl hc (hsub n c hc) fun s' x' => wpAny_pure (bindParamsN hsub f hf hk r _ _ s' Q x' hr fun s'' x'' => h s'' ?_)))
      unfold bindL bindC; rw [if_neg hnl, if_neg hnl]; exact x''
end
section
variable {M : Model} {A : Around} {E : Value → Shared → Prop} {s : Shared}
theorem newFunctionEnvN {scope : Scope} {globals : Addr} {clo : List (Str × Addr)} {binds : List (Str × Value)} {qual : Str} {func : Option Addr} {code : Value} {builtins : Addr} {Q : Env → Shared → Prop}
    (hk : scope.kind = .function)
    (hkind : ∀ x ∈ binds, scope.names.lookup x.1 = some .local ∨ (scope.names.lookup x.1 = some .cell ∧ ((cellsFrom (s.heap.objs.size + 1) scope.names []).lookup x.1).isSome = true))
    (hQ : ∀ env, env = newEnv scope s.heap.objs.size globals (cellsFrom (s.heap.objs.size + 1) scope.names clo) qual func code none builtins →
      ∀ s', InCallC s env.locals (bindL env.kindOf binds fun _ => none) (cellsFrom (s.heap.objs.size + 1) scope.names []) (bindC env.kindOf binds fun _ => none) s' → Q env s') :
    wpAny M A (newFunctionEnv scope globals clo binds qual func code none builtins) Q E s := by
  simp only [newFunctionEnv, Option.isSome_none, Bool.false_eq_true, if_false]
  refine wpAny_bind (wpAny_alloc ?_)
  refine wpAny_bind (wpAny_layCells _ (fun name kind cells => by cases hkc : kind == NameKind.cell <;> simp [hkc]) _ _ _ _ ?_)
  have ok := cellsFrom_ok scope.names (s.heap.push { cls := .type "frame", data := .dict #[] }) (s.heap.objs.size + 1) [] ⟨fun _ _ hm => (nomatch hm), List.Pairwise.nil⟩ (by rw [Heap.size_push]; exact Nat.le_refl _)
  rw [Heap.size_push] at ok
  rw [show ({ s with heap := s.heap.push { cls := .type "frame", data := .dict #[] } } : Shared).heap.objs.size = s.heap.objs.size + 1 from Heap.size_push ..]
  refine wpAny_bind (bindParamsN (s₀ := s) (own := cellsFrom (s.heap.objs.size + 1) scope.names []) (env := newEnv scope s.heap.objs.size globals (cellsFrom (s.heap.objs.size + 1) scope.names clo) qual func code none builtins)
    (fun n c h => ?_) _ (fun _ _ _ => rfl) hk binds (fun _ => none) (fun _ => none) _ _
    ⟨⟨⟨_, _, rfl⟩, (Heap.Ns.new s.heap (.type "frame")).keeps (pushCells_keeps _ _), fun b o e => pushCells_keeps _ _ b o (Heap.get?_push_of_some _ e), Nat.le_refl _⟩,
      fun n c hc => (ok.empty n c (PySem.mem_of_lookup hc)).1, ok.apart, fun n c hm => (ok.empty n c hm).2⟩
    hkind fun s' x => wpAny_pure (hQ _ rfl s' x))
  show (cellsFrom (s.heap.objs.size + 1) scope.names clo).lookup n = some c
  rw [cellsFrom_over, List.lookup_append, h]
  rfl
end
/-- its names: the parameters, then the captured ones, then its locals; parameters and locals may be cells -/
structure NScC (N ps fr : List Str) (sc : Scope) : Prop where
  kind : sc.kind = .function
  co : sc.isCoroutine = false
  gen : sc.isGenerator = false
  nd : N.Nodup
  pre : N.take (ps.length + fr.length) = ps ++ fr
  par : ∀ x ∈ ps, sc.names.lookup x = some .local ∨ sc.names.lookup x = some .cell
  cel : ∀ y ∈ sc.names, y.2 = .cell → sc.names.lookup y.1 = some .cell
  free : ∀ y ∈ sc.names, y.2 = .free → y.1 ∈ fr
  frk : ∀ x ∈ fr, sc.names.lookup x = some .free
def nscCB (N ps fr : List Str) (sc : Scope) : Bool :=
  decide (sc.kind = .function) && !sc.isCoroutine && !sc.isGenerator && decide N.Nodup && decide (N.take (ps.length + fr.length) = ps ++ fr) && ps.all (fun x => decide (sc.names.lookup x = some .local) || decide (sc.names.lookup x = some .cell)) && sc.names.all (fun y => !decide (y.2 = .cell) || decide (sc.names.lookup y.1 = some .cell)) && sc.names.all (fun y => !decide (y.2 = .free) || decide (y.1 ∈ fr)) && fr.all (fun x => decide (sc.names.lookup x = some .free))
theorem nscC_by {N ps fr : List Str} {sc : Scope} (h : nscCB N ps fr sc = true) : NScC N ps fr sc := by
  unfold nscCB at h
  simp only [Bool.and_eq_true, Bool.not_eq_true', decide_eq_true_eq, List.all_eq_true, Bool.or_eq_true, decide_eq_false_iff_not] at h
  obtain ⟨⟨⟨⟨⟨⟨⟨⟨h1, h2⟩, h3⟩, h4⟩, h5⟩, h6⟩, h7⟩, h8⟩, h9⟩ := h
  exact ⟨h1, h2, h3, h4, h5, h6, fun y hy e => (h7 y hy).elim (fun z => absurd e z) id, fun y hy e => (h8 y hy).elim (fun z => absurd e z) id, h9⟩
theorem cellsFrom_kind : ∀ {names : List (Str × NameKind)} {n : Nat} {acc : List (Str × Addr)} {x : Str} {c : Addr}, (x, c) ∈ cellsFrom n names acc → (x, c) ∈ acc ∨ (x, NameKind.cell) ∈ names
  | [], _, _, _, _, h => .inl h
  | (nm, k) :: r, n, acc, x, c, h => by
    unfold cellsFrom at h
    split at h
    · rename_i hk
      rcases cellsFrom_kind h with h | h
      · rcases List.mem_cons.mp h with e | h
        · cases e
          have hk : k = .cell := by cases k <;> first | rfl | exact absurd hk (by decide)
          subst hk
          exact .inr List.mem_cons_self
        · exact .inl h
      · exact .inr (List.mem_cons_of_mem _ h)
    · rcases cellsFrom_kind h with h | h
      · exact .inl h
      · exact .inr (List.mem_cons_of_mem _ h)
def isCellK : Option NameKind → Bool
  | some .cell => true
  | _ => false
theorem isCellK_eq {o : Option NameKind} (h : isCellK o = true) : o = some .cell := by
  unfold isCellK at h
  split at h
  · rfl
  · cases h
/-- the context of its body: it may store into its own cells -/
def ncxC (CX : CXT) (P : Program) (w : World) (K : Fg) (mg : Str → Option Value) (base : Heap) (N : List Str) (F : NdefX.NF) (f : Addr) (A : Around) (outer : List Env) (s : Shared) (H : Hp) (E : XK) : Cx :=
  { NdefX.ncx CX P w K mg base N F f A outer s H E with fn := fun y => isCellK (F.scope.names.lookup y) }
section
variable {CX : CXT} {P : Program} {w : World} {K : Fg} {mg : Str → Option Value} {base : Heap} {N ps fr : List Str} {F : NdefX.NF} {f : Addr} {A : Around} {outer : List Env} {s s1 : Shared} {H : Hp} {E : XK} {us : List Value} {vs : List V} {ws : List (Option V)} {kf : Str → Option NameKind}
theorem inv_startNC {cl : List (Str × Addr)} (S : NScC N ps fr F.scope) (hd : A.handled = none) (e0 : Env0 P w K mg base A outer s H) (hl : vs.length = ps.length) (r : Vals vs us) (C : NdefX.CellsAt cl fr ws s.heap H)
    (hcl : F.cl = cellsFrom (s.heap.objs.size + 1) F.scope.names cl) (hkf : kf = fun y => F.scope.names.lookup y)
    (x : InCallC s s.heap.objs.size (bindL kf (ps.zip us) fun _ => none) (cellsFrom (s.heap.objs.size + 1) F.scope.names []) (bindC kf (ps.zip us) fun _ => none) s1) :
    Inv (ncxC CX P w K mg base N F f A outer s H E) [] (NdefX.startF N vs ws) H s1 := by
  subst hkf
  have hpl : ps.length + fr.length ≤ N.length := by
    have q := congrArg List.length S.pre
    rw [List.length_take, List.length_append] at q
    omega
  obtain ⟨h1, tk, rfl, hk⟩ := x.done
  have noA : ∀ b : Addr, b ∉ (ncxC CX P w K mg base N F f A outer s H E).ex := fun b z => absurd (show b ∈ ([] : List Addr) from z) (by simp)
  have cellK : ∀ {c : Addr} {v : Option Value}, s.heap.IsCell c v → h1.IsCell c v := fun {c v} ⟨o, ho, hd⟩ => ⟨o, hk _ _ ho, hd⟩
  have look : ∀ y, F.cl.lookup y = ((cellsFrom (s.heap.objs.size + 1) F.scope.names []).lookup y).or (cl.lookup y) := fun y => by rw [hcl, cellsFrom_over, List.lookup_append]
  have look1 : ∀ {y c}, (cellsFrom (s.heap.objs.size + 1) F.scope.names []).lookup y = some c → F.cl.lookup y = some c := fun {y c} h => by rw [look, h]; rfl
  have ownk : ∀ {y c}, (cellsFrom (s.heap.objs.size + 1) F.scope.names []).lookup y = some c → F.scope.names.lookup y = some .cell := fun {y c} h => by
    rcases cellsFrom_kind (PySem.mem_of_lookup h) with h | h
    · cases h
    · exact S.cel _ h rfl
  have look2 : ∀ {y c}, F.scope.names.lookup y = some .free → cl.lookup y = some c → F.cl.lookup y = some c := fun {y c} h h2 => by
    rw [look]
    cases e : (cellsFrom (s.heap.objs.size + 1) F.scope.names []).lookup y with
    | none => rw [h2]; rfl
    | some c2 => rw [ownk e] at h; cases h
  have cas : ∀ {y c}, F.cl.lookup y = some c → (cellsFrom (s.heap.objs.size + 1) F.scope.names []).lookup y = some c ∨ cl.lookup y = some c := fun {y c} h => by
    rw [look] at h
    cases e : (cellsFrom (s.heap.objs.size + 1) F.scope.names []).lookup y with
    | none => rw [e] at h; exact .inr h
    | some c2 => rw [e] at h; exact .inl h
  have old : ∀ {y c}, cl.lookup y = some c → c < s.heap.objs.size := fun {y c} h => by
    obtain ⟨_, v, z⟩ := C.all y c h
    exact z.lt
  have new : ∀ {y c}, (cellsFrom (s.heap.objs.size + 1) F.scope.names []).lookup y = some c → s.heap.objs.size < c := fun {y c} h => x.above y c (PySem.mem_of_lookup h)
  have owns : ∀ {y}, F.scope.names.lookup y = some .cell → ∃ c, (cellsFrom (s.heap.objs.size + 1) F.scope.names []).lookup y = some c := fun {y} h => cell_has h
  refine ⟨⟨e0.mod, S.kind, rfl, rfl, Nat.le_refl _, fun y z c h1 h2 => ?_, fun y hy => ?_, fun y c z h => ?_, fun _ => hd, Around.frames_deeper e0.frames, .inr ⟨rfl, rfl⟩, fun b z => absurd z (noA b), e0.bs, e0.bsz, fun b _ _ => noA b,
      fun b z => absurd z (noA b), e0.funs, e0.frf⟩,
    rfl, e0.bare, Un.kept hk, ⟨_, x.toInCall.ns, fun i y v e1 e2 e3 => ?_⟩, fun y c e => ?_, e0.hok.fresh (Nat.le_refl _), fun y c e => ?_, fun q hq => absurd (show q ∈ ([] : List (Addr × Obj)) ++ [] from hq) (by simp), e0.hok.kept hk, ?_⟩
  · have h1 : F.cl.lookup y = some c := h1
    have h2 : F.cl.lookup z = some c := h2
    rcases cas h1 with a | a <;> rcases cas h2 with b | b
    · exact name_of_addr x.apart (PySem.mem_of_lookup a) (PySem.mem_of_lookup b)
    · exact absurd (new a) (Nat.lt_asymm (old b))
    · exact absurd (new b) (Nat.lt_asymm (old a))
    · exact C.inj y z c a b
  · have hy : F.scope.names.lookup y = some .cell ∨ F.scope.names.lookup y = some .free := hy
    rcases hy with hy | hy
    · obtain ⟨c, hc⟩ := owns hy
      exact ⟨c, look1 hc⟩
    · obtain ⟨i, hi⟩ := List.mem_iff_getElem?.mp (S.free _ (PySem.mem_of_lookup hy) rfl)
      obtain ⟨c, hc, _⟩ := C.has i y hi
      exact ⟨c, look2 hy hc⟩
  · have z : isCellK (F.scope.names.lookup y) = true := z
    have h : F.cl.lookup y = some c := h
    obtain ⟨c2, hc2⟩ := owns (isCellK_eq z)
    rw [look1 hc2] at h
    cases h
    exact Nat.le_of_lt (new hc2)
  · have e1 : N[i]? = some y := e1
    have clen := C.len
    unfold NdefX.startF at e2
    by_cases h1 : i < ps.length
    · have hq : (ps ++ fr)[i]? = some y := by
        rw [← S.pre, List.getElem?_take_of_lt (by omega)]
        exact e1
      rw [List.getElem?_append_left h1] at hq
      rw [List.getElem?_append_left (by rw [List.length_map]; omega), List.getElem?_map] at e2
      have ha : vs[i]? = some v := by
        cases e : vs[i]? with
        | none => rw [e] at e2; cases e2
        | some a => rw [e] at e2; cases e2; rfl
      obtain ⟨u, hu, rv⟩ := r.get ha
      have ndP : ps.Nodup := by
        have q := S.nd.sublist (List.take_sublist (ps.length + fr.length) N)
        rw [S.pre] at q
        exact (List.nodup_append.mp q).1
      refine ⟨u, rv, ?_⟩
      rcases S.par y (List.mem_of_getElem? hq) with k | k
      · exact .inl ⟨k, bindL_get ndP hq hu k⟩
      · obtain ⟨c, e⟩ := owns k
        refine .inr ⟨.inl k, c, look1 e, ?_⟩
        have q := x.cell y c e
        rw [bindC_get ndP hq hu (by rw [k]; decide)] at q
        exact q
    · rw [List.getElem?_append_right (by rw [List.length_map]; omega), List.length_map] at e2
      by_cases h2 : i < ps.length + fr.length
      · have hq : (ps ++ fr)[i]? = some y := by
          rw [← S.pre, List.getElem?_take_of_lt (by omega)]
          exact e1
        rw [List.getElem?_append_right (by omega)] at hq
        rw [List.getElem?_append_left (by omega), hl] at e2
        obtain ⟨c, hc, hv⟩ := C.has (i - ps.length) y hq
        obtain ⟨u, ru, hu⟩ := hv v e2
        have kf := S.frk y (List.mem_of_getElem? hq)
        exact ⟨u, ru, .inr ⟨.inr kf, c, look2 kf hc, cellK hu⟩⟩
      · rw [List.getElem?_append_right (by omega), List.getElem?_replicate] at e2
        split at e2 <;> cases e2
  · rcases cas (show F.cl.lookup y = some c from e) with a | a
    · exact ⟨_, x.cell y c a⟩
    · obtain ⟨v, z⟩ := (C.all y c a).2
      exact ⟨v, cellK z⟩
  · rcases cas (show F.cl.lookup y = some c from e) with a | a
    · exact e0.hok.fresh (Nat.le_of_lt (new a))
    · exact (C.all y c a).1
  · have clen := C.len
    unfold NdefX.startF
    show _ = N.length
    rw [List.length_append, List.length_append, List.length_map, List.length_replicate]
    omega
end
end Fz
end

section
set_option Elab.async false
set_option linter.all false
set_option maxRecDepth 100000
set_option maxHeartbeats 4000000
/-! F73: what a function that a frame makes answers. -/
namespace Fz
open PySem PySem.Spec PyProof.Rows L2
section
variable {prog : Program} {w : World} {A : Around} {R : Result → Shared → Prop} {s : Shared}
theorem callq_expr {a : Addr} {args : Args} {o : Obj} {fd : FuncData} {body : Expr} {q : Str} (hroom : A.depth < recursionLimit) (ho : s.heap.get? a = some o)
    (hd' : o.data = .func fd) (hco : fd.scope.isCoroutine = false) (hgen : fd.scope.isGenerator = false) (hbody : fd.body = .expr body) (hcd : s.heap.CodeRec fd.code q)
    (h : wpAny (model prog w) A.in1 (bindArgs fd args) (fun binds s₁ =>
      wpAny (model prog w) A.in1 (newFunctionEnv fd.scope fd.globals fd.closure binds (q ++ ".<locals>.") (some a) fd.code none fd.builtins)
        (fun env s₂ => s₂.heap.NoLimit ∧ codeAny (model prog w) A (.expr body env) R s₂) (fun e s' => R (.error e) s') s₁) (fun e s' => R (.error e) s') s) :
    codeAny (model prog w) A (.call (.ref a) args) R s := by
  refine codeAny_of_tree ?_
  show wpAny _ A.in1 (callAny (.ref a) args) _ _ s
  simp only [callAny]
  refine wpAny_bind (wpAny_load ho ?_)
  obtain ⟨c, oc, vs, tq, hc, hoc, hdc, hq⟩ := hcd
  simp only [hd', callFunction, hco, hgen, hbody, hc]
  rw [hc] at h
  refine wpAny_bind (m := field (.ref c) 1) (wpAny_field hoc hdc hq (wpAny_bind (wpAny_pure ?_)))
  exact wpAny_bind (wpAny_mono h (fun binds s₁ h₁ => wpAny_bind (wpAny_mono h₁ (fun env s₂ h₂ => wpAny_bind (wpAny_enterFrame h₂.1 hroom
    (wpAny_pure (And.intro rfl h₂.2)))) fun _ _ h' => h')) fun _ _ h' => h')
theorem callq_stmts {a : Addr} {args : Args} {o : Obj} {fd : FuncData} {body : List Stmt} {q : Str} (hroom : A.depth < recursionLimit) (ho : s.heap.get? a = some o)
    (hd' : o.data = .func fd) (hco : fd.scope.isCoroutine = false) (hgen : fd.scope.isGenerator = false) (hbody : fd.body = .stmts body) (hcd : s.heap.CodeRec fd.code q)
    (h : wpAny (model prog w) A.in1 (bindArgs fd args) (fun binds s₁ =>
      wpAny (model prog w) A.in1 (newFunctionEnv fd.scope fd.globals fd.closure binds (q ++ ".<locals>.") (some a) fd.code none fd.builtins)
        (fun env s₂ => s₂.heap.NoLimit ∧ codeAny (model prog w) A (.func body env) R s₂) (fun e s' => R (.error e) s') s₁) (fun e s' => R (.error e) s') s) :
    codeAny (model prog w) A (.call (.ref a) args) R s := by
  refine codeAny_of_tree ?_
  show wpAny _ A.in1 (callAny (.ref a) args) _ _ s
  simp only [callAny]
  refine wpAny_bind (wpAny_load ho ?_)
  obtain ⟨c, oc, vs, tq, hc, hoc, hdc, hq⟩ := hcd
  simp only [hd', callFunction, hco, hgen, hbody, hc]
  rw [hc] at h
  refine wpAny_bind (m := field (.ref c) 1) (wpAny_field hoc hdc hq (wpAny_bind (wpAny_pure ?_)))
  exact wpAny_bind (wpAny_mono h (fun binds s₁ h₁ => wpAny_bind (wpAny_mono h₁ (fun env s₂ h₂ => wpAny_bind (wpAny_enterFrame h₂.1 hroom
    (wpAny_pure (And.intro rfl h₂.2)))) fun _ _ h' => h')) fun _ _ h' => h')
end
/-! ### cells: out of sight within the function, known to the letter outside -/
/-- C: the addresses of cells -/
noncomputable def offH (C : Addr → Prop) (H : Hp) : Hp := open Classical in fun b => if C b then none else H b
noncomputable def onH (C : Addr → Prop) (H1 H : Hp) : Hp := open Classical in fun b => if C b then H1 b else H b
section
variable {C : Addr → Prop} {H H1 H2 : Hp} {b : Addr} {P : Program} {w : World} {h h' : Heap}
theorem offH_in (k : C b) : offH C H b = none := by unfold offH; rw [if_pos k]
theorem offH_out (k : ¬ C b) : offH C H b = H b := by unfold offH; rw [if_neg k]
theorem onH_in (k : C b) : onH C H1 H b = H1 b := by unfold onH; rw [if_pos k]
theorem onH_out (k : ¬ C b) : onH C H1 H b = H b := by unfold onH; rw [if_neg k]
/-- each of them is known to the letter, as a cell -/
def Cel (C : Addr → Prop) (H1 : Hp) : Prop := ∀ b, C b → ∃ o φ v, H1 b = some (.frz o (.ext φ)) ∧ o.data = .cell v
theorem Cel.off (k : Cel C H1) {u : HO} (e : H1 b = some u) (n : ∀ o φ, u ≠ .frz o (.ext φ)) : ¬ C b := fun c => by
  obtain ⟨o, φ, v, z, _⟩ := k b c
  rw [e] at z; cases z; exact n o φ rfl
theorem hok_off (k : Cel C H1) (hok : HOk P w H1 h) : HOk P w (offH C H1) h := fun b u e => by
  have nb : ¬ C b := fun c => by rw [offH_in c] at e; cases e
  rw [offH_out nb] at e
  exact (hok b u e).stay (fun c v _ q => q) (fun c q => by rw [offH_out (k.off q fun _ _ z => nomatch z)]; exact q) fun c xs q => by rw [offH_out (k.off q fun _ _ z => nomatch z)]; exact q
theorem codeG_off (k : Cel C H1) {cv : Value} (g : CodeG H1 cv) : CodeG (offH C H1) cv := by
  obtain ⟨c, oc, u, vs, q, t, P', h1, h2, h3, h4, h5, h6, h7, h8, ⟨qs, h9, h9'⟩, y, hy⟩ := g
  subst hy
  exact ⟨c, oc, _, vs, q, t, P', h1, by rw [offH_out (k.off h2 fun _ _ z => nomatch z)]; exact h2, h3, h4, h5, h6, h7, h8, ⟨qs, by rw [offH_out (k.off h9 fun _ _ z => nomatch z)]; exact h9, h9'⟩, y, rfl⟩
theorem tabOk_off (k : Cel C H1) {P' : Addr} (t : TabOk H1 P') : TabOk (offH C H1) P' := by
  obtain ⟨ps, e, tr, c⟩ := t
  exact ⟨ps, by rw [offH_out (k.off e fun _ _ z => nomatch z)]; exact e, tr, fun pos cv z => codeG_off k (c pos cv z)⟩
theorem pers_on (n : ∀ b, C b → H b = none) : Pers H (onH C H1 H) :=
  have off : ∀ {b u}, H b = some u → ¬ C b := fun {b u} e c => by rw [n b c] at e; cases e
  ⟨fun a xs e => by rw [onH_out (off e)]; exact e, fun a o u e => by rw [onH_out (off e)]; exact e, fun a ⟨ps, e, t⟩ => ⟨ps, by rw [onH_out (off e)]; exact e, t⟩⟩
end
/-! ### the function's own frame -/
/-- the slots at its entry: its arguments, what it captured -/
def capS (S : FS) (j : Nat) : Option SV := match S[j]? with
  | some (some (.d d)) => some (.d d)
  | some (some (.own ob)) => some (.x (.ro ob))
  | some (some (.pin ob)) => some (.x (.ro ob))
  | some (some (.x (.ro ob))) => some (.x (.ro ob))
  | some (some (.x (.fn k g))) => some (.x (.fn k g))
  | _ => none
def startC (n : Nat) (ds : List D) (cs : List (Option SV)) : FS := ds.map (fun d => some (.d d)) ++ (cs ++ List.replicate (n - ds.length - cs.length) none)
/-- its answer -/
def cloG (n np : Nat) (fe : FS → Res D) (cs : List (Option SV)) : FnD := fun ds => if ds.length = np then (match fe (startC n ds cs) with
  | .ok d _ => some d
  | _ => none) else none
def retD (fb : FS → SRes) : FS → Res D := fun S => match fb S with
  | .rt (.d d) S1 => .ok d S1
  | .nx S1 => .ok .none S1
  | _ => .bad
/-- what the relation knows within it: its own code object -/
def cloI (P : Program) (w : World) (K : Fg) (mg : Str → Option Value) (base : Heap) (T : List Addr) (c : Addr) : ClX where
  clo := CloOk P w K mg base T
  cloM := (cloX P w K mg base T [] []).cloM
  loc := fun _ _ _ => False
  locM := fun _ h => h
  self := fun H => CodeG H (.ref c)
  selfM := fun p h => h.later p
abbrev cloNF (t : FnT) (qual : Str) (cl : List (Str × Addr)) (c : Addr) : NdefX.NF := ⟨t.name, qual, t.params, [], t.scope, cl, c⟩
abbrev cloC (P : Program) (w : World) (K : Fg) (mg : Str → Option Value) (base : Heap) (N : List Str) (t : FnT) (qual : Str) (cl : List (Str × Addr)) (c f : Addr) (A : Around) (outer : List Env) (s : Shared) (H : Hp) (E1 : XK) : Cx :=
  (ncxC CX0 P w K mg base N (cloNF t qual cl c) f A outer s H E1).nox
theorem ro_of {K : Fg} {w : World} {H H1 : Hp} {A : Lks} {b : Addr} {ob : Ob} {o : Obj} (q : A.lookup b = some o) (p : Pers H H1) (h1 : H1 b = some (.frz o ((H b).getD (.ext fun _ => True)))) (h : ObR K w H b ob) : RoR K w H1 b ob := by
  cases ob with
  | lst ds =>
    obtain ⟨vs, e, r⟩ := h
    rw [e] at h1
    exact ⟨o, vs, h1, r.mono p⟩
  | dic kvs =>
    refine ⟨o, DicG.mono (show DicG K w H b (fun u => H b = some u) kvs from h) p fun u e => ?_⟩
    have e : H b = some u := e
    rw [e] at h1; exact h1
mutual
/-- frozen things that are no lists or tuples may go -/
theorem Pd.sel {K : Fg} {H H' : Hp} (t : ∀ b xs, H b = some (.tup xs) → H' b = some (.tup xs)) (f : ∀ b o xs, H b = some (.frz o (.tup xs)) → H' b = some (.frz o (.tup xs))) (l : ∀ b o xs, H b = some (.frz o (.lst xs)) → H' b = some (.frz o (.lst xs))) : ∀ {x : V} {d : D}, Pd K H x d → Pd K H' x d
  | _, _, .non => .non
  | _, _, .bl b => .bl b
  | _, _, .int i => .int i
  | _, _, .str x => .str x
  | _, _, .tup h r => .tup (by
      rcases h with (h | ⟨o, h⟩) | h
      · exact .inl (.inl (t _ _ h))
      · exact .inl (.inr ⟨o, f _ _ _ h⟩)
      · exact .inr h) (PdAll.sel t f l r)
  | _, _, .lst h r => .lst (by
      rcases h with ⟨o, h⟩ | h
      · exact .inl ⟨o, l _ _ _ h⟩
      · exact .inr h) (PdAll.sel t f l r)
theorem PdAll.sel {K : Fg} {H H' : Hp} (t : ∀ b xs, H b = some (.tup xs) → H' b = some (.tup xs)) (f : ∀ b o xs, H b = some (.frz o (.tup xs)) → H' b = some (.frz o (.tup xs))) (l : ∀ b o xs, H b = some (.frz o (.lst xs)) → H' b = some (.frz o (.lst xs))) : ∀ {xs : List V} {ds : List D}, PdAll K H xs ds → PdAll K H' xs ds
  | _, _, .nil => .nil
  | _, _, .cons h r => .cons (Pd.sel t f l h) (PdAll.sel t f l r)
end
theorem pdAll_off {K : Fg} {C : Addr → Prop} {H1 : Hp} (k : Cel C H1) {xs : List V} {ds : List D} (h : PdAll K H1 xs ds) : PdAll K (offH C H1) xs ds :=
  PdAll.sel (fun b xs e => by rw [offH_out (k.off e fun _ _ z => nomatch z)]; exact e) (fun b o xs e => by rw [offH_out (k.off e fun _ _ z => nomatch z)]; exact e) (fun b o xs e => by rw [offH_out (k.off e fun _ _ z => nomatch z)]; exact e) h
theorem startC_get {n i : Nat} {ds : List D} {cs : List (Option SV)} {sv : SV} (h : (startC n ds cs)[i]? = some (some sv)) : (∃ d, ds[i]? = some d ∧ sv = .d d) ∨ (ds.length ≤ i ∧ cs[i - ds.length]? = some (some sv)) := by
  unfold startC at h
  by_cases h1 : i < ds.length
  · rw [List.getElem?_append_left (by simpa using h1), List.getElem?_map] at h
    cases e : ds[i]? with
    | none => rw [e] at h; cases h
    | some d => rw [e] at h; simp at h; exact .inl ⟨d, rfl, h.symm⟩
  · rw [List.getElem?_append_right (by simpa using h1), List.length_map] at h
    by_cases h2 : i - ds.length < cs.length
    · rw [List.getElem?_append_left h2] at h
      exact .inr ⟨by omega, h⟩
    · rw [List.getElem?_append_right (by omega), List.getElem?_replicate] at h
      split at h <;> cases h
theorem startF_arg {N : List Str} {vs : List V} {ws : List (Option V)} {i : Nat} {x : V} (h : vs[i]? = some x) : (NdefX.startF N vs ws)[i]? = some (some x) := by
  unfold NdefX.startF
  have hi : i < vs.length := (List.getElem?_eq_some_iff.mp h).1
  rw [List.getElem?_append_left (by simpa using hi), List.getElem?_map, h]
  rfl
theorem startF_cap {N : List Str} {vs : List V} {ws : List (Option V)} {i : Nat} {x : V} (hi : vs.length ≤ i) (h : ws[i - vs.length]? = some (some x)) : (NdefX.startF N vs ws)[i]? = some (some x) := by
  unfold NdefX.startF
  have hl : i - vs.length < ws.length := (List.getElem?_eq_some_iff.mp h).1
  rw [List.getElem?_append_right (by simpa using hi), List.length_map, List.getElem?_append_left hl]
  exact h
theorem capS_not {S : FS} {j : Nat} {ob : Ob} : capS S j ≠ some (.own ob) ∧ capS S j ≠ some (.pin ob) := by
  unfold capS
  split <;> simp
/-- the body's den, told of its frame -/
def BodyOk (P : Program) (w : World) (K : Fg) (mg : Str → Option Value) (base : Heap) (T : List Addr) (N : List Str) (t : FnT) (k : Nat) (fe : FS → Res D) : Prop := match t.body with
  | .expr e => ∀ (A : Around) (outer : List Env) (s : Shared) (H : Hp) (E1 : XK) (f : Addr) (qual : Str) (cl : List (Str × Addr)) (c : Addr) (H0 : Hp) (pins : List (Nat × Addr)) (E : XK), RoomG k (A.deeper (NdefX.envF (cloNF t qual cl c) f s.heap.objs.size)) → ED (cloC P w K mg base N t qual cl c f A outer s H E1) ⟨H0, pins, T, [], E, w, cloI P w K mg base T c⟩ e fe
  | .stmts b => ∃ fb, fe = retD fb ∧ ∀ (A : Around) (outer : List Env) (s : Shared) (H : Hp) (E1 : XK) (f : Addr) (qual : Str) (cl : List (Str × Addr)) (c : Addr) (H0 : Hp) (pins : List (Nat × Addr)) (E : XK), RoomG k (A.deeper (NdefX.envF (cloNF t qual cl c) f s.heap.objs.size)) → EB (cloC P w K mg base N t qual cl c f A outer s H E1) ⟨H0, pins, T, [], E, w, cloI P w K mg base T c⟩ b fb
theorem clo_spec {X : Cx} {F : Fx} {j k : Nat} {nfs : List FnT} {t : FnT} {N ps fr : List Str} {js : List Nat} {fe : FS → Res D} (hb : BodyOk X.prog X.w X.K X.mg X.base F.tabs N t k fe) (hj : nfs[j]? = some t) (Sc : NScC N ps fr t.scope) (hnd : NdefX.ndefB X.env.scope t.scope fr = true) (hjs : js.map (fun j => X.N[j]?) = fr.map some)
    (hbind : ∀ (qual : Str) (cl : List (Str × Addr)) (pm cdv ct doc : Value) (us : List Value), us.length = ps.length → bindArgs (fnG t qual cl pm cdv ct doc) ⟨us, []⟩ = pure (ps.zip us))
    (hloc : F.cl.loc = LocOk X.env.cells nfs := by rfl) (hw : F.w = X.w := by rfl) (hclo : F.cl.clo = CloOk X.prog X.w X.K X.mg X.base F.tabs := by rfl) :
    CloSpec X F j (fun S => some (k + 1, cloG N.length ps.length fe (js.map (capS S)))) := by
  intro pins σ H s S A x k2 g I r hl L ec
  cases ec
  rw [hloc] at hl
  obtain ⟨t2, ht2, f, qual, pm, cdv, ct, doc, u, rfl, hf, hcd, hu⟩ := hl
  rw [hj] at ht2; cases ht2
  have pl := pers_lockH L.ok
  refine ⟨f, _, _, _, _, u, rfl, pl.frz _ _ _ hf, ?_⟩
  intro H1 p1 A1 outer s1 us vs ds d Q E hr e0 tabs rv hds hg hQ
  have p01 := pl.trans p1
  unfold cloG at hg
  split at hg
  next hlen =>
    cases hfe : fe (startC N.length ds (js.map (capS S))) with
    | bad => rw [hfe] at hg; cases hg
    | exn e3 S3 => rw [hfe] at hg; cases hg
    | ok d2 S2 =>
      rw [hfe] at hg
      cases hg
      -- the cells
      let C : Addr → Prop := fun b => ∃ o, A.lookup b = some o ∧ H b = none
      have h1at : ∀ b o, A.lookup b = some o → H1 b = some (.frz o ((H b).getD (.ext fun _ => True))) := fun b o q => p1.frz _ _ _ (lockH_in q)
      have cel : Cel C H1 := fun b ⟨o, q, n⟩ => by
        obtain ⟨y, hy⟩ := L.bare b o q n
        obtain ⟨v, o2, ho2, hd2⟩ := I.cell y b hy
        have := (L.ok.at_ b o q).1
        rw [ho2] at this
        refine ⟨o, fun _ => True, v, ?_, (Option.some.inj this) ▸ hd2⟩
        have z := h1at b o q
        rw [n] at z; exact z
      have p0i : Pers H (offH C H1) := by
        have nC : ∀ {b u}, H b = some u → ¬ C b := fun {b u} e ⟨o, _, n⟩ => by rw [e] at n; cases n
        refine ⟨fun a xs e => by rw [offH_out (nC e)]; exact p01.tup _ _ e, fun a o u e => by rw [offH_out (nC e)]; exact p01.frz _ _ _ e, fun a q => ?_⟩
        obtain ⟨ps0, e0', _⟩ := id q
        obtain ⟨ps', e', t'⟩ := p01.tbl a q
        exact ⟨ps', by rw [offH_out (nC e0')]; exact e', t'⟩
      have e0i : Env0 X.prog X.w X.K X.mg X.base A1 outer s1 (offH C H1) := by
        have none' : ∀ b, H1 b = none → offH C H1 b = none := fun b n => by
          by_cases c : C b
          · exact offH_in c
          · rw [offH_out c]; exact n
        exact ⟨e0.frames, e0.mod, fun b o e => ⟨(e0.bs b o e).1, none' b (e0.bs b o e).2⟩, e0.bsz, e0.funs, fun b hb => none' b (e0.frf b hb), hok_off cel e0.hok, e0.bare⟩
      have caps := NdefX.Caps.made (X := X) (scope := t.scope) I.ok (NdefX.ndef_free hnd) (NdefX.ndef_fr hnd) hjs
      have C0 := NdefX.cells_of I caps
      have cellT : ∀ {y c v}, (cloFrom X.env.cells t.scope.names []).lookup y = some c → s.heap.IsCell c v → s1.heap.IsCell c v ∧ C c := fun {y c v} e ⟨o, ho, hd⟩ => by
        have hy := caps.sub y c e
        obtain ⟨o2, q⟩ := L.cells y c hy
        have := (L.ok.at_ c o2 q).1
        rw [ho] at this
        exact ⟨⟨o2, (e0.hok c _ (h1at c o2 q)).1, (Option.some.inj this) ▸ hd⟩, o2, q, I.freeC y c hy⟩
      have C1 : NdefX.CellsAt (cloFrom X.env.cells t.scope.names []) fr (js.map (NdefX.slotAt σ)) s1.heap (offH C H1) := by
        refine ⟨C0.len, fun y c e => ?_, C0.inj, fun i y e => ?_⟩
        · obtain ⟨n, v, z⟩ := C0.all y c e
          obtain ⟨z1, z2⟩ := cellT e z
          exact ⟨offH_in z2, v, z1⟩
        · obtain ⟨c, hc, hv⟩ := C0.has i y e
          exact ⟨c, hc, fun v ev => let ⟨u, ru, hu⟩ := hv v ev; ⟨u, ru, (cellT hc hu).1⟩⟩
      have cdH1 : CodeG H1 cdv := hcd.later p01
      obtain ⟨c, oc, uc, vc, q, tk, P', rfl, hc2, hc3, hc4, hc5, hc6, hc7, hc8, hc9, hc10⟩ := id cdH1
      have hoc := (e0.hok c _ hc2).1
      have hof := (e0.hok f _ (p01.frz _ _ _ hf)).1
      have hvl : vs.length = ps.length := hds.length.trans hlen
      have lim : s1.heap.NoLimit := e0.mod.nolimit.keeps fun b o e => (e0.bs b o e).1
      let cl1 : List (Str × Addr) := cellsFrom (s1.heap.objs.size + 1) t.scope.names (cloFrom X.env.cells t.scope.names [])
      have hkind : ∀ y ∈ ps.zip us, t.scope.names.lookup y.1 = some .local ∨ (t.scope.names.lookup y.1 = some .cell ∧ ((cellsFrom (s1.heap.objs.size + 1) t.scope.names []).lookup y.1).isSome = true) := fun ⟨n, v⟩ hy => by
        rcases Sc.par n (List.of_mem_zip hy).1 with q | q
        · exact .inl q
        · exact .inr ⟨q, PySem.W.cellsFrom_some _ _ _ (.inl q)⟩
      let F' : Fx := ⟨offH C H1, [], F.tabs, [], fun _ _ _ => False, X.w, cloI X.prog X.w X.K X.mg X.base F.tabs c⟩
      let Q0 : VK := fun y H2 => ∃ S' σ', Pers (offH C H1) H2 ∧ Rel X.K F' S' σ' H2 ∧ Pd X.K H2 y d
      have hrel : Rel X.K F' (startC N.length ds (js.map (capS S))) (NdefX.startF N vs (js.map (NdefX.slotAt σ))) (offH C H1) := by
        have vl := hds.length
        have noown : ∀ i, ¬ Owned (startC N.length ds (js.map (capS S))) i := fun i ⟨ob, h⟩ => by
          rcases h with h | h
          · rcases startC_get h with ⟨d, _, z⟩ | ⟨_, z⟩
            · cases z
            · rw [List.getElem?_map] at z
              cases e : js[i - ds.length]? with
              | none => rw [e] at z; cases z
              | some j2 => rw [e] at z; exact capS_not.1 (Option.some.inj z)
          · rcases startC_get h with ⟨d, _, z⟩ | ⟨_, z⟩
            · cases z
            · rw [List.getElem?_map] at z
              cases e : js[i - ds.length]? with
              | none => rw [e] at z; cases z
              | some j2 => rw [e] at z; exact capS_not.2 (Option.some.inj z)
        refine ⟨?_, fun i sv h => ?_, fun i j a ne hi => (noown i hi).elim, fun a o e _ _ => e, fun a o e => ⟨o, e⟩, fun P hP => tabOk_off cel (tabs P hP), codeG_off cel cdH1, fun _ h => nomatch h⟩
        · unfold startC NdefX.startF
          simp only [List.length_append, List.length_map, List.length_replicate, vl]
        · rcases startC_get h with ⟨d, hd, rfl⟩ | ⟨hi, z⟩
          · obtain ⟨y, hy, pd⟩ := (pdAll_off cel hds).get hd
            exact ⟨y, startF_arg hy, pd⟩
          · rw [List.getElem?_map] at z
            cases e : js[i - ds.length]? with
            | none => rw [e] at z; cases z
            | some j2 =>
              rw [e] at z
              have z : capS S j2 = some sv := Option.some.inj z
              have fin : ∀ {y : V}, σ[j2]? = some (some y) → SvR X.K F' i (offH C H1) y sv → ∃ y, (NdefX.startF N vs (js.map (NdefX.slotAt σ)))[i]? = some (some y) ∧ SvR X.K F' i (offH C H1) y sv := fun {y} hy hs =>
                ⟨y, startF_cap (by omega) (by rw [List.getElem?_map, show i - vs.length = i - ds.length by omega, e]; exact congrArg some (NdefX.slotAt_of hy)), hs⟩
              unfold capS at z
              split at z
              · rename_i d2 hd; cases z
                obtain ⟨y, hy, pd⟩ := r.slot j2 _ hd
                exact fin hy (Pd.mono p0i pd)
              · rename_i ob hd; cases z
                obtain ⟨y, hy, a, rfl, qo, _⟩ := r.slot j2 _ hd
                obtain ⟨u2, hu2, mu2, _⟩ := qo.there
                obtain ⟨o2, hA⟩ := L.objs j2 a u2 hy hu2 mu2
                refine fin hy ⟨a, rfl, ?_⟩
                rw [hw] at qo
                exact ro_of hA p0i (by rw [offH_out (fun ⟨o3, _, n⟩ => by rw [hu2] at n; cases n)]; exact h1at a o2 hA) qo
              · rename_i ob hd; cases z
                obtain ⟨y, hy, a, rfl, qo, _⟩ := r.slot j2 _ hd
                obtain ⟨u2, hu2, mu2, _⟩ := qo.there
                obtain ⟨o2, hA⟩ := L.objs j2 a u2 hy hu2 mu2
                refine fin hy ⟨a, rfl, ?_⟩
                rw [hw] at qo
                exact ro_of hA p0i (by rw [offH_out (fun ⟨o3, _, n⟩ => by rw [hu2] at n; cases n)]; exact h1at a o2 hA) qo
              · rename_i ob hd; cases z
                obtain ⟨y, hy, a, rfl, qo⟩ := r.slot j2 _ hd
                rw [hw] at qo
                exact fin hy ⟨a, rfl, qo.mono p0i⟩
              · rename_i k3 g3 hd; cases z
                obtain ⟨y, hy, cg⟩ := r.slot j2 _ hd
                have cg : F.cl.clo H y k3 g3 := cg
                rw [hclo] at cg
                exact fin hy (show CloOk X.prog X.w X.K X.mg X.base F.tabs (offH C H1) y k3 g3 from (cloX X.prog X.w X.K X.mg X.base F.tabs [] []).cloM p0i cg)
              · cases z
      -- its end
      have done : ∀ {σ' : Sl} {E1 : XK} {s2 : Shared} {y : V} {u2 : Value} {H2 : Hp}, Inv (ncxC CX0 X.prog X.w X.K X.mg X.base N (cloNF t q cl1 c) f A1 outer s1 (offH C H1) E1) [] σ' H2 s2 → L2.RelV y u2 → Q0 y H2 → CE outer X.prog X.w H1 s1 Q u2 s2 := by
        intro σ' E1 s2 y u2 H2 J ry ⟨S', σ2, p2, r2, pd⟩
        have jb : Un (frs outer) [] (offH C H1) H2 s1.heap s2.heap := J.base
        have cin : ∀ b, C b → ∃ o, s1.heap.get? b = some o ∧ H1 b = some (.frz o (.ext fun _ => True)) := fun b ⟨o, q, n⟩ => by
          have z := h1at b o q
          rw [n] at z
          exact ⟨o, (e0.hok b _ z).1, z⟩
        have none2 : ∀ b, C b → H2 b = none := fun b cb => by
          obtain ⟨o, g, _⟩ := cin b cb
          exact jb.free b o g (offH_in cb) (by simp)
        have off2 : ∀ {b u}, H2 b = some u → ¬ C b := fun {b u} e cb => by rw [none2 b cb] at e; cases e
        have offn : ∀ {b}, H1 b = none → ¬ C b := fun {b} e cb => by
          obtain ⟨o, _, z⟩ := cin b cb
          rw [e] at z; cases z
        have pon := pers_on (H1 := H1) none2
        have kp : ∀ a o, H1 a = some o → isTbl o = false → onH C H1 H2 a = some o := fun a o e nt => by
          by_cases ca : C a
          · rw [onH_in ca]; exact e
          · rw [onH_out ca]; exact r2.keep a o (show offH C H1 a = some o by rw [offH_out ca]; exact e) (by simp [F']) nt
        refine ⟨y, onH C H1 H2, J.os, J.bare, ⟨fun b o g n hb hx => jb.keep b o g (by rw [offH_out (offn n)]; exact n) hb hx, fun b o g n hb hx => jb.slot b o g (by rw [offH_out (offn n)]; exact n) hb hx, fun b o g n hx => by rw [onH_out (offn n)]; exact jb.free b o g (by rw [offH_out (offn n)]; exact n) hx, jb.there,
          fun b xs e => kp b _ e rfl, fun b o u e => kp b _ e rfl, fun b ps e => ?_⟩, fun b u e => ?_, ry, hQ y _ ⟨fun b xs e => kp b _ e rfl, fun b o u e => kp b _ e rfl, fun b qt => ?_⟩ kp (fun a o e => ?_) (fun P hP => ?_) (pd.mono pon)⟩
        · have cb := cel.off e fun _ _ z => nomatch z
          obtain ⟨m, z⟩ := jb.tbls b ps (by rw [offH_out cb]; exact e)
          exact ⟨m, by rw [onH_out cb]; exact z⟩
        · by_cases cb : C b
          · rw [onH_in cb] at e
            obtain ⟨o, g, z⟩ := cin b cb
            rw [z] at e; cases e
            have nf : b ∉ frs outer := fun hb => by
              have := e0.frf b hb
              rw [z] at this; cases this
            have g2 := jb.keep b o g (offH_in cb) nf (by simp)
            exact ⟨g2, trivial, ⟨o, g2⟩, fun _ _ _ _ => trivial⟩
          · rw [onH_out cb] at e
            exact (J.hok b u e).stay (fun c v _ q => q) (fun c q => by rw [onH_out (off2 q)]; exact q) fun c xs q => by rw [onH_out (off2 q)]; exact q
        · obtain ⟨ps, e, t'⟩ := qt
          have cb := cel.off e fun _ _ z => nomatch z
          obtain ⟨ps', e', t''⟩ := p2.tbl b ⟨ps, by rw [offH_out cb]; exact e, t'⟩
          exact ⟨ps', by rw [onH_out cb]; exact e', t''⟩
        · by_cases ca : C a
          · exact ⟨o, by rw [onH_in ca]; exact e⟩
          · obtain ⟨u3, e3⟩ := r2.there a o (show offH C H1 a = some o by rw [offH_out ca]; exact e)
            exact ⟨u3, by rw [onH_out ca]; exact e3⟩
        · exact (r2.tabs P hP).later pon fun b ps e => by rw [onH_out (off2 e)]; exact e
      have hrd : rdG X.K F' PR fe (NdefX.startF N vs (js.map (NdefX.slotAt σ))) (offH C H1) Q0 := ⟨_, hrel, by rw [hfe]; exact fun y H2 p2 r2 v2 => ⟨_, _, p2, r2, v2⟩⟩
      have kp1 : ∀ {h₁ : Heap}, Heap.SameBut s1.heap.objs.size (s1.heap.push { cls := .type "frame", data := .dict #[] }) h₁ → ∀ b o, s1.heap.get? b = some o → h₁.get? b = some o := fun hsb b o e => hsb.extBut b o (Nat.ne_of_lt (Heap.lt_size e)) (Heap.get?_push_of_some _ e)
      have hcrec : s1.heap.CodeRec (.ref c) q := ⟨c, oc, vc, tk, rfl, hoc, hc4, hc5⟩
      unfold BodyOk at hb
      cases hbd : t.body with
      | expr e =>
        rw [hbd] at hb
        have hbd' : (fnG t qual (cloFrom X.env.cells t.scope.names []) pm (.ref c) ct doc).body = .expr e := hbd
        refine callq_expr hr.rm.depth hof rfl Sc.co Sc.gen hbd' hcrec ?_
        rw [hbind _ _ _ _ _ _ us (by rw [← rv.length]; exact hvl)]
        refine wpAny_pure (newFunctionEnvN Sc.kind hkind fun env he s1' x => ?_)
        subst he
        refine ⟨lim.keeps x.toInCall.keep, ?_⟩
        have I2 := inv_startNC (CX := CX0) (F := cloNF t q cl1 c) (f := f) (E := fun _ _ _ => False) Sc hr.rm.hd e0i hvl rv C1 rfl rfl x
        refine PySem.W.kla_codeExpr (wpAny_mono ((PE.nox (hb A1 outer s1 (offH C H1) (fun _ _ _ => False) f q cl1 c (offH C H1) [] (fun _ _ _ => False) (hr.deeper _))).run [] _ _ _ Q0 I2 hrd) (fun v s' hq => ?_) fun e' s' hq => hq)
        obtain ⟨y, H2, J, ry, q0⟩ := hq
        exact done J ry q0
      | stmts b =>
        rw [hbd] at hb
        obtain ⟨fb, efb, hb⟩ := hb
        have hbd' : (fnG t qual (cloFrom X.env.cells t.scope.names []) pm (.ref c) ct doc).body = .stmts b := hbd
        refine callq_stmts hr.rm.depth hof rfl Sc.co Sc.gen hbd' hcrec ?_
        rw [hbind _ _ _ _ _ _ us (by rw [← rv.length]; exact hvl)]
        refine wpAny_pure (newFunctionEnvN Sc.kind hkind fun env he s1' x => ?_)
        subst he
        refine ⟨lim.keeps x.toInCall.keep, ?_⟩
        have I2 := inv_startNC (CX := CX0) (F := cloNF t q cl1 c) (f := f) (E := fun _ _ _ => False) Sc hr.rm.hd e0i hvl rv C1 rfl rfl x
        have body_ := PSs.nox (hb A1 outer s1 (offH C H1) (fun _ _ _ => False) f q cl1 c (offH C H1) [] (fun _ _ _ => False) (hr.deeper _))
        have hrs : rdS X.K F' fb { nx := fun _ H' => Q0 .non H', rt := Q0 } (NdefX.startF N vs (js.map (NdefX.slotAt σ))) (offH C H1) := by
          refine ⟨_, hrel, ?_⟩
          subst efb
          unfold retD at hfe
          cases efb : fb (startC N.length ds (js.map (capS S))) with
          | rt v S3 =>
            rw [efb] at hfe
            cases v with
            | d d3 => cases hfe; exact fun x σ3 H3 p3 r3 v3 => ⟨_, _, p3, r3, v3⟩
            | own o => cases hfe
            | pin o => cases hfe
            | x o => cases hfe
          | nx S3 => rw [efb] at hfe; cases hfe; exact fun σ3 H3 p3 r3 => ⟨_, _, p3, r3, .non⟩
          | bk S3 => rw [efb] at hfe; cases hfe
          | ct S3 => rw [efb] at hfe; cases hfe
          | exn e3 S3 => rw [efb] at hfe; cases hfe
          | bad => rw [efb] at hfe; cases hfe
        refine codeAny_func ?_
        refine wpAny_mono (body_.run [] _ _ _ _ I2 hrs) (fun fl s' hq => ?_) fun _ _ hq => hq
        cases fl with
        | next => obtain ⟨σ2, H2, J, z⟩ := hq; exact done (y := .non) (u2 := .none) J rfl z
        | ret u => obtain ⟨v, σ2, H2, J, rr, z⟩ := hq; exact done J rr z
        | brk => obtain ⟨_, _, _, z⟩ := hq; exact z.elim
        | cont => obtain ⟨_, _, _, z⟩ := hq; exact z.elim
  next => cases hg
end Fz
end

section
set_option Elab.async false
set_option linter.all false
set_option maxRecDepth 100000
set_option maxHeartbeats 4000000
/-! F74: a def within a def; the call of a function of a slot; generator expressions within functions that a frame makes. -/
namespace Fz
open PySem PySem.Spec PyProof.Rows L2
section
variable {X : Cx} {F : Fx}
end
/-! ### readings -/
section
variable {S : FS} {f : FS → Res D} {Q : D → FS → Prop} {QA : List AC → FS → Prop} {N B C : FS → Prop} {R : SV → FS → Prop}
end
end Fz
end

section
set_option Elab.async false
set_option linter.all false
set_option maxRecDepth 100000
set_option maxHeartbeats 4000000
/-! F75: d.setdefault(k, x), xs.pop(), xs.pop(i); where functions stand in a text. -/
namespace Fz
open PySem PySem.Spec PyProof.Rows L2
section
variable {X : Cx} {pins : List (Addr × Obj)} {σ : L2.St} {H : Hp} {s : Shared} {a : Addr} {kvs : List (D × D)} {k v : D} {y z : V} {u r : Value} {A : Around} {E : Value → Shared → Prop}
end
section
variable {X : Cx} {F : Fx} {o e ke : Expr} {i : Nat} {pos apos cpos p1 : Pos} {f fe fk fx : FS → Res D}
end
/-! ### readings -/
section
variable {S : FS} {fk fx : FS → Res D} {Q : D → FS → Prop} {i : Nat}
end
/-! ### where functions stand in a text -/
def lamT (e : Expr) : FnT := match e with
  | .Lambda p b sc _ => ⟨"<lambda>", p, .expr b, sc⟩
  | _ => ⟨"", ⟨[], [], none, [], [], none, []⟩, .stmts [], ⟨.function, [], false, false, []⟩⟩
abbrev pos0 : Pos := ⟨0, 0, 0, 0⟩
/-- the expression of a statement -/
def stE (st : Stmt) : Expr := match st with
  | .Return (some e) _ => e
  | .Assign _ e _ => e
  | .AugAssign _ _ e _ => e
  | .Expr e _ => e
  | .For _ e _ _ _ => e
  | .While e _ _ _ => e
  | .If e _ _ _ => e
  | _ => .Name "" pos0
def stB (st : Stmt) : List Stmt := match st with
  | .For _ _ b _ _ => b
  | .While _ b _ _ => b
  | .If _ b _ _ => b
  | _ => []
def exK (e : Expr) (i : Nat) : Expr := match (match e with
  | .Call _ _ ks _ => ks
  | _ => [])[i]? with
  | some kw => kw.value
  | none => .Name "" pos0
end Fz
end

section
set_option Elab.async false
set_option linter.all false
set_option maxRecDepth 100000
set_option maxHeartbeats 4000000
/-! F76: the functions of a frame, told one by one. -/
namespace Fz
open PySem PySem.Spec PyProof.Rows L2
theorem bodyOk_e {P : Program} {w : World} {K : Fg} {mg : Str → Option Value} {base : Heap} {T : List Addr} {N : List Str} {t : FnT} {k : Nat} {fe : FS → Res D} {e : Expr} (he : t.body = .expr e)
    (h : ∀ (A : Around) (outer : List Env) (s : Shared) (H : Hp) (E1 : XK) (f : Addr) (qual : Str) (cl : List (Str × Addr)) (c : Addr) (H0 : Hp) (pins : List (Nat × Addr)) (E : XK), RoomG k (A.deeper (NdefX.envF (cloNF t qual cl c) f s.heap.objs.size)) → ED (cloC P w K mg base N t qual cl c f A outer s H E1) ⟨H0, pins, T, [], E, w, cloI P w K mg base T c⟩ e fe) : BodyOk P w K mg base T N t k fe := by
  unfold BodyOk; rw [he]; exact h
/-- a function's answers, in the frame that makes it -/
def cloAt (k n np : Nat) (fe : FS → Res D) (js : List Nat) : FS → Option (Nat × FnD) := fun S => some (k, cloG n np fe (js.map (capS S)))
section
variable {X : Cx} {F : Fx}
end
/-- what a function answers, by its body's reading -/
theorem cloG_w {n np : Nat} {fe : FS → Res D} {cs : List (Option SV)} {ds : List D} {P : D → Prop} (hl : ds.length = np) (h : wE (fe (startC n ds cs)) fun d _ => P d) : wO (cloG n np fe cs ds) P := by
  unfold cloG
  rw [if_pos hl]
  cases e : fe (startC n ds cs) with
  | ok d S => rw [e] at h; exact h
  | exn e2 S => rw [e] at h; exact h.elim
  | bad => rw [e] at h; exact h.elim
@[simp] theorem wE_retD {fb : FS → SRes} {S : FS} {Q : D → FS → Prop} : wE (retD fb S) Q = wS (fb S) (fun S => Q .none S) (fun v S => ∃ d, v = .d d ∧ Q d S) (fun _ => False) (fun _ => False) := by
  unfold retD
  cases fb S with
  | rt v S1 =>
    cases v with
    | d d => simp
    | own o => simp
    | pin o => simp
    | x o => simp
  | nx S1 => rfl
  | bk S1 => rfl
  | ct S1 => rfl
  | exn e S1 => rfl
  | bad => rfl
end Fz
end

section
set_option Elab.async false
set_option linter.all false
set_option maxRecDepth 100000
set_option maxHeartbeats 4000000
/-! F77: len(d). -/
namespace PySem
open PyProof.Rows PySem.Spec
section
variable {prog : Program} {w : World} {A : Around} {E : Value → Shared → Prop} {s : Shared} {d : Addr} {es : Array DictEntry} {ep : Nat}
end
end PySem
namespace Fz
open PySem PySem.Spec PyProof.Rows L2
section
variable {X : Cx} {F : Fx}
variable {o : Expr} {i : Nat} {pos p : Pos}
end
section
variable {S : FS} {Q : D → FS → Prop} {i : Nat}
end
end Fz
end

section
set_option Elab.async false
set_option linter.all false
set_option maxRecDepth 100000
set_option maxHeartbeats 4000000
/-! dens, new with k08 -/
namespace DL
open PySem L2 Fz
end DL
end

section
set_option Elab.async false
set_option linter.all false
set_option maxRecDepth 100000
set_option maxHeartbeats 4000000
/-! S34: machine_from, walked. -/
namespace DL
open PySem L2 Fz SrtO
end DL
end

section
set_option Elab.async false
set_option linter.all false
set_option maxRecDepth 100000
set_option maxHeartbeats 4000000
/-! M12: states sorted by what they take. -/
namespace DL
open PySem L2 Fz SrtO
section
variable {M : Mc} {c cs : List Int} {many : Nat} {keys ks : List (List Int)}
end
end DL
end

section
set_option Elab.async false
set_option linter.all false
set_option maxRecDepth 100000
set_option maxHeartbeats 4000000
/-! S35: sorts_of, walked. -/
namespace DL
open PySem L2 Fz SrtO
end DL
end

section
set_option Elab.async false
set_option linter.all false
set_option maxRecDepth 100000
set_option maxHeartbeats 4000000
/-! S36: the least machine, walked. -/
namespace DL
open PySem L2 Fz SrtO
end DL
end

section
set_option Elab.async false
set_option linter.all false
set_option maxRecDepth 100000
set_option maxHeartbeats 4000000
/-! S37: two machines walked side by side. -/
namespace DL
open PySem L2 Fz SrtO
end DL
end

section
set_option Elab.async false
set_option linter.all false
set_option maxRecDepth 100000
set_option maxHeartbeats 4000000
/-! S15: the shell and the turns of a law, where no slot holds a list of lists. -/
namespace DL
open PySem L2 Fz
abbrev Cl (r : FS) : Prop := noLS r = true
theorem Cl.rep {n : Nat} : Cl (List.replicate n none) := by
  unfold Cl noLS
  rw [List.all_eq_true]
  intro x hx
  rw [List.eq_of_mem_replicate hx]; rfl
@[simp] theorem noLSv_d {d : D} : noLSv (some (.d d)) = true := rfl
@[simp] theorem noLSv_n : noLSv none = true := rfl
@[simp] theorem keepD_noL {c : Option SV} : noLSv (keepD c) = true := by
  cases c with
  | none => rfl
  | some v => cases v <;> rfl
end DL
end

section
set_option Elab.async false
set_option linter.all false
set_option maxRecDepth 100000
set_option maxHeartbeats 4000000
/-! M13: machines told apart. -/
namespace DL
open PySem L2 Fz SrtO
section
variable {k n m : Nat} {L L' : List Int → Bool} {f f' : Option (List Int)}
end
end DL
end

section
set_option Elab.async false
set_option linter.all false
set_option maxRecDepth 100000
set_option maxHeartbeats 4000000
/-! M15: how far one must look to tell states apart; every numbered node is come to. -/
namespace DL
open PySem L2 Fz SrtO
section
variable {M : Mc}
end
section
variable {β : Type} {k : Nat} {st : β} {δ : β → Nat → β} {fin : β → Bool} {M : Mc} {ord : List β}
end
end DL
end

section
set_option Elab.async false
set_option linter.all false
set_option maxRecDepth 100000
set_option maxHeartbeats 4000000
/-! dens, new with k09 -/
namespace DL
open PySem L2 Fz
end DL
end

section
set_option Elab.async false
set_option linter.all false
set_option maxRecDepth 100000
set_option maxHeartbeats 4000000
/-! dens, new with k11 -/
namespace DL
open PySem L2 Fz
end DL
end

section
set_option Elab.async false
set_option linter.all false
set_option maxRecDepth 100000
set_option maxHeartbeats 4000000
/-! dens, new with k12 -/
namespace DL
open PySem L2 Fz
end DL
end

section
set_option Elab.async false
set_option linter.all false
set_option maxRecDepth 100000
set_option maxHeartbeats 4000000
/-! S39: the algebra of machines. -/
namespace DL
open PySem L2 Fz SrtO
section
variable {k n m : Nat} {L L' : List Int → Bool} {P P' M N : Mc}
end
section
variable {M N : Mc}
end
end DL
end

section
set_option Elab.async false
set_option linter.all false
set_option maxRecDepth 100000
set_option maxHeartbeats 4000000
/-! S40: the algebra of machines, told by languages. -/
namespace DL
open PySem L2 Fz SrtO
section
variable {k n m : Nat} {L L' : List Int → Bool} {M N : Mc} {Q : SV → List SV → Prop}
end
end DL
end

section
set_option Elab.async false
set_option linter.all false
set_option maxRecDepth 100000
set_option maxHeartbeats 4000000
/-! M14: pairs of states marked unlike. -/
namespace DL
open PySem L2 Fz SrtO
section
variable {M : Mc} {ps : Pn}
end
end DL
end

section
set_option Elab.async false
set_option linter.all false
set_option maxRecDepth 100000
set_option maxHeartbeats 4000000
/-! S42: the law's least machine, walked. -/
namespace DL
open PySem L2 Fz SrtO
end DL
end

section
set_option Elab.async false
set_option linter.all false
set_option maxRecDepth 100000
set_option maxHeartbeats 4000000
/-! M16: what each state of a least machine says of all words. -/
namespace DL
open PySem L2 Fz SrtO
section
variable {P : Mc} {e : Nat}
end
end DL
end

section
set_option Elab.async false
set_option linter.all false
set_option maxRecDepth 100000
set_option maxHeartbeats 4000000
/-! M17: sets of things told by injective codes; words in sequence; what is left of some words behind a letter. -/
namespace DL
open PySem L2 Fz SrtO
section
variable {α : Type} [DecidableEq α]
def ddG : List α → List α
  | [] => []
  | p :: ps => if p ∈ ps then ddG ps else p :: ddG ps
theorem ddG_mem {p : α} : ∀ {ps : List α}, p ∈ ddG ps ↔ p ∈ ps
  | [] => .rfl
  | q :: ps => by
    rw [ddG]
    split
    · rename_i h
      rw [ddG_mem (ps := ps), List.mem_cons]
      constructor
      · exact .inr
      · rintro (rfl | h2)
        · exact h
        · exact h2
    · rw [List.mem_cons, List.mem_cons, ddG_mem (ps := ps)]
theorem ddG_nodup : ∀ ps : List α, (ddG ps).Nodup
  | [] => .nil
  | p :: ps => by
    rw [ddG]
    split
    · exact ddG_nodup ps
    · rename_i h
      exact List.nodup_cons.mpr ⟨fun z => h (ddG_mem.mp z), ddG_nodup ps⟩
theorem ddG_len : ∀ ps : List α, (ddG ps).length ≤ ps.length
  | [] => Nat.le_refl _
  | p :: ps => by
    have := ddG_len ps
    rw [ddG]
    split <;> simp <;> omega
theorem ddD_G {code : α → D} (inj : ∀ a b, nk (code a) = nk (code b) ↔ a = b) : ∀ ps : List α, ddD (ps.map code) = (ddG ps).map code
  | [] => rfl
  | p :: ps => by
    have e : ((ps.map code).any fun e => decide (nk e = nk (code p))) = decide (p ∈ ps) := by
      rw [Bool.eq_iff_iff, List.any_eq_true, decide_eq_true_eq]
      constructor
      · rintro ⟨d, hd, he⟩
        obtain ⟨q, hq, rfl⟩ := List.mem_map.mp hd
        rw [← (inj _ _).mp (of_decide_eq_true he)]; exact hq
      · intro h
        exact ⟨code p, List.mem_map.mpr ⟨p, h, rfl⟩, decide_eq_true rfl⟩
    rw [List.map_cons, ddD, ddG, e]
    by_cases h : p ∈ ps
    · simp only [h, decide_true, if_true]; exact ddD_G inj ps
    · simp only [h, decide_false, if_false, List.map_cons, ddD_G inj ps]; rfl
theorem setOk_G {code : α → D} (inj : ∀ a b, nk (code a) = nk (code b) ↔ a = b) (tk : ∀ a, (Fz.tk (code a)).isSome = true) {ps : List α} (h : ps.length < 64) : setOk (ps.map code) := by
  refine .inr ⟨fun d hd => ?_, ?_⟩
  · obtain ⟨q, hq, rfl⟩ := List.mem_map.mp hd
    exact tk q
  · rw [ddD_G inj, List.length_map]
    have := ddG_len ps
    omega
end
/-- sorted(set(words)) -/
def usW (ws : List (List Int)) : List (List Int) := sortW (ddG ws)
theorem usW_mem {ws : List (List Int)} {w : List Int} : w ∈ usW ws ↔ w ∈ ws := sortW_mem.trans ddG_mem
theorem sort_set_LW {ws : List (List Int)} : sortD (ddD (LW ws)) = LW (usW ws) := by
  unfold LW
  rw [ddD_G fun a b => nkW_iff]
  exact sortD_LW
theorem setOk_LW {ws : List (List Int)} (h : ws.length < 64) : setOk (LW ws) := setOk_G (fun a b => nkW_iff) (fun a => by rw [tk_W]; rfl) h
theorem sortOk_ddLW {ws : List (List Int)} (h : ∀ w ∈ ws, w.length ≤ 10000000) : SortOk (ddD (LW ws)) := by
  unfold LW
  rw [ddD_G fun a b => nkW_iff]
  exact sortOk_LW fun w hw => h w (ddG_mem.mp hw)
/-! ### by length, then by letters -/
/-- lexicographic: a beginning ahead -/
def lxp : List Int → List Int → Prop
  | [], [] => False
  | [], _ :: _ => True
  | _ :: _, [] => False
  | x :: a, y :: b => x < y ∨ (x = y ∧ lxp a b)
instance instLxp : ∀ a b, Decidable (lxp a b)
  | [], [] => isFalse id
  | [], _ :: _ => isTrue trivial
  | _ :: _, [] => isFalse id
  | x :: a, y :: b => by
    unfold lxp
    have := instLxp a b
    exact inferInstance
theorem lxp_lx : ∀ {a b : List Int}, a.length = b.length → (lxp a b ↔ lx a b)
  | [], [], _ => by simp [lxp, lx]
  | [], _ :: _, h => by simp at h
  | _ :: _, [], h => by simp at h
  | x :: a, y :: b, h => by
    have := lxp_lx (a := a) (b := b) (by simpa using h)
    simp only [lxp, lx, this]
theorem ltL_lxp : ∀ xs ys : List Int, ltL (xs.map .int) (ys.map .int) = some (decide (lxp xs ys))
  | [], [] => rfl
  | [], _ :: _ => rfl
  | _ :: _, [] => rfl
  | x :: xs, y :: ys => by
    simp only [List.map_cons, ltL, eqv_int]
    by_cases e : x = y
    · subst e
      simp only [decide_true, if_true, ltL_lxp xs ys, lxp, Int.lt_irrefl, false_or, true_and]
    · have : (lxp (x :: xs) (y :: ys)) ↔ x < y := by simp [lxp, e]
      rw [show decide (lxp (x :: xs) (y :: ys)) = decide (x < y) from decide_eq_decide.mpr this]
      simp [e, ltD]
open Classical in
theorem ltS_iff {a b : List Int} : ltS a b = true ↔ slt a b := by
  have h : ltD (keyD a) (keyD b) = some (decide (slt a b)) := by
    unfold keyD
    simp only [ltD, ltL, eqv_int]
    by_cases e : a.length = b.length
    · have e2 : (a.length : Int) = (b.length : Int) := by omega
      simp only [e2, decide_true, if_true]
      by_cases e3 : PyData.eqv (W a) (W b) = true
      · have : a = b := by rw [eqv_W] at e3; exact of_decide_eq_true e3
        subst this
        simp only [e3, if_true]
        have : ¬ slt a a := slt_irr
        simp [this]
      · simp only [e3]
        unfold W
        simp only [ltD, ltL_lxp]
        have : slt a b ↔ lx a b := by unfold slt; simp [e]
        have h3 : decide (slt a b) = decide (lxp a b) := decide_eq_decide.mpr (this.trans (lxp_lx e).symm)
        simp [h3]
    · have e2 : ¬ (a.length : Int) = (b.length : Int) := by omega
      have : slt a b ↔ (a.length : Int) < (b.length : Int) := by
        unfold slt
        constructor
        · rintro (h | ⟨h, _⟩)
          · omega
          · exact absurd h e
        · intro h; exact .inl (by omega)
      have h3 : decide (slt a b) = decide ((a.length : Int) < (b.length : Int)) := decide_eq_decide.mpr this
      simp [e2, h3]
  have h2 := ltD_lx plain_key plain_key h
  rw [show ltS a b = decide (slt a b) from h2.symm, decide_eq_true_eq]
theorem slt_uniq : ∀ {a b : List (List Int)}, a.Pairwise slt → b.Pairwise slt → (∀ w, w ∈ a ↔ w ∈ b) → a = b
  | [], [], _, _, _ => rfl
  | [], y :: b, _, _, h => by have := (h y).mpr (by simp); cases this
  | x :: a, [], _, _, h => by have := (h x).mp (by simp); cases this
  | x :: a, y :: b, ha, hb, h => by
    obtain ⟨a1, a2⟩ := List.pairwise_cons.mp ha
    obtain ⟨b1, b2⟩ := List.pairwise_cons.mp hb
    have e : x = y := by
      rcases List.mem_cons.mp ((h x).mp (by simp)) with e | e
      · exact e
      · rcases List.mem_cons.mp ((h y).mpr (by simp)) with e2 | e2
        · exact e2.symm
        · exact (slt_irr (slt_trans (a1 _ e2) (b1 _ e))).elim
    subst e
    rw [slt_uniq a2 b2 fun w => ?_]
    have := h w
    constructor
    · intro hw
      rcases List.mem_cons.mp (this.mp (by simp [hw])) with e | e
      · exact (slt_irr (e ▸ a1 w hw)).elim
      · exact e
    · intro hw
      rcases List.mem_cons.mp (this.mpr (by simp [hw])) with e | e
      · exact (slt_irr (e ▸ b1 w hw)).elim
      · exact e
end DL
end

section
set_option Elab.async false
set_option linter.all false
set_option maxRecDepth 100000
set_option maxHeartbeats 4000000
/-! dens, new with k13 -/
namespace DL
open PySem L2 Fz
end DL
end

section
set_option Elab.async false
set_option linter.all false
set_option maxRecDepth 100000
set_option maxHeartbeats 4000000
/-! dens, new with k07 -/
namespace DL
open PySem L2 Fz
end DL
end

section
set_option Elab.async false
set_option linter.all false
set_option maxRecDepth 100000
set_option maxHeartbeats 4000000
/-! dens, new with k98 -/
namespace DL
open PySem L2 Fz
end DL
end

section
set_option Elab.async false
set_option linter.all false
set_option maxRecDepth 100000
set_option maxHeartbeats 4000000
/-! S45: the machine of words, walked. -/
namespace DL
open PySem L2 Fz SrtO
theorem nks_LW : ∀ ws : List (List Int), nks (ws.map W) = some (ws.map fun w => .tup (w.map .num))
  | [] => rfl
  | w :: ws => by simp only [List.map_cons, nks, nk_W, nks_LW ws]
end DL
end

section
set_option Elab.async false
set_option linter.all false
set_option maxRecDepth 100000
set_option maxHeartbeats 4000000
/-! M18: the places of products at which one may be, as nodes of a machine. -/
namespace DL
open PySem L2 Fz SrtO
/-! ### the words -/
/-! ### the nodes as data -/
end DL
end

section
set_option Elab.async false
set_option linter.all false
set_option maxRecDepth 100000
set_option maxHeartbeats 4000000
/-! M20: how many letters of words have been met, as nodes of a machine. -/
namespace DL
open PySem L2 Fz SrtO
/-! ### the words -/
end DL
end

section
set_option Elab.async false
set_option linter.all false
set_option maxRecDepth 100000
set_option maxHeartbeats 4000000
/-! M21: words put together of two words, letters of both shared or not. -/
namespace DL
open PySem L2 Fz SrtO
section
variable {p q : List Int}
end
end DL
end

section
set_option Elab.async false
set_option linter.all false
set_option maxRecDepth 100000
set_option maxHeartbeats 4000000
/-! F79: list(range(a, b)). -/
namespace Fz
open PySem PySem.Spec PyProof.Rows L2
section
variable {X : Cx} {F : Fx} {a b : Expr} {f g : FS → Res D} {p p2 pos pos2 : Pos}
end
end Fz
end

section
set_option Elab.async false
set_option linter.all false
set_option maxRecDepth 100000
set_option maxHeartbeats 4000000
/-! dens, new with k24 -/
namespace DL
open PySem L2 Fz
end DL
end

section
set_option Elab.async false
set_option linter.all false
set_option maxRecDepth 100000
set_option maxHeartbeats 4000000
/-! S49: the machine of a book, walked. -/
namespace DL
open PySem L2 Fz SrtO
end DL
end

section
set_option Elab.async false
set_option linter.all false
set_option maxRecDepth 100000
set_option maxHeartbeats 4000000
/-! dens, new with k26 -/
namespace DL
open PySem L2 Fz
end DL
end

section
set_option Elab.async false
set_option linter.all false
set_option maxRecDepth 100000
set_option maxHeartbeats 4000000
/-! S52: the machine of a base, walked. -/
namespace DL
open PySem L2 Fz SrtO
end DL
end

section
set_option Elab.async false
set_option linter.all false
set_option maxRecDepth 100000
set_option maxHeartbeats 4000000
/-! S47: machines turned about, walked. -/
namespace DL
open PySem L2 Fz SrtO
section
variable {M : Mc}
end
end DL
end

section
set_option Elab.async false
set_option linter.all false
set_option maxRecDepth 100000
set_option maxHeartbeats 4000000
/-! S38: all words, to a length told by their number. -/
namespace DL
open PySem L2 Fz SrtO
end DL
end

section
set_option Elab.async false
set_option linter.all false
set_option maxRecDepth 100000
set_option maxHeartbeats 4000000
/-! S48: machines turned about, by languages; machines as texts. -/
namespace DL
open PySem L2 Fz SrtO
section
variable {k n : Nat} {L : List Int → Bool} {M : Mc} {Q : SV → List SV → Prop}
end
end DL
end

section
set_option Elab.async false
set_option linter.all false
set_option maxRecDepth 100000
set_option maxHeartbeats 4000000
/-! M19: least words of languages closed by putting letters in. -/
namespace DL
open PySem L2 Fz SrtO
section
variable {M : Mc}
end
/-! ### the rank of states -/
/-! ### states, each behind all to which its letters lead -/
section
variable {M : Mc} {r : Nat → Nat} {found met : List Nat} {stk : List (Nat × Nat)} {s l : Nat}
end
end DL
end

section
set_option Elab.async false
set_option linter.all false
set_option maxRecDepth 100000
set_option maxHeartbeats 4000000
/-! S50: the base of a machine, walked. -/
namespace DL
open PySem L2 Fz SrtO
/-! ### the bases, state by state -/
end DL
end

section
set_option Elab.async false
set_option linter.all false
set_option maxRecDepth 100000
set_option maxHeartbeats 4000000
/-! dens, new with k28 -/
namespace DL
open PySem L2 Fz
end DL
end

section
set_option Elab.async false
set_option linter.all false
set_option maxRecDepth 100000
set_option maxHeartbeats 4000000
/-! S51: the base outside a book; whether two things are the same, where they need not be. -/
namespace DL
open PySem L2 Fz SrtO
/-! ### whether two things are the same -/
end DL
end

section
set_option Elab.async false
set_option linter.all false
set_option maxRecDepth 100000
set_option maxHeartbeats 4000000
/-! M22: bases, their meetings; how many states a base's machine has. -/
namespace DL
open PySem L2 Fz SrtO
section
variable {ws A B : List (List Int)}
/-! ### as many states as keys -/
/-! ### words that both bases fill -/
end
end DL
end

section
set_option Elab.async false
set_option linter.all false
set_option maxRecDepth 100000
set_option maxHeartbeats 4000000
/-! M25: sets of states, ascending. -/
namespace DL
open PySem L2 Fz SrtO
section
variable {n : Nat} {P P' : Nat → Prop}
end
/-! ### the states that are led to -/
section
variable {M : Mc} {ss : List Int} {i s j : Nat} {ms wt : List Nat}
end
end DL
end

section
set_option Elab.async false
set_option linter.all false
set_option maxRecDepth 100000
set_option maxHeartbeats 4000000
/-! M26: nodes come to, each with its first word. -/
namespace DL
open PySem L2 Fz SrtO
structure Bg {β : Type} (k : Nat) (nx : β → Int → β) (st : β) (U : List β) (bad : β → Bool) (ps : List (β × List Int)) (a : Nat) (l : Int) : Prop where
  nil : ps[0]? = some (st, [])
  ok : ∀ p ∈ ps, p.2.foldl nx st = p.1 ∧ IsW k p.2 ∧ p.1 ∈ U
  nd : (ps.map (·.1)).Nodup
  asc : ps.Pairwise fun p q => slt p.2 q.2
  len : ∀ (j : Nat) (p : β × List Int), ps[j]? = some p → p.2.length ≤ j
  clo : ∀ (i : Nat) (p : β × List Int) (x : Int), ps[i]? = some p → 0 ≤ x → x < (k : Int) → (i < a ∨ (i = a ∧ x < l)) → ∃ q ∈ ps, q.1 = nx p.1 x ∧ sle q.2 (p.2 ++ [x])
  src : ∀ q ∈ ps, q.2 = [] ∨ ∃ (i : Nat) (p : β × List Int) (x : Int), ps[i]? = some p ∧ (i < a ∨ (i = a ∧ x < l)) ∧ q.2 = p.2 ++ [x]
  non : ∀ (i : Nat) (p : β × List Int), ps[i]? = some p → (i < a ∨ (i = a ∧ 0 < l)) → bad p.1 = false
section
variable {β : Type} {k : Nat} {nx : β → Int → β} {st : β} {U : List β} {bad : β → Bool} {ps : List (β × List Int)} {a : Nat}
theorem ixG_asc (h : ps.Pairwise fun p q => slt p.2 q.2) {i j : Nat} {p q : β × List Int} (hp : ps[i]? = some p) (hq : ps[j]? = some q) (hij : i < j) : slt p.2 q.2 := by
  obtain ⟨h1, e1⟩ := List.getElem?_eq_some_iff.mp hp
  obtain ⟨h2, e2⟩ := List.getElem?_eq_some_iff.mp hq
  have := List.pairwise_iff_getElem.mp h i j h1 h2 hij
  rwa [e1, e2] at this
theorem Bg.start (ok : st ∈ U) : Bg k nx st U bad [(st, [])] 0 0 where
  nil := rfl
  ok := fun p hp => by
    rw [List.mem_singleton.mp hp]
    exact ⟨rfl, by intro x hx; simp at hx, ok⟩
  nd := by simp
  asc := by simp
  len := fun j p e => by
    rcases j with _ | j
    · simp at e; rw [← e]; simp
    · simp at e
  clo := fun i p x _ h0 _ h => by omega
  src := fun q hq => .inl (by rw [List.mem_singleton.mp hq])
  non := fun i p _ h => by omega
theorem Bg.big {l : Int} (b : Bg k nx st U bad ps a l) : ps.length ≤ U.length := by
  have := Fz.nodup_len _ U b.nd fun x hx => by
    obtain ⟨p, hp, rfl⟩ := List.mem_map.mp hx
    exact (b.ok p hp).2.2
  simpa using this
/-- what is below the next candidate -/
theorem Bg.below {l : Int} (b : Bg k nx st U bad ps a l) {s : β} {w : List Int} (ha : ps[a]? = some (s, w)) : ∀ q ∈ ps, slt q.2 (w ++ [l]) := fun q hq => by
  rcases b.src q hq with e | ⟨i, p, x, hp, hi, e⟩
  · rw [e]; exact slt_nil
  · rw [e]
    rcases hi with hi | ⟨rfl, hx⟩
    · exact slt_snoc (ixG_asc b.asc hp ha hi)
    · rw [ha] at hp; cases hp
      exact slt_last hx
theorem Bg.old {l : Int} (b : Bg k nx st U bad ps a l) {s : β} {w : List Int} (ha : ps[a]? = some (s, w)) (hn : bad s = false) (l0 : 0 ≤ l) (hin : nx s l ∈ ps.map (·.1)) : Bg k nx st U bad ps a (l + 1) where
  nil := b.nil
  ok := b.ok
  nd := b.nd
  asc := b.asc
  len := b.len
  clo := fun i p x hp h0 h1 h => by
    by_cases hc : i < a ∨ (i = a ∧ x < l)
    · exact b.clo i p x hp h0 h1 hc
    · have hi : i = a := by omega
      have hx : x = l := by omega
      subst hi hx
      rw [ha] at hp; cases hp
      obtain ⟨q, hq, e⟩ := List.mem_map.mp hin
      exact ⟨q, hq, e, .inr (b.below ha q hq)⟩
  src := fun q hq => (b.src q hq).imp id fun ⟨i, p, x, h1, h2, h3⟩ => ⟨i, p, x, h1, by omega, h3⟩
  non := fun i p hp h => by
    by_cases hc : i < a
    · exact b.non i p hp (.inl hc)
    · have : i = a := by omega
      subst this
      rw [ha] at hp; cases hp
      exact hn
theorem Bg.new (ok : ∀ x ∈ U, ∀ l : Int, 0 ≤ l → l < k → nx x l ∈ U) {l : Int} (b : Bg k nx st U bad ps a l) {s : β} {w : List Int} (ha : ps[a]? = some (s, w)) (hn : bad s = false) (l0 : 0 ≤ l) (l1 : l < (k : Int)) (hout : nx s l ∉ ps.map (·.1)) : Bg k nx st U bad (ps ++ [(nx s l, w ++ [l])]) a (l + 1) where
  nil := by
    have := (List.getElem?_eq_some_iff.mp b.nil).1
    rw [List.getElem?_append_left this]; exact b.nil
  ok := fun p hp => by
    rcases List.mem_append.mp hp with hp | hp
    · exact b.ok p hp
    · rw [List.mem_singleton.mp hp]
      obtain ⟨h1, h2, h3⟩ := b.ok (s, w) (List.mem_of_getElem? ha)
      have h4 := ok s h3 l l0 l1
      refine ⟨?_, fun x hx => ?_, h4⟩
      · show (w ++ [l]).foldl nx st = _
        rw [List.foldl_append, h1]; rfl
      · rcases List.mem_append.mp hx with hx | hx
        · exact h2 x hx
        · rw [List.mem_singleton.mp hx]; exact ⟨l0, l1⟩
  nd := by
    rw [List.map_append, List.nodup_append]
    refine ⟨b.nd, by simp, fun x hx y hy => ?_⟩
    simp at hy
    rw [hy]
    exact fun e => hout (e ▸ hx)
  asc := by
    rw [List.pairwise_append]
    refine ⟨b.asc, by simp, fun p hp q hq => ?_⟩
    rw [List.mem_singleton.mp hq]
    exact b.below ha p hp
  len := fun j p hp => by
    by_cases hj : j < ps.length
    · rw [List.getElem?_append_left hj] at hp
      exact b.len j p hp
    · rw [List.getElem?_append_right (by omega)] at hp
      have : j - ps.length = 0 := by
        have := (List.getElem?_eq_some_iff.mp hp).1
        simp at this; omega
      rw [this] at hp
      simp at hp
      rw [← hp]
      have h1 := b.len a _ ha
      have h2 := (List.getElem?_eq_some_iff.mp ha).1
      simp at h1 ⊢
      omega
  clo := fun i p x hp h0 h1 h => by
    have hal := (List.getElem?_eq_some_iff.mp ha).1
    rw [List.getElem?_append_left (by omega)] at hp
    by_cases hc : i < a ∨ (i = a ∧ x < l)
    · obtain ⟨q, hq, e⟩ := b.clo i p x hp h0 h1 hc
      exact ⟨q, by simp [hq], e⟩
    · have hi : i = a := by omega
      have hx : x = l := by omega
      subst hi hx
      rw [ha] at hp; cases hp
      exact ⟨(nx s x, w ++ [x]), by simp, rfl, .inl rfl⟩
  src := fun q hq => by
    have hal := (List.getElem?_eq_some_iff.mp ha).1
    rcases List.mem_append.mp hq with hq | hq
    · refine (b.src q hq).imp id fun ⟨i, p, x, h1, h2, h3⟩ => ⟨i, p, x, ?_, by omega, h3⟩
      rw [List.getElem?_append_left (by omega)]; exact h1
    · rw [List.mem_singleton.mp hq]
      refine .inr ⟨a, (s, w), l, ?_, .inr ⟨rfl, by omega⟩, rfl⟩
      rw [List.getElem?_append_left hal]; exact ha
  non := fun i p hp h => by
    have hal := (List.getElem?_eq_some_iff.mp ha).1
    rw [List.getElem?_append_left (by omega)] at hp
    by_cases hc : i < a
    · exact b.non i p hp (.inl hc)
    · have : i = a := by omega
      subst this
      rw [ha] at hp; cases hp
      exact hn
theorem Bg.next (ok : 1 ≤ k) (b : Bg k nx st U bad ps a (k : Int)) : Bg k nx st U bad ps (a + 1) 0 where
  nil := b.nil
  ok := b.ok
  nd := b.nd
  asc := b.asc
  len := b.len
  clo := fun i p x hp h0 h1 h => b.clo i p x hp h0 h1 (by omega)
  src := fun q hq => (b.src q hq).imp id fun ⟨i, p, x, h1, h2, h3⟩ => ⟨i, p, x, h1, by omega, h3⟩
  non := fun i p hp h => b.non i p hp (by omega)
end
end DL
end

section
set_option Elab.async false
set_option linter.all false
set_option maxRecDepth 100000
set_option maxHeartbeats 4000000
/-! S23: the words left of a word. -/
namespace DL
open PySem L2 Fz SrtO
theorem sub_snoc' {v u : List Int} {l : Int} (h : v.Sublist (u ++ [l])) : v.Sublist u ∨ ∃ v', v = v' ++ [l] ∧ v'.Sublist u := by
  obtain ⟨a, b, e, h1, h2⟩ := List.sublist_append_iff.mp h
  subst e
  cases b with
  | nil => exact .inl (by simpa using h1)
  | cons x b =>
    have h3 := h2.length_le
    have hb : b = [] := by
      cases b with
      | nil => rfl
      | cons y b => simp at h3
    subst hb
    have hx : x = l := by
      have := h2.subset List.mem_cons_self
      simpa using this
    subst hx
    exact .inr ⟨a, rfl, h1⟩
theorem wE_pSortK {den : Den} {ds : List D} {S : FS} {QV : SV → FS → Prop} : Fz.wE (pSortK den ds S) QV = wO (keysF den ds) fun ks => SortOk ks ∧ QV (.own (.lst (sortK ks ds))) S := by
  unfold pSortK
  cases keysF den ds with
  | none => rfl
  | some ks =>
    simp only [wO_some]
    by_cases h : SortOk ks <;> simp [h]
/-! ### the law's own look: choices of places -/
end DL
end

section
set_option Elab.async false
set_option linter.all false
set_option maxRecDepth 100000
set_option maxHeartbeats 4000000
/-! S24: all words of a length, what is no word; the words left of a long one. -/
namespace DL
open PySem L2 Fz SrtO
end DL
end

section
set_option Elab.async false
set_option linter.all false
set_option maxRecDepth 100000
set_option maxHeartbeats 4000000
/-! M29: marks of words, the first words of all marks. -/
namespace DL
open PySem L2 Fz SrtO
abbrev Ms := List (List Int)
def pws {α : Type} : List α → List (List α)
  | [] => [[]]
  | a :: l => pws l ++ (pws l).map (a :: ·)
theorem pws_mem {α : Type} : ∀ {l x : List α}, x.Sublist l → x ∈ pws l
  | [], x, h => by rw [List.sublist_nil.mp h]; simp [pws]
  | a :: l, x, h => by
    rw [pws, List.mem_append]
    cases h with
    | cons _ h => exact .inl (pws_mem h)
    | cons_cons _ h => exact .inr (List.mem_map.mpr ⟨_, pws_mem h, rfl⟩)
theorem pws_sub {α : Type} : ∀ {l x : List α}, x ∈ pws l → x.Sublist l
  | [], x, h => by simp [pws] at h; rw [h]; exact .refl _
  | a :: l, x, h => by
    rw [pws, List.mem_append] at h
    rcases h with h | h
    · exact (pws_sub h).cons _
    · obtain ⟨y, hy, rfl⟩ := List.mem_map.mp h
      exact (pws_sub hy).cons_cons _
theorem pws_len {α : Type} : ∀ l : List α, (pws l).length = 2 ^ l.length
  | [] => rfl
  | a :: l => by rw [pws, List.length_append, List.length_map, pws_len l, List.length_cons, Nat.pow_succ]; omega
/-- all words to so many letters, ascending -/
def aw (k m : Nat) : Ms := sortW (allW k m)
theorem aw_asc {k m : Nat} : (aw k m).Pairwise fun x y => ltI x y = true := sortW_strict allW_nodup
theorem aw_mem {k m : Nat} {u : List Int} : u ∈ aw k m ↔ u.length ≤ m ∧ IsW k u := sortW_mem.trans allW_mem
theorem aw_len {k m : Nat} : (aw k m).length = (allW k m).length := (sortG_ok ltW_swo (allW k m)).2.perm.length_eq
theorem aw_few {k m : Nat} (h1 : 1 ≤ k) (h : k + m ≤ 4) : (aw k m).length ≤ 7 := by
  rw [aw_len]
  have : (k = 1 ∨ k = 2 ∨ k = 3 ∨ k = 4) ∧ (m = 0 ∨ m = 1 ∨ m = 2 ∨ m = 3) := by omega
  rcases this with ⟨rfl | rfl | rfl | rfl, rfl | rfl | rfl | rfl⟩ <;> first | omega | decide
def mkW (k m : Nat) (w : List Int) : Ms := (aw k m).filter fun u => strewn u w
def nxW (k m : Nat) (t : Ms) (l : Int) : Ms := (aw k m).filter fun u => decide (u ∈ t ∨ ∃ v ∈ t, u = v ++ [l])
section
variable {k m : Nat} {w u : List Int} {t : Ms} {l : Int}
theorem mkW_mem : u ∈ mkW k m w ↔ (u.length ≤ m ∧ IsW k u) ∧ u.Sublist w := by
  unfold mkW
  rw [List.mem_filter, aw_mem, strewn_iff]
theorem nxW_mem : u ∈ nxW k m t l ↔ (u.length ≤ m ∧ IsW k u) ∧ (u ∈ t ∨ ∃ v ∈ t, u = v ++ [l]) := by
  unfold nxW
  rw [List.mem_filter, aw_mem, decide_eq_true_eq]
theorem mkW_asc : (mkW k m w).Pairwise fun x y => ltI x y = true := aw_asc.filter _
theorem nxW_asc : (nxW k m t l).Pairwise fun x y => ltI x y = true := aw_asc.filter _
theorem mkW_sub : (mkW k m w).Sublist (aw k m) := List.filter_sublist
theorem nxW_sub : (nxW k m t l).Sublist (aw k m) := List.filter_sublist
theorem mkW_nil : mkW k m [] = [[]] := by
  refine strict_uniq mkW_asc (by simp) fun u => ?_
  rw [mkW_mem, List.mem_singleton, List.sublist_nil]
  constructor
  · exact fun h => h.2
  · rintro rfl; exact ⟨⟨by simp, fun x hx => by simp at hx⟩, rfl⟩
theorem mkW_snoc (l0 : 0 ≤ l) (l1 : l < k) : mkW k m (w ++ [l]) = nxW k m (mkW k m w) l := by
  refine strict_uniq mkW_asc nxW_asc fun u => ?_
  rw [mkW_mem, nxW_mem]
  refine and_congr_right fun hu => ?_
  constructor
  · intro h
    rcases sub_snoc' h with h2 | ⟨v, e, h2⟩
    · exact .inl (mkW_mem.mpr ⟨hu, h2⟩)
    · subst e
      exact .inr ⟨v, mkW_mem.mpr ⟨⟨by have := hu.1; simp at this; omega, fun x hx => hu.2 x (by simp [hx])⟩, h2⟩, rfl⟩
  · rintro (h | ⟨v, h, rfl⟩)
    · exact (mkW_mem.mp h).2.trans (List.sublist_append_left _ _)
    · exact (mkW_mem.mp h).2.append (.refl _)
theorem mkW_run : ∀ w, IsW k w → w.foldl (nxW k m) (mkW k m []) = mkW k m w := by
  refine snoc_rec (fun _ => rfl) fun w l ih hw => ?_
  have hl := hw l (by simp)
  rw [List.foldl_append, ih fun x hx => hw x (by simp [hx]), mkW_snoc hl.1 hl.2]
  rfl
/-- letters behind alike words -/
theorem mkW_app {w v : List Int} (e : mkW k m w = mkW k m v) : ∀ z, IsW k z → mkW k m (w ++ z) = mkW k m (v ++ z) := by
  refine snoc_rec (fun _ => by simpa using e) fun z l ih hz => ?_
  have hl := hz l (by simp)
  rw [← List.append_assoc, ← List.append_assoc, mkW_snoc hl.1 hl.2, mkW_snoc hl.1 hl.2, ih fun x hx => hz x (by simp [hx])]
theorem mkW_iff {w v : List Int} : mkW k m w = mkW k m v ↔ ∀ u, u.length ≤ m → IsW k u → (u.Sublist w ↔ u.Sublist v) := by
  constructor
  · intro e u h1 h2
    have a := mkW_mem (k := k) (m := m) (w := w) (u := u)
    have b := mkW_mem (k := k) (m := m) (w := v) (u := u)
    rw [e] at a
    exact ⟨fun h => (b.mp (a.mpr ⟨⟨h1, h2⟩, h⟩)).2, fun h => (a.mp (b.mpr ⟨⟨h1, h2⟩, h⟩)).2⟩
  · intro h
    refine strict_uniq mkW_asc mkW_asc fun u => ?_
    rw [mkW_mem, mkW_mem]
    exact and_congr_right fun hu => h u hu.1 hu.2
/-- letters ahead of alike words -/
theorem mkW_ahead {w v : List Int} (e : mkW k m w = mkW k m v) (z : List Int) : mkW k m (z ++ w) = mkW k m (z ++ v) := by
  rw [mkW_iff] at e ⊢
  intro u h1 h2
  constructor
  · intro h
    obtain ⟨a, b, rfl, h3, h4⟩ := List.sublist_append_iff.mp h
    exact h3.append ((e b (by simp at h1; omega) fun x hx => h2 x (by simp [hx])).mp h4)
  · intro h
    obtain ⟨a, b, rfl, h3, h4⟩ := List.sublist_append_iff.mp h
    exact h3.append ((e b (by simp at h1; omega) fun x hx => h2 x (by simp [hx])).mpr h4)
/-- a word so often -/
def repW (n : Nat) (w : List Int) : List Int := (List.replicate n w).flatten
theorem rep_sub : ∀ {n : Nat} {u w : List Int}, u.length ≤ n → (∀ x ∈ u, x ∈ w) → u.Sublist (repW n w)
  | n, [], w, _, _ => List.nil_sublist _
  | 0, x :: u, w, h, _ => by simp at h
  | n + 1, x :: u, w, h, hm => by
    show (x :: u).Sublist (List.replicate (n + 1) w).flatten
    rw [List.replicate_succ, List.flatten_cons]
    exact (List.singleton_sublist.mpr (hm x (by simp))).append (rep_sub (n := n) (by simpa using h) fun y hy => hm y (by simp [hy]))
theorem mkW_rep : mkW k m (repW m w ++ w) = mkW k m (repW m w) := by
  rw [mkW_iff]
  intro u h1 h2
  constructor
  · intro h
    refine rep_sub h1 fun x hx => ?_
    have := h.subset hx
    rcases List.mem_append.mp this with q | q
    · obtain ⟨v, hv, q⟩ := List.mem_flatten.mp q
      rw [(List.mem_replicate.mp hv).2] at q; exact q
    · exact q
  · exact fun h => h.trans (List.sublist_append_left _ _)
end
/-- the first words of all marks -/
structure FinW (k m : Nat) (ps : List (Ms × List Int)) : Prop where
  ok : ∀ p ∈ ps, p.1 = mkW k m p.2 ∧ IsW k p.2
  nd : (ps.map (·.1)).Nodup
  asc : ps.Pairwise fun p q => slt p.2 q.2
  cov : ∀ v, IsW k v → ∃ q ∈ ps, q.1 = mkW k m v ∧ sle q.2 v
  big : ps.length ≤ 128
  len : ∀ p ∈ ps, p.2.length ≤ 128
theorem nd_fst {α β : Type} : ∀ {ps : List (α × β)} {p q : α × β}, (ps.map (·.1)).Nodup → p ∈ ps → q ∈ ps → p.1 = q.1 → p = q
  | r :: ps, p, q, nd, hp, hq, e => by
    rw [List.map_cons, List.nodup_cons] at nd
    rcases List.mem_cons.mp hp with ep | hp2
    · rcases List.mem_cons.mp hq with eq | hq2
      · rw [ep, eq]
      · exact (nd.1 (List.mem_map.mpr ⟨q, hq2, by rw [← e, ep]⟩)).elim
    · rcases List.mem_cons.mp hq with eq | hq2
      · exact (nd.1 (List.mem_map.mpr ⟨p, hp2, by rw [e, eq]⟩)).elim
      · exact nd_fst nd.2 hp2 hq2 e
theorem sle_anti {a b : List Int} (h : sle a b) (g : sle b a) : a = b := by
  rcases h with h | h
  · exact h
  · rcases g with g | g
    · exact g.symm
    · exact (slt_irr (slt_trans h g)).elim
section
variable {k m : Nat} {ps qs : List (Ms × List Int)}
theorem FinW.word_in (a : FinW k m ps) (b : FinW k m qs) {w : List Int} (h : w ∈ ps.map (·.2)) : w ∈ qs.map (·.2) := by
  obtain ⟨p, hp, rfl⟩ := List.mem_map.mp h
  obtain ⟨e1, w1⟩ := a.ok p hp
  obtain ⟨q, hq, e2, l2⟩ := b.cov p.2 w1
  obtain ⟨e3, w3⟩ := b.ok q hq
  obtain ⟨r, hr, e4, l4⟩ := a.cov q.2 w3
  have : r = p := nd_fst a.nd hr hp (by rw [e4, ← e3, e2, e1])
  subst this
  exact List.mem_map.mpr ⟨q, hq, sle_anti l2 l4⟩
theorem FinW.uniq (a : FinW k m ps) (b : FinW k m qs) : ps = qs := by
  have e : ps.map (·.2) = qs.map (·.2) := slt_uniq (List.pairwise_map.mpr a.asc) (List.pairwise_map.mpr b.asc) fun w => ⟨a.word_in b, b.word_in a⟩
  have f : ∀ {ps : List (Ms × List Int)}, FinW k m ps → ps = (ps.map (·.2)).map fun w => (mkW k m w, w) := fun {ps} a => by
    rw [List.map_map]
    conv => lhs; rw [← List.map_id ps]
    refine List.map_congr_left fun p hp => ?_
    show p = (mkW k m p.2, p.2)
    rw [← (a.ok p hp).1]
  rw [f a, f b, e]
theorem Bg.covAll {β : Type} {nx : β → Int → β} {st : β} {U : List β} {bad : β → Bool} {ps : List (β × List Int)} {a : Nat} (b : Bg k nx st U bad ps a 0) (ha : ps.length ≤ a) : ∀ v, IsW k v → ∃ q ∈ ps, q.1 = v.foldl nx st ∧ sle q.2 v := by
  refine snoc_rec (fun _ => ⟨(st, []), List.mem_of_getElem? b.nil, rfl, .inl rfl⟩) fun u l ih hv => ?_
  obtain ⟨q, hq, e, hle⟩ := ih fun x hx => hv x (by simp [hx])
  obtain ⟨i, hi⟩ := List.mem_iff_getElem?.mp hq
  have hil := (List.getElem?_eq_some_iff.mp hi).1
  have hl := hv l (by simp)
  obtain ⟨q2, hq2, e2, hle2⟩ := b.clo i q l hi hl.1 hl.2 (.inl (by omega))
  exact ⟨q2, hq2, by rw [List.foldl_append, e2, e]; rfl, sle_trans hle2 (sle_snoc hle)⟩
theorem FinW.of_bg {a : Nat} (h1 : 1 ≤ k) (hk : k + m ≤ 4) (b : Bg k (nxW k m) [[]] (pws (aw k m)) (fun _ => false) ps a 0) (ha : ps.length ≤ a) : FinW k m ps := by
  have big : ps.length ≤ 128 := by
    have := b.big
    rw [pws_len] at this
    have h2 : 2 ^ (aw k m).length ≤ 2 ^ 7 := Nat.pow_le_pow_right (by omega) (aw_few h1 hk)
    omega
  refine ⟨fun p hp => ?_, b.nd, b.asc, fun v hv => ?_, big, fun p hp => ?_⟩
  · obtain ⟨e, hw, _⟩ := b.ok p hp
    rw [← e, ← mkW_nil (k := k) (m := m), mkW_run _ hw]
    exact ⟨rfl, hw⟩
  · obtain ⟨q, hq, e, hle⟩ := b.covAll ha v hv
    rw [← mkW_nil (k := k) (m := m), mkW_run _ hv] at e
    exact ⟨q, hq, e, hle⟩
  · obtain ⟨i, hi⟩ := List.mem_iff_getElem?.mp hp
    have := b.len i p hi
    have := (List.getElem?_eq_some_iff.mp hi).1
    omega
end
end DL
end

section
set_option Elab.async false
set_option linter.all false
set_option maxRecDepth 100000
set_option maxHeartbeats 4000000
/-! S18: the wells of the laws k60 and up: draws; the shell. -/
namespace DL
open PySem L2 Fz
/-- a well with a count of at most c -/
def Wk (c : Nat) (o : Ob) : Prop := ∃ a b n : Int, o = .lst [.int a, .int b, .int n] ∧ 0 ≤ a ∧ 0 ≤ b ∧ b < (618970019642690137449562111 : Int) ∧ 0 ≤ n ∧ n ≤ c
theorem Wk.up {c d : Nat} {o : Ob} (h : Wk c o) (l : c ≤ d) : Wk d o := by
  obtain ⟨a, b, n, h1, h2, h3, h4, h5, h6⟩ := h
  exact ⟨a, b, n, h1, h2, h3, h4, h5, by omega⟩
theorem bits_lt {i : Int} {k : Nat} (h0 : 0 ≤ i) (h : i < 2 ^ k) : Builtin.Int.intBits i ≤ k := bits_le (by
  have e : ((i.natAbs : Nat) : Int) = i := by omega
  have e2 : (((2 : Nat) ^ k : Nat) : Int) = (2 : Int) ^ k := by simp
  omega)
theorem mulXs {i j : Int} (h0 : 0 ≤ i) (hi : i < 2 ^ 200) (g0 : 0 ≤ j) (hj : j < 2 ^ 200) : CMulX i j := mulX (a := 200) (b := 200) (bits_lt h0 hi) (bits_lt g0 hj) (by decide)
theorem draw_w {c : Nat} {o : Ob} {m : Int} (ho : Wk c o) (hc : c ≤ 1000000000) (hm : 0 < m) (hm2 : m ≤ 1000000) {Q : SV → List SV → Prop} (h : ∀ o' r, Wk (c + 1) o' → 0 ≤ r → r < m → Q (.d (.int r)) [.pin o', .d (.int m)]) : wC (d__law_draw [.pin o, .d (.int m)]) Q := by
  obtain ⟨a, b, n, rfl, ha, hb, hb2, hn0, hn1⟩ := ho
  unfold d__law_draw
  rw [wC_denOf]
  simp [b__law_draw]
  refine ⟨fun h1 => ⟨hm, divW hm (by omega), h _ _ ⟨a / m, b, n, rfl, Int.ediv_nonneg ha (by omega), hb, hb2, hn0, by omega⟩ (Int.emod_nonneg _ (by omega)) (Int.emod_lt_of_pos _ hm)⟩, fun h1 => ?_⟩
  have hn2 : n + 1 ≤ 1000000001 := by omega
  have hq : 40503 * (n + 1) * (n + 1) ≤ 40503 * 1000000001 * 1000000001 := Int.mul_le_mul (by omega) hn2 (by omega) (by omega)
  have hq0 : 0 ≤ 40503 * (n + 1) * (n + 1) := Int.mul_nonneg (by omega) (by omega)
  have p3 : CPowX (b + 2654435761 * (n + 1) + 40503 * (n + 1) * (n + 1)) 3 := powX (a := 200) (n := 3) (bits_lt (by omega) (by omega)) (by decide)
  refine ⟨mulXs (by omega) (by omega) (by omega) (by omega), mulXs (by omega) (by omega) (by omega) (by omega), mulXs (by omega) (by omega) (by omega) (by omega), p3, ?_⟩
  have hx := emodW (x := (b + 2654435761 * (n + 1) + 40503 * (n + 1) * (n + 1)) ^ 3) (m := (618970019642690137449562111 : Int)) (by decide)
  generalize (b + 2654435761 * (n + 1) + 40503 * (n + 1) * (n + 1)) ^ 3 % 618970019642690137449562111 = x at hx ⊢
  have p5 : CPowX (x + 97) 5 := powX (a := 200) (n := 5) (bits_lt (by omega) (by omega)) (by decide)
  refine ⟨p5, divW (by decide) (by decide), hm, h _ _ ⟨a, b, n + 1, rfl, ha, hb, hb2, by omega, by omega⟩ (Int.emod_nonneg _ (by omega)) (Int.emod_lt_of_pos _ hm)⟩
theorem well2_w {ns : List Int} {at_ : Int} (h0 : 0 ≤ at_) (h1 : at_ < 1000) (hl : ns.length ≤ 63) (hb : ∀ z ∈ ns, Builtin.Int.intBits z ≤ 1048576) {Q : SV → List SV → Prop} (h : ∀ o, Wk 0 o → Q (.own o) [.d (scriptD ns), .d (.int at_)]) : wC (d__law_well_2 [.d (scriptD ns), .d (.int at_)]) Q := by
  unfold d__law_well_2
  rw [wC_denOf]
  simp [b__law_well_2, scriptD]
  have hcut : ∀ {α : Type} (xs : List α), xs.length ≤ 63 → cutL xs none (some 64) = xs := fun xs hx => by
    rw [show (64 : Int) = ((64 : Nat) : Int) from rfl, cutL_take, List.take_of_length_le (by omega)]
  rw [hcut _ (by simpa using hl)]
  refine ⟨mulXs h0 (by omega) (by omega) (by omega), ?_⟩
  refine wS_forF (fun _ S => ∃ (v : Int) (c : Option SV), 0 ≤ v ∧ v < (618970019642690137449562111 : Int) ∧ S = [some (.d (.list (ns.map .int))), some (.d (.int at_)), some (.d (.int v)), c, none]) ?_ ?_ ?_
  · exact ⟨2862933555777941757 + at_ * 3202034522624059733, none, by omega, by omega, by simp⟩
  · rintro i d S hd ⟨v, c, hv, hv2, rfl⟩
    obtain ⟨z, hz, rfl⟩ := List.mem_map.mp (List.mem_of_getElem? hd)
    simp
    refine ⟨mulXs hv (by omega) (by omega) (by omega), mulX (a := 1048576) (b := 200) (hb z hz) (bits_lt (by omega) (by omega)) (by decide), ?_⟩
    exact emodW (by decide)
  · rintro S ⟨v, c, hv, hv2, rfl⟩
    simp
    have p18 : CPowX 10 18 := powX (a := 200) (n := 18) (bits_lt (by omega) (by omega)) (by decide)
    refine ⟨fun hlt => ?_, fun hge => ?_⟩
    · have e : ns[at_.toNat]? = some ns[at_.toNat] := List.getElem?_eq_getElem (by omega)
      rw [atI_int h0]
      simp [e]
      refine ⟨p18, h _ ⟨_, _, _, rfl, ?_, hv, hv2, by omega, by omega⟩⟩
      split <;> omega
    · exact ⟨p18, h _ ⟨_, _, _, rfl, by decide, hv, hv2, by omega, by omega⟩⟩
noncomputable def shellF2 (m : Int) (body : FS → SRes) : FS → SRes :=
  fSeq (fFor (fRange1 (fCall (two pMax2) (fCons (fC (.int 1)) (fCons (fCall (two pMin2) (fCons (fC (.int m)) (fCons (fCall (one pLen) (fCons (fPeek 0) (fC []))) (fC [])))) (fC []))))) (gN 1) (fSeq (fSet 2 (fCallP d__law_well_2 2 (fAD (fVar 0) (fAD (fVar 1) (fC []))))) body))
        (fRetD (fC (.bool true)))
end DL
end

section
set_option Elab.async false
set_option linter.all false
set_option maxRecDepth 100000
set_option maxHeartbeats 4000000
/-! F80: for over a list that a slot owns, and that the body leaves alone. -/
namespace Fz
open PySem PySem.Spec PyProof.Rows L2
section
variable {K : Fg} {F : Fx} {S : FS} {σ : Sl} {H H' : Hp} {i : Nat} {a : Addr} {vs : List V} {ds : List D}
end
section
variable {X : Cx} {F : Fx} {pos : Pos}
end
end Fz
end

section
set_option Elab.async false
set_option linter.all false
set_option maxRecDepth 100000
set_option maxHeartbeats 4000000
/-! F81: repr of lists, tuples, None, bools, ints. -/
namespace Fz
open PySem PySem.Spec PyProof.Rows L2
section
variable {X : Cx} {F : Fx}
end
section
variable {S : FS} {Q : D → FS → Prop}
end
end Fz
end

section
set_option Elab.async false
set_option linter.all false
set_option maxRecDepth 100000
set_option maxHeartbeats 4000000
/-! F82: str of an int; isinstance of a slot that holds data or an empty dict. -/
namespace Fz
open PySem PySem.Spec PyProof.Rows L2
section
variable {X : Cx} {F : Fx}
end
section
variable {S : FS} {Q : D → FS → Prop}
end
section
variable {S : FS} {Q : D → FS → Prop} {T : String} {i : Nat}
end
section
variable {X : Cx} {F : Fx} {o : Expr} {i : Nat} {pos p : Pos}
end
end Fz
end

section
set_option Elab.async false
set_option linter.all false
set_option maxRecDepth 100000
set_option maxHeartbeats 4000000
/-! F83: list comprehensions of three clauses: the walk. -/
namespace Fz
open PySem PySem.Spec PyProof.Rows L2
section
variable (elt t0 i0 t1 i1 t2 i2 : Expr) (ifs0 ifs1 ifs2 : List Expr) (scope : Scope) (pos : Pos)
end
section
variable {prog : Program} {w : World} {A : Around} {R : Result → Shared → Prop} {s : Shared} {e t i i' elt : Expr} {ifs : List Expr} {it acc : Value} {env : Env} {d : Nat}
end
end Fz
end

section
set_option Elab.async false
set_option linter.all false
set_option maxRecDepth 100000
set_option maxHeartbeats 4000000
/-! F84: list comprehensions of three clauses: loops within loops. -/
namespace Fz
open PySem PySem.Spec PyProof.Rows L2
section
variable {prog : Program} {w : World} {A : Around} {R : Result → Shared → Prop} {s : Shared} {e t i i' elt : Expr} {ifs : List Expr} {it acc : Value} {env : Env} {d : Nat} {elt0 : Expr} {gens : List Comprehension} {scope : Scope} {pos : Pos}
end
/-! ### readings -/
section
variable {Y : Cx}
end
end Fz
end

section
set_option Elab.async false
set_option linter.all false
set_option maxRecDepth 100000
set_option maxHeartbeats 4000000
/-! F85: list comprehensions of three clauses, as values. -/
namespace Fz
open PySem PySem.Spec PyProof.Rows L2
section
variable {X : Cx}
end
end Fz
end

section
set_option Elab.async false
set_option linter.all false
set_option maxRecDepth 100000
set_option maxHeartbeats 4000000
/-! F86: list comprehensions of three clauses, by plain functions. -/
namespace Fz
open PySem PySem.Spec PyProof.Rows L2
section
variable {X : Cx} {F : Fx} {it it1 it2 : FS → Res (List D)} {g g1 g2 : D → FS → Option FS} {t t1 t2 : FS → Res Bool} {fe : FS → Res D} {ts ts1 ts2 vs vs1 vs2 : List Nat}
variable {elt tg iter tg1 iter1 tg2 iter2 : Expr} {ifs ifs1 ifs2 : List Expr} {scope : Scope} {own : List (Str × Nat)} {pos : Pos}
end
end Fz
end

section
set_option Elab.async false
set_option linter.all false
set_option maxRecDepth 100000
set_option maxHeartbeats 4000000
/-! F87: comprehensions of three clauses: weakest preconditions. -/
namespace Fz
open PySem L2
section
variable {α : Type} {f : α → D} {g g1 g2 : D → FS → Option FS} {t t1 t2 : FS → Res Bool} {it1 it2 : FS → Res (List D)} {fe : FS → Res D} {vs vs1 vs2 : List Nat}
end
end Fz
end

section
set_option Elab.async false
set_option linter.all false
set_option maxRecDepth 100000
set_option maxHeartbeats 4000000
/-! F88: a call that hands functions on and answers data with lists: no slot owns a list meanwhile. -/
namespace Fz
open PySem PySem.Spec PyProof.Rows L2
section
variable {X : Cx} {F : Fx}
end
section
variable {X : Cx} {F : Fx} {e : Expr} {es : List Expr} {pos p : Pos}
end
section
variable {S : FS} {Q : D → FS → Prop}
end
end Fz
end

section
set_option Elab.async false
set_option linter.all false
set_option maxRecDepth 100000
set_option maxHeartbeats 4000000
/-! F89: zip of two sequences, each a list or a tuple. -/
namespace Fz
open PySem PySem.Spec PyProof.Rows L2 RZ
section
variable {prog : Program} {w : World} {A : Around} {E : Value → Shared → Prop} {s : Shared}
variable {z TI TO i1 i2 l1 l2 : Addr} {f0 a b : Value} {k1 k2 : Nat} {xs ys : Array Value} {h h' : Heap}
end
/-! ### the iterator -/
section
variable {X : Cx} {pins : List (Addr × Obj)} {σ : L2.St} {H : Hp} {s : Shared} {k : Bool} {l : Addr}
end
/-! ### zip(a, b) -/
section
variable {prog : Program} {w : World} {A : Around} {E : Value → Shared → Prop} {s : Shared}
end
/-! ### as data -/
section
variable {f g : FS → Res D} {S : FS} {QL : List D → FS → Prop}
end
end Fz
end

section
set_option Elab.async false
set_option linter.all false
set_option maxRecDepth 100000
set_option maxHeartbeats 4000000
/-! F90: a dict's values: list(d.values()), sorted(d.values(), key=f). -/
namespace Fz
open PySem PySem.Spec PyProof.Rows L2 SrtO Srt
/-- the view of a dict's values -/
def viewO (a : Addr) : Obj := { cls := .type "dict_values", data := .fields #[.ref a] }
def VwO (a : Addr) : HO := .frz (viewO a) (.ext fun _ => True)
section
theorem vals_flat {K : Fg} {H : Hp} {P : Program} {w : World} {es : List DictEntry} {vs : List (Key × Value)} (hp : Pairs (mixKind P w) es vs) : ∀ {raw : List (Key × V)} {kvs : List (D × D)}, KV raw vs → F2 K H raw kvs →
    PdAll K H (raw.map (·.2)) (kvs.map (·.2)) ∧ Vals (raw.map (·.2)) (es.map (·.val)) := by
  induction hp with
  | nil => intro raw kvs kv f; cases kv; cases f; exact ⟨.nil, .nil⟩
  | @cons e kv0 es vs h1 h2 _ ih =>
    intro raw kvs kv f
    cases kv with
    | cons g1 g2 =>
      cases f with
      | cons f1 f2 =>
        obtain ⟨i1, i2⟩ := ih g2 f2
        refine ⟨.cons f1.2 i1, .cons ?_ i2⟩
        show L2.RelV _ e.val
        rw [h2]; exact g1.2
theorem vals_tup {K : Fg} {H : Hp} {w : World} : ∀ {raw : List (NestedKey × Addr × V)} {kvs : List (D × D)} {xs : List (NestedKey × Addr × Value)},
    Paired (fun (p : NestedKey × Addr × V) (q : D × D) => tk q.1 = some p.1 ∧ Pd K H (.ref p.2.1) q.1 ∧ Pd K H p.2.2 q.2) raw kvs → Paired (fun (p : NestedKey × Addr × V) (q : NestedKey × Addr × Value) => p.1 = q.1 ∧ p.2.1 = q.2.1 ∧ RelV p.2.2 q.2.2) raw xs →
    PdAll K H (raw.map fun p => p.2.2) (kvs.map (·.2)) ∧ Vals (raw.map fun p => p.2.2) ((xs.map (fun x => (⟨x.1.hash w, .ref x.2.1, x.2.2⟩ : DictEntry))).map (·.val))
  | _, _, _, .nil, .nil => ⟨.nil, .nil⟩
  | _, _, _, .cons h r, .cons g t => by
    obtain ⟨i1, i2⟩ := vals_tup (w := w) r t
    exact ⟨.cons h.2.2 i1, .cons g.2.2 i2⟩
variable {X : Cx} {pins : List (Addr × Obj)} {σ : L2.St} {H : Hp} {s : Shared} {a : Addr} {kvs : List (D × D)} {A : Around} {E : Value → Shared → Prop}
theorem dic_vals {T : HO → Prop} (hT : ∀ u, T u → L2.Rd H a u) (I : Inv X pins σ H s) (g : DicG X.K X.w H a T kvs) : kvs.length ≤ sizeLine ∧ (a == sysModules) = false ∧ ∃ es ep ks, s.heap.DictRaw a es ep ∧ es.size = kvs.length ∧ PdAll X.K H ks (kvs.map (·.2)) ∧ Vals ks (es.toList.map (·.val)) := by
  rcases g with ⟨raw, e, f⟩ | ⟨raw, n, e, f⟩
  · obtain ⟨z, hd, vs, rel, o, es, ep, h1, h2, h3, h4, h5, h6⟩ := dk_rd I.hok (hT _ e)
    obtain ⟨k1, k2⟩ := vals_flat h5 rel f
    refine ⟨by rw [← paired_len f]; exact z, hd, es, ep, _, ⟨o, h1, h2, h3⟩, ?_, k1, k2⟩
    have l1 : (es.toList.map (·.val)).length = kvs.length := by rw [← k2.length, List.length_map, paired_len f]
    rwa [List.length_map, Array.length_toList] at l1
  · obtain ⟨z, hd, xs, f2, o, es, ep, h1, h2, h3, h4, _⟩ := ext_rd I (hT _ e)
    obtain ⟨k1, k2⟩ := vals_tup (w := X.w) f f2
    rw [← h4] at k2
    refine ⟨by rw [← paired_len f]; exact z, hd, es, ep, _, ⟨o, h1, h2, h3⟩, ?_, k1, k2⟩
    have l1 : (es.toList.map (·.val)).length = kvs.length := by rw [← k2.length, List.length_map, paired_len f]
    rwa [List.length_map, Array.length_toList] at l1
theorem items_vals {es : Array DictEntry} {acc : Array Value} (h : ItemsOf (fun i v => ∃ hi : i < es.size, v = es[i].val) acc es.size) : acc.toList = es.toList.map (·.val) := by
  apply List.ext_getElem?
  intro j
  rw [List.getElem?_map, Array.getElem?_toList, Array.getElem?_toList]
  by_cases hj : j < es.size
  · have h1 : j < acc.size := by rw [h.1]; exact hj
    obtain ⟨_, e⟩ := h.2 j acc[j] (Array.getElem?_eq_getElem h1)
    rw [Array.getElem?_eq_getElem h1, Array.getElem?_eq_getElem hj, e]
    rfl
  · rw [Array.getElem?_eq_none (by rw [h.1]; omega), Array.getElem?_eq_none (by omega)]
    rfl
/-- what stands at v is the view of the dict at a -/
def ViewR (X : Cx) (H : Hp) (v : Addr) (kvs : List (D × D)) : Prop := ∃ a, H v = some (VwO a) ∧ DicV X.K X.w H a kvs
/-- list(view) -/
def rListV (X : Cx) : List V → Hp → VK → Prop := fun vs H Q => ∃ (v : Addr) (kvs : List (D × D)), vs = [.ref v] ∧ ViewR X H v kvs ∧ ∀ ks p, PdAll X.K H ks (kvs.map (·.2)) → H p = none → Q (.ref p) (upd H p (.lst ks))
theorem view_heap {v : Addr} (I : Inv X pins σ H s) (e : H v = some (VwO a)) : s.heap.IsValuesView v a := ⟨_, (I.hok v _ e).1, rfl, rfl⟩
theorem cr_listV (hc : X.calm = true) : CallR X (.type "list") (rListV X) := by
  intro pins s σ H vs us Q I r h
  obtain ⟨v, kvs, rfl, ⟨a, hv, g⟩, q⟩ := h
  obtain ⟨u, rfl, ru⟩ := vals1 r
  obtain rfl : u = Value.ref v := ru
  obtain ⟨hz, hd, es, ep, ks, raw, hn, k1, k2⟩ := dic_vals (fun _ h => h) I g
  refine PySem.W.kdl_call (PySem.KdlSrc.rawValues (ep := ep)) (I.ok.hd hc) ⟨view_heap I hv, raw⟩ (by rw [hn]; exact hz) fun h' tk acc c kp ho it => ?_
  have e := items_vals it
  refine ⟨.ref s.heap.objs.size, upd H s.heap.objs.size (.lst ks), I.laid (t' := tk) kp (Nat.le_refl _) ⟨?_, acc.toList, c, by rw [e]; exact k2, by simpa using ho⟩, rfl, q ks _ k1 (I.hok.fresh (Nat.le_refl _))⟩
  rw [k1.length, List.length_map]; exact hz
end
/-- e.values() -/
def tVals (X : Cx) (td : TE) : TE := fun σ H Q => td σ H fun x H1 => ∃ a kvs, x = V.ref a ∧ DicV X.K X.w H1 a kvs ∧ ∀ v, H1 v = none → Q (.ref v) (upd H1 v (VwO a))
section
variable {X : Cx} {F : Fx} {e o : Expr} {i j k : Nat} {pos p kp np apos mpos : Pos} {td : TE} {x : Str} {ps : List Str} {den : Den}
theorem pe_valuesV (hd : PE X o td) (hbase : attributeBase o "values" X.env (eval o X.env) = eval o X.env := by rfl) (hline : (apos.endLine == mpos.line) = true := by rfl) : PE X (.Call (.Attribute o "values" apos) [] [] mpos) (tVals X td) := by
  refine ⟨fun pins s σ H Q I h => ?_⟩
  refine wpAny_Call_method0_late hbase hline (thn (hd.run pins s σ H _ I h) fun v s1 ⟨x, H1, I1, r1, a, kvs, ex, g, q⟩ => ?_)
  subst ex
  obtain rfl : v = Value.ref a := r1
  obtain ⟨hz, hsys, es, ep, ks, raw, hn, k1, k2⟩ := dic_vals (fun _ h => h) I1 g
  obtain ⟨ob, ho, ex, hdat⟩ := id raw
  refine ⟨"dict", "dict.values", F.plainAttrs_dict, F.slot_dict_values, F.type_dict_values, ⟨ob, ho, ex.1⟩, fun b e => ?_, Calls.callWith_builtin rfl (PySem.evalArgs_none ?_)⟩
  · cases e
    exact ⟨ob, ho, ex.2.1⟩
  refine call_meetsIn F.slot_dict_values ⟨ob, ho, ex.1⟩ F.entry_dict_values (F.args_dict_values_1 _) (PySem.meets_dict_values_raw (prog := X.prog) (w := X.w) a hsys) ⟨⟨es, ep, raw⟩, ?_⟩
  have n1 : H1 s1.heap.objs.size = none := I1.hok.fresh (Nat.le_refl _)
  exact ⟨.ref s1.heap.objs.size, upd H1 s1.heap.objs.size (VwO a), I1.laid (t' := s1.toks) (h' := s1.heap.push (viewO a)) (o := VwO a) (fun b u e => Heap.get?_push_of_some _ e) (Nat.le_refl _) ⟨Heap.get?_push_size _ rfl, trivial, ⟨_, Heap.get?_push_size _ rfl⟩, fun _ _ _ _ => trivial⟩, rfl, q _ n1⟩
theorem dicV_new {K : Fg} {w : World} {H : Hp} {a v : Addr} {u : HO} {kvs : List (D × D)} (g : DicV K w H a kvs) (n : H v = none) : DicV K w (upd H v u) a kvs := by
  refine DicG.mono g (Pers.new n) fun u2 h => ?_
  have ne : ∀ {z}, H a = some z → a ≠ v := fun {z} e q => by rw [q, n] at e; cases e
  rcases h with h | ⟨o, h⟩
  · exact .inl (by rw [upd_ne (ne h)]; exact h)
  · exact .inr ⟨o, by rw [upd_ne (ne h)]; exact h⟩
def fListVals (i : Nat) : FS → Res SV := wDic i fun kvs S => .ok (.own (.lst (kvs.map (·.2)))) S
theorem e_listVals (hc : X.calm = true) (hg : Gl X "list") (hm : X.mg "list" = none) (ho : PE X o (tVar i)) (hw : F.w = X.w := by rfl) (hbase : attributeBase o "values" X.env (eval o X.env) = eval o X.env := by rfl) (hline : (apos.endLine == mpos.line) = true := by rfl)
    (he : starEach [Expr.Call (.Attribute o "values" apos) [] [] mpos] X.env = (false, eval (Expr.Call (.Attribute o "values" apos) [] [] mpos) X.env) :: starEach [] X.env := by rfl) : EV X F (.Call (.Name "list" p) [.Call (.Attribute o "values" apos) [] [] mpos] [] pos) (fListVals i) :=
  (pe_callTy (cr_listV hc) hg hm (by decide +kernel) (pa_cons (pe_valuesV ho hbase hline) pa_nil he) (by decide) (by decide) he rfl).via fun σ H Q ⟨S, r, q⟩ => by
    obtain ⟨kvs, e, q⟩ := wDic_in q
    obtain ⟨a, ea, g⟩ := r.dicV e
    rw [hw] at g
    refine ⟨_, ea, a, kvs, rfl, g, fun v n => ⟨v, kvs, rfl, ⟨a, upd_same, dicV_new g n⟩, fun ks p h1 h2 => ?_⟩⟩
    exact newList (r.new n) h1 h2 (postG.later (r := (Res.ok (SV.own (Ob.lst (kvs.map (·.2)))) S : Res SV)) (Pers.new n) q)
/-! ### a dict as a value of an expression -/
def DcR (K : Fg) (F : Fx) (_ : FS) (_ : Sl) (H : Hp) (x : V) (kvs : List (D × D)) : Prop := ∃ a, x = .ref a ∧ DicV K F.w H a kvs
abbrev EDc (X : Cx) (F : Fx) (e : Expr) (f : FS → Res (List (D × D))) : Prop := PE X e (rdG X.K F DcR f)
def dcOf : SV → FS → Res (List (D × D))
  | .own (.dic kvs), S => .ok kvs S
  | _, _ => .bad
def fDcV (f : FS → Res SV) : FS → Res (List (D × D)) := bnd f dcOf
theorem dc_v {f : FS → Res SV} (h : EV X F e f) : EDc X F e (fDcV f) := h.via fun σ H Q q => (rdG.bind q).imp fun x H1 ⟨sv, S1, r1, v1, p1, q1⟩ => by
  cases sv with
  | own ob =>
    cases ob with
    | lst ds => exact q1.elim
    | dic kvs =>
      obtain ⟨a, rfl, g, _⟩ := v1
      exact q1.ok r1 ⟨a, rfl, DicR.v g⟩
  | _ => exact q1.elim
/-- sorted(e.values(), key=f) -/
noncomputable def fSortVals (den : Den) (f : FS → Res (List (D × D))) : FS → Res SV := bnd f fun kvs => pSortK den (kvs.map (·.2))
theorem e_sortVals {f : FS → Res (List (D × D))} (G : Fn X.prog X.w X.K X.mg X.base F.tabs k x ps 1 den) (hr : RoomG j X.A) (hj : k + 2 ≤ j) (hgx : Gl X x) (hc : X.calm = true) (hu : X.A.units + 70 < cLine) (hg : Gl X "sorted") (hm : X.mg "sorted" = none) (he : EDc X F e f) (hw : F.w = X.w := by rfl)
    (hbase : attributeBase e "values" X.env (eval e X.env) = eval e X.env := by rfl) (hline : (apos.endLine == mpos.line) = true := by rfl)
    (hdb : (x == ("__debug__" : Str)) = false := by decide)
    (hs1 : backTo pos (starEach [Expr.Call (.Attribute e "values" apos) [] [] mpos] X.env) = (false, eval (Expr.Call (.Attribute e "values" apos) [] [] mpos) X.env) :: backTo pos (starEach [] X.env) := by rfl) (hpl : (backTo pos (starEach [Expr.Call (.Attribute e "values" apos) [] [] mpos] X.env)).any (·.1) = false := by rfl)
    (hse : starEach [Expr.Call (.Attribute e "values" apos) [] [] mpos] X.env = (false, eval (Expr.Call (.Attribute e "values" apos) [] [] mpos) X.env) :: starEach [] X.env := by rfl)
    (hall : (backToKw pos (keywordEach [⟨some "key", .Name x np, kp⟩] X.env)).all (·.1.isSome) = true := by rfl) (hnone : (backToKw pos (keywordEach [⟨some "key", .Name x np, kp⟩] X.env)).any (·.1.isNone) = false := by rfl)
    (hks : (backToKw pos (keywordEach [⟨some "key", .Name x np, kp⟩] X.env)).filterMap (·.1) = [Str.ofString "key"] := by rfl) :
    EV X F (.Call (.Name "sorted" p) [.Call (.Attribute e "values" apos) [] [] mpos] [⟨some "key", .Name x np, kp⟩] pos) (fSortVals den f) := by
  obtain ⟨fa, fd, F1, hmx, kpn, b⟩ := G.ex
  have cr : CallRK X (.builtin "sorted") [Str.ofString "key"] (fun vs zs H Q => ∃ v kvs ks, vs = [V.ref v] ∧ zs = [V.ref fa] ∧ ViewR X H v kvs ∧ (∀ P ∈ F.tabs, TabOk H P) ∧ keysF den (kvs.map (·.2)) = some ks ∧ SortOk ks ∧
      ∀ ys p H2, PdAll X.K H2 ys (sortK ks (kvs.map (·.2))) → Pers H H2 → (∀ b o, H b = some o → isTbl o = false → H2 b = some o) → (∀ b o, H b = some o → ∃ u, H2 b = some u) → (∀ P ∈ F.tabs, TabOk H2 P) → H p = none → H2 p = none → Q (.ref p) (upd H2 p (.lst ys))) := by
    intro pins s σ H vs zs us ws Q I rv rz ⟨v, kvs, ks, e1, e2, ⟨a, hv, g⟩, hT, hk, ok, q⟩
    subst e1 e2
    obtain ⟨u, rfl, ru⟩ := vals1 rv
    obtain rfl : u = Value.ref v := ru
    obtain ⟨w, rfl, rw'⟩ := vals1 rz
    obtain rfl : w = Value.ref fa := rw'
    show wpAny _ _ (call (.builtin "sorted") [Value.ref v] [(Str.ofString "key", Value.ref fa)]) _ _ _
    obtain ⟨hz, hd, es, ep, xs, raw, hn, k1, k2⟩ := dic_vals (fun _ h => h) I g
    have hz' : (es.toList.map (·.val)).length ≤ sizeLine := by rw [List.length_map, Array.length_toList, hn]; exact hz
    refine sortK_call hu (keyP_of F1 (hr.mono hj) b) I k2 k1 hz' hT hk ok (fun R hR => ?_) q
    refine collect_src (A := X.A.in1) (PySem.KdlSrc.rawValues (ep := ep)) (I.ok.hd hc) ⟨view_heap I hv, raw⟩ (by rw [hn]; exact hz) fun h' tk acc kp hle it => ?_
    rw [items_vals it]
    exact hR h' tk kp hle
  refine (pe_callBK cr hg hm bt_sorted (pa_cons (pe_valuesV he hbase hline) pa_nil hse) (pk_cons (pe_glob (v := .ref fa) hgx hmx rfl hdb) pk_nil) (by decide) (by decide) hs1 hpl hall hnone hks).via fun σ H Q h => ?_
  refine (rdG.bind h).imp fun y H1 ⟨kvs, S1, r1, ⟨a, ea, g⟩, p1, q1⟩ => ?_
  rw [hw] at g
  subst ea
  refine ⟨a, kvs, rfl, g, fun v n => ?_⟩
  obtain ⟨ks, hk, ok, q⟩ := sortK_post (r1.new (a := v) (o := VwO a) n) (postG.later (Pers.new n) q1)
  exact ⟨v, kvs, ks, rfl, rfl, ⟨a, upd_same, dicV_new g n⟩, (r1.new (a := v) (o := VwO a) n).tabs, hk, ok, q⟩
end
end Fz
end

section
set_option Elab.async false
set_option linter.all false
set_option maxRecDepth 100000
set_option maxHeartbeats 4000000
/-! F91: sorted(xs, key=lambda ..): the key is a function that the frame makes. -/
namespace Fz
open PySem PySem.Spec PyProof.Rows L2 SrtO Srt
/-- a function's answers as a den -/
def denG (g : FnD) : Den := fun svs => match svs with
  | [.d d] => (match g [d] with
    | some k => if noL k = true then .ok (.d k) svs else .bad
    | none => .bad)
  | _ => .bad
theorem denG_ok {g : FnD} {d kd : D} {l : List SV} (h : denG g [.d d] = .ok (.d kd) l) : g [d] = some kd ∧ noL kd = true := by
  unfold denG at h
  simp only at h
  cases e : g [d] with
  | none => rw [e] at h; cases h
  | some k =>
    rw [e] at h
    simp only at h
    by_cases n : noL k = true
    · rw [if_pos n] at h; cases h; exact ⟨rfl, n⟩
    · rw [if_neg n] at h; cases h
section
variable {X : Cx} {pins : List (Addr × Obj)} {σ : L2.St} {H : Hp} {s : Shared} {T : List Addr} {den : Den} {fa : Addr} {fd : FuncData} {ps : List Str} {k : Nat}
/-- as KeyP, while all that stood stands -/
def KeyQ (X : Cx) (T : List Addr) (σ : L2.St) (Hb : Hp) (fa : Addr) (den : Den) : Prop := ∀ {pins : List (Addr × Obj)} {H : Hp} {s : Shared} {x : V} {u : Value} {d kd : D} {l : List SV} {Q : VK}, Pers Hb H → (∀ b o, Hb b = some o → isTbl o = false → H b = some o) → (∀ b o, Hb b = some o → ∃ u, H b = some u) → Inv X pins σ H s → RelV x u → Pd X.K H x d → (∀ P ∈ T, TabOk H P) → den [.d d] = .ok (.d kd) l →
  (∀ y H', Pers H H' → (∀ a o, H a = some o → isTbl o = false → H' a = some o) → (∀ a o, H a = some o → ∃ u, H' a = some u) → (∀ P ∈ T, TabOk H' P) → Pd X.K H' y kd → Q y H') →
    wpAny (model X.prog X.w) X.A.in1.in1 (call (.ref fa) [u]) (EP X pins σ Q) (fun _ _ => False) s
theorem keyQ_clo {F : Fx} {S : FS} {j jj : Nat} {c : FS → Option (Nat × FnD)} {g : FnD} (r0 : Rel X.K F S σ H) (hl : F.cl.loc H (.ref fa) j) (hcl : CloSpec X F j c) (hcS : c S = some (k, g)) (hr : RoomG jj X.A) (hk : k + 2 ≤ jj)
    (hfn : ∀ x, X.fn x = true) : KeyQ X F.tabs σ H fa (denG g) := by
  intro pins H1 s x u d kd l Q p kp th I rx hx hT hd q
  obtain ⟨hg, nd⟩ := denG_ok hd
  have r := r0.stay p kp th hT
  obtain ⟨A, L⟩ := locks_ex I
  have pl := pers_lockH L.ok
  have ck := hcl I r (F.cl.locM p hl) L hcS
  obtain ⟨f, oc, od, fd, sl, u0, e, hf, go⟩ := ck
  cases e
  have tabs : ∀ P ∈ F.tabs, TabOk (lockH H1 A) P := fun P hP => (hT P hP).later pl fun b ps e => by rw [lockH_out (L.ok.out e fun z => z)]; exact e
  let Q2 : VK := fun x H' => Pers (lockH H1 A) H' ∧ (∀ a o, lockH H1 A a = some o → isTbl o = false → H' a = some o) ∧ (∀ a o, lockH H1 A a = some o → ∃ u, H' a = some u) ∧ (∀ P ∈ F.tabs, TabOk H' P) ∧ Pd X.K H' x kd
  refine wpAny_call (codeAny_mono (go (lockH H1 A) (.refl _) X.A.in1.in1 X.stack s [u] [x] [d] kd Q2 (fun _ _ _ => False) (hr.mono hk).in1.in1 (env0_lock I L hfn).in1.in1 tabs (.cons rx .nil) (.cons (hx.mono pl) .nil) hg fun y H2 a b c d e => ⟨a, b, c, d, e⟩) fun rr s' z => ?_)
  cases rr with
  | error e3 => exact z.elim
  | ok fl =>
    cases fl with
    | ret u =>
      obtain ⟨y, H', os, bare, un, hok', ry, p2, kp2, th2, tb2, pd⟩ := z
      have I2 : Inv X pins σ (ulH H1 H' A) s' := I.call' (ch := []) os (un_unlock L.ok un hok') (hok_unlock un hok') bare fun b hb => (List.not_mem_nil hb).elim
      have p3 := pers_unlock L.ok un p2
      refine ⟨y, _, I2, ry, q y _ p3 (fun b o e nt => ?_) (fun b o e => ?_) (fun P hP => tabOk_unlock L.ok un (tb2 P hP)) (pd.noL (tupS_unlock L.ok un) nd)⟩
      · cases ql : A.lookup b with
        | none => rw [ulH_out ql]; exact kp2 b o (by rw [lockH_out ql]; exact e) nt
        | some o2 => rw [ulH_in ql]; exact e
      · cases ql : A.lookup b with
        | none => rw [ulH_out ql]; exact th2 b o (by rw [lockH_out ql]; exact e)
        | some o2 => exact ⟨o, by rw [ulH_in ql]; exact e⟩
    | next => exact z.elim
    | brk => exact z.elim
    | cont => exact z.elim
/-- the loop that asks the keys -/
theorem key_loopQ {a kS : Addr} {oa : Obj} {its : List Value} {xs : List V} {ds ks : List D} {R : Unit → Shared → Prop} {E : Value → Shared → Prop} {Hb : Hp} (G : KeyQ X T σ Hb fa den) (pb : Pers Hb H) (kb : ∀ b o, Hb b = some o → isTbl o = false → H b = some o) (tb : ∀ b o, Hb b = some o → ∃ u, H b = some u) (nb : Hb kS = none)
    (items : Array Value) (I : Inv X ((a, oa) :: pins) σ H s) (hk : H kS = some (.lst [])) (rv : Vals xs its) (hx : PdAll X.K H xs ds) (hz : its.length ≤ sizeLine) (hT : ∀ P ∈ T, TabOk H P) (hks : keysF den ds = some ks)
    (h : ∀ s' H' kvs, Inv X ((a, oa) :: pins) σ H' s' → H' kS = some (.lst kvs) → PdAll X.K H' kvs ks → Pers H H' → (∀ b o, b ≠ kS → H b = some o → isTbl o = false → H' b = some o) → (∀ b o, H b = some o → ∃ u, H' b = some u) → (∀ P ∈ T, TabOk H' P) → R () s') :
    wpAny (model X.prog X.w) X.A.in1.in1 (forIn its PUnit.unit fun x _ => do
      match ← (call (.ref fa) [x]).attempt with
      | .ok k => do Builtin.List.listUpdate (.ref kS) (·.push k); pure (ForInStep.yield PUnit.unit)
      | .error e => do
        rule "list.sort.key-raised"
        let made ← Builtin.List.listItems (.ref kS)
        Builtin.List.listUpdate (.ref kS) fun _ => #[]
        letGo made.toList.reverse [e]
        Builtin.List.listUpdate (.ref a) fun _ => items; throw e) R E s := by
  have lx := rv.length
  have ld := hx.length
  have lk := keysF_len hks
  refine ksk_fold (fun i s' => ∃ H' kvs, Inv X ((a, oa) :: pins) σ H' s' ∧ H' kS = some (.lst kvs) ∧ PdAll X.K H' kvs (ks.take i) ∧ Pers H H' ∧ (∀ b o, b ≠ kS → H b = some o → isTbl o = false → H' b = some o) ∧ (∀ b o, H b = some o → ∃ u, H' b = some u) ∧ (∀ P ∈ T, TabOk H' P)) its 0 s
    ⟨H, [], I, hk, .nil, .refl H, fun _ _ _ e _ => e, fun _ o e => ⟨o, e⟩, hT⟩ ?_ ?_
  · rintro j u s' hj ⟨H1, kvs, I1, hk1, hp1, per, kp, th, ht⟩
    simp only [Nat.zero_add] at hp1 ⊢
    have hjl : j < its.length := (List.getElem?_eq_some_iff.mp hj).1
    obtain ⟨x, hxj, rx⟩ : ∃ x, xs[j]? = some x ∧ RelV x u := by
      have hl : j < xs.length := by omega
      obtain ⟨u2, h1, h2⟩ := rv.get (List.getElem?_eq_getElem hl)
      rw [hj] at h1; cases h1
      exact ⟨_, List.getElem?_eq_getElem hl, h2⟩
    obtain ⟨d, hdj, pd⟩ := hx.getV hxj
    have hkl : j < ks.length := by omega
    obtain ⟨l, hd⟩ := keysF_get hks hdj (List.getElem?_eq_getElem hkl)
    refine wpAny_bind (wpAny_attempt (wpAny_mono (G (pb.trans per) (fun b o e nt => kp b o (fun z => by rw [z, nb] at e; cases e) (kb b o e nt) nt) (fun b o e => let ⟨u, e1⟩ := tb b o e; th b u e1) I1 rx (pd.mono per) ht hd (Q := fun y H2 => Pers H1 H2 ∧ (∀ a o, H1 a = some o → isTbl o = false → H2 a = some o) ∧ (∀ a o, H1 a = some o → ∃ u, H2 a = some u) ∧ (∀ P ∈ T, TabOk H2 P) ∧ Pd X.K H2 y ks[j])
      (fun y H2 h1 h2 h3 h4 h5 => ⟨h1, h2, h3, h4, h5⟩)) (fun v s2 ⟨y, H2, I2, ry, p2, kp2, th2, ht2, py⟩ => ?_) fun _ _ hF => hF.elim))
    try dsimp only
    have hk2 : H2 kS = some (.lst kvs) := kp2 _ _ hk1 rfl
    obtain ⟨hzk, kits, n, rk, hkg⟩ := (show ObjOk X.prog X.w H2 s2.heap kS (.lst kvs) from I2.hok kS _ hk2)
    have lkv : kvs.length = j := by rw [hp1.length, List.length_take]; omega
    have hs2 := Heap.SameBut.update s2.heap kS (Obj.mapSeq (·.push v))
    obtain ⟨c2, hc2⟩ : ∃ c2, (s2.heap.update kS (Obj.mapSeq (·.push v))).get? kS = some (seqObj "list" (kits.toArray.push v) c2) := ⟨_, get?_update_seq hkg (·.push v)⟩
    have mu : Mut (H2 kS) := by rw [hk2]; trivial
    have p3 : Pers H2 (upd H2 kS (.lst (kvs ++ [y]))) := Pers.put (.inl mu)
    have hkz : kits.length ≤ sizeLine := by rw [← rk.length]; exact hzk
    refine wpAny_bind (listUpdate_at (o := { cls := .type "list", data := .seq kits.toArray n }) hkg rfl (wpAny_pure ⟨rfl, upd H2 kS (.lst (kvs ++ [y])), kvs ++ [y], ?_, upd_same, ?_, (per.trans p2).trans p3, fun b o hb e nt => ?_, fun b o e => ?_, fun P hP => ?_⟩) (by simpa using hkz) (by rw [Array.size_push]; simpa using hkz))
    · refine d_write (t' := s2.toks) I2 mu hs2 ⟨_, hc2⟩ ⟨by rw [List.length_append, List.length_singleton]; omega, kits ++ [v], c2, rk.append (.cons ry .nil), ?_⟩
      rw [hc2]
      simp [seqObj]
    · rw [List.take_add_one, List.getElem?_eq_getElem hkl]
      exact ((hp1.mono (p2.trans p3)).append (.cons (py.mono p3) .nil))
    · rw [upd_ne hb]; exact kp2 _ _ (kp b o hb e nt) nt
    · obtain ⟨u1, e1⟩ := th b o e
      obtain ⟨u2, e2⟩ := th2 b u1 e1
      by_cases hb : b = kS
      · subst hb; exact ⟨_, upd_same⟩
      · exact ⟨u2, by rw [upd_ne hb]; exact e2⟩
    · refine (ht2 P hP).later p3 fun b pz e => ?_
      rw [upd_ne]; exact e
      intro z; rw [z, hk2] at e; cases e
  · rintro s' ⟨H1, kvs, I1, hk1, hp1, per, kp, th, ht⟩
    rw [List.take_of_length_le (by omega)] at hp1
    exact h s' H1 kvs I1 hk1 hp1 per kp th ht
theorem sortK_callQ {r : Value} {its : List Value} {xs : List V} {ds ks : List D} {Q : VK} (hu : X.A.units + 70 < cLine) (G : KeyQ X T σ H fa den)
    (I : Inv X pins σ H s) (rv : Vals xs its) (hx : PdAll X.K H xs ds) (hz : its.length ≤ sizeLine) (hT : ∀ P ∈ T, TabOk H P) (hks : keysF den ds = some ks) (ok : SortOk ks)
    (hcol : ∀ R : List Value → Shared → Prop, (∀ (h' : Heap) (tk : Nat), (∀ b o, s.heap.get? b = some o → h'.get? b = some o) → s.heap.objs.size ≤ h'.objs.size → R its { s with heap := h', toks := tk }) → wpAny (model X.prog X.w) X.A.in1 (collect r) R X.xe s)
    (q : ∀ ys p H2, PdAll X.K H2 ys (sortK ks ds) → Pers H H2 → (∀ b o, H b = some o → isTbl o = false → H2 b = some o) → (∀ b o, H b = some o → ∃ u, H2 b = some u) → (∀ P ∈ T, TabOk H2 P) → H p = none → H2 p = none → Q (.ref p) (upd H2 p (.lst ys))) :
    wpAny (model X.prog X.w) X.A (call (.builtin "sorted") [r] [(Str.ofString "key", .ref fa)]) (EP X pins σ Q) X.xe s := by
  refine PyProof.Rows.call_function_entry_kw kind_sorted plain_sorted entry_sorted (ksk_s1 _ _) ?_
  unfold Builtin.«sorted»
  refine wpAny_bind (m := checkCount "sorted" 1 1 _) (wpAny_pure ?_)
  refine wpAny_bind (hcol _ fun h' tk kp hle => ?_)
  refine wpAny_bind (wpAny_newList ?_ hz)
  have hoL : (h'.push (seqObj "list" its.toArray 0)).get? h'.objs.size = some (seqObj "list" its.toArray 0) := Heap.get?_push_size _ rfl
  have ha : h'.objs.size < (h'.push (seqObj "list" its.toArray 0)).objs.size := Heap.lt_size hoL
  refine wpAny_bind (wpAny_holding (wpAny_call_entry_kw (s := { s with heap := h'.push (seqObj "list" its.toArray 0), toks := tk }) slot_list_sort ⟨_, hoL, rfl⟩ entry_list_sort ?_ (ksk_l1 _ _)))
  rw [ksk_t1]
  unfold ksk_tree
  refine wpAny_bind (listItems_at hoL rfl ?_)
  refine wpAny_bind (listUpdate_at hoL rfl ?_ (by rw [List.size_toArray]; exact hz) (Nat.zero_le _))
  have s1 := Heap.SameBut.update (h'.push (seqObj "list" its.toArray 0)) h'.objs.size (Obj.mapSeq fun _ => (#[] : Array Value))
  obtain ⟨e1, ho1⟩ : ∃ e1, ((h'.push (seqObj "list" its.toArray 0)).update h'.objs.size (Obj.mapSeq fun _ => (#[] : Array Value))).get? h'.objs.size = some (seqObj "list" #[] e1) := ⟨_, get?_update_seq hoL fun _ => #[]⟩
  refine wpAny_bind (seqEpoch_at ho1 rfl ?_)
  refine wpAny_bind (wpAny_newTuple ?_ (by show its.length ≤ _; exact hz))
  refine wpAny_bind (wpAny_newList ?_ (Nat.zero_le _))
  refine wpAny_holding ?_
  -- the heap at which the keys are asked
  generalize hg : ((h'.push (seqObj "list" its.toArray 0)).update h'.objs.size (Obj.mapSeq fun _ => (#[] : Array Value))) = g at ho1 s1
  have gz : g.objs.size = h'.objs.size + 1 := by rw [← hg, Heap.size_update, size_push']
  have hk4 : ((g.push (seqObj "tuple" its.toArray 0)).push (seqObj "list" #[] 0)).get? (g.push (seqObj "tuple" its.toArray 0)).objs.size = some (seqObj "list" #[] 0) := Heap.get?_push_size _ rfl
  have tz : (g.push (seqObj "tuple" its.toArray 0)).objs.size = h'.objs.size + 2 := by rw [size_push', gz]
  have kp4 : ∀ b o, s.heap.get? b = some o → ((g.push (seqObj "tuple" its.toArray 0)).push (seqObj "list" #[] 0)).get? b = some o := fun b o e => by
    have hb := Heap.lt_size e
    have e2 : (h'.push (seqObj "list" its.toArray 0)).get? b = some o := Heap.get?_push_of_some _ (kp b o e)
    exact Heap.get?_push_of_some _ (Heap.get?_push_of_some _ ((s1.2 b (Nat.ne_of_lt (Nat.lt_of_lt_of_le hb hle))).trans e2))
  have hn : H (g.push (seqObj "tuple" its.toArray 0)).objs.size = none := I.hok.fresh (by rw [tz]; omega)
  have hna : H h'.objs.size = none := I.hok.fresh hle
  have f0 : FpOk X pins H h'.objs.size := I.fpOk hle hna
  have hka : h'.objs.size ≠ (g.push (seqObj "tuple" its.toArray 0)).objs.size := by rw [tz]; omega
  have I1 : Inv X pins σ (upd H (g.push (seqObj "tuple" its.toArray 0)).objs.size (.lst [])) { s with heap := ((g.push (seqObj "tuple" its.toArray 0)).push (seqObj "list" #[] 0)), toks := tk } :=
    I.laid (t' := tk) kp4 (by rw [tz]; omega) ⟨Nat.zero_le _, [], 0, .nil, hk4⟩
  have ho4 : ((g.push (seqObj "tuple" its.toArray 0)).push (seqObj "list" #[] 0)).get? h'.objs.size = some (seqObj "list" #[] e1) := Heap.get?_push_of_some _ (Heap.get?_push_of_some _ ho1)
  have I2 : Inv X ((h'.objs.size, seqObj "list" #[] e1) :: pins) σ (upd H (g.push (seqObj "tuple" its.toArray 0)).objs.size (.lst [])) { s with heap := ((g.push (seqObj "tuple" its.toArray 0)).push (seqObj "list" #[] 0)), toks := tk } := I1.pins_of fun p hp => by
    rcases List.mem_cons.mp hp with rfl | hp
    · exact ⟨ho4, by rw [upd_ne hka]; exact hna, f0.2.1, f0.2.2.1, fun v e => nomatch e⟩
    · exact I1.pin p (List.mem_append_right _ hp)
  unfold ksk_rest
  refine wpAny_bind (wpAny_rule ?_)
  first
    | rw [List.forIn_toArray]
    | (rw [← Array.forIn_toList]; simp only [List.toList_toArray])
    | rw [← Array.forIn_toList]
  have p1 : Pers H (upd H (g.push (seqObj "tuple" its.toArray 0)).objs.size (.lst [])) := Pers.new hn
  refine wpAny_bind (key_loopQ (a := h'.objs.size) (kS := (g.push (seqObj "tuple" its.toArray 0)).objs.size) G p1 (fun b o e _ => by rw [upd_ne]; exact e; intro z; rw [z, hn] at e; cases e) (fun b o e => ⟨o, by rw [upd_ne]; exact e; intro z; rw [z, hn] at e; cases e⟩) hn its.toArray I2 upd_same rv (hx.mono p1) hz (fun P hP => ?_) hks fun s' H' kvs I' hk' hp' per kp' th' ht' => ?_)
  · refine (hT P hP).later p1 fun b pz e => ?_
    rw [upd_ne]; exact e
    intro z; rw [z, hn] at e; cases e
  · have hna' : H' h'.objs.size = none := (I'.pin (h'.objs.size, seqObj "list" #[] e1) (by simp)).2.1
    refine key_sort (xs := xs) (ds := ds) (ks := ks) hu ⟨hna', f0.2⟩ I' hk' hp' rv (hx.mono (p1.trans per)) hz (keysF_len hks) ok fun h2 tk2 ys hy I5 => ⟨_, rfl, ?_⟩
    refine wpAny_pure ⟨_, rfl, .ref h'.objs.size, _, I5, rfl, ?_⟩
    have mu : Mut (H' (g.push (seqObj "tuple" its.toArray 0)).objs.size) := by rw [hk']; trivial
    have p3 : Pers H' (upd H' (g.push (seqObj "tuple" its.toArray 0)).objs.size (.lst [])) := Pers.put (.inl mu)
    have off : ∀ b o, H b = some o → b ≠ (g.push (seqObj "tuple" its.toArray 0)).objs.size := fun b o e z => by rw [z, hn] at e; cases e
    refine q ys _ _ (hy.mono p3) ((p1.trans per).trans p3) (fun b o e nt => ?_) (fun b o e => ?_) (fun P hP => ?_) hna (by rw [upd_ne hka]; exact hna')
    · rw [upd_ne (off b o e)]
      exact kp' b o (off b o e) (by rw [upd_ne (off b o e)]; exact e) nt
    · rw [upd_ne (off b o e)]
      exact th' b o (by rw [upd_ne (off b o e)]; exact e)
    · refine (ht' P hP).later p3 fun b pz e => ?_
      rw [upd_ne]; exact e
      intro z; rw [z, hk'] at e; cases e
/-! ### the rules -/
/-- sorted(src, key=lambda ..) -/
noncomputable def pSortL (c : FS → Option (Nat × FnD)) (ds : List D) : FS → Res SV := fun S => match c S with
  | some kg => pSortK (denG kg.2) ds S
  | none => .bad
noncomputable def fSortL (c : FS → Option (Nat × FnD)) (f : FS → Res D) : FS → Res SV := bnd f fun d => match seqD d with
  | some ds => pSortL c ds
  | none => fun _ => .bad
end
section
variable {X : Cx} {F : Fx} {e : Expr} {i j k jj : Nat} {pos p kp lp : Pos} {f : FS → Res D} {c : FS → Option (Nat × FnD)} {params : Arguments} {body : Expr} {scope : Scope}
theorem e_sortL (ha : PE X (.Lambda params body scope lp) (rMade X F j)) (hcl : CloSpec X F j c) (hlev : ∀ S kg, c S = some kg → kg.1 = k) (hr : RoomG jj X.A) (hk : k + 2 ≤ jj) (hc : X.calm = true) (hu : X.A.units + 70 < cLine) (hg : Gl X "sorted") (hm : X.mg "sorted" = none) (he : ED X F e f)
    (hfn : ∀ x, X.fn x = true := by intro _; rfl)
    (hs1 : backTo pos (starEach [e] X.env) = (false, eval e X.env) :: backTo pos (starEach [] X.env) := by rfl) (hpl : (backTo pos (starEach [e] X.env)).any (·.1) = false := by rfl)
    (hse : starEach [e] X.env = (false, eval e X.env) :: starEach [] X.env := by rfl)
    (hall : (backToKw pos (keywordEach [⟨some "key", .Lambda params body scope lp, kp⟩] X.env)).all (·.1.isSome) = true := by rfl) (hnone : (backToKw pos (keywordEach [⟨some "key", .Lambda params body scope lp, kp⟩] X.env)).any (·.1.isNone) = false := by rfl)
    (hks : (backToKw pos (keywordEach [⟨some "key", .Lambda params body scope lp, kp⟩] X.env)).filterMap (·.1) = [Str.ofString "key"] := by rfl) :
    EV X F (.Call (.Name "sorted" p) [e] [⟨some "key", .Lambda params body scope lp, kp⟩] pos) (fSortL c f) := by
  refine ⟨fun pins s σ H Q I h => ?_⟩
  refine wpAny_Call_Name_kw (ld_blt I hg hm bt_sorted ?_ (by decide) (by decide))
  refine PyProof.Rows.callWith_kw (thn ((pa_cons he pa_nil hse).run pos pins s σ H (fun vs H1 => ∃ x d S1, vs = [x] ∧ Rel X.K F S1 σ H1 ∧ Pd X.K H1 x d ∧ postG X.K F VR ((match seqD d with
      | some ds => pSortL c ds
      | none => fun _ => .bad) S1) σ H1 Q) I ((rdG.bind h).imp fun x H1 ⟨d, S1, r1, v1, p1, q1⟩ => ⟨x, d, S1, rfl, r1, v1, q1⟩)) fun us s1 ⟨vs, H1, I1, rv, x, d, S1, e1, r1, v1, q1⟩ =>
    thn ((pk_cons ha pk_nil).run pos pins s1 σ H1 (fun zs H2 => ∃ y, zs = [y] ∧ Pers H1 H2 ∧ Rel X.K F S1 σ H2 ∧ F.cl.loc H2 y j) I1 ⟨S1, r1, fun y H2 p2 r2 l2 => ⟨y, rfl, p2, r2, l2⟩⟩) fun ws s2 ⟨zs, H2, I2, rz, y, e2, p2, r2, l2⟩ => ?_) hs1 hpl hall hnone
  rw [hks]
  subst e1 e2
  obtain ⟨u, rfl, ru⟩ := vals1 rv
  obtain ⟨w, rfl, rw'⟩ := vals1 rz
  show wpAny _ _ (call (.builtin "sorted") [u] [(Str.ofString "key", w)]) _ _ _
  cases hd : seqD d with
  | none => rw [hd] at q1; exact q1.elim
  | some ds =>
    rw [hd] at q1
    simp only at q1
    unfold pSortL at q1
    cases hcs : c S1 with
    | none => rw [hcs] at q1; exact q1.elim
    | some kg =>
      rw [hcs] at q1
      simp only at q1
      obtain ⟨k', g⟩ := kg
      obtain rfl : k' = k := hlev _ _ hcs
      obtain ⟨A, L⟩ := locks_ex I2
      obtain ⟨fa, _, _, _, _, _, e3, _⟩ := hcl I2 r2 l2 L hcs
      subst e3
      obtain rfl : w = Value.ref fa := rw'
      obtain ⟨ks, hks2, ok, q⟩ := sortK_post r2 (postG.later p2 q1)
      have KQ : KeyQ X F.tabs σ H2 fa (denG g) := keyQ_clo r2 l2 hcl hcs hr hk hfn
      have v2 := v1.mono p2
      have src : (∃ a xs, x = .ref a ∧ (SqL X.K H2 a xs ∨ SqT X.K H2 a xs) ∧ PdAll X.K H2 xs ds) := by
        cases d with
        | list ds' =>
          cases hd
          cases v2 with
          | lst h1 h2 => exact ⟨_, _, rfl, .inl h1.sq, h2⟩
        | tuple ds' =>
          cases hd
          cases v2 with
          | tup h1 h2 => exact ⟨_, _, rfl, .inr h1, h2⟩
        | _ => cases hd
      obtain ⟨a, xs, rfl, hsq, hx⟩ := src
      obtain rfl : u = Value.ref a := ru
      rcases hsq with hl | ht
      · obtain ⟨its, r, pl, hz⟩ := I2.list hl
        obtain ⟨ob, n, h1, h2, h3, h4⟩ := pl
        have hz' : its.length ≤ sizeLine := by rw [← r.length]; exact hz
        refine sortK_callQ hu KQ I2 r hx hz' r2.tabs hks2 ok (fun R hR => ?_) q
        exact collect_seqz (items := its.toArray) a (.inl rfl) h1 h2 h4 (fun h' tk k1 k2 => by simpa using hR h' tk k1 k2) (by simpa using hz')
      · obtain ⟨its, r, ⟨ob, h1, h2, n, h4⟩, hz⟩ := I2.tuple ht
        have hz' : its.length ≤ sizeLine := by rw [← r.length]; exact hz
        refine sortK_callQ hu KQ I2 r hx hz' r2.tabs hks2 ok (fun R hR => ?_) q
        exact collect_seqz (items := its.toArray) a (.inr rfl) h1 h2 h4 (fun h' tk k1 k2 => by simpa using hR h' tk k1 k2) (by simpa using hz')
theorem cloAt_lev {k n np : Nat} {fe : FS → Res D} {js : List Nat} : ∀ S kg, cloAt k n np fe js S = some kg → kg.1 = k := fun S kg h => by
  cases h; rfl
/-! ### weakest preconditions -/
variable {S : FS} {QV : SV → FS → Prop}
theorem wE_pSortL {ds : List D} : wE (pSortL c ds S) QV = wO (c S) fun kg => wO (keysF (denG kg.2) ds) fun ks => SortOk ks ∧ QV (.own (.lst (sortK ks ds))) S := by
  unfold pSortL
  cases c S with
  | none => rfl
  | some kg =>
    show wE (pSortK (denG kg.2) ds S) QV = _
    unfold pSortK
    simp only [wO_some]
    cases keysF (denG kg.2) ds with
    | none => rfl
    | some ks =>
      simp only [wO_some]
      by_cases h : SortOk ks
      · rw [if_pos h]; simp [h]
      · rw [if_neg h]; simp only [wE_bad, h, false_and]
theorem wE_fSortL : wE (fSortL c f S) QV = wE (f S) fun d S1 => wO (seqD d) fun ds => wE (pSortL c ds S1) QV := by
  unfold fSortL
  rw [wE_bnd]
  congr 1; funext d S1
  cases seqD d <;> rfl
end
end Fz
end

section
set_option Elab.async false
set_option linter.all false
set_option maxRecDepth 100000
set_option maxHeartbeats 4000000
/-! F92: a subscript of a dict that a call has just told: f(..)[k]. -/
namespace Fz
open PySem PySem.Spec PyProof.Rows L2
def kAt (f : FS → Res D) (kvs : List (D × D)) : FS → Res D := bnd f fun k S => match kOk kvs k, dAt kvs k with
  | true, some v => .ok v S
  | _, _ => .bad
def fDIxF (fe : FS → Res SV) (f : FS → Res D) : FS → Res D := bnd fe fun sv => match sv with
  | .own (.dic kvs) => kAt f kvs
  | _ => fun _ => .bad
section
variable {X : Cx} {F : Fx} {e ke : Expr} {pos : Pos} {fe : FS → Res SV} {f : FS → Res D}
theorem lock_dic {pins : List (Addr × Obj)} {σ : Sl} {H : Hp} {s : Shared} {S : FS} {a : Addr} {kvs : List (D × D)} (I : Inv X pins σ H s) (r : Rel X.K F S σ H) (g : DicR X.K F.w H a kvs) (n : F.H0 a = none) (nu : ∀ i, Owned S i → σ[i]? ≠ some (some (.ref a))) (nh : ∀ p ∈ F.held, p.1 ≠ a) :
    ∃ H2, Inv X pins σ H2 s ∧ Rel X.K F S σ H2 ∧ Pers H H2 ∧ RoR X.K F.w H2 a (.dic kvs) := by
  obtain ⟨u, hH, hm⟩ : ∃ u, H a = some u ∧ Mut (some u) := by
    rcases id g with ⟨raw, e, _⟩ | ⟨raw, _, e, _⟩
    · exact ⟨_, e, trivial⟩
    · exact ⟨_, e, trivial⟩
  obtain ⟨od, I2⟩ := I.lock hH hm
  have hm' : Mut (H a) := by rw [hH]; exact hm
  have p2 : Pers H (upd H a (.frz od u)) := Pers.put (.inl hm')
  have nt : isTbl u = false := mut_tbl hm
  have r2 : Rel X.K F S σ (upd H a (.frz od u)) := r.put (.inl hm') (.inl n) nh rfl (fun j sv e => .inl ⟨e, nu j⟩) fun j h => h
  exact ⟨_, I2, r2, p2, od, DicG.mono g p2 fun u2 e => by
    have e : H a = some u2 := e
    rw [hH] at e; cases e
    exact upd_same⟩
theorem e_dixF (hu : X.A.units + 70 < cLine) (he : EV X F e fe) (hk : ED X F ke f) (hw : F.w = X.w := by rfl) (hs : NoSl ke := by intro _ _; rfl) : ED X F (.Subscript e ke pos) (fDIxF fe f) := by
  refine ⟨fun pins s σ H Q I h => ?_⟩
  refine subD_of PySem.F.slot_dict_getitem.lookup hs (thn (he.run pins s σ H _ I (rdG.bind h)) fun u s1 ⟨x, H1, I1, rx, sv, S1, r1, v1, p1, q1⟩ => ?_)
  cases sv with
  | own ob =>
    cases ob with
    | lst ds => exact q1.elim
    | dic kvs =>
      obtain ⟨a, rfl, g, n, nu, nh⟩ := v1
      obtain rfl : u = Value.ref a := rx
      obtain ⟨H2, I2, r2, p2, od, g2⟩ := lock_dic I1 r1 g n nu nh
      refine thn (hk.run pins s1 σ H2 _ I2 (rdG.bind (R' := PR) ⟨S1, r2, postG.later p2 q1⟩)) fun iv s2 ⟨y, H3, I3, ry, k, S3, r3, v3, p3, q3⟩ => ?_
      have g3 : DicG X.K X.w H3 a (fun u => H3 a = some (.frz od u)) kvs := by
        rw [← hw]
        exact DicG.mono g2 p3 fun u e => p3.frz _ _ _ e
      have hT : ∀ u, H3 a = some (.frz od u) → L2.Rd H3 a u := fun u e => .inr ⟨od, e⟩
      have hty : s2.TypeIs (.ref a) "dict" := by
        obtain ⟨_, _, o, es, ep, h1, h2, _⟩ := dic_raw hT I3 g3
        exact ⟨o, h1, h2.1⟩
      refine ⟨hty, ?_⟩
      cases ok : kOk kvs k with
      | false => rw [ok] at q3; exact q3.elim
      | true =>
        cases l : dAt kvs k with
        | none => rw [ok, l] at q3; exact q3.elim
        | some v =>
          rw [ok, l] at q3
          exact dr_getItem hu hT I3 g3 ok v3 ry l fun x w' s3 I3 px rx => ⟨x, H3, I3, rx, q3.ok r3 px⟩
  | _ => exact q1.elim
/-! ### weakest preconditions -/
variable {S : FS} {Q : D → FS → Prop}
theorem wE_kAt {kvs : List (D × D)} : wE (kAt f kvs S) Q = wE (f S) fun k S1 => kOk kvs k = true ∧ wO (dAt kvs k) fun v => Q v S1 := by
  unfold kAt
  rw [wE_bnd]
  congr; funext k S1
  cases kOk kvs k <;> cases dAt kvs k <;> simp
theorem wE_fDIxF : wE (fDIxF fe f S) Q = wE (fe S) fun sv S1 => ∃ kvs, sv = .own (.dic kvs) ∧ wE (kAt f kvs S1) Q := by
  unfold fDIxF
  rw [wE_bnd]
  congr; funext sv S1
  cases sv with
  | own ob =>
    cases ob with
    | lst ds => simp
    | dic kvs => simp
  | _ => simp
end
end Fz
end

section
set_option Elab.async false
set_option linter.all false
set_option maxRecDepth 100000
set_option maxHeartbeats 4000000
/-! dens, new with k32 -/
namespace DL
open PySem L2 Fz
end DL
end

section
set_option Elab.async false
set_option linter.all false
set_option maxRecDepth 100000
set_option maxHeartbeats 4000000
/-! dens, new with k31 -/
namespace DL
open PySem L2 Fz
end DL
end

section
set_option Elab.async false
set_option linter.all false
set_option maxRecDepth 100000
set_option maxHeartbeats 4000000
/-! dens, new with k70 -/
namespace DL
open PySem L2 Fz
end DL
end

section
set_option Elab.async false
set_option linter.all false
set_option maxRecDepth 100000
set_option maxHeartbeats 4000000
/-! dens, new with k23 -/
namespace DL
open PySem L2 Fz
end DL
end

section
set_option Elab.async false
set_option linter.all false
set_option maxRecDepth 100000
set_option maxHeartbeats 4000000
/-! dens, new with k67 -/
namespace DL
open PySem L2 Fz
end DL
end

section
set_option Elab.async false
set_option linter.all false
set_option maxRecDepth 100000
set_option maxHeartbeats 4000000
/-! dens, new with k63 -/
namespace DL
open PySem L2 Fz
/-- slots: 0 k, 1 m, 2 firsts, 3 last, 4 more, 5 word, 6 mark, 7 letter -/
noncomputable def b__law_firsts : FS → SRes :=
 fSeq (fPars [2, 3] (fConsV (fDNew) (fConsV (fLst (fCons (fTup (fC [])) (fC []))) (fC []))))
        (fSeq (whileF (fT (fOpN pNe 3 (fFrz (fLst (fC []))))) (fSeq (fSet 4 (fLst (fC [])))
        (fSeq (fFor (fItems (fVar 3)) (gN 5) (fSeq (fSetD 6 (fCall (one pTuple) (fCons (fFrz (fCallP d__law_parts 2 (fAD (fVar 5) (fAD (fVar 1) (fC []))))) (fC []))))
        (fIf (fT (fDIn false 2 (fVar 6))) (fSeq (fDPut 2 (fVar 5) (fVar 6))
        (fSet 4 (fOpN pAdd 4 (fFrz (fLc (fRange1 (fVar 0)) (gN 7) (fC true) (fFrz (fOpN pAdd 5 (fTup (fCons (fVar 7) (fC []))))) [7]))))) (fun S => .nx S))))
        (fSetD 3 (fVar 4)))))
        (fRet (fMove 2)))
@[irreducible] noncomputable def d__law_firsts : Den := denOf 8 b__law_firsts
/-- slots: 0 told, 1 letter, 2 m, 3 more, 4 own -/
noncomputable def b_mark_behind : FS → SRes :=
 fSeq (fSet 3 (fLc (fItems (fVar 0)) (gN 4) (fT (fOp pLt (fCall (one pLen) (fCons (fPeek 4) (fC []))) (fPeek 2))) (fFrz (fOpN pAdd 4 (fTup (fCons (fVar 1) (fC []))))) [4]))
        (fRetD (fCall (one pTuple) (fCons (fFrz (fSortSet (fFrz (fOpN pAdd 0 (fCall (one pTuple) (fCons (fPeek 3) (fC []))))))) (fC []))))
@[irreducible] noncomputable def d_mark_behind : Den := denOf 5 b_mark_behind
/-- slots: 0 k, 1 m, 2 found, 3 waiting, 4 at, 5 told, 6 letter, 7 there -/
noncomputable def b_first_words : FS → SRes :=
 fSeq (fPars [2, 3, 4] (fConsV (fDisp1 (fTup (fCons (fTup (fC [])) (fC []))) (fTup (fC []))) (fConsV (fLst (fCons (fTup (fCons (fTup (fC [])) (fC []))) (fC []))) (fConsV (fV (fC (.int 0))) (fC [])))))
        (fSeq (whileF (fT (fOpN pLt 4 (fCall (one pLen) (fCons (fPeek 3) (fC []))))) (fSeq (fSetD 5 (fOpN pIx 3 (fVar 4)))
        (fSeq (fFor (fRange1 (fVar 0)) (gN 6) (fSeq (fSet 7 (fCallP d_mark_behind 3 (fAD (fVar 5) (fAD (fVar 6) (fAD (fVar 1) (fC []))))))
        (fIf (fT (fDIn false 2 (fVar 7))) (fSeq (fDPut 2 (fFrz (fOp pAdd (fDIx 2 (fVar 5)) (fTup (fCons (fVar 6) (fC []))))) (fVar 7))
        (fAppend 3 (fVar 7))) (fun S => .nx S))))
        (fAug .d 4 (pInt fun i j => some (i + j)) (fC (.int 1))))))
        (fRet (fMove 2)))
@[irreducible] noncomputable def d_first_words : Den := denOf 8 b_first_words
/-- slots: 0 k, 1 m -/
noncomputable def b_all_firsts : FS → SRes :=
 fSeq (fDrop (fCallP d_check_k 1 (fAD (fVar 0) (fC []))))
        (fSeq (fDrop (fCallP d_check_natural 1 (fAD (fVar 1) (fC []))))
        (fRet (fSortVals d_word_key (fDcV (fCallP d_first_words 2 (fAD (fVar 0) (fAD (fVar 1) (fC []))))))))
@[irreducible] noncomputable def d_all_firsts : Den := denOf 2 b_all_firsts
/-- slots: 0 word, 1 m, 2 found, 3 letter -/
noncomputable def b_mark_in : FS → SRes :=
 fSeq (fSetD 2 (fTup (fCons (fTup (fC [])) (fC []))))
        (fSeq (fFor (fItems (fVar 0)) (gN 3) (fSet 2 (fCallP d_mark_behind 3 (fAD (fVar 2) (fAD (fVar 3) (fAD (fVar 1) (fC [])))))))
        (fRetD (fVar 2)))
@[irreducible] noncomputable def d_mark_in : Den := denOf 4 b_mark_in
/-- slots: 0 k, 1 word, 2 m -/
noncomputable def b_first_alike : FS → SRes :=
 fSeq (fDrop (fCallP d_check_k 1 (fAD (fVar 0) (fC []))))
        (fSeq (fDrop (fCallP d_check_word 2 (fAD (fVar 0) (fAD (fVar 1) (fC [])))))
        (fSeq (fDrop (fCallP d_check_natural 1 (fAD (fVar 2) (fC []))))
        (fRetD (fDIxF (fCallP d_first_words 2 (fAD (fVar 0) (fAD (fVar 2) (fC [])))) (fFrz (fCallP d_mark_in 2 (fAD (fVar 1) (fAD (fVar 2) (fC [])))))))))
@[irreducible] noncomputable def d_first_alike : Den := denOf 3 b_first_alike
/-- slots: 0 k, 1 one, 2 other, 3 m -/
noncomputable def b_put_together : FS → SRes :=
 fSeq (fDrop (fCallP d_check_k 1 (fAD (fVar 0) (fC []))))
        (fSeq (fDrop (fCallP d_check_word 2 (fAD (fVar 0) (fAD (fVar 1) (fC [])))))
        (fSeq (fDrop (fCallP d_check_word 2 (fAD (fVar 0) (fAD (fVar 2) (fC [])))))
        (fSeq (fDrop (fCallP d_check_natural 1 (fAD (fVar 3) (fC []))))
        (fRetD (fDIxF (fCallP d_first_words 2 (fAD (fVar 0) (fAD (fVar 3) (fC [])))) (fFrz (fCallP d_mark_in 2 (fAD (fFrz (fOpN pAdd 1 (fPeek 2))) (fAD (fVar 3) (fC []))))))))))
@[irreducible] noncomputable def d_put_together : Den := denOf 4 b_put_together
/-- slots: 0 script, 1 place, 2 well, 3 k, 4 m, 5 firsts, 6 due, 7 told, 8 turn, 9 one, 10 two, 11 three, 12 own, 13 joined, 14 every, 15 short, 16 at, 17 word -/
noncomputable def b_law63 : FS → SRes :=
 fSeq (fFor (fRange1 (fCall (two pMax2) (fCons (fC (.int 1)) (fCons (fCall (two pMin2) (fCons (fC (.int 2)) (fCons (fCall (one pLen) (fCons (fPeek 0) (fC []))) (fC [])))) (fC []))))) (gN 1) (fSeq (fSet 2 (fCallP d__law_well_2 2 (fAD (fVar 0) (fAD (fVar 1) (fC [])))))
        (fSeq (fSet 3 (fOp pAdd (fC (.int 1)) (fFrz (fCallP d__law_draw 2 (fAS 2 (fAD (fC (.int 3)) (fC [])))))))
        (fSeq (fSet 4 (fCallP d__law_draw 2 (fAS 2 (fAD (fOp pIx (fFrz (fLst (fCons (fC (.int 4)) (fCons (fC (.int 3)) (fCons (fC (.int 2)) (fC [])))))) (fOpN pSub 3 (fC (.int 1)))) (fC [])))))
        (fSeq (fSet 5 (fCallP d__law_firsts 2 (fAD (fVar 3) (fAD (fVar 4) (fC [])))))
        (fSeq (fSet 6 (fSortL (cloAt 8 1 1 (fTup (fCons (fCall (one pLen) (fCons (fPeek 0) (fC []))) (fCons (fVar 0) (fC [])))) []) (fFrz (fListVals 5))))
        (fSeq (fSet 7 (fCallP d_all_firsts 2 (fAD (fVar 3) (fAD (fVar 4) (fC [])))))
        (fSeq (fIf (fThawU 7 (fNotT (fTru (fFrz (fCallP (d__law_same 24) 2 (fAD (fVar 7) (fAD (fVar 6) (fC [])))))))) (fRetD (fC (.bool false))) (fun S => .nx S))
        (fSeq (fAppend 7 (fTup (fCons (fC (.int 9)) (fC []))))
        (fSeq (fIf (fNotT (fTru (fFrz (fCallP (d__law_same 24) 2 (fAD (fFrz (fLst (fCons (fFrz (fCallP d_all_firsts 2 (fAD (fVar 3) (fAD (fVar 4) (fC []))))) (fCons (fFrz (fCallK d_all_firsts 2 0 2 [1, 0] (fC []) (fAD (fVar 4) (fAD (fVar 3) (fC []))))) (fC []))))) (fAD (fFrz (fLst (fCons (fVar 6) (fCons (fVar 6) (fC []))))) (fC []))))))) (fRetD (fC (.bool false))) (fun S => .nx S))
        (fFor (fRange1 (fC (.int 5))) (gN 8) (fSeq (fAsg (gTl 3 (gCs (gN 9) (gCs (gN 10) (gCs (gN 11) (gNl))))) (fFrz (fLc (fRange1 (fC (.int 3))) (gN 16) (fC true) (fFrz (fCallP d__law_word_2 3 (fAS 2 (fAD (fVar 3) (fAD (fC (.int 5)) (fC [])))))) [16])))
        (fSeq (fSet 12 (fLc (fItems (fTup (fCons (fVar 9) (fCons (fVar 10) (fCons (fVar 11) (fC [])))))) (gN 17) (fC true) (fDIx 5 (fCall (one pTuple) (fCons (fFrz (fCallP d__law_parts 2 (fAD (fVar 17) (fAD (fVar 4) (fC []))))) (fC [])))) [17]))
        (fSeq (fIf (fNotT (fTru (fFrz (fCallP (d__law_same 24) 2 (fAD (fFrz (fLc (fItems (fTup (fCons (fVar 9) (fCons (fVar 10) (fCons (fVar 11) (fC [])))))) (gN 17) (fC true) (fFrz (fCallP d_first_alike 3 (fAD (fVar 3) (fAD (fVar 17) (fAD (fVar 4) (fC [])))))) [17])) (fAD (fVar 12) (fC []))))))) (fRetD (fC (.bool false))) (fun S => .nx S))
        (fSeq (fSetD 13 (fDIx 5 (fCall (one pTuple) (fCons (fFrz (fCallP d__law_parts 2 (fAD (fFrz (fOpN pAdd 9 (fPeek 10))) (fAD (fVar 4) (fC []))))) (fC [])))))
        (fSeq (fSet 7 (fLst (fCons (fFrz (fCallP d_put_together 4 (fAD (fVar 3) (fAD (fVar 9) (fAD (fVar 10) (fAD (fVar 4) (fC []))))))) (fCons (fFrz (fCallK d_put_together 4 0 4 [3, 2, 1, 0] (fC []) (fAD (fVar 4) (fAD (fVar 10) (fAD (fVar 9) (fAD (fVar 3) (fC []))))))) (fCons (fFrz (fCallP d_put_together 4 (fAD (fVar 3) (fAD (fOpN pIx 12 (fC (.int 0))) (fAD (fOpN pIx 12 (fC (.int 1))) (fAD (fVar 4) (fC []))))))) (fC []))))))
        (fSeq (fIf (fThawU 7 (fNotT (fTru (fFrz (fCallP (d__law_same 24) 2 (fAD (fVar 7) (fAD (fFrz (fLst (fCons (fVar 13) (fCons (fVar 13) (fCons (fVar 13) (fC [])))))) (fC [])))))))) (fRetD (fC (.bool false))) (fun S => .nx S))
        (fSeq (fSetD 14 (fDIx 5 (fCall (one pTuple) (fCons (fFrz (fCallP d__law_parts 2 (fAD (fFrz (fOp pAdd (fFrz (fOpN pAdd 9 (fPeek 10))) (fPeek 11))) (fAD (fVar 4) (fC []))))) (fC [])))))
        (fSeq (fSet 7 (fLst (fCons (fFrz (fCallP d_put_together 4 (fAD (fVar 3) (fAD (fFrz (fCallP d_put_together 4 (fAD (fVar 3) (fAD (fVar 9) (fAD (fVar 10) (fAD (fVar 4) (fC []))))))) (fAD (fVar 11) (fAD (fVar 4) (fC []))))))) (fCons (fFrz (fCallP d_put_together 4 (fAD (fVar 3) (fAD (fVar 9) (fAD (fFrz (fCallP d_put_together 4 (fAD (fVar 3) (fAD (fVar 10) (fAD (fVar 11) (fAD (fVar 4) (fC []))))))) (fAD (fVar 4) (fC []))))))) (fC [])))))
        (fSeq (fIf (fThawU 7 (fNotT (fTru (fFrz (fCallP (d__law_same 24) 2 (fAD (fVar 7) (fAD (fFrz (fLst (fCons (fVar 14) (fCons (fVar 14) (fC []))))) (fC [])))))))) (fRetD (fC (.bool false))) (fun S => .nx S))
        (fSeq (fSet 15 (fSlN 9 (fC none) (fPart (fC (.int 2)))))
        (fSeq (fSet 7 (fLst (fCons (fFrz (fCallP d_put_together 4 (fAD (fVar 3) (fAD (fVar 9) (fAD (fTup (fC [])) (fAD (fVar 4) (fC []))))))) (fCons (fFrz (fCallP d_put_together 4 (fAD (fVar 3) (fAD (fTup (fC [])) (fAD (fVar 9) (fAD (fVar 4) (fC []))))))) (fCons (fFrz (fCallP d_put_together 4 (fAD (fVar 3) (fAD (fFrz (fOpN pMulG 15 (fPeek 4))) (fAD (fVar 15) (fAD (fVar 4) (fC []))))))) (fC []))))))
        (fIf (fThawU 7 (fNotT (fTru (fFrz (fCallP (d__law_same 24) 2 (fAD (fVar 7) (fAD (fFrz (fLst (fCons (fOpN pIx 12 (fC (.int 0))) (fCons (fOpN pIx 12 (fC (.int 0))) (fCons (fDIx 5 (fCall (one pTuple) (fCons (fFrz (fCallP d__law_parts 2 (fAD (fFrz (fOpN pMulG 15 (fPeek 4))) (fAD (fVar 4) (fC []))))) (fC [])))) (fC [])))))) (fC [])))))))) (fRetD (fC (.bool false))) (fun S => .nx S))))))))))))))))))))))))
        (fRetD (fC (.bool true)))
@[irreducible] noncomputable def d_law63 : Den := denOf 18 b_law63
end DL
end

section
set_option Elab.async false
set_option linter.all false
set_option maxRecDepth 100000
set_option maxHeartbeats 4000000
/-! S87: marks, first words: the program's side. -/
namespace DL
open PySem L2 Fz SrtO
def mD (t : Ms) : D := .tuple (LW t)
theorem nk_mD {t : Ms} : nk (mD t) = some (.tup (t.map fun w => .tup (w.map .num))) := by
  unfold mD
  rw [nk, show LW t = t.map W from rfl, nks_LW]
  rfl
theorem tups_inj : ∀ {a b : Ms}, (a.map fun w => NestedKey.tup (w.map .num)) = b.map (fun w => NestedKey.tup (w.map .num)) → a = b
  | [], [], _ => rfl
  | [], _ :: _, h => by simp at h
  | _ :: _, [], h => by simp at h
  | x :: a, y :: b, h => by
    rw [List.map_cons, List.map_cons] at h
    injection h with h1 h2
    injection h1 with h1
    rw [nums_inj h1, tups_inj h2]
theorem nkM_iff {a b : Ms} : nk (mD a) = nk (mD b) ↔ a = b := by
  rw [nk_mD, nk_mD]
  constructor
  · intro h
    injection h with h
    injection h with h
    exact tups_inj h
  · intro h; rw [h]
theorem depth_tups : ∀ t : Ms, NestedKey.depthAll (t.map fun w => NestedKey.tup (w.map .num)) ≤ 2
  | [] => by simp [NestedKey.depthAll]
  | w :: t => by
    have ih := depth_tups t
    have e : NestedKey.depth (.tup (w.map NestedKey.num)) ≤ 2 := by simp [NestedKey.depth, depthAll_ints]
    simp only [List.map_cons, NestedKey.depthAll]
    omega
theorem tk_mD {t : Ms} : (Fz.tk (mD t)).isSome = true := by
  have h := nk_mD (t := t)
  have h2 := depth_tups t
  unfold mD at h ⊢
  show (match nk (PyData.tuple (LW t)) with | some k => if k.depth ≤ 8 then some k else none | none => none).isSome = true
  rw [h]
  have : NestedKey.depth (.tup (t.map fun w => NestedKey.tup (w.map .num))) ≤ 8 := by
    simp only [NestedKey.depth]; omega
  simp [this]
def DMs (ps : List (Ms × List Int)) : List (D × D) := ps.map fun p => (mD p.1, W p.2)
def OMs (ps : List (Ms × List Int)) : List D := ps.map fun p => mD p.1
theorem kOk_DMs {ps : List (Ms × List Int)} {y : Ms} : kOk (DMs ps) (mD y) = true := by
  unfold kOk
  have : ((DMs ps).all fun p => (Fz.tk p.1).isSome) = true := List.all_eq_true.mpr fun p hp => by
    obtain ⟨q, _, rfl⟩ := List.mem_map.mp hp
    exact tk_mD
  rw [this, tk_mD]
  simp
theorem dAt_DMs : ∀ {ps : List (Ms × List Int)} {s : Ms} {w : List Int}, (ps.map (·.1)).Nodup → (s, w) ∈ ps → dAt (DMs ps) (mD s) = some (W w)
  | q :: ps, s, w, hn, h => by
    have hn' := List.nodup_cons.mp hn
    unfold dAt DMs
    by_cases e : q.1 = s
    · have : q = (s, w) := by
        rcases List.mem_cons.mp h with h | h
        · exact h.symm
        · exact (hn'.1 (List.mem_map.mpr ⟨_, h, e.symm⟩)).elim
      subst this
      simp [List.find?_cons]
    · have hm : (s, w) ∈ ps := by
        rcases List.mem_cons.mp h with h | h
        · rw [← h] at e; exact (e rfl).elim
        · exact h
      have ih := dAt_DMs hn'.2 hm
      unfold dAt DMs at ih
      have ne : ¬ nk (mD q.1) = nk (mD s) := fun z => e (nkM_iff.mp z)
      simp only [List.map_cons, List.find?_cons, ne, decide_false]
      exact ih
theorem dHas_DMs : ∀ {ps : List (Ms × List Int)} {s : Ms}, dHas (DMs ps) (mD s) = decide (s ∈ ps.map (·.1))
  | [], s => rfl
  | q :: ps, s => by
    have ih := dHas_DMs (ps := ps) (s := s)
    unfold dHas dAt DMs at ih ⊢
    by_cases e : q.1 = s
    · subst e
      simp [List.find?_cons]
    · have ne : ¬ nk (mD q.1) = nk (mD s) := fun z => e (nkM_iff.mp z)
      have e2 : ¬ s = q.1 := fun z => e z.symm
      simp only [List.map_cons, List.find?_cons, ne, decide_false, List.mem_cons, e2, false_or]
      exact ih
theorem dPut_DMs {ps : List (Ms × List Int)} {s : Ms} {w : List Int} (h : s ∉ ps.map (·.1)) : dPut (DMs ps) (mD s) (W w) = DMs (ps ++ [(s, w)]) := by
  unfold dPut
  rw [dHas_DMs]
  simp only [h, decide_false]
  simp [DMs]
theorem dMs_len {ps : List (Ms × List Int)} : (DMs ps).length = ps.length := by simp [DMs]
theorem oMs_len {ps : List (Ms × List Int)} : (OMs ps).length = ps.length := by simp [OMs]
section
variable {k m : Nat}
theorem mark_behind_w {t : Ms} {l : Int} (h1 : 1 ≤ k) (hk : k + m ≤ 4) (ht : t.Sublist (aw k m)) (l0 : 0 ≤ l) (l1 : l < k) {Q : SV → List SV → Prop} (h : Q (.d (mD (nxW k m t l))) [.d (mD t), .d (.int l), .d (.int (m : Int))]) : wC (d_mark_behind [.d (mD t), .d (.int l), .d (.int (m : Int))]) Q := by
  have hl : t.length ≤ 7 := Nat.le_trans ht.length_le (aw_few h1 hk)
  have hw : ∀ u ∈ t, u.length ≤ m ∧ IsW k u := fun u hu => aw_mem.mp (ht.subset hu)
  unfold d_mark_behind
  rw [wC_denOf]
  have eD : mD t = .tuple (t.map W) := rfl
  simp [b_mark_behind, eD]
  refine lc_w (fun u : List Int => decide (u.length < m)) (fun u => W (u ++ [l])) (fun S => S = [some (.d (mD t)), some (.d (.int l)), some (.d (.int (m : Int))), none, none]) rfl (by omega) ?_ ?_
  · rintro u hu S rfl
    have := hw u hu
    have el : ∀ {S : FS} {QV : SV → FS → Prop}, Fz.wE (pAdd (W u) (.tuple [.int l]) S) QV = (u.length + 1 ≤ sizeLine ∧ QV (.d (W (u ++ [l]))) S) := fun {S QV} => by
      unfold W
      rw [wE_pAdd_t]
      simp
    simp [el]
    exact fun _ => szL (by omega)
  · rintro S rfl
    let ws : Ms := t ++ (t.filter fun u => decide (u.length < m)).map fun u => u ++ [l]
    have ew : t.map W ++ (t.filter fun u => decide (u.length < m)).map (fun u => W (u ++ [l])) = LW ws := by
      show _ = (t ++ (t.filter fun u => decide (u.length < m)).map fun u => u ++ [l]).map W
      rw [List.map_append, List.map_map]; rfl
    have hws : ws.length ≤ 14 := by
      have := List.length_filter_le (fun u : List Int => decide (u.length < m)) t
      show (t ++ _).length ≤ _
      rw [List.length_append, List.length_map]
      omega
    have eu : usW ws = nxW k m t l := by
      refine strict_uniq (sortW_strict (ddG_nodup _)) nxW_asc fun u => ?_
      rw [usW_mem, nxW_mem]
      show u ∈ t ++ _ ↔ _
      rw [List.mem_append, List.mem_map]
      constructor
      · rintro (h | ⟨v, hv, rfl⟩)
        · exact ⟨hw u h, .inl h⟩
        · obtain ⟨h2, h3⟩ := List.mem_filter.mp hv
          have h3 := of_decide_eq_true h3
          refine ⟨⟨by simp; omega, fun x hx => ?_⟩, .inr ⟨v, h2, rfl⟩⟩
          rcases List.mem_append.mp hx with hx | hx
          · exact (hw v h2).2 x hx
          · rw [List.mem_singleton.mp hx]; exact ⟨l0, l1⟩
      · rintro ⟨hu, h | ⟨v, hv, rfl⟩⟩
        · exact .inl h
        · exact .inr ⟨v, List.mem_filter.mpr ⟨hv, decide_eq_true (by have := hu.1; simp at this; omega)⟩, rfl⟩
    simp [mD]
    rw [show LW t = t.map W from rfl, ew, sort_set_LW, eu]
    refine ⟨szL (by have : ws.length = t.length + (t.filter fun u => decide (u.length < m)).length := by { show (t ++ _).length = _; rw [List.length_append, List.length_map] }; rw [List.length_map]; omega), ⟨setOk_LW (by omega), sortOk_ddLW fun u hu => ?_⟩, ?_⟩
    · have : u ∈ usW ws := usW_mem.mpr hu
      rw [eu] at this
      have := (nxW_mem.mp this).1.1
      omega
    · exact h
theorem mark_in_w {w : List Int} (h1 : 1 ≤ k) (hk : k + m ≤ 4) (hw : IsW k w) {Q : SV → List SV → Prop} (h : Q (.d (mD (mkW k m w))) [.d (W w), .d (.int (m : Int))]) : wC (d_mark_in [.d (W w), .d (.int (m : Int))]) Q := by
  unfold d_mark_in
  rw [wC_denOf]
  have eD : PyData.tuple [PyData.tuple []] = mD (mkW k m []) := by rw [mkW_nil]; rfl
  simp [b_mark_in, wE_callD]
  rw [eD]
  refine wS_forP (fun p r S => ∃ c3, S = [some (.d (W w)), some (.d (.int (m : Int))), some (.d (mD (mkW k m p))), c3]) ⟨none, rfl⟩ ?_ ?_
  · rintro p x r S e ⟨c3, rfl⟩
    have hx := hw x (by rw [e]; simp)
    simp [wE_callD]
    refine mark_behind_w h1 hk mkW_sub hx.1 hx.2 ?_
    simp
    rw [mkW_snoc hx.1 hx.2]
  · rintro S ⟨c3, rfl⟩
    simp
    exact h
theorem first_words_w (h1 : 1 ≤ k) (h3 : k ≤ 3) (hk : k + m ≤ 4) {Q : SV → List SV → Prop} (h : ∀ ps, FinW k m ps → Q (.own (.dic (DMs ps))) [.d (.int (k : Int)), .d (.int (m : Int))]) : wC (d_first_words [.d (.int (k : Int)), .d (.int (m : Int))]) Q := by
  unfold d_first_words
  rw [wC_denOf]
  simp [b_first_words, wE_callD]
  have e0 : PyData.tuple [PyData.tuple []] = mD [[]] := rfl
  have hU0 : ([[]] : Ms) ∈ pws (aw k m) := by rw [← mkW_nil (k := k) (m := m)]; exact pws_mem mkW_sub
  refine ⟨kOk_DMs (ps := []) (y := [[]]), ?_⟩
  refine wS_while (fun n S => ∃ (ps : List (Ms × List Int)) (a : Nat) (c5 c6 c7 : Option SV), Bg k (nxW k m) [[]] (pws (aw k m)) (fun _ => false) ps a 0 ∧ a ≤ ps.length ∧ n = (pws (aw k m)).length - a ∧ S = [some (.d (.int (k : Int))), some (.d (.int (m : Int))), some (.own (.dic (DMs ps))), some (.own (.lst (OMs ps))), some (.d (.int (a : Int))), c5, c6, c7]) (pws (aw k m)).length ⟨[([[]], [])], 0, none, none, none, Bg.start hU0, by simp, rfl, rfl⟩ ?_
  rintro n S ⟨ps, a, c5, c6, c7, b, ha, rfl, rfl⟩
  have hU : (pws (aw k m)).length ≤ 128 := by
    rw [pws_len]
    have h2 : 2 ^ (aw k m).length ≤ 2 ^ 7 := Nat.pow_le_pow_right (by omega) (aw_few h1 hk)
    omega
  have hbig := b.big
  simp [oMs_len]
  refine ⟨fun hlt => ?_, fun hge => ?_⟩
  · obtain ⟨t, w, htw⟩ : ∃ t w, ps[a]? = some (t, w) := ⟨_, _, List.getElem?_eq_getElem hlt⟩
    obtain ⟨hrun, hw, ht⟩ := b.ok (t, w) (List.mem_of_getElem? htw)
    have ho : (OMs ps)[a]? = some (mD t) := by unfold OMs; rw [List.getElem?_map, htw]; rfl
    have hwl := b.len a _ htw
    simp only at hwl hw ht
    simp [ho]
    refine ⟨by omega, ?_⟩
    refine wS_forF (fun i S => ∃ (ps : List (Ms × List Int)) (c6 c7 : Option SV), Bg k (nxW k m) [[]] (pws (aw k m)) (fun _ => false) ps a (i : Int) ∧ a < ps.length ∧ ps[a]? = some (t, w) ∧ i ≤ k ∧ S = [some (.d (.int (k : Int))), some (.d (.int (m : Int))), some (.own (.dic (DMs ps))), some (.own (.lst (OMs ps))), some (.d (.int (a : Int))), some (.d (mD t)), c6, c7]) ⟨ps, c6, c7, b, hlt, htw, Nat.zero_le _, rfl⟩ ?_ ?_
    · rintro i d S hd ⟨ps, c6, c7, b, hlt, htw, hi, rfl⟩
      obtain ⟨hi2, rfl⟩ := rngD_get hd
      have hbig := b.big
      simp [wE_callD]
      refine mark_behind_w h1 hk (pws_sub ht) (by omega) (by omega) ?_
      have haa : dAt (DMs ps) (mD t) = some (W w) := dAt_DMs b.nd (List.mem_of_getElem? htw)
      have el : ∀ {S : FS} {QV : SV → FS → Prop}, Fz.wE (pAdd (W w) (.tuple [.int (i : Int)]) S) QV = (w.length + 1 ≤ sizeLine ∧ QV (.d (W (w ++ [(i : Int)]))) S) := fun {S QV} => by
        unfold W
        rw [wE_pAdd_t]
        simp
      simp [kOk_DMs, haa, el, dHas_DMs]
      have hwl := b.len a _ htw
      simp only at hwl
      refine ⟨fun hout => ⟨szL (by omega), szS (by rw [dMs_len]; omega), szS (by rw [oMs_len]; omega), ps ++ [(nxW k m t (i : Int), w ++ [(i : Int)])], Bg.new (fun x hx l l0 l1 => pws_mem nxW_sub) b htw rfl (by omega) (by omega) (fun z => ?_), by simp; omega, ?_, by omega, ?_⟩, fun z hin => ⟨ps, Bg.old b htw rfl (by omega) (List.mem_map.mpr ⟨(_, z), hin, rfl⟩), hlt, htw, by omega, rfl, rfl⟩⟩
      · obtain ⟨⟨p, q⟩, hp, e⟩ := List.mem_map.mp z
        have e : p = _ := e
        subst e
        exact hout q hp
      · rw [List.getElem?_append_left hlt]; exact htw
      · have e7 := dPut_DMs (ps := ps) (s := nxW k m t (i : Int)) (w := w ++ [(i : Int)]) fun z => by
          obtain ⟨⟨p, q⟩, hp, e⟩ := List.mem_map.mp z
          have e : p = _ := e
          subst e
          exact hout q hp
        rw [e7]
        simp [OMs]
    · rintro S ⟨ps, c6, c7, b, hlt, htw, hi, rfl⟩
      have hbig := b.big
      rw [rngD_len] at b
      simp
      exact ⟨(pws (aw k m)).length - (a + 1), by omega, ps, a + 1, b.next h1, by omega, rfl, by simp⟩
  · exact h ps (FinW.of_bg h1 hk b (by omega))
end
end DL
end

section
set_option Elab.async false
set_option linter.all false
set_option maxRecDepth 100000
set_option maxHeartbeats 4000000
/-! S88: first words: told, put together; the law's lists of parts, its first words. -/
namespace DL
open PySem L2 Fz SrtO
section
variable {f : FS → Res SV} {fk : FS → Res (List (D × D))} {S : FS} {den : Den} {i : Nat}
theorem wE_fSortVals {QV : SV → FS → Prop} : Fz.wE (fSortVals den fk S) QV = Fz.wE (fk S) fun kvs S1 => Fz.wE (pSortK den (kvs.map (·.2)) S1) QV := by
  unfold fSortVals; rw [wE_bnd]
theorem wE_fDcV {Q : List (D × D) → FS → Prop} : Fz.wE (fDcV f S) Q = Fz.wE (f S) fun sv S1 => ∃ kvs, sv = .own (.dic kvs) ∧ Q kvs S1 := by
  unfold fDcV; rw [wE_bnd]
  congr; funext sv S1
  cases sv with
  | own ob => cases ob <;> simp [dcOf]
  | _ => simp [dcOf]
theorem wE_fListVals {QV : SV → FS → Prop} : Fz.wE (fListVals i S) QV = wO (dcR S[i]?) fun kvs => QV (.own (.lst (kvs.map (·.2)))) S := by
  unfold fListVals wDic
  rw [dicRd_eq]
  cases dcR S[i]? <;> simp
end
theorem sortS_id {ws : List (List Int)} (h : ws.Pairwise slt) : sortS ws = ws := by
  refine (sortG_uniq ltS_swo ?_ (Stb.refl ws)).symm
  refine h.imp fun {a b} q => ?_
  cases e : ltS b a with
  | false => rfl
  | true => exact (slt_irr (slt_trans q (ltS_iff.mp e))).elim
section
variable {k m : Nat} {ps : List (Ms × List Int)}
def wds (ps : List (Ms × List Int)) : List (List Int) := ps.map (·.2)
theorem dMs_vals : (DMs ps).map (·.2) = LW (wds ps) := by
  unfold DMs LW wds
  rw [List.map_map, List.map_map]; rfl
theorem FinW.slt (a : FinW k m ps) : (wds ps).Pairwise slt := List.pairwise_map.mpr a.asc
theorem FinW.wd (a : FinW k m ps) : ∀ w ∈ wds ps, IsW k w ∧ w.length ≤ 128 := fun w hw => by
  obtain ⟨p, hp, rfl⟩ := List.mem_map.mp hw
  exact ⟨(a.ok p hp).2, a.len p hp⟩
theorem FinW.wl (a : FinW k m ps) : (wds ps).length ≤ 128 := by unfold wds; rw [List.length_map]; exact a.big
theorem all_firsts_w (h1 : 1 ≤ k) (h3 : k ≤ 3) (hk : k + m ≤ 4) (a : FinW k m ps) {Q : SV → List SV → Prop} (h : Q (.own (.lst (LW (wds ps)))) [.d (.int (k : Int)), .d (.int (m : Int))]) : wC (d_all_firsts [.d (.int (k : Int)), .d (.int (m : Int))]) Q := by
  unfold d_all_firsts
  rw [wC_denOf]
  simp [b_all_firsts, wE_callD]
  refine check_k_w (by omega) (by omega) ?_
  simp
  refine check_natural_w (by omega) ?_
  simp [wE_fSortVals, wE_fDcV, wE_callD]
  refine first_words_w h1 h3 hk ?_
  intro qs b
  obtain rfl := b.uniq a
  simp
  rw [wE_pSortK, dMs_vals, keys_LW]
  simp
  refine ⟨sortOk_key fun w hw => by have := (a.wd w hw).2; omega, ?_⟩
  rw [sortK_LW, sortS_id a.slt]
  exact h
theorem FinW.dat (a : FinW k m ps) {v w : List Int} (h : (mkW k m v, w) ∈ ps) : dAt (DMs ps) (mD (mkW k m v)) = some (W w) := dAt_DMs a.nd h
theorem first_alike_w (h1 : 1 ≤ k) (h3 : k ≤ 3) (hk : k + m ≤ 4) (a : FinW k m ps) {v w : List Int} (hv : IsW k v) (hw : (mkW k m v, w) ∈ ps) {Q : SV → List SV → Prop} (h : Q (.d (W w)) [.d (.int (k : Int)), .d (W v), .d (.int (m : Int))]) : wC (d_first_alike [.d (.int (k : Int)), .d (W v), .d (.int (m : Int))]) Q := by
  unfold d_first_alike
  rw [wC_denOf]
  simp [b_first_alike, wE_callD]
  refine check_k_w (by omega) (by omega) ?_
  simp
  refine check_word_w hv ?_
  simp
  refine check_natural_w (by omega) ?_
  simp [wE_fDIxF, wE_kAt, wE_callD]
  refine first_words_w h1 h3 hk ?_
  intro qs b
  obtain rfl := b.uniq a
  simp
  refine mark_in_w h1 hk hv ?_
  simp [kOk_DMs, a.dat hw]
  exact h
theorem isW_app {k : Int} {a b : List Int} (ha : IsW k a) (hb : IsW k b) : IsW k (a ++ b) := fun x hx => by
  rcases List.mem_append.mp hx with hx | hx
  · exact ha x hx
  · exact hb x hx
theorem put_together_w (h1 : 1 ≤ k) (h3 : k ≤ 3) (hk : k + m ≤ 4) (a : FinW k m ps) {u v w : List Int} (hu : IsW k u) (hv : IsW k v) (hul : u.length ≤ 1000) (hvl : v.length ≤ 1000) (hw : (mkW k m (u ++ v), w) ∈ ps) {Q : SV → List SV → Prop} (h : Q (.d (W w)) [.d (.int (k : Int)), .d (W u), .d (W v), .d (.int (m : Int))]) : wC (d_put_together [.d (.int (k : Int)), .d (W u), .d (W v), .d (.int (m : Int))]) Q := by
  unfold d_put_together
  rw [wC_denOf]
  simp [b_put_together, wE_callD]
  refine check_k_w (by omega) (by omega) ?_
  simp
  refine check_word_w hu ?_
  simp
  refine check_word_w hv ?_
  simp
  refine check_natural_w (by omega) ?_
  simp [wE_fDIxF, wE_kAt, wE_callD]
  refine first_words_w h1 h3 hk ?_
  intro qs b
  obtain rfl := b.uniq a
  simp
  refine ⟨szL (by omega), mark_in_w h1 hk (isW_app hu hv) ?_⟩
  simp [kOk_DMs, a.dat hw]
  exact h
/-! ### the law's parts -/
theorem law_parts3_w {w : List Int} (h1 : 1 ≤ k) (hk : k + m ≤ 4) (hw : IsW k w) {Q : SV → List SV → Prop} (h : Q (.own (.lst (LW (mkW k m w)))) [.d (W w), .d (.int (m : Int))]) : wC (d__law_parts [.d (W w), .d (.int (m : Int))]) Q := by
  unfold d__law_parts
  rw [wC_denOf]
  have k0 : [(PyData.tuple [], PyData.bool true)] = KS [[]] := rfl
  have k1 : kOk [] (PyData.tuple []) = true := kOk_KS (ws := []) (w := [])
  have few : ∀ {K : Ms}, K.Nodup → (∀ u ∈ K, u.length ≤ m ∧ IsW k u) → K.length ≤ 7 := fun {K} nd hK => Nat.le_trans (Fz.nodup_len K (aw k m) nd fun u hu => aw_mem.mpr (hK u hu)) (aw_few h1 hk)
  have subW : ∀ {u p : List Int}, IsW k p → u.Sublist p → IsW k u := fun hp hs x hx => hp x (hs.subset hx)
  simp [b__law_parts, k0, k1]
  refine wS_forP (fun p r S => ∃ (K : Ms) (c3 c4 : Option SV), S = [some (.d (W w)), some (.d (.int (m : Int))), some (.own (.dic (KS K))), c3, c4] ∧ K.Nodup ∧ ∀ u, u ∈ K ↔ u.Sublist p ∧ u.length ≤ m) ⟨[[]], none, none, rfl, by simp, fun u => ?_⟩ ?_ ?_
  · constructor
    · intro hu
      rw [List.mem_singleton.mp hu]
      exact ⟨List.Sublist.refl _, by simp⟩
    · rintro ⟨hu, _⟩
      simpa using hu
  · rintro p x r S e ⟨K, c3, c4, rfl, nd, hK⟩
    have hpw : IsW k p := fun y hy => hw y (by rw [e]; simp [hy])
    have hxw := hw x (by rw [e]; simp)
    have hKw : ∀ u ∈ K, u.length ≤ m ∧ IsW k u := fun u hu => ⟨((hK u).mp hu).2, subW hpw ((hK u).mp hu).1⟩
    simp [KS_keys]
    unfold LW
    refine wS_forP (fun q r S => ∃ (K' : Ms) (c4 : Option SV), S = [some (.d (W w)), some (.d (.int (m : Int))), some (.own (.dic (KS K'))), some (.d (.int x)), c4] ∧ K'.Nodup ∧ ∀ u, u ∈ K' ↔ u ∈ K ∨ ∃ v ∈ q, v.length < m ∧ u = v ++ [x]) ⟨K, c4, rfl, nd, by simp⟩ ?_ ?_
    · rintro q v r2 S e2 ⟨K', c4, rfl, nd', hK'⟩
      have hqK : ∀ v ∈ q, v ∈ K := fun v hv => by rw [e2]; simp [hv]
      have hv : v ∈ K := by rw [e2]; simp
      have hvl := (hKw v hv).1
      have hK7 : K'.length ≤ 7 := few nd' fun u hu => by
        rcases (hK' u).mp hu with h2 | ⟨v2, h2, h3, rfl⟩
        · exact hKw u h2
        · have := hKw v2 (hqK v2 h2)
          exact ⟨by simp; omega, isW_app this.2 fun y hy => by rw [List.mem_singleton.mp hy]; exact hxw⟩
      have el : ∀ {S : FS} {QV : SV → FS → Prop}, Fz.wE (pAdd (W v) (.tuple [.int x]) S) QV = (v.length + 1 ≤ sizeLine ∧ QV (.d (W (v ++ [x]))) S) := fun {S QV} => by
        unfold W
        rw [wE_pAdd_t]
        simp
      simp [el, kOk_KS, dPut_KS]
      refine ⟨fun hm => ⟨szL (by omega), szS (by omega), addN K' (v ++ [x]), rfl, addN_nodup nd', fun u => ?_⟩, fun hm => ⟨K', rfl, nd', fun u => ?_⟩⟩
      · rw [addN_mem, hK']
        constructor
        · rintro ((h1 | ⟨v2, h1, h2, h3⟩) | rfl)
          · exact .inl h1
          · exact .inr (.inl ⟨v2, h1, h2, h3⟩)
          · exact .inr (.inr ⟨by omega, rfl⟩)
        · rintro (h1 | ⟨v2, h1, h2, h3⟩ | ⟨_, h3⟩)
          · exact .inl (.inl h1)
          · exact .inl (.inr ⟨v2, h1, h2, h3⟩)
          · exact .inr h3
      · rw [hK']
        constructor
        · rintro (h1 | ⟨v2, h1, h2, h3⟩)
          · exact .inl h1
          · exact .inr (.inl ⟨v2, h1, h2, h3⟩)
        · rintro (h1 | ⟨v2, h1, h2, h3⟩ | ⟨h2, _⟩)
          · exact .inl h1
          · exact .inr ⟨v2, h1, h2, h3⟩
          · omega
    · rintro S ⟨K', c4, rfl, nd', hK'⟩
      refine ⟨K', ⟨_, _, rfl⟩, nd', fun u => ?_⟩
      rw [hK']
      constructor
      · rintro (h1 | ⟨v, h1, h2, rfl⟩)
        · exact ⟨((hK u).mp h1).1.trans (List.sublist_append_left p [x]), ((hK u).mp h1).2⟩
        · exact ⟨((hK v).mp h1).1.append (List.Sublist.refl [x]), by simp; omega⟩
      · rintro ⟨h1, h2⟩
        rcases sub_snoc' h1 with h3 | ⟨v, ev, h3⟩
        · exact .inl ((hK u).mpr ⟨h3, h2⟩)
        · subst ev
          simp at h2
          exact .inr ⟨v, (hK v).mpr ⟨h3, by omega⟩, by omega, rfl⟩
  · rintro S ⟨K, c3, c4, rfl, nd, hK⟩
    simp [KS_keys, sortD_LW]
    refine ⟨sortOk_LW fun u hu => by have := ((hK u).mp hu).2; omega, ?_⟩
    have : sortW K = mkW k m w := strict_uniq (sortW_strict nd) mkW_asc fun u => by
      rw [sortW_mem, hK, mkW_mem]
      constructor
      · exact fun h => ⟨⟨h.2, subW hw h.1⟩, h.1⟩
      · exact fun h => ⟨h.2, h.1.1⟩
    rw [this]
    exact h
end
end DL
end

section
set_option Elab.async false
set_option linter.all false
set_option maxRecDepth 100000
set_option maxHeartbeats 4000000
/-! S89: the law's first words, by lengths. -/
namespace DL
open PySem L2 Fz SrtO
theorem mkW_pws {k m : Nat} {w : List Int} : mkW k m w ∈ pws (aw k m) := pws_mem mkW_sub
theorem few_marks {k m : Nat} (h1 : 1 ≤ k) (hk : k + m ≤ 4) {fs : List (Ms × List Int)} (nd : (fs.map (·.1)).Nodup) (ok : ∀ p ∈ fs, p.1 = mkW k m p.2) : fs.length ≤ 128 := by
  have h := Fz.nodup_len _ (pws (aw k m)) nd fun x hx => by
    obtain ⟨p, hp, rfl⟩ := List.mem_map.mp hx
    rw [ok p hp]; exact mkW_pws
  rw [pws_len, List.length_map] at h
  have h2 : 2 ^ (aw k m).length ≤ 2 ^ 7 := Nat.pow_le_pow_right (by omega) (aw_few h1 hk)
  omega
/-- ahead of a length -/
structure LF (k m n : Nat) (fs : List (Ms × List Int)) (last : Ms) : Prop where
  ok : ∀ p ∈ fs, p.1 = mkW k m p.2 ∧ IsW k p.2 ∧ p.2.length < n
  nd : (fs.map (·.1)).Nodup
  asc : fs.Pairwise fun p q => slt p.2 q.2
  lasc : last.Pairwise slt
  lw : ∀ w ∈ last, IsW k w ∧ w.length = n
  nil : (∃ p ∈ fs, p.2 = []) ∨ [] ∈ last
  clo : ∀ p ∈ fs, ∀ x : Int, 0 ≤ x → x < k → p.2 ++ [x] ∈ last ∨ ∃ q ∈ fs, q.1 = mkW k m (p.2 ++ [x]) ∧ sle q.2 (p.2 ++ [x])
  nl : last ≠ [] → n ≤ fs.length
  ll : last.length ≤ 3 * fs.length + 1
/-- within a length -/
structure LI (k m n c : Nat) (fs : List (Ms × List Int)) (p r more : Ms) : Prop where
  ok : ∀ q ∈ fs, q.1 = mkW k m q.2 ∧ IsW k q.2 ∧ q.2.length ≤ n
  nd : (fs.map (·.1)).Nodup
  asc : fs.Pairwise fun p q => slt p.2 q.2
  lasc : (p ++ r).Pairwise slt
  lw : ∀ w ∈ p ++ r, IsW k w ∧ w.length = n
  bel : ∀ q ∈ fs, ∀ w ∈ r, slt q.2 w
  cl : ∀ w ∈ p, ∃ q ∈ fs, q.1 = mkW k m w ∧ sle q.2 w
  masc : more.Pairwise slt
  mw : ∀ w ∈ more, IsW k w ∧ w.length = n + 1
  msrc : ∀ w ∈ more, ∃ v ∈ p, ∃ x, w = v ++ [x]
  nil : (∃ q ∈ fs, q.2 = []) ∨ [] ∈ r
  clo : ∀ q ∈ fs, ∀ x : Int, 0 ≤ x → x < k → (q.2.length < n → q.2 ++ [x] ∈ p ++ r ∨ ∃ q' ∈ fs, q'.1 = mkW k m (q.2 ++ [x]) ∧ sle q'.2 (q.2 ++ [x])) ∧ (q.2.length = n → q.2 ++ [x] ∈ more)
  gr : c ≤ fs.length ∧ (more ≠ [] → c < fs.length)
  ml : more.length ≤ 3 * fs.length
section
variable {k m n c : Nat} {fs : List (Ms × List Int)} {last p r more : Ms} {w : List Int}
theorem LF.start : LF k m 0 [] [[]] where
  ok := fun p hp => by simp at hp
  nd := by simp
  asc := .nil
  lasc := by simp
  lw := fun w hw => by rw [List.mem_singleton.mp hw]; exact ⟨fun x hx => by simp at hx, rfl⟩
  nil := .inr (by simp)
  clo := fun p hp => by simp at hp
  nl := fun _ => Nat.zero_le _
  ll := by simp
theorem LF.inner (a : LF k m n fs last) : LI k m n fs.length fs [] last [] where
  ok := fun q hq => let ⟨h1, h2, h3⟩ := a.ok q hq; ⟨h1, h2, by omega⟩
  nd := a.nd
  asc := a.asc
  lasc := by simpa using a.lasc
  lw := by simpa using a.lw
  bel := fun q hq w hw => .inl (by have := (a.ok q hq).2.2; have := (a.lw w hw).2; omega)
  cl := fun w hw => by simp at hw
  masc := .nil
  mw := fun w hw => by simp at hw
  msrc := fun w hw => by simp at hw
  nil := a.nil
  clo := fun q hq x x0 x1 => ⟨fun _ => by simpa using a.clo q hq x x0 x1, fun h => by have := (a.ok q hq).2.2; omega⟩
  gr := ⟨Nat.le_refl _, fun h => (h rfl).elim⟩
  ml := by simp
theorem LI.done (a : LI k m n c fs p [] more) (hn : n ≤ c) : LF k m (n + 1) fs more where
  ok := fun q hq => let ⟨h1, h2, h3⟩ := a.ok q hq; ⟨h1, h2, by omega⟩
  nd := a.nd
  asc := a.asc
  lasc := a.masc
  lw := a.mw
  nil := .inl (a.nil.elim id fun h => by simp at h)
  clo := fun q hq x x0 x1 => by
    obtain ⟨h1, h2, h3⟩ := a.ok q hq
    obtain ⟨g1, g2⟩ := a.clo q hq x x0 x1
    by_cases h : q.2.length = n
    · exact .inl (g2 h)
    · rcases g1 (by omega) with g | g
      · rw [List.append_nil] at g
        exact .inr (a.cl _ g)
      · exact .inr g
  nl := fun h => by have := a.gr.2 h; omega
  ll := by have := a.ml; omega
theorem LI.old (a : LI k m n c fs p (w :: r) more) (h : mkW k m w ∈ fs.map (·.1)) : LI k m n c fs (p ++ [w]) r more where
  ok := a.ok
  nd := a.nd
  asc := a.asc
  lasc := by have := a.lasc; simpa using this
  lw := by have := a.lw; simpa using this
  bel := fun q hq v hv => a.bel q hq v (by simp [hv])
  cl := fun v hv => by
    rcases List.mem_append.mp hv with hv | hv
    · exact a.cl v hv
    · rw [List.mem_singleton.mp hv]
      obtain ⟨q, hq, e⟩ := List.mem_map.mp h
      exact ⟨q, hq, e, .inr (a.bel q hq w (by simp))⟩
  masc := a.masc
  mw := a.mw
  msrc := fun v hv => let ⟨u, hu, x, e⟩ := a.msrc v hv; ⟨u, by simp [hu], x, e⟩
  nil := by
    rcases a.nil with h2 | h2
    · exact .inl h2
    · rcases List.mem_cons.mp h2 with h3 | h3
      · obtain ⟨q, hq, e⟩ := List.mem_map.mp h
        have := a.bel q hq w (by simp)
        rw [← h3] at this
        rcases this with z | ⟨z, y⟩
        · simp at z
        · refine .inl ⟨q, hq, ?_⟩
          exact List.length_eq_zero_iff.mp (by simpa using z)
      · exact .inr h3
  clo := fun q hq x x0 x1 => by have := a.clo q hq x x0 x1; simpa using this
  gr := a.gr
  ml := a.ml
def extW (k : Nat) (w : List Int) : Ms := (List.range k).map fun i : Nat => w ++ [(i : Int)]
theorem extW_mem {x : Int} (x0 : 0 ≤ x) (x1 : x < k) : w ++ [x] ∈ extW k w := List.mem_map.mpr ⟨x.toNat, List.mem_range.mpr (by omega), by rw [show ((x.toNat : Nat) : Int) = x by omega]⟩
theorem extW_of {u : List Int} (h : u ∈ extW k w) : ∃ x : Int, u = w ++ [x] ∧ 0 ≤ x ∧ x < k := by
  obtain ⟨i, hi, rfl⟩ := List.mem_map.mp h
  exact ⟨i, rfl, by omega, by have := List.mem_range.mp hi; omega⟩
theorem extW_asc : (extW k w).Pairwise slt := by
  unfold extW
  rw [List.pairwise_map]
  exact List.pairwise_lt_range.imp fun {i j} h => slt_last (by omega)
theorem LI.new (h3 : k ≤ 3) (a : LI k m n c fs p (w :: r) more) (h : mkW k m w ∉ fs.map (·.1)) : LI k m n c (fs ++ [(mkW k m w, w)]) (p ++ [w]) r (more ++ extW k w) where
  ok := fun q hq => by
    rcases List.mem_append.mp hq with hq | hq
    · exact a.ok q hq
    · rw [List.mem_singleton.mp hq]
      have := a.lw w (by simp)
      exact ⟨rfl, this.1, by simp [this.2]⟩
  nd := by
    rw [List.map_append, List.nodup_append]
    refine ⟨a.nd, by simp, fun x hx y hy => ?_⟩
    simp at hy
    rw [hy]
    exact fun e => h (e ▸ hx)
  asc := by
    rw [List.pairwise_append]
    refine ⟨a.asc, by simp, fun q hq y hy => ?_⟩
    rw [List.mem_singleton.mp hy]
    exact a.bel q hq w (by simp)
  lasc := by have := a.lasc; simpa using this
  lw := by have := a.lw; simpa using this
  bel := fun q hq v hv => by
    rcases List.mem_append.mp hq with hq | hq
    · exact a.bel q hq v (by simp [hv])
    · rw [List.mem_singleton.mp hq]
      have := (List.pairwise_append.mp a.lasc).2.1
      exact (List.pairwise_cons.mp this).1 v hv
  cl := fun v hv => by
    rcases List.mem_append.mp hv with hv | hv
    · obtain ⟨q, hq, e⟩ := a.cl v hv
      exact ⟨q, by simp [hq], e⟩
    · rw [List.mem_singleton.mp hv]
      exact ⟨(mkW k m w, w), by simp, rfl, .inl rfl⟩
  masc := by
    rw [List.pairwise_append]
    refine ⟨a.masc, extW_asc, fun u hu v hv => ?_⟩
    obtain ⟨z, hz, x, rfl⟩ := a.msrc u hu
    obtain ⟨y, rfl, _, _⟩ := extW_of hv
    exact slt_snoc ((List.pairwise_append.mp a.lasc).2.2 z hz w (by simp))
  mw := fun v hv => by
    rcases List.mem_append.mp hv with hv | hv
    · exact a.mw v hv
    · obtain ⟨y, rfl, y0, y1⟩ := extW_of hv
      have := a.lw w (by simp)
      exact ⟨isW_app this.1 fun z hz => by rw [List.mem_singleton.mp hz]; exact ⟨y0, y1⟩, by simp [this.2]⟩
  msrc := fun v hv => by
    rcases List.mem_append.mp hv with hv | hv
    · obtain ⟨u, hu, x, e⟩ := a.msrc v hv
      exact ⟨u, by simp [hu], x, e⟩
    · obtain ⟨y, rfl, _, _⟩ := extW_of hv
      exact ⟨w, by simp, y, rfl⟩
  nil := by
    rcases a.nil with ⟨q, hq, e⟩ | h2
    · exact .inl ⟨q, by simp [hq], e⟩
    · rcases List.mem_cons.mp h2 with h3 | h3
      · exact .inl ⟨(mkW k m w, w), by simp, h3.symm⟩
      · exact .inr h3
  clo := fun q hq x x0 x1 => by
    rcases List.mem_append.mp hq with hq | hq
    · obtain ⟨g1, g2⟩ := a.clo q hq x x0 x1
      refine ⟨fun h => ?_, fun h => by simp [g2 h]⟩
      rcases g1 h with g | ⟨q', hq', g⟩
      · exact .inl (by simpa using g)
      · exact .inr ⟨q', by simp [hq'], g⟩
    · rw [List.mem_singleton.mp hq]
      have := (a.lw w (by simp)).2
      exact ⟨fun h => by simp at h; omega, fun _ => by simp [extW_mem x0 x1]⟩
  gr := ⟨by have := a.gr.1; simp; omega, fun _ => by have := a.gr.1; simp; omega⟩
  ml := by
    have := a.ml
    simp [extW]
    omega
theorem LF.fin (h1 : 1 ≤ k) (hk : k + m ≤ 4) (a : LF k m n fs []) (hn : ∀ p ∈ fs, p.2.length ≤ 128) : FinW k m fs where
  ok := fun p hp => ⟨(a.ok p hp).1, (a.ok p hp).2.1⟩
  nd := a.nd
  asc := a.asc
  cov := by
    refine snoc_rec (fun _ => ?_) fun u l ih hv => ?_
    · rcases a.nil with ⟨p, hp, e⟩ | h
      · exact ⟨p, hp, by rw [(a.ok p hp).1, e], .inl e⟩
      · simp at h
    · obtain ⟨q, hq, e, hle⟩ := ih fun x hx => hv x (by simp [hx])
      have hl := hv l (by simp)
      rcases a.clo q hq l hl.1 hl.2 with h | ⟨q2, hq2, e2, hle2⟩
      · simp at h
      · refine ⟨q2, hq2, ?_, sle_trans hle2 (sle_snoc hle)⟩
        rw [e2, mkW_snoc hl.1 hl.2, mkW_snoc hl.1 hl.2, ← e, (a.ok q hq).1]
  big := few_marks h1 hk a.nd fun p hp => (a.ok p hp).1
  len := hn
end
end DL
end

section
set_option Elab.async false
set_option linter.all false
set_option maxRecDepth 100000
set_option maxHeartbeats 4000000
/-! S61: the law's own least machines, walked. -/
namespace DL
open PySem L2 Fz SrtO
variable {M : Mc} {c cs : List Int} {many : Nat} {keys ks : List (List Int)}
section
variable (M) (x y : D)
end
section
variable (M) (x y : D) (c : List Int) (c3 c4 c5 c6 c7 c10 : Option SV) (c0 : Int) (δ : Int → Nat → Int)
end
end DL
end

section
set_option Elab.async false
set_option linter.all false
set_option maxRecDepth 100000
set_option maxHeartbeats 4000000
/-! S62: the law's sets of states, walked. -/
namespace DL
open PySem L2 Fz SrtO
section
variable {M : Mc}
end
end DL
end

section
set_option Elab.async false
set_option linter.all false
set_option maxRecDepth 100000
set_option maxHeartbeats 4000000
/-! S63: machines that the law makes of nodes. -/
namespace DL
open PySem L2 Fz SrtO
section
variable (k : Nat) (so dt : D) (st : List Int) (δ : List Int → Nat → List Int) (U : List (List Int))
end
end DL
end

section
set_option Elab.async false
set_option linter.all false
set_option maxRecDepth 100000
set_option maxHeartbeats 4000000
/-! S64: the machine of what is left when letters are lost, as the law makes it. -/
namespace DL
open PySem L2 Fz SrtO
section
variable {M : Mc}
/-! ### walked -/
end
end DL
end

section
set_option Elab.async false
set_option linter.all false
set_option maxRecDepth 100000
set_option maxHeartbeats 4000000
/-! S65: leaks of machines, walked. -/
namespace DL
open PySem L2 Fz SrtO
/-! ### nodes -/
section
variable {M : Mc}
/-! ### what is told -/
end
end DL
end

section
set_option Elab.async false
set_option linter.all false
set_option maxRecDepth 100000
set_option maxHeartbeats 4000000
/-! S66: the source of drawn numbers of the laws k30 and up. -/
namespace DL
open PySem L2 Fz
end DL
end

section
set_option Elab.async false
set_option linter.all false
set_option maxRecDepth 100000
set_option maxHeartbeats 4000000
/-! S67: drawn machines of the laws k30 and up. -/
namespace DL
open PySem L2 Fz
section
variable (c0 : Nat) (k most many : Nat) (way : Int)
end
end DL
end

section
set_option Elab.async false
set_option linter.all false
set_option maxRecDepth 100000
set_option maxHeartbeats 4000000
/-! S68: what the law k32 looks at. -/
namespace DL
open PySem L2 Fz
section
variable {M : Mc}
end
end DL
end

section
set_option Elab.async false
set_option linter.all false
set_option maxRecDepth 100000
set_option maxHeartbeats 4000000
/-! S69: the machine of words in which taken ones are strewn, as the law makes it. -/
namespace DL
open PySem L2 Fz SrtO
section
variable {M : Mc}
/-! ### walked -/
end
end DL
end

section
set_option Elab.async false
set_option linter.all false
set_option maxRecDepth 100000
set_option maxHeartbeats 4000000
/-! M27: least words of machines, by their states, longer and longer ones. -/
namespace DL
open PySem L2 Fz SrtO
section
variable {M : Mc}
end
end DL
end

section
set_option Elab.async false
set_option linter.all false
set_option maxRecDepth 100000
set_option maxHeartbeats 4000000
/-! S70: least words of machines, walked. -/
namespace DL
open PySem L2 Fz SrtO
section
variable {M : Mc}
end
end DL
end

section
set_option Elab.async false
set_option linter.all false
set_option maxRecDepth 100000
set_option maxHeartbeats 4000000
/-! S71: bases told, looked at. -/
namespace DL
open PySem L2 Fz SrtO
section
variable {M : Mc}
end
end DL
end

section
set_option Elab.async false
set_option linter.all false
set_option maxRecDepth 100000
set_option maxHeartbeats 4000000
/-! S80: formulas of strewn words. -/
namespace DL
open PySem L2 Fz
theorem isS : isT "str" "str" = true ∧ isT "tuple" "tuple" = true := by decide
end DL
end

section
set_option Elab.async false
set_option linter.all false
set_option maxRecDepth 100000
set_option maxHeartbeats 4000000
/-! S81: what a start leads to, as met; the least machine of rows and ends. -/
namespace DL
open PySem L2 Fz SrtO
end DL
end

section
set_option Elab.async false
set_option linter.all false
set_option maxRecDepth 100000
set_option maxHeartbeats 4000000
/-! S82: the least machine of rows and ends, as the law makes it (sorts numbered anew until there are no more). -/
namespace DL
open PySem L2 Fz SrtO
section
variable (M : Mc) (x y : D)
end
variable {M : Mc}
end DL
end

section
set_option Elab.async false
set_option linter.all false
set_option maxRecDepth 100000
set_option maxHeartbeats 4000000
/-! S83: the law's formulas: drawn, their words, their truth. -/
namespace DL
open PySem L2 Fz SrtO
/-! ### loops over lists written out -/
section
variable {g : D → FS → Option FS} {b : FS → SRes} {t : FS → Res Bool} {fe : FS → Res D} {vs : List Nat} {d : D} {ds acc : List D} {S : FS} {N : FS → Prop} {R : SV → FS → Prop} {B C : FS → Prop} {Q : SV → FS → Prop}
end
theorem drawn2_w {c : Nat} {o : Ob} {k : Int} {most : Nat} (ho : Wk c o) (hc : c ≤ 900000000) (hk : 1 ≤ k) (hk2 : k ≤ 3) (hm2 : most ≤ 50) {Q : SV → List SV → Prop} (h : ∀ o' xs, Wk (c + most + 1) o' → IsW k xs → xs.length ≤ most → Q (.d (W xs)) [.pin o', .d (.int k), .d (.int (most : Int))]) : wC (d__law_word_2 [.pin o, .d (.int k), .d (.int (most : Int))]) Q := by
  unfold d__law_word_2
  rw [wC_denOf]
  simp [b__law_word_2, wE_callD]
  refine draw_w ho (by omega) (by omega) (by omega) ?_
  intro o1 n ho1 hn0 hn1
  simp
  refine ⟨by omega, ?_⟩
  rw [rng0]
  refine wE_lcF (fun i acc S => ∃ (o' : Ob) (xs : List Int) (c3 : Option SV), Wk (c + 1 + i) o' ∧ acc = xs.map .int ∧ IsW k xs ∧ xs.length = i ∧ i ≤ n.toNat ∧ S = [some (.pin o'), some (.d (.int k)), some (.d (.int (most : Int))), c3]) ⟨o1, [], none, by simpa using ho1, rfl, fun _ h => absurd h (by simp), rfl, by omega, rfl⟩ ?_ ?_
  · rintro i d acc S hd ⟨o', xs, c3, ho', rfl, hx, hl, hi, rfl⟩
    have hil := (List.getElem?_eq_some_iff.mp hd).1
    simp at hil
    simp [wE_callD]
    refine draw_w ho' (by omega) (by omega) (by omega) ?_
    intro o2 r ho2 r0 r1
    simp
    refine ⟨szS (by omega), o2, ?_, xs ++ [r], by simp, ?_, by simp; omega, by omega, rfl⟩
    · exact ho2.up (by omega)
    · intro x hx2
      rcases List.mem_append.mp hx2 with q | q
      · exact hx x q
      · rw [List.mem_singleton.mp q]; exact ⟨r0, r1⟩
  · rintro acc S ⟨o', xs, c3, ho', rfl, hx, hl, hi, rfl⟩
    simp
    simp at hl
    exact h o' xs (ho'.up (by simp; omega)) hx (by omega)
end DL
end

section
set_option Elab.async false
set_option linter.all false
set_option maxRecDepth 100000
set_option maxHeartbeats 4000000
/-! S90: the law's first words, walked. -/
namespace DL
open PySem L2 Fz SrtO
def LenF (fs : List (Ms × List Int)) : Prop := ∀ p ∈ fs, p.2.length ≤ 128
section
variable {k m : Nat}
theorem rng_nat {n : Nat} : rngD 0 n = (List.range n).map fun i : Nat => PyData.int (i : Int) := by simp [rngD]
theorem law_firsts_w (h1 : 1 ≤ k) (h3 : k ≤ 3) (hk : k + m ≤ 4) {Q : SV → List SV → Prop} (h : ∀ ps, FinW k m ps → Q (.own (.dic (DMs ps))) [.d (.int (k : Int)), .d (.int (m : Int))]) : wC (d__law_firsts [.d (.int (k : Int)), .d (.int (m : Int))]) Q := by
  unfold d__law_firsts
  rw [wC_denOf]
  simp [b__law_firsts, wE_callD]
  refine wS_while (fun n0 S => ∃ (n : Nat) (fs : List (Ms × List Int)) (last : Ms) (sv : SV) (c4 c5 c6 c7 : Option SV), LF k m n fs last ∧ LenF fs ∧ n0 = 2 * (128 - fs.length) + (if last = [] then 0 else 1) ∧ (sv = .own (.lst (LW last)) ∨ sv = .d (.list (LW last))) ∧ S = [some (.d (.int (k : Int))), some (.d (.int (m : Int))), some (.own (.dic (DMs fs))), some sv, c4, c5, c6, c7]) 257 ⟨0, [], [[]], _, none, none, none, none, LF.start, fun p hp => by simp at hp, by simp, .inl rfl, rfl⟩ ?_
  rintro n0 S ⟨n, fs, last, sv, c4, c5, c6, c7, a, hlen, rfl, hsv, rfl⟩
  have big := few_marks h1 hk a.nd fun p hp => (a.ok p hp).1
  have lwl : ∀ w ∈ last, w.length ≤ 128 := fun w hw => by
    have := a.nl (fun z => by rw [z] at hw; simp at hw)
    have := (a.lw w hw).2
    omega
  have ll := a.ll
  have e1 : eqOk (.list (LW last)) (.list []) = true := eqOk_LW0 (by omega) fun w hw => by have := lwl w hw; omega
  have body : last ≠ [] → wS (forF (gN 5) (fSeq (fSetD 6 (fCall (one pTuple) (fCons (fFrz (fCallP d__law_parts 2 (fAD (fVar 5) (fAD (fVar 1) (fC []))))) (fC [])))) (fIf (fT (fDIn false 2 (fVar 6))) (fSeq (fDPut 2 (fVar 5) (fVar 6)) (fSet 4 (fOpN pAdd 4 (fFrz (fLc (fRange1 (fVar 0)) (gN 7) (fC true) (fFrz (fOpN pAdd 5 (fTup (fCons (fVar 7) (fC []))))) [7]))))) (fun S => .nx S))) (LW last) [some (.d (.int (k : Int))), some (.d (.int (m : Int))), some (.own (.dic (DMs fs))), some (.d (.list (LW last))), some (.own (.lst [])), c5, c6, c7])
      (fun S => ∃ (fs' : List (Ms × List Int)) (more : Ms) (c5 c6 c7 : Option SV), LI k m n fs.length fs' last [] more ∧ LenF fs' ∧ S = [some (.d (.int (k : Int))), some (.d (.int (m : Int))), some (.own (.dic (DMs fs'))), some (.d (.list (LW last))), some (.own (.lst (LW more))), c5, c6, c7]) (fun _ _ => False) (fun _ => False) (fun _ => False) := fun hne => by
    unfold LW
    refine wS_forP (fun p r S => ∃ (fs' : List (Ms × List Int)) (more : Ms) (c5 c6 c7 : Option SV), LI k m n fs.length fs' p r more ∧ LenF fs' ∧ S = [some (.d (.int (k : Int))), some (.d (.int (m : Int))), some (.own (.dic (DMs fs'))), some (.d (.list (LW last))), some (.own (.lst (LW more))), c5, c6, c7]) ⟨fs, [], c5, c6, c7, a.inner, hlen, rfl⟩ ?_ ?_
    · rintro p w r S e ⟨fs', more, c5, c6, c7, b, hlen', rfl⟩
      have hw := b.lw w (by simp)
      have hwl := lwl w (by rw [e]; simp)
      have big := few_marks h1 hk b.nd fun p hp => (b.ok p hp).1
      simp [wE_callD]
      refine law_parts3_w h1 hk hw.1 ?_
      have eT : PyData.tuple (LW (mkW k m w)) = mD (mkW k m w) := rfl
      simp [eT, kOk_DMs, dHas_DMs]
      refine ⟨fun hout => ?_, fun z hin => ⟨fs', more, b.old (List.mem_map.mpr ⟨_, hin, rfl⟩), hlen', rfl, rfl⟩⟩
      have hout2 : mkW k m w ∉ fs'.map (·.1) := fun z => by
        obtain ⟨⟨p, q⟩, hp, e⟩ := List.mem_map.mp z
        have e : p = _ := e
        subst e
        exact hout q hp
      have el : ∀ {x : Int} {S : FS} {QV : SV → FS → Prop}, Fz.wE (pAdd (W w) (.tuple [.int x]) S) QV = (w.length + 1 ≤ sizeLine ∧ QV (.d (W (w ++ [x]))) S) := fun {x S QV} => by
        unfold W
        rw [wE_pAdd_t]
        simp
      refine ⟨szS (by rw [dMs_len]; omega), by omega, ?_⟩
      rw [rng_nat]
      refine lc_w (xs := List.range k) (fun _ => true) (fun i : Nat => W (w ++ [(i : Int)])) (fun S => ∃ c7, S = [some (.d (.int (k : Int))), some (.d (.int (m : Int))), some (.own (.dic (dPut (DMs fs') (mD (mkW k m w)) (W w)))), some (.d (.list (LW last))), some (.own (.lst (LW more))), some (.d (W w)), some (.d (mD (mkW k m w))), c7]) ⟨c7, rfl⟩ (by rw [List.length_range]; omega) ?_ ?_
      · rintro i hi S ⟨c7, rfl⟩
        simp [el]
        exact szL (by omega)
      · rintro S ⟨c7, rfl⟩
        have ml := b.ml
        have ef : ((List.range k).filter fun _ => true).map (fun i : Nat => W (w ++ [(i : Int)])) = LW (extW k w) := by
          rw [List.filter_eq_self.mpr fun _ _ => rfl]
          unfold LW extW
          rw [List.map_map]; rfl
        rw [ef, dPut_DMs hout2]
        simp
        refine ⟨szL (by simp [LW, extW]; omega), fs' ++ [(mkW k m w, w)], more ++ extW k w, b.new h3 hout2, fun p hp => ?_, rfl, ?_⟩
        · rcases List.mem_append.mp hp with hp | hp
          · exact hlen' p hp
          · rw [List.mem_singleton.mp hp]; exact hwl
        · unfold LW; rw [List.map_append]
    · rintro S h
      exact h
  have fin : ∀ (fs' : List (Ms × List Int)) (more : Ms), LI k m n fs.length fs' last [] more → last ≠ [] → LF k m (n + 1) fs' more ∧ 2 * (128 - fs'.length) + (if more = [] then 0 else 1) < 2 * (128 - fs.length) + 1 := fun fs' more b hne => by
    have big' := few_marks h1 hk b.nd fun p hp => (b.ok p hp).1
    refine ⟨b.done (a.nl hne), ?_⟩
    have := b.gr
    by_cases hm : more = []
    · rw [if_pos hm]; omega
    · rw [if_neg hm]; have := this.2 hm; omega
  rcases hsv with rfl | rfl
  · simp [e1, eqv_LW0]
    refine ⟨fun hne0 => ?_, fun he => ?_⟩
    · have hne : last ≠ [] := fun z => hne0 (by rw [z]; rfl)
      refine (body hne).imp ?_ (fun _ _ h => h.elim) (fun _ h => h.elim) (fun _ h => h.elim)
      rintro S ⟨fs', more, c5, c6, c7, b, hlen', rfl⟩
      obtain ⟨b1, b2⟩ := fin fs' more b hne
      simp
      rw [if_neg hne]
      exact ⟨_, b2, n + 1, fs', more, b1, hlen', rfl, rfl, rfl⟩
    · have he : last = [] := List.map_eq_nil_iff.mp he
      subst he
      exact h fs (a.fin h1 hk hlen)
  · simp [e1, eqv_LW0]
    refine ⟨fun hne0 => ?_, fun he => ?_⟩
    · have hne : last ≠ [] := fun z => hne0 (by rw [z]; rfl)
      refine (body hne).imp ?_ (fun _ _ h => h.elim) (fun _ h => h.elim) (fun _ h => h.elim)
      rintro S ⟨fs', more, c5, c6, c7, b, hlen', rfl⟩
      obtain ⟨b1, b2⟩ := fin fs' more b hne
      simp
      rw [if_neg hne]
      exact ⟨_, b2, n + 1, fs', more, b1, hlen', rfl, rfl, rfl⟩
    · have he : last = [] := List.map_eq_nil_iff.mp he
      subst he
      exact h fs (a.fin h1 hk hlen)
end
end DL
end

section
set_option Elab.async false
set_option linter.all false
set_option maxRecDepth 100000
set_option maxHeartbeats 4000000
/-! S91: the shell of the laws k60 and up, slots without lists; first words as a function. -/
namespace DL
open PySem L2 Fz SrtO
theorem shell2I {n : Nat} {m : Int} {body : FS → SRes} {ns : List Int} (hm : 1 ≤ m) (hm2 : m ≤ 63) (h : ns.length ≤ 63) (hbits : ∀ z ∈ ns, Builtin.Int.intBits z ≤ 1048576)
    (hb : ∀ (at_ : Nat) (o : Ob) (r : FS), at_ < 63 → Wk 0 o → r.length = n → Cl r → wS (body (some (.d (scriptD ns)) :: some (.d (.int at_)) :: some (.own o) :: r)) (fun S => ∃ b c r', r'.length = n ∧ Cl r' ∧ S = some (.d (scriptD ns)) :: b :: c :: r') (fun _ _ => False) (fun _ => False) (fun _ => False)) :
    ∃ l, denOf (n + 3) (shellF2 m body) [.d (scriptD ns)] = .ok (.d (.bool true)) l := by
  suffices wC (denOf (n + 3) (shellF2 m body) [.d (scriptD ns)]) fun v l => v = .d (.bool true) by
    obtain ⟨v, l, e, rfl⟩ := this.ok
    exact ⟨l, e⟩
  rw [wC_denOf]
  unfold shellF2
  simp only [wS_fSeq]
  refine wS.imp (N := fun S => ∃ b c r, r.length = n ∧ Cl r ∧ S = some (.d (scriptD ns)) :: b :: c :: r) ?_ ?_ (fun _ _ z => z) (fun _ z => z) (fun _ z => z)
  · have hq : ∃ q : Int, (if 1 < if (ns.length : Int) < m then (ns.length : Int) else m then if (ns.length : Int) < m then (ns.length : Int) else m else 1) = q ∧ 0 ≤ q ∧ q ≤ 63 := ⟨_, rfl, by split <;> (try split) <;> omega, by split <;> (try split) <;> omega⟩
    obtain ⟨q, e, hq0, hq1⟩ := hq
    simp [scriptD, e]
    refine ⟨by omega, ?_⟩
    rw [rng0]
    refine wS_forP (fun _ _ S => ∃ b c r, r.length = n ∧ Cl r ∧ S = some (.d (scriptD ns)) :: b :: c :: r) ⟨none, none, List.replicate n none, by simp, Cl.rep, rfl⟩ ?_ ?_
    · rintro p x r S ee ⟨b, c, r', hr, hc, rfl⟩
      have wo : ∀ {g : Option FS} {x : FS} {k : FS → Prop}, g = some x → k x → wO g k := fun e h => by rw [e]; exact h
      have hx : x < 63 := by
        obtain ⟨rfl, h2⟩ := range_at ee
        omega
      refine wo (x := some (.d (scriptD ns)) :: some (.d (.int (x : Nat))) :: c :: r') rfl ?_
      rw [wS_fSeq]
      refine wS.imp (N := fun S => ∃ o, Wk 0 o ∧ S = some (.d (scriptD ns)) :: some (.d (.int (x : Nat))) :: some (.own o) :: r') ?_ ?_ (fun _ _ z => z) (fun _ z => z) (fun _ z => z)
      · simp [wE_callD]
        refine well2_w (by omega) (by omega) h hbits ?_
        intro o ho
        simp
        exact ho
      · rintro S ⟨o, ho, rfl⟩
        exact wS.imp (hb x o r' (by omega) ho hr hc) (fun _ z => z) (fun _ _ z => z.elim) (fun _ z => z.elim) (fun _ z => z.elim)
    · rintro S ⟨b, c, r', hr, hc, rfl⟩
      exact ⟨_, _, _, hr, hc, rfl⟩
  · rintro S ⟨b, c, r, hr, hc, rfl⟩
    simp [scriptD]

theorem Wk.noL {c : Nat} {o : Ob} (h : Wk c o) : noLOb o = true := by
  obtain ⟨a, b, n, rfl, _⟩ := h
  rfl
section
variable {k m : Nat} {ps : List (Ms × List Int)}
def fwd (k m : Nat) (ps : List (Ms × List Int)) (v : List Int) : List Int := ((ps.find? fun p => decide (p.1 = mkW k m v)).map (·.2)).getD []
theorem FinW.fw (a : FinW k m ps) {v : List Int} (hv : IsW k v) : (mkW k m v, fwd k m ps v) ∈ ps ∧ mkW k m (fwd k m ps v) = mkW k m v ∧ IsW k (fwd k m ps v) ∧ (fwd k m ps v).length ≤ 128 := by
  obtain ⟨q, hq, e, _⟩ := a.cov v hv
  unfold fwd
  cases hf : ps.find? fun p => decide (p.1 = mkW k m v) with
  | none =>
    have := List.find?_eq_none.mp hf q hq
    simp [e] at this
  | some p =>
    have hp := List.mem_of_find?_eq_some hf
    have ep : p.1 = mkW k m v := by simpa using List.find?_some hf
    obtain ⟨h1, h2⟩ := a.ok p hp
    simp only [Option.map_some, Option.getD_some]
    exact ⟨by rw [← ep]; exact hp, by rw [← h1, ep], h2, a.len p hp⟩
theorem keysF_LW {den : Den} : ∀ {ws : List (List Int)}, (∀ w ∈ ws, ∃ l, den [.d (W w)] = .ok (.d (keyD w)) l) → keysF den (LW ws) = some (ws.map keyD)
  | [], _ => rfl
  | w :: ws, h => by
    obtain ⟨l, e⟩ := h w (by simp)
    have ih := keysF_LW (den := den) (ws := ws) fun v hv => h v (by simp [hv])
    unfold LW at ih ⊢
    rw [List.map_cons, keysF, e]
    simp only [ih]
    rfl
end
end DL
end

section
set_option Elab.async false
set_option linter.all false
set_option maxRecDepth 100000
set_option maxHeartbeats 8000000
namespace K63
open PySem L2 Fz SrtO DL
abbrev keyE : FS → Res D := fTup (fCons (fCall (one pLen) (fCons (fPeek 0) (fC []))) (fCons (fVar 0) (fC [])))
theorem key_den {cs : List (Option SV)} {w : List Int} : ∃ l, denG (cloG 1 1 keyE cs) [.d (W w)] = .ok (.d (keyD w)) l := by
  have h : wO (cloG 1 1 keyE cs [W w]) fun d => d = keyD w := by
    refine cloG_w rfl ?_
    simp [keyE, startC, keyD]
  cases e : cloG 1 1 keyE cs [W w] with
  | none => rw [e] at h; exact h.elim
  | some d =>
    rw [e] at h
    have h : d = keyD w := h
    subst h
    refine ⟨[.d (W w)], ?_⟩
    unfold denG
    simp [e, keyD, noL, noLs]
theorem noLs_mD : ∀ ps : List (Ms × List Int), noLs (ps.map fun p => mD p.1) = true ∧ noLs (ps.map fun p => W p.2) = true
  | [] => ⟨rfl, rfl⟩
  | p :: ps => by
    obtain ⟨h1, h2⟩ := noLs_mD ps
    exact ⟨by rw [List.map_cons, noLs, h1]; simp [mD, noL], by rw [List.map_cons, noLs, h2]; simp⟩
theorem noL_DMs {ps : List (Ms × List Int)} : noLOb (.dic (DMs ps)) = true := by
  have := noLs_mD ps
  simp only [noLOb, DMs, List.map_map, Bool.and_eq_true]
  exact this
theorem noLs_app : ∀ {a b : List D}, noLs a = true → noLs b = true → noLs (a ++ b) = true
  | [], b, _, h => h
  | d :: a, b, h, g => by
    simp only [noLs, Bool.and_eq_true, List.cons_append] at h ⊢
    exact ⟨h.1, noLs_app h.2 g⟩
theorem noLSv_keep {c : Option SV} : noLSv (keepD c) = true := by
  rcases c with _ | (_ | _ | _ | _) <;> rfl
theorem the_law (ns : List Int) (h : ns.length ≤ 63) (hb : ∀ z ∈ ns, Builtin.Int.intBits z ≤ 1048576) : ∃ l, d_law63 [.d (scriptD ns)] = .ok (.d (.bool true)) l := by
  unfold d_law63
  refine shell2I (n := 15) (m := 2) (by decide) (by decide) h hb ?_
  intro at_ o r hat ho hr hcl
  obtain ⟨c3, c4, c5, c6, c7, c8, c9, c10, c11, c12, c13, c14, c15, c16, c17, rfl⟩ : ∃ c3 c4 c5 c6 c7 c8 c9 c10 c11 c12 c13 c14 c15 c16 c17, r = [c3, c4, c5, c6, c7, c8, c9, c10, c11, c12, c13, c14, c15, c16, c17] := by
    match r, hr with
    | [c3, c4, c5, c6, c7, c8, c9, c10, c11, c12, c13, c14, c15, c16, c17], _ => exact ⟨_, _, _, _, _, _, _, _, _, _, _, _, _, _, _, rfl⟩
  simp [Cl, noLS] at hcl
  obtain ⟨n3, n4, n5, n6, n7, n8, n9, n10, n11, n12, n13, n14, n15, n16, n17⟩ := hcl
  simp [wE_callD]
  refine draw_w ho (by omega) (by omega) (by omega) ?_
  intro o1 k0 ho1 hk0 hk1
  obtain ⟨k, hk⟩ : ∃ k : Nat, (1 + k0 : Int) = (k : Int) := ⟨(1 + k0).toNat, by omega⟩
  have k1 : 1 ≤ k := by omega
  have k3 : k ≤ 3 := by omega
  have eix : atI [PyData.int 4, .int 3, .int 2] ((k : Int) - 1) = some (.int (5 - (k : Int))) := by
    have : k = 1 ∨ k = 2 ∨ k = 3 := by omega
    rcases this with rfl | rfl | rfl <;> rfl
  simp [hk, eix, wE_callD]
  refine draw_w ho1 (by omega) (by omega) (by omega) ?_
  intro o2 m0 ho2 hm0 hm1
  obtain ⟨m, rfl⟩ : ∃ m : Nat, m0 = (m : Int) := ⟨m0.toNat, by omega⟩
  have hkm : k + m ≤ 4 := by omega
  simp [wE_callD]
  refine law_firsts_w k1 k3 hkm ?_
  intro ps a
  simp [wE_fSortL, wE_fListVals, wE_pSortL, cloAt, dMs_vals]
  rw [show (fTup (fCons (fCall (one pLen) (fCons (fPeek 0) (fC []))) (fCons (fVar 0) (fC []))) : FS → Res D) = keyE from rfl, keysF_LW fun w _ => key_den]
  have wl := a.wl
  simp [sortK_LW, sortS_id a.slt, wE_callD]
  refine ⟨sortOk_key fun w hw => by have := (a.wd w hw).2; omega, ?_⟩
  refine all_firsts_w k1 k3 hkm a ?_
  have nlo : ∀ {c : Nat} {o : Ob}, Wk c o → noLSv (some (.own o)) = true := fun h => h.noL
  have q2 := nlo ho2
  have nD : noLSv (some (.own (.dic (DMs ps)))) = true := noL_DMs
  have nW : noLSv (some (.own (.lst (LW (wds ps))))) = true := noLs_LW
  simp
  refine thawU_w (ds := LW (wds ps)) rfl ?_ ?_
  · simp [noLS, q2, nD, nW, n8, n9, n10, n11, n12, n13, n14, n15, n16, n17]
  simp [wE_callD]
  have sm : Smal 2 (.list (LW (wds ps))) := .lst (by simp [LW]; omega) (smalLW (by omega) fun w hw => by have := (a.wd w hw).2; omega)
  refine same_w sm (by omega) ?_
  simp [wE_callD]
  refine ⟨by simp [frzd, noLs_LW], szS (by simp [LW]; omega), all_firsts_w k1 k3 hkm a ?_⟩
  simp
  refine all_firsts_w k1 k3 hkm a ?_
  simp
  refine same_w (d := .list [.list (LW (wds ps)), .list (LW (wds ps))]) (k := 3) (.lst (by simp) (.cons sm (.cons sm .nil))) (by omega) ?_
  simp
  have fw := fun {v : List Int} => a.fw (v := v)
  generalize hF : fwd k m ps = F at fw
  have kd : ∀ v, kOk (DMs ps) (.tuple (LW (mkW k m v))) = true := fun v => kOk_DMs (y := mkW k m v)
  have da : ∀ {v}, IsW k v → dAt (DMs ps) (.tuple (LW (mkW k m v))) = some (W (F v)) := fun {v} hv => a.dat (fw hv).1
  refine wS_forF (fun t S => ∃ (o : Ob) (c7 c8 c9 c10 c11 c12 c13 c14 c15 c16 c17 : Option SV), Wk (2 + 18 * t) o ∧ noLSv c7 = true ∧ noLSv c8 = true ∧ noLSv c9 = true ∧ noLSv c10 = true ∧ noLSv c11 = true ∧ noLSv c12 = true ∧ noLSv c13 = true ∧ noLSv c14 = true ∧ noLSv c15 = true ∧ noLSv c16 = true ∧ noLSv c17 = true ∧ S = [some (.d (scriptD ns)), some (.d (.int (at_ : Int))), some (.own o), some (.d (.int (k : Int))), some (.d (.int (m : Int))), some (.own (.dic (DMs ps))), some (.d (.list (LW (wds ps)))), c7, c8, c9, c10, c11, c12, c13, c14, c15, c16, c17]) ⟨o2, _, _, _, _, _, _, _, _, _, _, _, ho2, ?_, n8, n9, n10, n11, n12, n13, n14, n15, n16, n17, rfl⟩ ?_ ?_
  · show noLs (LW (wds ps) ++ [PyData.tuple [.int 9]]) = true
    exact noLs_app noLs_LW rfl
  · rintro t d S hd ⟨o, c7, c8, c9, c10, c11, c12, c13, c14, c15, c16, c17, ho, n7, n8, n9, n10, n11, n12, n13, n14, n15, n16, n17, rfl⟩
    obtain ⟨ht, rfl⟩ := rngD_get hd
    simp [wE_callD]
    refine wE_lcF (fun i acc S => ∃ (o' : Ob) (ws : List (List Int)) (c16 : Option SV), Wk (2 + 18 * t + 6 * i) o' ∧ noLSv c16 = true ∧ acc = ws.map W ∧ ws.length = i ∧ i ≤ 3 ∧ (∀ w ∈ ws, IsW k w ∧ w.length ≤ 5) ∧ S = [some (.d (scriptD ns)), some (.d (.int (at_ : Int))), some (.own o'), some (.d (.int (k : Int))), some (.d (.int (m : Int))), some (.own (.dic (DMs ps))), some (.d (.list (LW (wds ps)))), c7, some (.d (.int (t : Int))), c9, c10, c11, c12, c13, c14, c15, c16, c17]) ⟨o, [], c16, by simpa using ho, n16, rfl, rfl, by omega, by simp, rfl⟩ ?_ ?_
    · rintro i d acc S hd ⟨o', ws, c16, ho', n16, rfl, hl, hi, hw, rfl⟩
      obtain ⟨hi2, rfl⟩ := rngD_get hd
      simp [wE_callD]
      refine drawn2_w (most := 5) ho' (by omega) (by omega) (by omega) (by omega) ?_
      intro o3 xs ho3 hx hxl
      simp
      refine ⟨szS (by omega), o3, ho3.up (by omega), ws ++ [xs], _, noLSv_keep, by simp, by simp; omega, by omega, fun w hm => ?_, rfl, rfl⟩
      rcases List.mem_append.mp hm with hm | hm
      · exact hw w hm
      · rw [List.mem_singleton.mp hm]; exact ⟨hx, hxl⟩
    · rintro acc S ⟨o', ws, c16, ho', n16, rfl, hl, hi, hw, rfl⟩
      simp at hl ho'
      obtain ⟨w1, w2, w3, rfl⟩ : ∃ a b c, ws = [a, b, c] := by
        match ws, hl with
        | [a, b, c], _ => exact ⟨a, b, c, rfl⟩
      simp [wE_callD]
      have hw1 := hw w1 (by simp)
      have hw2 := hw w2 (by simp)
      have hw3 := hw w3 (by simp)
      have eT : [W w1, W w2, W w3] = [w1, w2, w3].map W := rfl
      rw [eT]
      refine lc_w (fun _ => true) (fun w => W (F w)) (fun S => ∃ c17, noLSv c17 = true ∧ S = [some (.d (scriptD ns)), some (.d (.int (at_ : Int))), some (.own o'), some (.d (.int (k : Int))), some (.d (.int (m : Int))), some (.own (.dic (DMs ps))), some (.d (.list (LW (wds ps)))), c7, some (.d (.int (t : Int))), some (.d (W w1)), some (.d (W w2)), some (.d (W w3)), c12, c13, c14, c15, c16, c17]) ⟨c17, n17, rfl⟩ (by simp) ?_ ?_
      · rintro w hw' S ⟨c17, n17, rfl⟩
        simp [wE_callD]
        refine law_parts3_w k1 hkm (hw w hw').1 ?_
        simp [kd, da (hw w hw').1]
      · rintro S ⟨c17, n17, rfl⟩
        simp [wE_callD]
        rw [eT]
        refine lc_w (fun _ => true) (fun w => W (F w)) (fun S => ∃ c17, noLSv c17 = true ∧ S = [some (.d (scriptD ns)), some (.d (.int (at_ : Int))), some (.own o'), some (.d (.int (k : Int))), some (.d (.int (m : Int))), some (.own (.dic (DMs ps))), some (.d (.list (LW (wds ps)))), c7, some (.d (.int (t : Int))), some (.d (W w1)), some (.d (W w2)), some (.d (W w3)), some (.own (.lst [W (F w1), W (F w2), W (F w3)])), c13, c14, c15, c16, c17]) ⟨c17, n17, rfl⟩ (by simp) ?_ ?_
        · rintro w hw' S ⟨c17, n17, rfl⟩
          simp [wE_callD]
          refine first_alike_w k1 k3 hkm a (hw w hw').1 (fw (hw w hw').1).1 ?_
          simp
        · rintro S ⟨c17, n17, rfl⟩
          have f1 := fw hw1.1
          have f2 := fw hw2.1
          have f3 := fw hw3.1
          have w12 := isW_app hw1.1 hw2.1
          have w23 := isW_app hw2.1 hw3.1
          have w123 := isW_app w12 hw3.1
          have f12 := fw w12
          have f23 := fw w23
          have f123 := fw w123
          have sF : ∀ v, IsW k v → Smal 1 (W (F v)) := fun v hv => smalW (by have := (fw hv).2.2.2; omega)
          have sm3 : ∀ {x y z}, IsW k x → IsW k y → IsW k z → Smal 2 (.list [W (F x), W (F y), W (F z)]) := fun hx hy hz => .lst (by simp) (.cons (sF _ hx) (.cons (sF _ hy) (.cons (sF _ hz) .nil)))
          have e12 : mkW k m (F w1 ++ F w2) = mkW k m (w1 ++ w2) := by rw [mkW_app f1.2.1 _ f2.2.2.1, mkW_ahead f2.2.1]
          simp [wE_callD]
          refine same_w (sm3 hw1.1 hw2.1 hw3.1) (by omega) ?_
          simp [wE_callD]
          refine ⟨szL (by omega), law_parts3_w k1 hkm w12 ?_⟩
          simp [kd, da w12, wE_callD]
          refine put_together_w k1 k3 hkm a hw1.1 hw2.1 (by omega) (by omega) f12.1 ?_
          simp [wE_callD]
          refine put_together_w k1 k3 hkm a hw1.1 hw2.1 (by omega) (by omega) f12.1 ?_
          simp [wE_callD]
          refine put_together_w k1 k3 hkm a f1.2.2.1 f2.2.2.1 (by omega) (by omega) (by rw [e12]; exact f12.1) ?_
          simp
          refine thawU_w (ds := [W (F (w1 ++ w2)), W (F (w1 ++ w2)), W (F (w1 ++ w2))]) rfl ?_ ?_
          · have q2 := nlo ho'
            simp [noLS, q2, nD, n14, n15, n16, n17]
            simp [noLSv, noLOb, noLs]
          simp [wE_callD]
          refine same_w (sm3 w12 w12 w12) (by omega) ?_
          simp [wE_callD]
          have w123' : IsW k (w1 ++ (w2 ++ w3)) := isW_app hw1.1 w23
          have f123' := fw w123'
          have e123 : mkW k m (F (w1 ++ w2) ++ w3) = mkW k m (w1 ++ (w2 ++ w3)) := by rw [mkW_app f12.2.1 _ hw3.1, List.append_assoc]
          have e123' : mkW k m (w1 ++ F (w2 ++ w3)) = mkW k m (w1 ++ (w2 ++ w3)) := mkW_ahead f23.2.1 _
          refine ⟨by simp [frzd, noLs], szL (by omega), szL (by omega), law_parts3_w k1 hkm w123' ?_⟩
          simp [kd, da w123', wE_callD]
          refine put_together_w k1 k3 hkm a hw1.1 hw2.1 (by omega) (by omega) f12.1 ?_
          simp [wE_callD]
          refine put_together_w k1 k3 hkm a f12.2.2.1 hw3.1 (by omega) (by omega) (by rw [e123]; exact f123'.1) ?_
          simp [wE_callD]
          refine put_together_w k1 k3 hkm a hw2.1 hw3.1 (by omega) (by omega) f23.1 ?_
          simp [wE_callD]
          refine put_together_w k1 k3 hkm a hw1.1 f23.2.2.1 (by omega) (by omega) (by rw [e123']; exact f123'.1) ?_
          simp
          refine thawU_w (ds := [W (F (w1 ++ (w2 ++ w3))), W (F (w1 ++ (w2 ++ w3)))]) rfl ?_ ?_
          · have q2 := nlo ho'
            simp [noLS, q2, nD, n15, n16, n17]
            simp [noLSv, noLOb, noLs]
          simp [wE_callD]
          refine same_w (d := .list [W (F (w1 ++ (w2 ++ w3))), W (F (w1 ++ (w2 ++ w3)))]) (k := 2) (.lst (by simp) (.cons (sF _ w123') (.cons (sF _ w123') .nil))) (by omega) ?_
          simp [wE_callD]
          have e0 : PyData.tuple [] = W [] := rfl
          rw [e0]
          have w0 : IsW k [] := fun x hx => by simp at hx
          have ws : IsW k (w1.take 2) := fun x hx => hw1.1 x (List.mem_of_mem_take hx)
          have wr : IsW k (repW m (w1.take 2)) := fun x hx => by
            obtain ⟨v, hv, hx⟩ := List.mem_flatten.mp hx
            rw [(List.mem_replicate.mp hv).2] at hx
            exact ws x hx
          have lr : (repW m (w1.take 2)).length ≤ 6 := by
            have h2 : (w1.take 2).length ≤ 2 := by rw [List.length_take]; omega
            have e : (repW m (w1.take 2)).length = m * (w1.take 2).length := by simp [repW]
            rw [e]
            exact Nat.le_trans (Nat.mul_le_mul (show m ≤ 3 by omega) h2) (by decide)
          have fr := fw wr
          refine ⟨by simp [frzd, noLs], put_together_w k1 k3 hkm a hw1.1 w0 (by omega) (by simp) (by rw [List.append_nil]; exact f1.1) ?_⟩
          simp [wE_callD]
          refine put_together_w k1 k3 hkm a w0 hw1.1 (by simp) (by omega) (by rw [List.nil_append]; exact f1.1) ?_
          simp [wE_callD]
          have mm : min 2 w1.length * m ≤ sizeLine := Nat.le_trans (Nat.mul_le_mul (Nat.min_le_left 2 _) (show m ≤ 3 by omega)) (szL (by decide))
          have er : (List.replicate m (List.take 2 w1)).flatten = repW m (w1.take 2) := rfl
          simp only [er]
          refine ⟨⟨by omega, mm⟩, put_together_w k1 k3 hkm a wr ws (by omega) (by rw [List.length_take]; omega) (by rw [mkW_rep]; exact fr.1) ?_⟩
          simp
          refine thawU_w (ds := [W (F w1), W (F w1), W (F (repW m (w1.take 2)))]) rfl ?_ ?_
          · have q2 := nlo ho'
            simp [noLS, q2, nD, n16, n17]
            simp [noLSv, noLOb, noLs]
          simp [wE_callD]
          simp only [er]
          refine ⟨⟨by omega, mm⟩, law_parts3_w k1 hkm wr ?_⟩
          simp [kd, da wr, wE_callD]
          refine same_w (sm3 hw1.1 hw1.1 wr) (by omega) ?_
          simp
          have nX : noLSv (some (.own (.lst [W (F w1), W (F w1), W (F (repW m (w1.take 2)))]))) = true := by simp [noLSv, noLOb, noLs]
          exact ⟨by simp [frzd, noLs], o', ho'.up (by omega), _, nX, some (.d (.int t)), rfl, some (.d (W w1)), rfl, some (.d (W w2)), rfl, some (.d (W w3)), rfl, some (.d (.list [W (F w1), W (F w2), W (F w3)])), rfl, some (.d (W (F (w1 ++ w2)))), rfl, some (.d (W (F (w1 ++ (w2 ++ w3))))), rfl, some (.d (W (w1.take 2))), rfl, c16, n16, c17, n17, by simp⟩
  · rintro S ⟨o, c7, c8, c9, c10, c11, c12, c13, c14, c15, c16, c17, ho, n7, n8, n9, n10, n11, n12, n13, n14, n15, n16, n17, rfl⟩
    refine ⟨_, _, _, rfl, ?_, rfl⟩
    simp [Cl, noLS, nD, n7, n8, n9, n10, n11, n12, n13, n14, n15, n16, n17]
end K63
end

section
set_option Elab.async false
set_option linter.all false
set_option maxRecDepth 100000
set_option maxHeartbeats 4000000

/-! the text: its defs -/
namespace K63
open PySem PySem.Spec PyProof.Rows L2 Fz DL
def top (i : Nat) : Stmt := PySem.Challenge.pw_wholestrewn_k63_whole_first_words_and_lo.main.body.getD i (.Pass ⟨0, 0, 0, 0⟩)
def D__law_draw : He.DefD := ⟨("_law_draw", none), "_law_draw", "_law_draw", defArgs (top 28), defBody (top 28), defScope (top 28), [], []⟩
def D__law_parts : He.DefD := ⟨("_law_parts", none), "_law_parts", "_law_parts", defArgs (top 31), defBody (top 31), defScope (top 31), [], []⟩
def D__law_firsts : He.DefD := ⟨("_law_firsts", none), "_law_firsts", "_law_firsts", defArgs (top 33), defBody (top 33), defScope (top 33), [], []⟩
def D__law_same : He.DefD := ⟨("_law_same", none), "_law_same", "_law_same", defArgs (top 29), defBody (top 29), defScope (top 29), [], []⟩
def D__law_well : He.DefD := ⟨("_law_well", none), "_law_well", "_law_well", defArgs (top 27), defBody (top 27), defScope (top 27), [], []⟩
def D__law_word : He.DefD := ⟨("_law_word", none), "_law_word", "_law_word", defArgs (top 30), defBody (top 30), defScope (top 30), [], []⟩
def D_is_integer : He.DefD := ⟨("is_integer", none), "is_integer", "is_integer", defArgs (top 6), defBody (top 6), defScope (top 6), [], []⟩
def D_is_between : He.DefD := ⟨("is_between", none), "is_between", "is_between", defArgs (top 9), defBody (top 9), defScope (top 9), [], []⟩
def D_is_k : He.DefD := ⟨("is_k", none), "is_k", "is_k", defArgs (top 10), defBody (top 10), defScope (top 10), [], []⟩
def D_check_k : He.DefD := ⟨("check_k", none), "check_k", "check_k", defArgs (top 12), defBody (top 12), defScope (top 12), [], []⟩
def D_is_natural : He.DefD := ⟨("is_natural", none), "is_natural", "is_natural", defArgs (top 7), defBody (top 7), defScope (top 7), [], []⟩
def D_check_natural : He.DefD := ⟨("check_natural", none), "check_natural", "check_natural", defArgs (top 13), defBody (top 13), defScope (top 13), [], []⟩
def D_mark_behind : He.DefD := ⟨("mark_behind", none), "mark_behind", "mark_behind", defArgs (top 19), defBody (top 19), defScope (top 19), [], []⟩
def D_first_words : He.DefD := ⟨("first_words", none), "first_words", "first_words", defArgs (top 21), defBody (top 21), defScope (top 21), [], []⟩
def D_word_key : He.DefD := ⟨("word_key", none), "word_key", "word_key", defArgs (top 17), defBody (top 17), defScope (top 17), [], []⟩
def D_all_firsts : He.DefD := ⟨("all_firsts", none), "all_firsts", "all_firsts", defArgs (top 24), defBody (top 24), defScope (top 24), [], []⟩
def D_is_below : He.DefD := ⟨("is_below", none), "is_below", "is_below", defArgs (top 8), defBody (top 8), defScope (top 8), [], []⟩
def D_is_letters : He.DefD := ⟨("is_letters", none), "is_letters", "is_letters", defArgs (top 11), defBody (top 11), defScope (top 11), [], []⟩
def D_is_word_of : He.DefD := ⟨("is_word_of", none), "is_word_of", "is_word_of", defArgs (top 15), defBody (top 15), defScope (top 15), [], []⟩
def D_check_word : He.DefD := ⟨("check_word", none), "check_word", "check_word", defArgs (top 16), defBody (top 16), defScope (top 16), [], []⟩
def D_mark_in : He.DefD := ⟨("mark_in", none), "mark_in", "mark_in", defArgs (top 20), defBody (top 20), defScope (top 20), [], []⟩
def D_first_alike : He.DefD := ⟨("first_alike", none), "first_alike", "first_alike", defArgs (top 22), defBody (top 22), defScope (top 22), [], []⟩
def D_put_together : He.DefD := ⟨("put_together", none), "put_together", "put_together", defArgs (top 25), defBody (top 25), defScope (top 25), [], []⟩
def D_law : He.DefD := ⟨("law", none), "law", "law", defArgs (top 34), defBody (top 34), defScope (top 34), [], []⟩
def fn : List He.DefD := [D__law_draw, D__law_parts, D__law_firsts, D__law_same, D__law_well, D__law_word, D_is_integer, D_is_between, D_is_k, D_check_k, D_is_natural, D_check_natural, D_mark_behind, D_first_words, D_word_key, D_all_firsts, D_is_below, D_is_letters, D_is_word_of, D_check_word, D_mark_in, D_first_alike, D_put_together, D_law]
def fa : List He.Fa := [.glo "_law_draw", .glo "_law_parts", .glo "_law_firsts", .glo "_law_same", .glo "_law_well", .glo "_law_word", .glo "is_integer", .glo "is_between", .glo "is_k", .glo "check_k", .glo "is_natural", .glo "check_natural", .glo "mark_behind", .glo "first_words", .glo "word_key", .glo "all_firsts", .glo "is_below", .glo "is_letters", .glo "is_word_of", .glo "check_word", .glo "mark_in", .glo "first_alike", .glo "put_together", .glo "law", .free "int", .free "list", .free "len", .free "sorted", .free "tuple", .free "range", .free "isinstance", .free "bool", .free "str", .free "all", .free "abs", .free "max", .int "MOST_LETTERS" 3, .free "set", .free "min"]
def ts : List DP := [("is_letters", none), ("law", none)]
/-! derivations -/
section
variable {P : Program} {w : World} {K : Fg} {mg : Str → Option Value} {base : Heap} {T : List Addr}
theorem sc__law_draw : FnScope ["well", "many", "found", "mixed"] ["well", "many"] D__law_draw.scope := ⟨rfl, rfl, rfl, by decide +kernel, rfl, by decide +kernel, by decide +kernel⟩
theorem f__law_draw (C : HeadC fa fn ts K mg base T) : FnF P w K mg base T 1 D__law_draw "_law_draw" ["well", "many"] 2 d__law_draw := by
  unfold d__law_draw
  refine fn_mk C 0 0 sc__law_draw fun cdv A outer s H E1 H0 pins E hr => ?_
  exact s_cons (s_if (t_cmp op_gtF (e_ixN (pv 0) (e_int)) (ED.q (e_int)) (nomark _)) (s_cons (s_setD sc__law_draw.nd rfl (.inl rfl) (e_op op_modF (e_callTy c_int rfl (C.free 24) bt_int (a_last (ED.q (e_ixN (pv 0) (e_int))))) (e_peek (pv 1))))
        (s_cons (s_setIx (pv 0) (e_op op_divF (e_ixN (pv 0) (e_int)) (e_peek (pv 1))) (e_int) (fun _ => rfl))
        (s_one (s_retD (e_var (pv 2)))))) (s_nil))
        (s_cons (s_setIx (pv 0) (EV.frz (e_op op_addF (e_ixN (pv 0) (e_int)) (ED.q (e_int)))) (e_int) (fun _ => rfl))
        (s_cons (s_setD sc__law_draw.nd rfl (.inl rfl) (e_op op_modF (e_callTy c_int rfl (C.free 24) bt_int (a_last (ED.q (e_op op_powX (EV.frz (e_op op_addF (EV.frz (e_op op_addF (e_ixN (pv 0) (e_int)) (ED.q (e_op op_mulX (e_int) (ED.q (e_ixN (pv 0) (e_int))))))) (ED.q (e_op op_mulX (e_op op_mulX (e_int) (ED.q (e_ixN (pv 0) (e_int)))) (ED.q (e_ixN (pv 0) (e_int))))))) (ED.q (e_int)))))) (ED.q (e_int))))
        (s_cons (s_setD sc__law_draw.nd rfl (.inl rfl) (e_op op_modF (e_callTy c_int rfl (C.free 24) bt_int (a_last (ED.q (e_op op_powX (EV.frz (e_opN op_addF (pv 3) (ED.q (e_int)))) (ED.q (e_int)))))) (ED.q (e_int))))
        (s_one (s_retD (e_op op_modF (e_callTy c_int rfl (C.free 24) bt_int (a_last (ED.q (e_opN op_divF (pv 3) (ED.q (e_int)))))) (e_peek (pv 1))))))))
theorem g__law_draw (C : HeadC fa fn ts K mg base T) : Fn P w K mg base T 1 "_law_draw" ["well", "many"] 2 d__law_draw := (f__law_draw C).toFn (fun _ _ _ _ _ _ us hl => match us, hl with | [_, _], _ => rfl)
theorem sc__law_parts : FnScope ["word", "most", "found", "letter", "own"] ["word", "most"] D__law_parts.scope := ⟨rfl, rfl, rfl, by decide +kernel, rfl, by decide +kernel, by decide +kernel⟩
theorem f__law_parts (C : HeadC fa fn ts K mg base T) : FnF P w K mg base T 1 D__law_parts "_law_parts" ["word", "most"] 2 d__law_parts := by
  unfold d__law_parts
  refine fn_mk C 1 1 sc__law_parts fun cdv A outer s H E1 H0 pins E hr => ?_
  exact s_cons (s_set sc__law_parts.nd rfl (.inl rfl) (e_disp1 (room70 hr.rm) (e_tup (a_nil)) (e_bl)))
        (s_cons (s_for PassesOwn.never rfl (i_seq (e_var (pv 0))) (g_name sc__law_parts.nd rfl (.inl rfl)) (s_one (s_for PassesOwn.never rfl (i_seq (EV.frz (e_listD rfl rfl (C.free 25) (pv 2)))) (g_name sc__law_parts.nd rfl (.inl rfl)) (s_one (s_if (t_cmp op_ltF (e_callB c_len rfl (C.free 26) bt_len (a_last (e_peek (pv 4)))) (e_peek (pv 1)) (nomark _)) (s_one (s_dput (room70 hr.rm) (pv 2) (e_bl) (EV.frz (e_opN op_addF (pv 4) (ED.q (e_tup (a_cons (e_var (pv 3)) (a_nil)))))))) (s_nil))))))
        (s_one (s_ret (e_sortDic rfl (room70 hr.rm) rfl (C.free 27) (pv 2)))))
theorem g__law_parts (C : HeadC fa fn ts K mg base T) : Fn P w K mg base T 1 "_law_parts" ["word", "most"] 2 d__law_parts := (f__law_parts C).toFn (fun _ _ _ _ _ _ us hl => match us, hl with | [_, _], _ => rfl)
theorem sc__law_firsts : FnScope ["k", "m", "firsts", "last", "more", "word", "mark", "letter"] ["k", "m"] D__law_firsts.scope := ⟨rfl, rfl, rfl, by decide +kernel, rfl, by decide +kernel, by decide +kernel⟩
theorem f__law_firsts (C : HeadC fa fn ts K mg base T) : FnF P w K mg base T 2 D__law_firsts "_law_firsts" ["k", "m"] 2 d__law_firsts := by
  unfold d__law_firsts
  refine fn_mk C 2 2 sc__law_firsts fun cdv A outer s H E1 H0 pins E hr => ?_
  exact s_cons (s_par2 rfl sc__law_firsts.nd rfl rfl (by decide) rfl rfl (av_cons (e_dnew) (av_cons (e_lst (a_cons (e_tup (a_nil)) (a_nil))) (av_nil) (fun _ _ => av_nil)) (fun _ _ => av_cons (e_lst (a_cons (e_tup (a_nil)) (a_nil))) (av_nil) (fun _ _ => av_nil))) rfl)
        (s_cons (s_while PassesOwn.never (t_cmpN (op_neF hr.rm.units) (pv 3) (EV.q (e_lst (a_nil))) (nomark _)) (s_cons (s_set sc__law_firsts.nd rfl (.inl rfl) (e_lst (a_nil)))
        (s_cons (s_for PassesOwn.never rfl (i_seq (e_var (pv 3))) (g_name sc__law_firsts.nd rfl (.inr rfl)) (s_cons (s_setD sc__law_firsts.nd rfl (.inl rfl) (e_callTy c_tuple rfl (C.free 28) bt_tuple (a_last (EV.q (e_call (g__law_parts C) hr (by decide) rfl (as_d (e_var (pv 5)) (as_d (e_var (pv 1)) (as_nil))))))))
        (s_one (s_if (t_dnin (room70 hr.rm) (e_var (pv 6)) (pv 2)) (s_cons (s_dput (room70 hr.rm) (pv 2) (e_var (pv 5)) (e_var (pv 6)))
        (s_one (s_set sc__law_firsts.nd rfl (.inl rfl) (e_opN op_addF (pv 4) (EV.q (e_lc (own := [("letter", 7)]) rfl sc__law_firsts.nd (i_range1 rfl (C.free 29) (e_var (pv 0))) (blkOk_by (by kernel_rfl)) (by decide) (fun _ _ _ _ _ _ _ => g_name sc__law_firsts.nd rfl (.inl rfl)) (fun _ _ _ _ _ _ _ => ts_nil) (fun _ _ _ _ _ _ _ => EV.frz (e_opN op_addF (pv 5) (ED.q (e_tup (a_cons (e_var (pv 7)) (a_nil)))))))))))) (s_nil)))))
        (s_one (s_setD sc__law_firsts.nd rfl (.inl rfl) (e_var (pv 4)))))))
        (s_one (s_ret (e_move (pv 2)))))
theorem g__law_firsts (C : HeadC fa fn ts K mg base T) : Fn P w K mg base T 2 "_law_firsts" ["k", "m"] 2 d__law_firsts := (f__law_firsts C).toFn (fun _ _ _ _ _ _ us hl => match us, hl with | [_, _], _ => rfl)
theorem sc__law_same : FnScope ["told", "due", "k"] ["told", "due"] D__law_same.scope := ⟨rfl, rfl, rfl, by decide +kernel, rfl, by decide +kernel, by decide +kernel⟩
theorem f__law_same (C : HeadC fa fn ts K mg base T) : ∀ k, FnF P w K mg base T (0 + k + 1) D__law_same "_law_same" ["told", "due"] 2 (d__law_same k)
  | 0 => by
    rw [d__law_same_0]
    exact fn_bad C 3 3
  | k + 1 => by
    have ih := (f__law_same C k).toFn (fun _ _ _ _ _ _ us hl => match us, hl with | [_, _], _ => rfl)
    rw [d__law_same_s]
    refine fn_mk C 3 3 sc__law_same fun cdv A outer s H E1 H0 pins E hr => ?_
    exact s_cons (s_if (t_cmpN op_isBF (pv 1) (ED.q (e_non)) (nomark _)) (s_one (s_retD (e_cmpN op_isBF (pv 0) (ED.q (e_non)) (nomark _)))) (s_nil))
        (s_cons (s_if (t_tru (ED.q (e_isi rfl (C.free 30) bt_isinstance (e_peek (pv 1)) rfl (C.free 31) bt_bool))) (s_one (s_retD (e_ite (t_tru (e_peek (pv 1))) (e_cmpN op_isBF (pv 0) (ED.q (e_bl)) (nomark _)) (e_cmpN op_isBF (pv 0) (ED.q (e_bl)) (nomark _))))) (s_nil))
        (s_cons (s_if (t_tru (ED.q (e_isi rfl (C.free 30) bt_isinstance (e_peek (pv 1)) rfl (C.free 24) bt_int))) (s_one (s_retD (Fz.v_and (e_isi rfl (C.free 30) bt_isinstance (e_peek (pv 0)) rfl (C.free 24) bt_int) (Fz.v_and (Fz.v_not (ED.q (e_isi rfl (C.free 30) bt_isinstance (e_peek (pv 0)) rfl (C.free 31) bt_bool))) (Fz.v_one (e_cmpN (op_eqF hr.rm.units) (pv 0) (e_peek (pv 1)) (nomark _))))))) (s_nil))
        (s_cons (s_if (t_tru (ED.q (e_isi rfl (C.free 30) bt_isinstance (e_peek (pv 1)) rfl (C.free 32) bt_str))) (s_one (s_retD (Fz.v_and (e_isi rfl (C.free 30) bt_isinstance (e_peek (pv 0)) rfl (C.free 32) bt_str) (Fz.v_one (e_cmpN (op_eqF hr.rm.units) (pv 0) (e_peek (pv 1)) (nomark _)))))) (s_nil))
        (s_cons (s_if (t_bool (w_or (t_cmp (op_neF hr.rm.units) (e_isi rfl (C.free 30) bt_isinstance (e_peek (pv 1)) rfl (C.free 28) bt_tuple) (ED.q (e_isi rfl (C.free 30) bt_isinstance (e_peek (pv 0)) rfl (C.free 28) bt_tuple)) (nomark _)) (w_or1 (t_cmp (op_neF hr.rm.units) (e_isi rfl (C.free 30) bt_isinstance (e_peek (pv 1)) rfl (C.free 25) bt_list) (ED.q (e_isi rfl (C.free 30) bt_isinstance (e_peek (pv 0)) rfl (C.free 25) bt_list)) (nomark _))))) (s_one (s_retD (e_bl))) (s_nil))
        (s_one (s_retD (Fz.v_and (e_cmp (op_eqF hr.rm.units) (e_callB c_len rfl (C.free 26) bt_len (a_last (e_peek (pv 0)))) (ED.q (e_callB c_len rfl (C.free 26) bt_len (a_last (e_peek (pv 1))))) (nomark _)) (Fz.v_one (e_callB (c_all rfl) rfl (C.free 33) bt_all (a_last (EV.q (e_lc (own := [("k", 2)]) rfl sc__law_same.nd (i_range1 rfl (C.free 29) (e_callB c_len rfl (C.free 26) bt_len (a_last (e_peek (pv 1))))) (blkOk_by (by kernel_rfl)) (by decide) (fun _ _ _ _ _ _ _ => g_name sc__law_same.nd rfl (.inl rfl)) (fun _ _ _ _ _ _ _ => ts_nil) (fun _ _ _ _ _ _ _ => EV.frz (e_call ih hr (by omega) rfl (as_d (e_ixN (pv 0) (e_var (pv 2))) (as_d (e_ixN (pv 1) (e_var (pv 2))) (as_nil)))))))))))))))))
theorem g__law_same (C : HeadC fa fn ts K mg base T) (k : Nat) : Fn P w K mg base T (0 + k + 1) "_law_same" ["told", "due"] 2 (d__law_same k) := (f__law_same C k).toFn (fun _ _ _ _ _ _ us hl => match us, hl with | [_, _], _ => rfl)
theorem sc__law_well : FnScope ["script", "place", "mixed", "one", "cell"] ["script", "place"] D__law_well.scope := ⟨rfl, rfl, rfl, by decide +kernel, rfl, by decide +kernel, by decide +kernel⟩
theorem f__law_well (C : HeadC fa fn ts K mg base T) : FnF P w K mg base T 1 D__law_well "_law_well" ["script", "place"] 2 d__law_well_2 := by
  unfold d__law_well_2
  refine fn_mk C 4 4 sc__law_well fun cdv A outer s H E1 H0 pins E hr => ?_
  exact s_cons (s_set sc__law_well.nd rfl (.inl rfl) (e_op op_addF (e_int) (ED.q (e_opN op_mulX (pv 1) (ED.q (e_int))))))
        (s_cons (s_for PassesOwn.never rfl (i_seq (EV.frz (e_slN (pv 0) (o_none) (o_some (e_int))))) (g_name sc__law_well.nd rfl (.inl rfl)) (s_one (s_setD sc__law_well.nd rfl (.inl rfl) (e_op op_modF (e_callTy c_int rfl (C.free 24) bt_int (a_last (EV.q (e_op op_addF (EV.frz (e_op op_addF (e_opN op_mulX (pv 2) (ED.q (e_int))) (ED.q (e_opN op_mulX (pv 3) (ED.q (e_int)))))) (ED.q (e_int)))))) (ED.q (e_int))))))
        (s_cons (s_setD sc__law_well.nd rfl (.inl rfl) (e_ite (t_cmpN op_ltF (pv 1) (ED.q (e_callB c_len rfl (C.free 26) bt_len (a_last (e_peek (pv 0))))) (nomark _)) (e_callTy c_int rfl (C.free 24) bt_int (a_last (ED.q (e_ixN (pv 0) (e_var (pv 1)))))) (e_int)))
        (s_one (s_ret (e_lst (a_cons (e_callB (c_max2 rfl) rfl (C.free 35) bt_max (a_consQ (e_int) (a_last (ED.q (e_op op_subF (e_callB c_abs rfl (C.free 34) bt_abs (a_last (e_peek (pv 4)))) (ED.q (e_op op_powX (e_int) (ED.q (e_int))))))))) (a_cons (e_var (pv 2)) (a_cons (e_int) (a_nil)))))))))
theorem g__law_well (C : HeadC fa fn ts K mg base T) : Fn P w K mg base T 1 "_law_well" ["script", "place"] 2 d__law_well_2 := (f__law_well C).toFn (fun _ _ _ _ _ _ us hl => match us, hl with | [_, _], _ => rfl)
theorem sc__law_word : FnScope ["well", "k", "most", "at"] ["well", "k", "most"] D__law_word.scope := ⟨rfl, rfl, rfl, by decide +kernel, rfl, by decide +kernel, by decide +kernel⟩
theorem f__law_word (C : HeadC fa fn ts K mg base T) : FnF P w K mg base T 2 D__law_word "_law_word" ["well", "k", "most"] 3 d__law_word_2 := by
  unfold d__law_word_2
  refine fn_mk C 5 5 sc__law_word fun cdv A outer s H E1 H0 pins E hr => ?_
  exact s_one (s_retD (e_callTy c_tuple rfl (C.free 28) bt_tuple (a_last (EV.q (e_lc (own := [("at", 3)]) rfl sc__law_word.nd (i_range1 rfl (C.free 29) (EV.frz (e_call (g__law_draw C) hr (by decide) rfl (as_s (pv 0) (as_d (EV.frz (e_opN op_addF (pv 2) (ED.q (e_int)))) (as_nil)))))) (blkOk_by (by kernel_rfl)) (by decide) (fun _ _ _ _ _ _ _ => g_name sc__law_word.nd rfl (.inl rfl)) (fun _ _ _ _ _ _ _ => ts_nil) (fun _ _ _ _ _ _ _ => EV.frz (e_call (g__law_draw C) hr (by decide) rfl (as_s (pv 0) (as_d (e_var (pv 1)) (as_nil))))))))))
theorem g__law_word (C : HeadC fa fn ts K mg base T) : Fn P w K mg base T 2 "_law_word" ["well", "k", "most"] 3 d__law_word_2 := (f__law_word C).toFn (fun _ _ _ _ _ _ us hl => match us, hl with | [_, _, _], _ => rfl)
theorem sc_is_integer : FnScope ["value"] ["value"] D_is_integer.scope := ⟨rfl, rfl, rfl, by decide +kernel, rfl, by decide +kernel, by decide +kernel⟩
theorem f_is_integer (C : HeadC fa fn ts K mg base T) : FnF P w K mg base T 1 D_is_integer "is_integer" ["value"] 1 d_is_integer := by
  unfold d_is_integer
  refine fn_mk C 6 6 sc_is_integer fun cdv A outer s H E1 H0 pins E hr => ?_
  exact s_one (s_retD (Fz.v_and (e_isi rfl (C.free 30) bt_isinstance (e_peek (pv 0)) rfl (C.free 24) bt_int) (Fz.v_one (Fz.v_not (ED.q (e_isi rfl (C.free 30) bt_isinstance (e_peek (pv 0)) rfl (C.free 31) bt_bool))))))
theorem g_is_integer (C : HeadC fa fn ts K mg base T) : Fn P w K mg base T 1 "is_integer" ["value"] 1 d_is_integer := (f_is_integer C).toFn (fun _ _ _ _ _ _ us hl => match us, hl with | [_], _ => rfl)
theorem sc_is_between : FnScope ["value", "low", "high"] ["value", "low", "high"] D_is_between.scope := ⟨rfl, rfl, rfl, by decide +kernel, rfl, by decide +kernel, by decide +kernel⟩
theorem f_is_between (C : HeadC fa fn ts K mg base T) : FnF P w K mg base T 2 D_is_between "is_between" ["value", "low", "high"] 3 d_is_between := by
  unfold d_is_between
  refine fn_mk C 7 7 sc_is_between fun cdv A outer s H E1 H0 pins E hr => ?_
  exact s_one (s_retD (Fz.v_and (EV.frz (e_call (g_is_integer C) hr (by decide) rfl (as_d (e_var (pv 0)) (as_nil)))) (Fz.v_one (e_chain op_leF op_leF (e_var (pv 1)) (e_var (pv 0)) (e_peek (pv 2))))))
theorem g_is_between (C : HeadC fa fn ts K mg base T) : Fn P w K mg base T 2 "is_between" ["value", "low", "high"] 3 d_is_between := (f_is_between C).toFn (fun _ _ _ _ _ _ us hl => match us, hl with | [_, _, _], _ => rfl)
theorem sc_is_k : FnScope ["value"] ["value"] D_is_k.scope := ⟨rfl, rfl, rfl, by decide +kernel, rfl, by decide +kernel, by decide +kernel⟩
theorem f_is_k (C : HeadC fa fn ts K mg base T) : FnF P w K mg base T 3 D_is_k "is_k" ["value"] 1 d_is_k := by
  unfold d_is_k
  refine fn_mk C 8 8 sc_is_k fun cdv A outer s H E1 H0 pins E hr => ?_
  exact s_one (s_ret (e_call (g_is_between C) hr (by decide) rfl (as_d (e_var (pv 0)) (as_d (e_int) (as_d (e_gint rfl (C.int 36)) (as_nil))))))
theorem g_is_k (C : HeadC fa fn ts K mg base T) : Fn P w K mg base T 3 "is_k" ["value"] 1 d_is_k := (f_is_k C).toFn (fun _ _ _ _ _ _ us hl => match us, hl with | [_], _ => rfl)
theorem sc_check_k : FnScope ["k"] ["k"] D_check_k.scope := ⟨rfl, rfl, rfl, by decide +kernel, rfl, by decide +kernel, by decide +kernel⟩
theorem f_check_k (C : HeadC fa fn ts K mg base T) : FnF P w K mg base T 4 D_check_k "check_k" ["k"] 1 d_check_k := by
  unfold d_check_k
  refine fn_mk C 9 9 sc_check_k fun cdv A outer s H E1 H0 pins E hr => ?_
  exact s_one (s_if (t_not (t_tru (EV.q (e_call (g_is_k C) hr (by decide) rfl (as_d (e_var (pv 0)) (as_nil)))))) (s_one (s_never)) (s_nil))
theorem g_check_k (C : HeadC fa fn ts K mg base T) : Fn P w K mg base T 4 "check_k" ["k"] 1 d_check_k := (f_check_k C).toFn (fun _ _ _ _ _ _ us hl => match us, hl with | [_], _ => rfl)
theorem sc_is_natural : FnScope ["value"] ["value"] D_is_natural.scope := ⟨rfl, rfl, rfl, by decide +kernel, rfl, by decide +kernel, by decide +kernel⟩
theorem f_is_natural (C : HeadC fa fn ts K mg base T) : FnF P w K mg base T 2 D_is_natural "is_natural" ["value"] 1 d_is_natural := by
  unfold d_is_natural
  refine fn_mk C 10 10 sc_is_natural fun cdv A outer s H E1 H0 pins E hr => ?_
  exact s_one (s_retD (Fz.v_and (EV.frz (e_call (g_is_integer C) hr (by decide) rfl (as_d (e_var (pv 0)) (as_nil)))) (Fz.v_one (e_cmpN op_geF (pv 0) (ED.q (e_int)) (nomark _)))))
theorem g_is_natural (C : HeadC fa fn ts K mg base T) : Fn P w K mg base T 2 "is_natural" ["value"] 1 d_is_natural := (f_is_natural C).toFn (fun _ _ _ _ _ _ us hl => match us, hl with | [_], _ => rfl)
theorem sc_check_natural : FnScope ["value"] ["value"] D_check_natural.scope := ⟨rfl, rfl, rfl, by decide +kernel, rfl, by decide +kernel, by decide +kernel⟩
theorem f_check_natural (C : HeadC fa fn ts K mg base T) : FnF P w K mg base T 3 D_check_natural "check_natural" ["value"] 1 d_check_natural := by
  unfold d_check_natural
  refine fn_mk C 11 11 sc_check_natural fun cdv A outer s H E1 H0 pins E hr => ?_
  exact s_one (s_if (t_not (t_tru (EV.q (e_call (g_is_natural C) hr (by decide) rfl (as_d (e_var (pv 0)) (as_nil)))))) (s_one (s_never)) (s_nil))
theorem g_check_natural (C : HeadC fa fn ts K mg base T) : Fn P w K mg base T 3 "check_natural" ["value"] 1 d_check_natural := (f_check_natural C).toFn (fun _ _ _ _ _ _ us hl => match us, hl with | [_], _ => rfl)
theorem sc_mark_behind : FnScope ["told", "letter", "m", "more", "own"] ["told", "letter", "m"] D_mark_behind.scope := ⟨rfl, rfl, rfl, by decide +kernel, rfl, by decide +kernel, by decide +kernel⟩
theorem f_mark_behind (C : HeadC fa fn ts K mg base T) : FnF P w K mg base T 1 D_mark_behind "mark_behind" ["told", "letter", "m"] 3 d_mark_behind := by
  unfold d_mark_behind
  refine fn_mk C 12 12 sc_mark_behind fun cdv A outer s H E1 H0 pins E hr => ?_
  exact s_cons (s_setLc (own := [("own", 4)]) rfl sc_mark_behind.nd rfl rfl (sw_true rfl rfl rfl rfl) (i_seq (e_var (pv 0))) (blkOk_by (by kernel_rfl)) (by decide) (fun _ _ _ _ _ _ _ => g_name sc_mark_behind.nd rfl (.inl rfl)) (fun _ _ _ _ _ _ _ => ts_one (t_cmp op_ltF (e_callB c_len rfl (C.free 26) bt_len (a_last (e_peek (pv 4)))) (e_peek (pv 2)) (nomark _))) (fun _ _ _ _ _ _ _ => EV.frz (e_opN op_addF (pv 4) (ED.q (e_tup (a_cons (e_var (pv 1)) (a_nil)))))))
        (s_one (s_retD (e_callTy c_tuple rfl (C.free 28) bt_tuple (a_last (EV.q (e_sortSet rfl (room70 hr.rm) rfl (C.free 27) rfl (C.free 37) (EV.q (e_opN op_addF (pv 0) (ED.q (e_callTy c_tuple rfl (C.free 28) bt_tuple (a_last (e_peek (pv 3)))))))))))))
theorem g_mark_behind (C : HeadC fa fn ts K mg base T) : Fn P w K mg base T 1 "mark_behind" ["told", "letter", "m"] 3 d_mark_behind := (f_mark_behind C).toFn (fun _ _ _ _ _ _ us hl => match us, hl with | [_, _, _], _ => rfl)
theorem sc_first_words : FnScope ["k", "m", "found", "waiting", "at", "told", "letter", "there"] ["k", "m"] D_first_words.scope := ⟨rfl, rfl, rfl, by decide +kernel, rfl, by decide +kernel, by decide +kernel⟩
theorem f_first_words (C : HeadC fa fn ts K mg base T) : FnF P w K mg base T 2 D_first_words "first_words" ["k", "m"] 2 d_first_words := by
  unfold d_first_words
  refine fn_mk C 13 13 sc_first_words fun cdv A outer s H E1 H0 pins E hr => ?_
  exact s_cons (s_par3 rfl sc_first_words.nd rfl rfl rfl (by decide) (by decide) (by decide) rfl rfl rfl (av_cons (e_disp1 (room70 hr.rm) (e_tup (a_cons (e_tup (a_nil)) (a_nil))) (e_tup (a_nil))) (av_cons (e_lst (a_cons (e_tup (a_cons (e_tup (a_nil)) (a_nil))) (a_nil))) (av_cons (ED.v (e_int)) (av_nil) (fun _ _ => av_nil)) (fun _ _ => av_cons (ED.v (e_int)) (av_nil) (fun _ _ => av_nil))) (fun _ _ => av_cons (e_lst (a_cons (e_tup (a_cons (e_tup (a_nil)) (a_nil))) (a_nil))) (av_cons (ED.v (e_int)) (av_nil) (fun _ _ => av_nil)) (fun _ _ => av_cons (ED.v (e_int)) (av_nil) (fun _ _ => av_nil)))) rfl)
        (s_cons (s_while PassesOwn.never (t_cmpN op_ltF (pv 4) (ED.q (e_callB c_len rfl (C.free 26) bt_len (a_last (e_peek (pv 3))))) (nomark _)) (s_cons (s_setD sc_first_words.nd rfl (.inl rfl) (e_ixN (pv 3) (e_var (pv 4))))
        (s_cons (s_for PassesOwn.never rfl (i_range1 rfl (C.free 29) (e_var (pv 0))) (g_name sc_first_words.nd rfl (.inl rfl)) (s_cons (s_set sc_first_words.nd rfl (.inl rfl) (e_call (g_mark_behind C) hr (by decide) rfl (as_d (e_var (pv 5)) (as_d (e_var (pv 6)) (as_d (e_var (pv 1)) (as_nil))))))
        (s_one (s_if (t_dnin (room70 hr.rm) (e_var (pv 7)) (pv 2)) (s_cons (s_dput (room70 hr.rm) (pv 2) (EV.frz (e_op op_addF (e_dix (room70 hr.rm) (pv 2) (e_var (pv 5))) (ED.q (e_tup (a_cons (e_var (pv 6)) (a_nil)))))) (e_var (pv 7)))
        (s_one (s_app (pv 3) (e_var (pv 7))))) (s_nil)))))
        (s_one (s_aug sc_first_words.nd rfl (.inl rfl) (e_int) ip_addF vr_d)))))
        (s_one (s_ret (e_move (pv 2)))))
theorem g_first_words (C : HeadC fa fn ts K mg base T) : Fn P w K mg base T 2 "first_words" ["k", "m"] 2 d_first_words := (f_first_words C).toFn (fun _ _ _ _ _ _ us hl => match us, hl with | [_, _], _ => rfl)
theorem sc_word_key : FnScope ["word"] ["word"] D_word_key.scope := ⟨rfl, rfl, rfl, by decide +kernel, rfl, by decide +kernel, by decide +kernel⟩
theorem f_word_key (C : HeadC fa fn ts K mg base T) : FnF P w K mg base T 1 D_word_key "word_key" ["word"] 1 d_word_key := by
  unfold d_word_key
  refine fn_mk C 14 14 sc_word_key fun cdv A outer s H E1 H0 pins E hr => ?_
  exact s_one (s_retD (e_tup (a_cons (e_callB c_len rfl (C.free 26) bt_len (a_last (e_peek (pv 0)))) (a_cons (e_var (pv 0)) (a_nil)))))
theorem g_word_key (C : HeadC fa fn ts K mg base T) : Fn P w K mg base T 1 "word_key" ["word"] 1 d_word_key := (f_word_key C).toFn (fun _ _ _ _ _ _ us hl => match us, hl with | [_], _ => rfl)
theorem sc_all_firsts : FnScope ["k", "m"] ["k", "m"] D_all_firsts.scope := ⟨rfl, rfl, rfl, by decide +kernel, rfl, by decide +kernel, by decide +kernel⟩
theorem f_all_firsts (C : HeadC fa fn ts K mg base T) : FnF P w K mg base T 5 D_all_firsts "all_firsts" ["k", "m"] 2 d_all_firsts := by
  unfold d_all_firsts
  refine fn_mk C 15 15 sc_all_firsts fun cdv A outer s H E1 H0 pins E hr => ?_
  exact s_cons (s_expr (e_call (g_check_k C) hr (by decide) rfl (as_d (e_var (pv 0)) (as_nil))))
        (s_cons (s_expr (e_call (g_check_natural C) hr (by decide) rfl (as_d (e_var (pv 1)) (as_nil))))
        (s_one (s_ret (e_sortVals (g_word_key C) hr (by decide) rfl rfl (room70 hr.rm) rfl (C.free 27) (dc_v (e_call (g_first_words C) hr (by decide) rfl (as_d (e_var (pv 0)) (as_d (e_var (pv 1)) (as_nil)))))))))
theorem g_all_firsts (C : HeadC fa fn ts K mg base T) : Fn P w K mg base T 5 "all_firsts" ["k", "m"] 2 d_all_firsts := (f_all_firsts C).toFn (fun _ _ _ _ _ _ us hl => match us, hl with | [_, _], _ => rfl)
theorem k_all_firsts_0_m_k (C : HeadC fa fn ts K mg base T) : FnK P w K mg base T 5 "all_firsts" ["k", "m"] 2 d_all_firsts 0 ["m", "k"] [1, 0] := (f_all_firsts C).toFnK fun _ _ _ _ _ _ us ws h1 h2 => match us, ws, h1, h2 with | [], [_, _], _, _ => rfl
theorem sc_is_below : FnScope ["value", "many"] ["value", "many"] D_is_below.scope := ⟨rfl, rfl, rfl, by decide +kernel, rfl, by decide +kernel, by decide +kernel⟩
theorem f_is_below (C : HeadC fa fn ts K mg base T) : FnF P w K mg base T 3 D_is_below "is_below" ["value", "many"] 2 d_is_below := by
  unfold d_is_below
  refine fn_mk C 16 16 sc_is_below fun cdv A outer s H E1 H0 pins E hr => ?_
  exact s_one (s_retD (Fz.v_and (EV.frz (e_call (g_is_natural C) hr (by decide) rfl (as_d (e_var (pv 0)) (as_nil)))) (Fz.v_one (e_cmpN op_ltF (pv 0) (e_peek (pv 1)) (nomark _)))))
theorem g_is_below (C : HeadC fa fn ts K mg base T) : Fn P w K mg base T 3 "is_below" ["value", "many"] 2 d_is_below := (f_is_below C).toFn (fun _ _ _ _ _ _ us hl => match us, hl with | [_, _], _ => rfl)
theorem sc_is_letters : FnScope ["k", "value", "letter"] ["k", "value"] D_is_letters.scope := ⟨rfl, rfl, rfl, by decide +kernel, rfl, by decide +kernel, by decide +kernel⟩
theorem f_is_letters (C : HeadC fa fn ts K mg base T) : FnF P w K mg base T 5 D_is_letters "is_letters" ["k", "value"] 2 d_is_letters := by
  unfold d_is_letters
  refine fn_mkC C 17 17 0 sc_is_letters fun A outer s H E1 H0 pins E hr => ?_
  exact s_one (s_retD (Fz.v_and (e_isi rfl (C.free 30) bt_isinstance (e_peek (pv 1)) rfl (C.free 28) bt_tuple) (Fz.v_one (e_any (own := [("letter", 2)]) false hr rfl sc_is_letters.nd rfl (C.free 33) (C.tab 0).1 rfl (C.tab 0).2 (i_seq (e_var (pv 1))) (blkOk_by (by kernel_rfl)) ⟨rfl, by decide +kernel, rfl⟩ (by decide) (fun _ _ _ _ _ _ _ _ hr => g_name sc_is_letters.nd rfl (.inl rfl)) (fun _ _ _ _ _ _ _ _ hr => ts_nil) (fun _ _ _ _ _ _ _ _ hr => EV.frz (e_call (g_is_below C) hr (by decide) rfl (as_d (e_var (pv 2)) (as_d (e_var (pv 0)) (as_nil)))))))))
theorem g_is_letters (C : HeadC fa fn ts K mg base T) : Fn P w K mg base T 5 "is_letters" ["k", "value"] 2 d_is_letters := (f_is_letters C).toFn (fun _ _ _ _ _ _ us hl => match us, hl with | [_, _], _ => rfl)
theorem sc_is_word_of : FnScope ["k", "told"] ["k", "told"] D_is_word_of.scope := ⟨rfl, rfl, rfl, by decide +kernel, rfl, by decide +kernel, by decide +kernel⟩
theorem f_is_word_of (C : HeadC fa fn ts K mg base T) : FnF P w K mg base T 6 D_is_word_of "is_word_of" ["k", "told"] 2 d_is_word_of := by
  unfold d_is_word_of
  refine fn_mk C 18 18 sc_is_word_of fun cdv A outer s H E1 H0 pins E hr => ?_
  exact s_one (s_ret (e_call (g_is_letters C) hr (by decide) rfl (as_d (e_var (pv 0)) (as_d (e_var (pv 1)) (as_nil)))))
theorem g_is_word_of (C : HeadC fa fn ts K mg base T) : Fn P w K mg base T 6 "is_word_of" ["k", "told"] 2 d_is_word_of := (f_is_word_of C).toFn (fun _ _ _ _ _ _ us hl => match us, hl with | [_, _], _ => rfl)
theorem sc_check_word : FnScope ["k", "word"] ["k", "word"] D_check_word.scope := ⟨rfl, rfl, rfl, by decide +kernel, rfl, by decide +kernel, by decide +kernel⟩
theorem f_check_word (C : HeadC fa fn ts K mg base T) : FnF P w K mg base T 7 D_check_word "check_word" ["k", "word"] 2 d_check_word := by
  unfold d_check_word
  refine fn_mk C 19 19 sc_check_word fun cdv A outer s H E1 H0 pins E hr => ?_
  exact s_one (s_if (t_not (t_tru (EV.q (e_call (g_is_word_of C) hr (by decide) rfl (as_d (e_var (pv 0)) (as_d (e_var (pv 1)) (as_nil))))))) (s_one (s_never)) (s_nil))
theorem g_check_word (C : HeadC fa fn ts K mg base T) : Fn P w K mg base T 7 "check_word" ["k", "word"] 2 d_check_word := (f_check_word C).toFn (fun _ _ _ _ _ _ us hl => match us, hl with | [_, _], _ => rfl)
theorem sc_mark_in : FnScope ["word", "m", "found", "letter"] ["word", "m"] D_mark_in.scope := ⟨rfl, rfl, rfl, by decide +kernel, rfl, by decide +kernel, by decide +kernel⟩
theorem f_mark_in (C : HeadC fa fn ts K mg base T) : FnF P w K mg base T 2 D_mark_in "mark_in" ["word", "m"] 2 d_mark_in := by
  unfold d_mark_in
  refine fn_mk C 20 20 sc_mark_in fun cdv A outer s H E1 H0 pins E hr => ?_
  exact s_cons (s_setD sc_mark_in.nd rfl (.inl rfl) (e_tup (a_cons (e_tup (a_nil)) (a_nil))))
        (s_cons (s_for PassesOwn.never rfl (i_seq (e_var (pv 0))) (g_name sc_mark_in.nd rfl (.inl rfl)) (s_one (s_set sc_mark_in.nd rfl (.inl rfl) (e_call (g_mark_behind C) hr (by decide) rfl (as_d (e_var (pv 2)) (as_d (e_var (pv 3)) (as_d (e_var (pv 1)) (as_nil))))))))
        (s_one (s_retD (e_var (pv 2)))))
theorem g_mark_in (C : HeadC fa fn ts K mg base T) : Fn P w K mg base T 2 "mark_in" ["word", "m"] 2 d_mark_in := (f_mark_in C).toFn (fun _ _ _ _ _ _ us hl => match us, hl with | [_, _], _ => rfl)
theorem sc_first_alike : FnScope ["k", "word", "m"] ["k", "word", "m"] D_first_alike.scope := ⟨rfl, rfl, rfl, by decide +kernel, rfl, by decide +kernel, by decide +kernel⟩
theorem f_first_alike (C : HeadC fa fn ts K mg base T) : FnF P w K mg base T 8 D_first_alike "first_alike" ["k", "word", "m"] 3 d_first_alike := by
  unfold d_first_alike
  refine fn_mk C 21 21 sc_first_alike fun cdv A outer s H E1 H0 pins E hr => ?_
  exact s_cons (s_expr (e_call (g_check_k C) hr (by decide) rfl (as_d (e_var (pv 0)) (as_nil))))
        (s_cons (s_expr (e_call (g_check_word C) hr (by decide) rfl (as_d (e_var (pv 0)) (as_d (e_var (pv 1)) (as_nil)))))
        (s_cons (s_expr (e_call (g_check_natural C) hr (by decide) rfl (as_d (e_var (pv 2)) (as_nil))))
        (s_one (s_retD (e_dixF (room70 hr.rm) (e_call (g_first_words C) hr (by decide) rfl (as_d (e_var (pv 0)) (as_d (e_var (pv 2)) (as_nil)))) (EV.frz (e_call (g_mark_in C) hr (by decide) rfl (as_d (e_var (pv 1)) (as_d (e_var (pv 2)) (as_nil))))))))))
theorem g_first_alike (C : HeadC fa fn ts K mg base T) : Fn P w K mg base T 8 "first_alike" ["k", "word", "m"] 3 d_first_alike := (f_first_alike C).toFn (fun _ _ _ _ _ _ us hl => match us, hl with | [_, _, _], _ => rfl)
theorem sc_put_together : FnScope ["k", "one", "other", "m"] ["k", "one", "other", "m"] D_put_together.scope := ⟨rfl, rfl, rfl, by decide +kernel, rfl, by decide +kernel, by decide +kernel⟩
theorem f_put_together (C : HeadC fa fn ts K mg base T) : FnF P w K mg base T 8 D_put_together "put_together" ["k", "one", "other", "m"] 4 d_put_together := by
  unfold d_put_together
  refine fn_mk C 22 22 sc_put_together fun cdv A outer s H E1 H0 pins E hr => ?_
  exact s_cons (s_expr (e_call (g_check_k C) hr (by decide) rfl (as_d (e_var (pv 0)) (as_nil))))
        (s_cons (s_expr (e_call (g_check_word C) hr (by decide) rfl (as_d (e_var (pv 0)) (as_d (e_var (pv 1)) (as_nil)))))
        (s_cons (s_expr (e_call (g_check_word C) hr (by decide) rfl (as_d (e_var (pv 0)) (as_d (e_var (pv 2)) (as_nil)))))
        (s_cons (s_expr (e_call (g_check_natural C) hr (by decide) rfl (as_d (e_var (pv 3)) (as_nil))))
        (s_one (s_retD (e_dixF (room70 hr.rm) (e_call (g_first_words C) hr (by decide) rfl (as_d (e_var (pv 0)) (as_d (e_var (pv 3)) (as_nil)))) (EV.frz (e_call (g_mark_in C) hr (by decide) rfl (as_d (EV.frz (e_opN op_addF (pv 1) (e_peek (pv 2)))) (as_d (e_var (pv 3)) (as_nil)))))))))))
theorem g_put_together (C : HeadC fa fn ts K mg base T) : Fn P w K mg base T 8 "put_together" ["k", "one", "other", "m"] 4 d_put_together := (f_put_together C).toFn (fun _ _ _ _ _ _ us hl => match us, hl with | [_, _, _, _], _ => rfl)
theorem k_put_together_0_m_other_one_k (C : HeadC fa fn ts K mg base T) : FnK P w K mg base T 8 "put_together" ["k", "one", "other", "m"] 4 d_put_together 0 ["m", "other", "one", "k"] [3, 2, 1, 0] := (f_put_together C).toFnK fun _ _ _ _ _ _ us ws h1 h2 => match us, ws, h1, h2 with | [], [_, _, _, _], _, _ => rfl
theorem sc_law : FnScope ["script", "place", "well", "k", "m", "firsts", "due", "told", "turn", "one", "two", "three", "own", "joined", "every", "short", "at", "word"] ["script"] D_law.scope := ⟨rfl, rfl, rfl, by decide +kernel, rfl, by decide +kernel, by decide +kernel⟩
def nf_law_0 : FnT := lamT (exK (stE (List.getD (stB (List.getD D_law.body 0 (.Pass pos0))) 4 (.Pass pos0))) 0)
theorem ns_law_0 : NScC ["word"] ["word"] [] nf_law_0.scope := nscC_by (by decide +kernel)
theorem nb_law_0 : NdefX.ndefB D_law.scope nf_law_0.scope [] = true := by decide +kernel
def nfs_law : List FnT := [nf_law_0]
theorem f_law (C : HeadC fa fn ts K mg base T) : FnF P w K mg base T 26 D_law "law" ["script"] 1 d_law63 := by
  unfold d_law63
  refine fn_mkCL nfs_law C 23 23 1 sc_law fun A outer s H E1 H0 pins E hr => ?_
  exact s_cons (s_for PassesOwn.never rfl (i_range1 rfl (C.free 29) (e_callB (c_max2 rfl) rfl (C.free 35) bt_max (a_consQ (e_int) (a_last (ED.q (e_callB (c_min2 rfl) rfl (C.free 38) bt_min (a_consQ (e_int) (a_last (ED.q (e_callB c_len rfl (C.free 26) bt_len (a_last (e_peek (pv 0))))))))))))) (g_name sc_law.nd rfl (.inl rfl)) (s_cons (s_set sc_law.nd rfl (.inr rfl) (e_call (g__law_well C) hr (by decide) rfl (as_d (e_var (pv 0)) (as_d (e_var (pv 1)) (as_nil)))))
        (s_cons (s_set sc_law.nd rfl (.inr rfl) (e_op op_addF (e_int) (EV.q (e_call (g__law_draw C) hr (by decide) rfl (as_s (pv 2) (as_d (e_int) (as_nil)))))))
        (s_cons (s_set sc_law.nd rfl (.inr rfl) (e_call (g__law_draw C) hr (by decide) rfl (as_s (pv 2) (as_d (e_ix (EV.frz (e_lst (a_cons (e_int) (a_cons (e_int) (a_cons (e_int) (a_nil)))))) (e_opN op_subF (pv 3) (ED.q (e_int)))) (as_nil)))))
        (s_cons (s_set sc_law.nd rfl (.inr rfl) (e_call (g__law_firsts C) hr (by decide) rfl (as_d (e_var (pv 3)) (as_d (e_var (pv 4)) (as_nil)))))
        (s_cons (s_set sc_law.nd rfl (.inl rfl) (e_sortL (j := 0) (e_lam (nfs := nfs_law) (C.tab 1).1 rfl (C.tab 1).2 (NdefX.ndef_free nb_law_0) rfl) (clo_spec (nfs := nfs_law) (t := nf_law_0) (k := 7) (js := []) (bodyOk_e rfl fun A outer s H E1 f qual cl c H0 pins E hr => by exact (e_tup (a_cons (e_callB c_len rfl (C.free 26) bt_len (a_last (e_peek (pv 0)))) (a_cons (e_var (pv 0)) (a_nil))))) rfl ns_law_0 nb_law_0 rfl (fun _ _ _ _ _ _ us hl => match us, hl with | [_], _ => rfl)) cloAt_lev hr (by decide) rfl (room70 hr.rm) rfl (C.free 27) (EV.frz (e_listVals rfl rfl (C.free 25) (pv 5)))))
        (s_cons (s_set sc_law.nd rfl (.inl rfl) (e_call (g_all_firsts C) hr (by decide) rfl (as_d (e_var (pv 3)) (as_d (e_var (pv 4)) (as_nil)))))
        (s_cons (s_if (t_thawU (t_not (t_tru (EV.q (e_call (g__law_same C 24) hr (by decide) rfl (as_d (e_var (pv 7)) (as_d (e_var (pv 6)) (as_nil)))))))) (s_one (s_retD (e_bl))) (s_nil))
        (s_cons (s_app (pv 7) (e_tup (a_cons (e_int) (a_nil))))
        (s_cons (s_if (t_not (t_tru (EV.q (e_call (g__law_same C 24) hr (by decide) rfl (as_d (EV.frz (e_lst (a_cons (EV.frz (e_call (g_all_firsts C) hr (by decide) rfl (as_d (e_var (pv 3)) (as_d (e_var (pv 4)) (as_nil))))) (a_cons (EV.frz (e_callK0 (k_all_firsts_0_m_k C) hr (by decide) rfl (ks_d (e_var (pv 4)) (ks_d (e_var (pv 3)) (ks_nil))))) (a_nil))))) (as_d (EV.frz (e_lst (a_cons (e_var (pv 6)) (a_cons (e_var (pv 6)) (a_nil))))) (as_nil))))))) (s_one (s_retD (e_bl))) (s_nil))
        (s_one (s_for PassesOwn.never rfl (i_range1 rfl (C.free 29) (e_int)) (g_name sc_law.nd rfl (.inl rfl)) (s_cons (s_asg (EV.frz (e_lc (own := [("at", 16)]) rfl sc_law.nd (i_range1 rfl (C.free 29) (e_int)) (blkOk_by (by kernel_rfl)) (by decide) (fun _ _ _ _ _ _ _ => g_name sc_law.nd rfl (.inl rfl)) (fun _ _ _ _ _ _ _ => ts_nil) (fun _ _ _ _ _ _ _ => EV.frz (e_call (g__law_word C) hr (by decide) rfl (as_s (pv 2) (as_d (e_var (pv 3)) (as_d (e_int) (as_nil)))))))) (g_lst rfl (gs_cons (g_name sc_law.nd rfl (.inl rfl)) (gs_cons (g_name sc_law.nd rfl (.inl rfl)) (gs_cons (g_name sc_law.nd rfl (.inl rfl)) (gs_nil))))))
        (s_cons (s_setLc (own := [("word", 17)]) rfl sc_law.nd rfl rfl (sw_true rfl rfl rfl rfl) (i_seq (e_tup (a_cons (e_var (pv 9)) (a_cons (e_var (pv 10)) (a_cons (e_var (pv 11)) (a_nil)))))) (blkOk_by (by kernel_rfl)) (by decide) (fun _ _ _ _ _ _ _ => g_name sc_law.nd rfl (.inl rfl)) (fun _ _ _ _ _ _ _ => ts_nil) (fun _ _ _ _ _ _ _ => e_dix (room70 hr.rm) (pv 5) (e_callTy c_tuple rfl (C.free 28) bt_tuple (a_last (EV.q (e_call (g__law_parts C) hr (by decide) rfl (as_d (e_var (pv 17)) (as_d (e_var (pv 4)) (as_nil)))))))))
        (s_cons (s_if (t_not (t_tru (EV.q (e_call (g__law_same C 24) hr (by decide) rfl (as_d (EV.frz (e_lc (own := [("word", 17)]) rfl sc_law.nd (i_seq (e_tup (a_cons (e_var (pv 9)) (a_cons (e_var (pv 10)) (a_cons (e_var (pv 11)) (a_nil)))))) (blkOk_by (by kernel_rfl)) (by decide) (fun _ _ _ _ _ _ _ => g_name sc_law.nd rfl (.inl rfl)) (fun _ _ _ _ _ _ _ => ts_nil) (fun _ _ _ _ _ _ _ => EV.frz (e_call (g_first_alike C) hr (by decide) rfl (as_d (e_var (pv 3)) (as_d (e_var (pv 17)) (as_d (e_var (pv 4)) (as_nil)))))))) (as_d (e_var (pv 12)) (as_nil))))))) (s_one (s_retD (e_bl))) (s_nil))
        (s_cons (s_setD sc_law.nd rfl (.inl rfl) (e_dix (room70 hr.rm) (pv 5) (e_callTy c_tuple rfl (C.free 28) bt_tuple (a_last (EV.q (e_call (g__law_parts C) hr (by decide) rfl (as_d (EV.frz (e_opN op_addF (pv 9) (e_peek (pv 10)))) (as_d (e_var (pv 4)) (as_nil)))))))))
        (s_cons (s_set sc_law.nd rfl (.inl rfl) (e_lst (a_cons (EV.frz (e_call (g_put_together C) hr (by decide) rfl (as_d (e_var (pv 3)) (as_d (e_var (pv 9)) (as_d (e_var (pv 10)) (as_d (e_var (pv 4)) (as_nil))))))) (a_cons (EV.frz (e_callK0 (k_put_together_0_m_other_one_k C) hr (by decide) rfl (ks_d (e_var (pv 4)) (ks_d (e_var (pv 10)) (ks_d (e_var (pv 9)) (ks_d (e_var (pv 3)) (ks_nil))))))) (a_cons (EV.frz (e_call (g_put_together C) hr (by decide) rfl (as_d (e_var (pv 3)) (as_d (e_ixN (pv 12) (e_int)) (as_d (e_ixN (pv 12) (e_int)) (as_d (e_var (pv 4)) (as_nil))))))) (a_nil))))))
        (s_cons (s_if (t_thawU (t_not (t_tru (EV.q (e_call (g__law_same C 24) hr (by decide) rfl (as_d (e_var (pv 7)) (as_d (EV.frz (e_lst (a_cons (e_var (pv 13)) (a_cons (e_var (pv 13)) (a_cons (e_var (pv 13)) (a_nil)))))) (as_nil)))))))) (s_one (s_retD (e_bl))) (s_nil))
        (s_cons (s_setD sc_law.nd rfl (.inl rfl) (e_dix (room70 hr.rm) (pv 5) (e_callTy c_tuple rfl (C.free 28) bt_tuple (a_last (EV.q (e_call (g__law_parts C) hr (by decide) rfl (as_d (EV.frz (e_op op_addF (EV.frz (e_opN op_addF (pv 9) (e_peek (pv 10)))) (e_peek (pv 11)))) (as_d (e_var (pv 4)) (as_nil)))))))))
        (s_cons (s_set sc_law.nd rfl (.inl rfl) (e_lst (a_cons (EV.frz (e_call (g_put_together C) hr (by decide) rfl (as_d (e_var (pv 3)) (as_d (EV.frz (e_call (g_put_together C) hr (by decide) rfl (as_d (e_var (pv 3)) (as_d (e_var (pv 9)) (as_d (e_var (pv 10)) (as_d (e_var (pv 4)) (as_nil))))))) (as_d (e_var (pv 11)) (as_d (e_var (pv 4)) (as_nil))))))) (a_cons (EV.frz (e_call (g_put_together C) hr (by decide) rfl (as_d (e_var (pv 3)) (as_d (e_var (pv 9)) (as_d (EV.frz (e_call (g_put_together C) hr (by decide) rfl (as_d (e_var (pv 3)) (as_d (e_var (pv 10)) (as_d (e_var (pv 11)) (as_d (e_var (pv 4)) (as_nil))))))) (as_d (e_var (pv 4)) (as_nil))))))) (a_nil)))))
        (s_cons (s_if (t_thawU (t_not (t_tru (EV.q (e_call (g__law_same C 24) hr (by decide) rfl (as_d (e_var (pv 7)) (as_d (EV.frz (e_lst (a_cons (e_var (pv 14)) (a_cons (e_var (pv 14)) (a_nil))))) (as_nil)))))))) (s_one (s_retD (e_bl))) (s_nil))
        (s_cons (s_set sc_law.nd rfl (.inl rfl) (e_slN (pv 9) (o_none) (o_some (e_int))))
        (s_cons (s_set sc_law.nd rfl (.inl rfl) (e_lst (a_cons (EV.frz (e_call (g_put_together C) hr (by decide) rfl (as_d (e_var (pv 3)) (as_d (e_var (pv 9)) (as_d (e_tup (a_nil)) (as_d (e_var (pv 4)) (as_nil))))))) (a_cons (EV.frz (e_call (g_put_together C) hr (by decide) rfl (as_d (e_var (pv 3)) (as_d (e_tup (a_nil)) (as_d (e_var (pv 9)) (as_d (e_var (pv 4)) (as_nil))))))) (a_cons (EV.frz (e_call (g_put_together C) hr (by decide) rfl (as_d (e_var (pv 3)) (as_d (EV.frz (e_opN op_mulG (pv 15) (e_peek (pv 4)))) (as_d (e_var (pv 15)) (as_d (e_var (pv 4)) (as_nil))))))) (a_nil))))))
        (s_one (s_if (t_thawU (t_not (t_tru (EV.q (e_call (g__law_same C 24) hr (by decide) rfl (as_d (e_var (pv 7)) (as_d (EV.frz (e_lst (a_cons (e_ixN (pv 12) (e_int)) (a_cons (e_ixN (pv 12) (e_int)) (a_cons (e_dix (room70 hr.rm) (pv 5) (e_callTy c_tuple rfl (C.free 28) bt_tuple (a_last (EV.q (e_call (g__law_parts C) hr (by decide) rfl (as_d (EV.frz (e_opN op_mulG (pv 15) (e_peek (pv 4)))) (as_d (e_var (pv 4)) (as_nil)))))))) (a_nil)))))) (as_nil)))))))) (s_one (s_retD (e_bl))) (s_nil))))))))))))))))))))))))))
        (s_one (s_retD (e_bl)))
end
end K63
end

section
set_option Elab.async false
set_option linter.all false
set_option maxRecDepth 100000
set_option maxHeartbeats 0
namespace K63
open PySem PySem.Spec PyProof.Rows L2 Fz DL
abbrev R : PySem.W.OpenRow := PySem.W.OpenLaw.row PySem.Challenge.rw_wholestrewn_k63_whole_first_words_and_lo
abbrev hk : PySem.W.Hook := hookC 4 fa fn ts
def ob (s : PySem.W.SharedT) : AlC := obsC 4 fa fn ts (HandSHeadRun.getT s)
theorem ob_eq (s : PySem.W.SharedT) : ob s = hk.obs s.abs := obsC_eq (HandSHeadRun.getT_eq s)
def loose0 : List Str := ["__name__", "StrewnError", "InvalidNumber", "InvalidWord", "MOST_LETTERS", "is_integer", "is_natural", "is_below", "is_between", "is_k", "is_letters", "check_k", "check_natural", "is_word_of", "check_word", "word_key", "mark_behind", "mark_in", "first_words", "first_alike"]
def loose1 : List Str := ["all_firsts", "put_together", "_law_well", "_law_draw", "_law_same", "_law_word", "_law_parts", "_law_words", "_law_firsts", "law"]
def loose : List Str := loose0 ++ loose1
theorem run (w : World) : HandSHeadRun.RunEq R (PySem.W.view R.prog [34]) hk ob 6000 loose w := by
  intro os
  kernel_rfl
end K63
open PySem PySem.W PySem.Calls PyProof.Rows
theorem PySem.Challenge.cw_wholestrewn_k63_whole_first_words_and_lo_holds : PySem.Challenge.rw_wholestrewn_k63_whole_first_words_and_lo.Holds := by
  w_on; o_law
  refine HandSHeadRun.head_any (r := K63.R) (q := view K63.R.prog [34]) (H := K63.hk) (ob := K63.ob) (M := 6000) (loose := K63.loose) (d := HandSHeadRun.topDef K63.R.prog 34) (kwd := []) K63.ob_eq
    (by kernel_rfl) (fun s => by kernel_rfl) K63.run (by kernel_rfl) (by kernel_rfl) (by kernel_rfl) (by rfl) (by first | assumption | decide +kernel) (by decide +kernel) ⟨rfl, rfl, rfl, rfl, rfl, by decide +kernel⟩ ?hw ?hc
  case hw => w_witness2
  case hc =>
    refine Fz.walk_F (lw := PySem.Challenge.rw_wholestrewn_k63_whole_first_words_and_lo) (n := 63) (k := 26) (x := "script") rfl (by decide) (by kernel_rfl) ⟨⟨rfl, by decide, by decide⟩, rfl⟩ ?_
    intro w mg fa h Y G hmg0
    obtain ⟨K, KX, c, tb⟩ := Y
    have hmg : mg ("law" : PySem.Str) = some (.ref fa) := by
      have e : (HandSHeadRun.topDef K63.R.prog 34).name = ("law" : PySem.Str) := by kernel_rfl
      rw [← e]
      exact hmg0
    exact Fz.head_close (fa := K63.fa) (fn := K63.fn) (ts := K63.ts) (i := 23) (j := 23) (d := K63.D_law) (y := "law") KX G c tb (fun base C => K63.f_law C) K63.the_law (fun _ _ _ _ _ _ us hl => match us, hl with | [_], _ => rfl) hmg
end
