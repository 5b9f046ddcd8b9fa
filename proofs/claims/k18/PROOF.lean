import PyProof.Rows.All
import Wide.All
import OpenK.AllK
import Wide.FinOn
import HandS.ForMost
import HandS.IsInst
import HandS.Flow
import HandS.Style
import HandS.Wide
import HandS.Defaults
import HandS.Dict
import HandS.DictTup
import KE.KeyNested
import KE.KDictKeyed
import HandS.TupAny
import HandS.GenList
import HandS.AnyAll
import KE.KNestM
import HandS.Head0
import HandS.Head1
import HandS.Head2
import HandS.HeadEnd
import HandS.HeadHook1
import HandS.HeadHook2
import HandS.EndTab
import HandS.HeadWalk
import HandS.Zip
import HandS.Deep
import HandS.TupMul
import HandS.SortRule
import HandS.SortInts
import PyProof.Rows.SortKeyStr
import KE.KSortTup
import KE.KDictSum
import KE.KDictWalk
import KE.SortKeyed
import HandS.SortKw
import KE.KDictDisplayH
import HandS.TupLe
import PySem.Challenge.RW_wholestrewn_k18_whole_leaders_and_their

section
set_option Elab.async false
set_option linter.all false
set_option maxRecDepth 100000
set_option maxHeartbeats 4000000
/-! N0: keys of dicts: data as keys, a dict with tuples as keys as an object of the abstract heap. -/
namespace Fz
open PySem PySem.Spec PyProof.Rows L2
mutual
/-- data as a key: no bools -/
def nk : PyData → Option NestedKey
  | .none => some .none
  | .int i => some (.num i)
  | .str x => some (.text x)
  | .tuple ds => (nks ds).map .tup
  | _ => none
def nks : List PyData → Option (List NestedKey)
  | [] => some []
  | d :: ds => match nk d, nks ds with
    | some k, some ks => some (k :: ks)
    | _, _ => none
end
/-- a flat key -/
def fk : PyData → Option Key
  | .int i => some (.inl i)
  | .str x => some (.inr x)
  | _ => none
/-- a tuple as a key, to depth 8 -/
def tk (d : PyData) : Option NestedKey := match d with
  | .tuple ds => (match nk (.tuple ds) with
    | some k => if k.depth ≤ 8 then some k else none
    | none => none)
  | _ => none
theorem tk_nk {d : PyData} {k : NestedKey} (h : tk d = some k) : nk d = some k ∧ k.depth ≤ 8 ∧ ∃ ds, d = .tuple ds := by
  cases d with
  | tuple ds =>
    simp only [tk] at h
    cases e : nk (.tuple ds) with
    | none => rw [e] at h; cases h
    | some k2 =>
      rw [e] at h
      simp only at h
      split at h
      · cases h; exact ⟨rfl, by assumption, ds, rfl⟩
      · cases h
  | _ => cases h
mutual
theorem nk_inj : ∀ {d e : PyData} {k : NestedKey}, nk d = some k → nk e = some k → d = e
  | .none, e, k, h, g => by
    simp only [nk, Option.some.injEq] at h; subst h
    cases e <;> simp [nk] at g ⊢
  | .int i, e, k, h, g => by
    simp only [nk, Option.some.injEq] at h; subst h
    cases e <;> simp [nk] at g ⊢
    exact g.symm
  | .str i, e, k, h, g => by
    simp only [nk, Option.some.injEq] at h; subst h
    cases e <;> simp [nk] at g ⊢
    exact g.symm
  | .tuple ds, e, k, h, g => by
    simp only [nk, Option.map_eq_some_iff] at h
    obtain ⟨ks, h1, rfl⟩ := h
    cases e with
    | tuple es =>
      simp only [nk, Option.map_eq_some_iff] at g
      obtain ⟨ks2, g1, g2⟩ := g
      cases g2
      rw [nks_inj h1 g1]
    | _ => simp [nk] at g
  | .bool _, _, _, h, _ => by simp [nk] at h
  | .list _, _, _, h, _ => by simp [nk] at h
  | .dict _, _, _, h, _ => by simp [nk] at h
theorem nks_inj : ∀ {ds es : List PyData} {ks : List NestedKey}, nks ds = some ks → nks es = some ks → ds = es
  | [], es, ks, h, g => by
    simp only [nks, Option.some.injEq] at h; subst h
    cases es with
    | nil => rfl
    | cons e es =>
      simp only [nks] at g
      cases e1 : nk e <;> cases e2 : nks es <;> simp [e1, e2] at g
  | d :: ds, es, ks, h, g => by
    simp only [nks] at h
    cases e1 : nk d with
    | none => simp [e1] at h
    | some k1 =>
      cases e2 : nks ds with
      | none => simp [e1, e2] at h
      | some k2 =>
        simp only [e1, e2, Option.some.injEq] at h
        subst h
        cases es with
        | nil => simp [nks] at g
        | cons e es =>
          simp only [nks] at g
          cases f1 : nk e with
          | none => simp [f1] at g
          | some l1 =>
            cases f2 : nks es with
            | none => simp [f1, f2] at g
            | some l2 =>
              simp only [f1, f2, Option.some.injEq, List.cons.injEq] at g
              obtain ⟨g1, g2⟩ := g
              subst g1; subst g2
              rw [nk_inj e1 f1, nks_inj e2 f2]
end
/-- the dict with tuples as keys at a -/
def DicP (w : World) (a : Addr) (raw : List (NestedKey × Addr × V)) (h : Heap) : Prop := raw.length ≤ sizeLine ∧ (a == sysModules) = false ∧ ∃ xs : List (NestedKey × Addr × Value),
  Paired (fun p q => p.1 = q.1 ∧ p.2.1 = q.2.1 ∧ RelV p.2.2 q.2.2) raw xs ∧ ∃ o es ep, h.get? a = some o ∧ o.ExactDict ∧ o.data = .dict es ep ∧ es.toList = xs.map (fun x => (⟨x.1.hash w, .ref x.2.1, x.2.2⟩ : DictEntry)) ∧ (xs.map (·.1)).Nodup
def DicT (w : World) (a : Addr) (raw : List (NestedKey × Addr × V)) : HO := .ext (DicP w a raw)
theorem DicP.stays {w : World} {a : Addr} {raw : List (NestedKey × Addr × V)} {h1 h2 : Heap} (x : DicP w a raw h1) (k : ∀ o, h1.get? a = some o → h2.get? a = some o) : DicP w a raw h2 := by
  obtain ⟨z, hd, xs, r, o, es, ep, e, c⟩ := x
  exact ⟨z, hd, xs, r, o, es, ep, k _ e, c⟩
theorem DicT.ok {P : Program} {w : World} {H : Hp} {a : Addr} {raw : List (NestedKey × Addr × V)} {h : Heap} (x : DicP w a raw h) : ObjOk P w H h a (DicT w a raw) := by
  obtain ⟨_, _, _, _, o, _, _, e, _⟩ := id x
  exact ⟨x, ⟨o, e⟩, fun h1 h2 y k => y.stays k⟩
end Fz
end

section
set_option Elab.async false
set_option linter.all false
set_option maxRecDepth 100000
set_option maxHeartbeats 4000000
/-! F0: pure data, their relation to the abstract heap, the state of a def's slots, the judgements by plain functions. -/
namespace Fz
open PySem PySem.Spec PyProof.Rows L2

abbrev D := PyData
abbrev Sl := L2.St
abbrev Fg := PySem.W.Frag

/-- a list that never changes any more -/
def FrzL (K : Fg) (H : Hp) (a : Addr) (xs : List V) : Prop := (∃ o, H a = some (.frz o (.lst xs))) ∨ SqL K (fun _ => none) a xs
theorem FrzL.sq {K : Fg} {H : Hp} {a : Addr} {xs : List V} (h : FrzL K H a xs) : SqL K H a xs := by
  rcases h with ⟨o, h⟩ | h
  · exact .inl (.inr ⟨o, h⟩)
  · rcases h with (h | ⟨o, h⟩) | h
    · cases h
    · cases h
    · exact .inr h
/-- what never changes is kept -/
structure Pers (H H' : Hp) : Prop where
  tup : ∀ a xs, H a = some (.tup xs) → H' a = some (.tup xs)
  frz : ∀ a o u, H a = some (.frz o u) → H' a = some (.frz o u)
theorem Pers.refl (H : Hp) : Pers H H := ⟨fun _ _ h => h, fun _ _ _ h => h⟩
theorem Pers.trans {H H1 H2 : Hp} (a : Pers H H1) (b : Pers H1 H2) : Pers H H2 := ⟨fun p xs h => b.tup p xs (a.tup p xs h), fun p o u h => b.frz p o u (a.frz p o u h)⟩
theorem FrzL.mono {K : Fg} {H H' : Hp} {a : Addr} {xs : List V} (p : Pers H H') (h : FrzL K H a xs) : FrzL K H' a xs := by
  rcases h with ⟨o, h⟩ | h
  · exact .inl ⟨o, p.frz _ _ _ h⟩
  · exact .inr h
theorem sqT_mono {K : Fg} {H H' : Hp} {a : Addr} {xs : List V} (p : Pers H H') (h : SqT K H a xs) : SqT K H' a xs := by
  rcases h with (h | ⟨o, h⟩) | h
  · exact .inl (.inl (p.tup _ _ h))
  · exact .inl (.inr ⟨o, p.frz _ _ _ h⟩)
  · exact .inr h
mutual
/-- the value is the data d, and stays it -/
inductive Pd (K : Fg) (H : Hp) : V → D → Prop
  | non : Pd K H .non .none
  | bl (b : Bool) : Pd K H (.bl b) (.bool b)
  | int (i : Int) : Pd K H (.int i) (.int i)
  | str (x : Str) : Pd K H (.str x) (.str x)
  | tup {a : Addr} {xs : List V} {ds : List D} (h : SqT K H a xs) (r : PdAll K H xs ds) : Pd K H (.ref a) (.tuple ds)
  | lst {a : Addr} {xs : List V} {ds : List D} (h : FrzL K H a xs) (r : PdAll K H xs ds) : Pd K H (.ref a) (.list ds)
inductive PdAll (K : Fg) (H : Hp) : List V → List D → Prop
  | nil : PdAll K H [] []
  | cons {x : V} {d : D} {xs : List V} {ds : List D} (h : Pd K H x d) (r : PdAll K H xs ds) : PdAll K H (x :: xs) (d :: ds)
end
mutual
theorem Pd.mono {K : Fg} {H H' : Hp} (p : Pers H H') : ∀ {x : V} {d : D}, Pd K H x d → Pd K H' x d
  | _, _, .non => .non
  | _, _, .bl b => .bl b
  | _, _, .int i => .int i
  | _, _, .str x => .str x
  | _, _, .tup h r => .tup (sqT_mono p h) (PdAll.mono p r)
  | _, _, .lst h r => .lst (h.mono p) (PdAll.mono p r)
theorem PdAll.mono {K : Fg} {H H' : Hp} (p : Pers H H') : ∀ {xs : List V} {ds : List D}, PdAll K H xs ds → PdAll K H' xs ds
  | _, _, .nil => .nil
  | _, _, .cons h r => .cons (Pd.mono p h) (PdAll.mono p r)
end
mutual
theorem Pd.dp {K : Fg} {H : Hp} : ∀ {x : V} {d : D}, Pd K H x d → Dp K H x d
  | _, _, .non => .non
  | _, _, .bl b => .bl b
  | _, _, .int i => .int i
  | _, _, .str x => .str x
  | _, _, .tup h r => .tup h (PdAll.dp r)
  | _, _, .lst h r => .lst h.sq (PdAll.dp r)
theorem PdAll.dp {K : Fg} {H : Hp} : ∀ {xs : List V} {ds : List D}, PdAll K H xs ds → DpAll K H xs ds
  | _, _, .nil => .nil
  | _, _, .cons h r => .cons h.dp (PdAll.dp r)
end

/-! ### objects that one slot owns, what a slot holds -/
inductive Ob where
  | lst (ds : List D)
  | dic (kvs : List (D × D))
/-- d: data for good; own: an object that no one else holds; pin: an object that the caller holds, too (a parameter) -/
inductive SV where
  | d (x : D)
  | own (o : Ob)
  | pin (o : Ob)
abbrev FS := List (Option SV)
structure Exn where
  cls : Str
  val : D
inductive Res (α : Type) where
  | ok (a : α) (S : FS)
  | exn (e : Exn) (S : FS)
  | bad
def Res.bind {α β : Type} (r : Res α) (k : α → FS → Res β) : Res β := match r with
  | .ok a S => k a S
  | .exn e S => .exn e S
  | .bad => .bad
@[simp] theorem Res.bind_ok {α β : Type} (a : α) (S : FS) (k : α → FS → Res β) : (Res.ok a S).bind k = k a S := rfl
@[simp] theorem Res.bind_exn {α β : Type} (e : Exn) (S : FS) (k : α → FS → Res β) : (Res.exn e S : Res α).bind k = .exn e S := rfl
@[simp] theorem Res.bind_bad {α β : Type} (k : α → FS → Res β) : (Res.bad : Res α).bind k = .bad := rfl
/-- one after another -/
def bnd {α β : Type} (fa : FS → Res α) (k : α → FS → Res β) : FS → Res β := fun S => (fa S).bind k
/-- the frozen object as data -/
def Ob.frz : Ob → D
  | .lst ds => .list ds
  | .dic kvs => .dict kvs

/-- a dict with keys that are flat, or tuples -/
def DicR (K : Fg) (w : World) (H : Hp) (a : Addr) (kvs : List (D × D)) : Prop :=
  (∃ raw : List (Key × V), H a = some (.dK raw) ∧ Paired (fun (p : Key × V) (q : D × D) => fk q.1 = some p.1 ∧ Pd K H p.2 q.2) raw kvs) ∨
  ∃ raw : List (NestedKey × Addr × V), kvs ≠ [] ∧ H a = some (DicT w a raw) ∧ Paired (fun (p : NestedKey × Addr × V) (q : D × D) => tk q.1 = some p.1 ∧ Pd K H (.ref p.2.1) q.1 ∧ Pd K H p.2.2 q.2) raw kvs
def ObR (K : Fg) (w : World) (H : Hp) (a : Addr) : Ob → Prop
  | .lst ds => ∃ vs, H a = some (.lst vs) ∧ PdAll K H vs ds
  | .dic kvs => DicR K w H a kvs
def isTbl : HO → Bool
  | .tbl _ => true
  | _ => false
def TabOk (H : Hp) (P : Addr) : Prop := ∃ ps : Array Value, H P = some (.tbl ps) ∧ TriplesOk ps.toList

/-- what a body knows of its frame: the heap at its entry, the pinned parameters by slot, the tables of code objects, the wish about exceptions -/
structure Fx where
  H0 : Hp
  pins : List (Nat × Addr)
  tabs : List Addr
  held : List (Addr × List V)
  E : XK
  w : World
def SvR (K : Fg) (F : Fx) (i : Nat) (H : Hp) (x : V) : SV → Prop
  | .d d => Pd K H x d
  | .own ob => ∃ a, x = .ref a ∧ ObR K F.w H a ob ∧ F.H0 a = none
  | .pin ob => ∃ a, x = .ref a ∧ ObR K F.w H a ob ∧ (i, a) ∈ F.pins
def Owned (S : FS) (i : Nat) : Prop := ∃ ob, S[i]? = some (some (.own ob)) ∨ S[i]? = some (some (.pin ob))
structure Rel (K : Fg) (F : Fx) (S : FS) (σ : Sl) (H : Hp) : Prop where
  len : S.length = σ.length
  slot : ∀ i sv, S[i]? = some (some sv) → ∃ x, σ[i]? = some (some x) ∧ SvR K F i H x sv
  apart : ∀ i j a, i ≠ j → Owned S i → Owned S j → σ[i]? = some (some (.ref a)) → σ[j]? ≠ some (some (.ref a))
  keep : ∀ a o, F.H0 a = some o → a ∉ F.pins.map (·.2) → isTbl o = false → H a = some o
  there : ∀ a o, F.H0 a = some o → ∃ u, H a = some u
  tabs : ∀ P ∈ F.tabs, TabOk H P
  held : ∀ p ∈ F.held, H p.1 = some (.lst p.2) ∧ F.H0 p.1 = none ∧ ∀ i, Owned S i → σ[i]? ≠ some (some (.ref p.1))
/-- a value behind an expression: data, or a new object that no slot holds -/
def VR (K : Fg) (F : Fx) (S : FS) (σ : Sl) (H : Hp) (x : V) : SV → Prop
  | .d d => Pd K H x d
  | .own ob => ∃ a, x = .ref a ∧ ObR K F.w H a ob ∧ F.H0 a = none ∧ (∀ i, Owned S i → σ[i]? ≠ some (some (.ref a))) ∧ ∀ p ∈ F.held, p.1 ≠ a
  | .pin _ => False
def PR (K : Fg) (_ : Fx) (_ : FS) (_ : Sl) (H : Hp) (x : V) (d : D) : Prop := Pd K H x d
/-- data for the moment: data, or a list that may change later, of data -/
def Qd (K : Fg) (H : Hp) (x : V) (d : D) : Prop := Pd K H x d ∨ ∃ a vs ds, x = .ref a ∧ d = .list ds ∧ SqL K H a vs ∧ PdAll K H vs ds
theorem Qd.dp {K : Fg} {H : Hp} {x : V} {d : D} (h : Qd K H x d) : Dp K H x d := by
  rcases h with h | ⟨a, vs, ds, rfl, rfl, h, r⟩
  · exact h.dp
  · exact .lst h r.dp
/-- a list's items -/
theorem Qd.list {K : Fg} {H : Hp} {x : V} {ds : List D} (h : Qd K H x (.list ds)) : ∃ a vs, x = .ref a ∧ SqL K H a vs ∧ PdAll K H vs ds := by
  rcases h with h | ⟨a, vs, ds, rfl, e, h, r⟩
  · cases h with
    | lst h r => exact ⟨_, _, rfl, h.sq, r⟩
  · cases e; exact ⟨_, _, rfl, h, r⟩
theorem Qd.pd {K : Fg} {H : Hp} {x : V} {d : D} (h : Qd K H x d) (n : ∀ ds, d ≠ .list ds) : Pd K H x d := by
  rcases h with h | ⟨a, vs, ds, rfl, e, h, r⟩
  · exact h
  · exact absurd e (n ds)
theorem Qd.tuple {K : Fg} {H : Hp} {x : V} {ds : List D} (h : Qd K H x (.tuple ds)) : ∃ a vs, x = .ref a ∧ SqT K H a vs ∧ PdAll K H vs ds := by
  cases h.pd (fun _ e => nomatch e) with
  | tup h2 r => exact ⟨_, _, rfl, h2, r⟩
theorem Qd.int {K : Fg} {H : Hp} {x : V} {i : Int} (h : Qd K H x (.int i)) : x = .int i := by
  cases h.pd (fun _ e => nomatch e); rfl
theorem Qd.bl {K : Fg} {H : Hp} {x : V} {i : Bool} (h : Qd K H x (.bool i)) : x = .bl i := by
  cases h.pd (fun _ e => nomatch e); rfl
theorem Qd.str {K : Fg} {H : Hp} {x : V} {i : Str} (h : Qd K H x (.str i)) : x = .str i := by
  cases h.pd (fun _ e => nomatch e); rfl
theorem Qd.non {K : Fg} {H : Hp} {x : V} (h : Qd K H x .none) : x = .non := by
  cases h.pd (fun _ e => nomatch e); rfl
theorem PdAll.length {K : Fg} {H : Hp} : ∀ {xs : List V} {ds : List D}, PdAll K H xs ds → xs.length = ds.length
  | _, _, .nil => rfl
  | _, _, .cons _ r => by rw [List.length_cons, List.length_cons, PdAll.length r]
theorem PdAll.append {K : Fg} {H : Hp} : ∀ {xs ys : List V} {ds es : List D}, PdAll K H xs ds → PdAll K H ys es → PdAll K H (xs ++ ys) (ds ++ es)
  | _, _, _, _, .nil, s => s
  | _, _, _, _, .cons h r, s => .cons h (PdAll.append r s)
theorem PdAll.take {K : Fg} {H : Hp} : ∀ {xs : List V} {ds : List D} (n : Nat), PdAll K H xs ds → PdAll K H (xs.take n) (ds.take n)
  | _, _, 0, _ => .nil
  | _, _, _ + 1, .nil => .nil
  | _, _, n + 1, .cons h r => .cons h (PdAll.take n r)
theorem PdAll.drop {K : Fg} {H : Hp} : ∀ {xs : List V} {ds : List D} (n : Nat), PdAll K H xs ds → PdAll K H (xs.drop n) (ds.drop n)
  | _, _, 0, r => r
  | _, _, _ + 1, .nil => .nil
  | _, _, n + 1, .cons _ r => PdAll.drop n r
theorem PdAll.get {K : Fg} {H : Hp} : ∀ {xs : List V} {ds : List D} {i : Nat} {d : D}, PdAll K H xs ds → ds[i]? = some d → ∃ x, xs[i]? = some x ∧ Pd K H x d
  | _, _, _, _, .nil, e => by simp at e
  | _, _, 0, _, .cons h _, e => by simp at e; subst e; exact ⟨_, rfl, h⟩
  | _, _, i + 1, d, .cons _ r, e => by
    obtain ⟨x, h1, h2⟩ := PdAll.get (i := i) (d := d) r (by simpa using e)
    exact ⟨x, by simpa using h1, h2⟩
theorem PdAll.getV {K : Fg} {H : Hp} : ∀ {xs : List V} {ds : List D} {i : Nat} {x : V}, PdAll K H xs ds → xs[i]? = some x → ∃ d, ds[i]? = some d ∧ Pd K H x d
  | _, _, _, _, .nil, e => by simp at e
  | _, _, 0, _, .cons h _, e => by simp at e; subst e; exact ⟨_, rfl, h⟩
  | _, _, i + 1, d, .cons _ r, e => by
    obtain ⟨x, h1, h2⟩ := PdAll.getV (i := i) r (by simpa using e)
    exact ⟨x, by simpa using h1, h2⟩
theorem PdAll.set {K : Fg} {H : Hp} {x : V} {d : D} (q : Pd K H x d) : ∀ {xs : List V} {ds : List D} (i : Nat), PdAll K H xs ds → PdAll K H (xs.set i x) (ds.set i d)
  | _, _, _, .nil => .nil
  | _, _, 0, .cons _ r => .cons q r
  | _, _, i + 1, .cons h r => .cons h (PdAll.set q i r)
theorem PdAll.reverse {K : Fg} {H : Hp} {xs : List V} {ds : List D} (h : PdAll K H xs ds) : PdAll K H xs.reverse ds.reverse := by
  induction xs generalizing ds with
  | nil => cases h; exact .nil
  | cons x xs ih =>
    cases h with
    | cons h r => rw [List.reverse_cons, List.reverse_cons]; exact (ih r).append (.cons h .nil)
theorem PdAll.rep {K : Fg} {H : Hp} {xs : List V} {ds : List D} (h : PdAll K H xs ds) : ∀ k : Nat, PdAll K H (List.replicate k xs).flatten (List.replicate k ds).flatten
  | 0 => .nil
  | k + 1 => by rw [List.replicate_succ, List.replicate_succ, List.flatten_cons, List.flatten_cons]; exact h.append (PdAll.rep h k)
def QR (K : Fg) (_ : Fx) (_ : FS) (_ : Sl) (H : Hp) (x : V) (d : D) : Prop := Qd K H x d
/-- an exception of a class of the text: told later -/
def ExR (K : Fg) (H : Hp) (e : Exn) (c : Value) (dx : Option Addr) : Prop := False
abbrev GRel (β α : Type) := Fg → Fx → FS → Sl → Hp → β → α → Prop
abbrev VRel (α : Type) := GRel V α
def postG {β α : Type} (K : Fg) (F : Fx) (R : GRel β α) (r : Res α) (σ : Sl) (H : Hp) (Q : β → Hp → Prop) : Prop := match r with
  | .ok d S => ∀ x H', Pers H H' → Rel K F S σ H' → R K F S σ H' x d → Q x H'
  | .exn e S => ∀ c dx H', Pers H H' → Rel K F S σ H' → ExR K H' e c dx → F.E c dx H'
  | .bad => False
def rdG {β α : Type} (K : Fg) (F : Fx) (R : GRel β α) (f : FS → Res α) : Sl → Hp → (β → Hp → Prop) → Prop := fun σ H Q => ∃ S, Rel K F S σ H ∧ postG K F R (f S) σ H Q
/-- an expression's value: data or an own object; data; data for the moment -/
abbrev EV (X : Cx) (F : Fx) (e : Expr) (f : FS → Res SV) : Prop := PE X e (rdG X.K F VR f)
abbrev ED (X : Cx) (F : Fx) (e : Expr) (f : FS → Res D) : Prop := PE X e (rdG X.K F PR f)
abbrev EQ (X : Cx) (F : Fx) (e : Expr) (f : FS → Res D) : Prop := PE X e (rdG X.K F QR f)
def postT (K : Fg) (F : Fx) (r : Res Bool) (σ : Sl) (H : Hp) (Q : Bool → Hp → Prop) : Prop := match r with
  | .ok b S => ∀ H', Pers H H' → Rel K F S σ H' → Q b H'
  | .exn e S => ∀ c dx H', Pers H H' → Rel K F S σ H' → ExR K H' e c dx → F.E c dx H'
  | .bad => False
def rdT (K : Fg) (F : Fx) (f : FS → Res Bool) : TT := fun σ H Q => ∃ S, Rel K F S σ H ∧ postT K F (f S) σ H Q
abbrev ET (X : Cx) (F : Fx) (e : Expr) (f : FS → Res Bool) : Prop := PT X e (rdT X.K F f)

section
variable {α β ι κ : Type} {K : Fg} {F : Fx} {R : GRel ι α} {R' : GRel κ β} {σ : Sl} {H H' : Hp}
theorem postG.later {r : Res α} {Q : ι → Hp → Prop} (p : Pers H H') (h : postG K F R r σ H Q) : postG K F R r σ H' Q := by
  cases r with
  | ok d S => exact fun x H2 q r v => h x H2 (p.trans q) r v
  | exn e S => exact fun c dx H2 q r v => h c dx H2 (p.trans q) r v
  | bad => exact h
theorem postT.later {r : Res Bool} {Q : Bool → Hp → Prop} (p : Pers H H') (h : postT K F r σ H Q) : postT K F r σ H' Q := by
  cases r with
  | ok d S => exact fun H2 q r => h H2 (p.trans q) r
  | exn e S => exact fun c dx H2 q r v => h c dx H2 (p.trans q) r v
  | bad => exact h
theorem postG.imp {r : Res α} {Q Q' : ι → Hp → Prop} (h : postG K F R r σ H Q) (hq : ∀ x H, Q x H → Q' x H) : postG K F R r σ H Q' := by
  cases r with
  | ok d S => exact fun x H2 q r v => hq _ _ (h x H2 q r v)
  | exn e S => exact h
  | bad => exact h
theorem rdG.imp {f : FS → Res α} {Q Q' : ι → Hp → Prop} (h : rdG K F R f σ H Q) (hq : ∀ x H, Q x H → Q' x H) : rdG K F R f σ H Q' :=
  let ⟨S, r, p⟩ := h; ⟨S, r, p.imp hq⟩
/-- the first of two: what is known behind it -/
theorem rdG.bind {fa : FS → Res α} {k : α → FS → Res β} {Q : κ → Hp → Prop} (h : rdG K F R' (bnd fa k) σ H Q) :
    rdG K F R fa σ H fun x H1 => ∃ d S1, Rel K F S1 σ H1 ∧ R K F S1 σ H1 x d ∧ Pers H H1 ∧ postG K F R' (k d S1) σ H1 Q := by
  obtain ⟨S, r, p⟩ := h
  refine ⟨S, r, ?_⟩
  unfold bnd at p
  cases e : fa S with
  | ok d S1 => rw [e] at p; exact fun x H1 q r1 v => ⟨d, S1, r1, v, q, postG.later q p⟩
  | exn e2 S1 => rw [e] at p; exact p
  | bad => rw [e] at p; exact p
theorem rdG.bindT {fa : FS → Res α} {k : α → FS → Res Bool} {Q : Bool → Hp → Prop} (h : rdT K F (bnd fa k) σ H Q) :
    rdG K F R fa σ H fun x H1 => ∃ d S1, Rel K F S1 σ H1 ∧ R K F S1 σ H1 x d ∧ Pers H H1 ∧ postT K F (k d S1) σ H1 Q := by
  obtain ⟨S, r, p⟩ := h
  refine ⟨S, r, ?_⟩
  unfold bnd at p
  cases e : fa S with
  | ok d S1 => rw [e] at p; exact fun x H1 q r1 v => ⟨d, S1, r1, v, q, postT.later q p⟩
  | exn e2 S1 => rw [e] at p; exact p
  | bad => rw [e] at p; exact p
theorem rdT.bind {fa : FS → Res Bool} {k : Bool → FS → Res β} {Q : κ → Hp → Prop} (h : rdG K F R' (bnd fa k) σ H Q) :
    rdT K F fa σ H fun b H1 => ∃ S1, Rel K F S1 σ H1 ∧ Pers H H1 ∧ postG K F R' (k b S1) σ H1 Q := by
  obtain ⟨S, r, p⟩ := h
  refine ⟨S, r, ?_⟩
  unfold bnd at p
  cases e : fa S with
  | ok d S1 => rw [e] at p; exact fun H1 q r1 => ⟨S1, r1, q, postG.later q p⟩
  | exn e2 S1 => rw [e] at p; exact p
  | bad => rw [e] at p; exact p
theorem rdT.bindT {fa : FS → Res Bool} {k : Bool → FS → Res Bool} {Q : Bool → Hp → Prop} (h : rdT K F (bnd fa k) σ H Q) :
    rdT K F fa σ H fun b H1 => ∃ S1, Rel K F S1 σ H1 ∧ Pers H H1 ∧ postT K F (k b S1) σ H1 Q := by
  obtain ⟨S, r, p⟩ := h
  refine ⟨S, r, ?_⟩
  unfold bnd at p
  cases e : fa S with
  | ok d S1 => rw [e] at p; exact fun H1 q r1 => ⟨S1, r1, q, postT.later q p⟩
  | exn e2 S1 => rw [e] at p; exact p
  | bad => rw [e] at p; exact p
theorem rdT.imp {f : FS → Res Bool} {Q Q' : Bool → Hp → Prop} (h : rdT K F f σ H Q) (hq : ∀ x H, Q x H → Q' x H) : rdT K F f σ H Q' := by
  obtain ⟨S, r, p⟩ := h
  refine ⟨S, r, ?_⟩
  cases e : f S with
  | ok d S1 => rw [e] at p; exact fun H1 q r1 => hq _ _ (p H1 q r1)
  | exn e2 S1 => rw [e] at p; exact p
  | bad => rw [e] at p; exact p
/-- the end of a chain, nothing done to the heap -/
theorem postG.ok {d : α} {S : FS} {Q : ι → Hp → Prop} {x : ι} (h : postG K F R (.ok d S) σ H Q) (r : Rel K F S σ H) (v : R K F S σ H x d) : Q x H := h x H (.refl H) r v
theorem postT.ok {b : Bool} {S : FS} {Q : Bool → Hp → Prop} (h : postT K F (.ok b S) σ H Q) (r : Rel K F S σ H) : Q b H := h H (.refl H) r
end
/-- a rule by a weaker reading -/
theorem _root_.L2.PE.via {X : Cx} {e : Expr} {t t' : TE} (h : PE X e t) (hw : ∀ σ H Q, t' σ H Q → t σ H Q) : PE X e t' := ⟨fun pins s σ H Q I q => h.run pins s σ H Q I (hw σ H Q q)⟩
theorem _root_.L2.PT.via {X : Cx} {e : Expr} {t t' : TT} (h : PT X e t) (hw : ∀ σ H Q, t' σ H Q → t σ H Q) : PT X e t' := ⟨fun pins s σ H Q I q => h.run pins s σ H Q I (hw σ H Q q)⟩
theorem _root_.L2.PS.via {X : Cx} {e : Stmt} {t t' : TS} (h : PS X e t) (hw : ∀ D σ H, t' D σ H → t D σ H) : PS X e t' := ⟨fun pins s σ H D I q => h.run pins s σ H D I (hw D σ H q)⟩
end Fz
end

section
set_option Elab.async false
set_option linter.all false
set_option maxRecDepth 100000
set_option maxHeartbeats 4000000
/-! F1: the relation under stores and new objects; names, constants, freezing. -/
namespace Fz
open PySem PySem.Spec PyProof.Rows L2

section
variable {K : Fg} {F : Fx} {S S' : FS} {σ : Sl} {H H' : Hp} {a : Addr} {o : HO}
theorem Pers.put (h : Mut (H a) ∨ H a = none) : Pers H (upd H a o) := by
  have ne : ∀ b u, H b = some u → ¬ Mut (some u) → b ≠ a := fun b u e nm z => by
    subst z
    rcases h with h | h
    · rw [e] at h; exact nm h
    · rw [e] at h; cases h
  exact ⟨fun b xs e => by rw [upd_ne (ne b _ e (fun z => z))]; exact e, fun b ob u e => by rw [upd_ne (ne b _ e (fun z => z))]; exact e⟩
theorem ObR.later {w : World} {b : Addr} {ob : Ob} (h : ObR K w H b ob) (p : Pers H H') (e : H' b = H b) : ObR K w H' b ob := by
  cases ob with
  | lst ds => obtain ⟨vs, q, r⟩ := h; exact ⟨vs, e.trans q, r.mono p⟩
  | dic kvs =>
    rcases h with ⟨raw, q, r⟩ | ⟨raw, n, q, r⟩
    · exact .inl ⟨raw, e.trans q, Paired.mapP r fun _ _ z => ⟨z.1, z.2.mono p⟩⟩
    · exact .inr ⟨raw, n, e.trans q, Paired.mapP r fun _ _ z => ⟨z.1, z.2.1.mono p, z.2.2.mono p⟩⟩
theorem ObR.there {w : World} {b : Addr} {ob : Ob} (h : ObR K w H b ob) : ∃ u, H b = some u ∧ Mut (some u) ∧ isTbl u = false := by
  cases ob with
  | lst ds => obtain ⟨vs, q, r⟩ := h; exact ⟨_, q, trivial, rfl⟩
  | dic kvs => rcases h with ⟨raw, q, r⟩ | ⟨raw, n, q, r⟩ <;> exact ⟨_, q, trivial, rfl⟩
/-- an owned slot's object -/
theorem Rel.obj (r : Rel K F S σ H) {i : Nat} {ob : Ob} (h : S[i]? = some (some (.own ob)) ∨ S[i]? = some (some (.pin ob))) :
    ∃ a, σ[i]? = some (some (.ref a)) ∧ ObR K F.w H a ob ∧ (F.H0 a = none ∨ a ∈ F.pins.map (·.2)) := by
  rcases h with h | h
  · obtain ⟨x, e, a, rfl, q, n⟩ := r.slot i _ h; exact ⟨a, e, q, .inl n⟩
  · obtain ⟨x, e, a, rfl, q, n⟩ := r.slot i _ h; exact ⟨a, e, q, .inr (List.mem_map.mpr ⟨_, n, rfl⟩)⟩
/-- an object is written (or new): the slots of S' stand as told -/
theorem Rel.put (r : Rel K F S σ H) (hm : Mut (H a) ∨ H a = none) (h0 : F.H0 a = none ∨ a ∈ F.pins.map (·.2)) (hh : ∀ p ∈ F.held, p.1 ≠ a) (hl : S'.length = S.length)
    (hs : ∀ j sv, S'[j]? = some (some sv) → (S[j]? = some (some sv) ∧ (Owned S j → σ[j]? ≠ some (some (.ref a)))) ∨ ∃ x, σ[j]? = some (some x) ∧ SvR K F j (upd H a o) x sv)
    (ho : ∀ j, Owned S' j → Owned S j) : Rel K F S' σ (upd H a o) := by
  have p : Pers H (upd H a o) := Pers.put hm
  refine ⟨hl.trans r.len, fun j sv e => ?_, fun i j b ne hi hj => r.apart i j b ne (ho i hi) (ho j hj), fun b u e nb nt => ?_, fun b u e => ?_, fun P hP => ?_, fun p hp => ?_⟩
  · rcases hs j sv e with ⟨e1, q⟩ | q
    · obtain ⟨x, ex, v⟩ := r.slot j sv e1
      refine ⟨x, ex, ?_⟩
      cases sv with
      | d d => exact Pd.mono p v
      | own ob =>
        obtain ⟨b, rfl, w, z⟩ := v
        have nb : b ≠ a := fun h => q ⟨ob, .inl e1⟩ (h ▸ ex)
        exact ⟨b, rfl, w.later p (upd_ne nb), z⟩
      | pin ob =>
        obtain ⟨b, rfl, w, z⟩ := v
        have nb : b ≠ a := fun h => q ⟨ob, .inr e1⟩ (h ▸ ex)
        exact ⟨b, rfl, w.later p (upd_ne nb), z⟩
    · exact q
  · have na : b ≠ a := fun h => by
      subst h
      rcases h0 with h0 | h0
      · rw [e] at h0; cases h0
      · exact nb h0
    rw [upd_ne na]; exact r.keep b u e nb nt
  · by_cases hb : b = a
    · subst hb; exact ⟨o, upd_same⟩
    · rw [upd_ne hb]; exact r.there b u e
  · obtain ⟨ps, e, t⟩ := r.tabs P hP
    have na : P ≠ a := fun h => by
      subst h
      rcases hm with hm | hm
      · rw [e] at hm; exact hm
      · rw [e] at hm; cases hm
    exact ⟨ps, by rw [upd_ne na]; exact e, t⟩
  · obtain ⟨e, n, q⟩ := r.held p hp
    exact ⟨by rw [upd_ne (hh p hp)]; exact e, n, fun i hi => q i (ho i hi)⟩
theorem Rel.none0 (r : Rel K F S σ H) (hn : H a = none) : F.H0 a = none := by
  cases e : F.H0 a with
  | none => rfl
  | some o => obtain ⟨u, q⟩ := r.there a o e; rw [hn] at q; cases q
theorem Rel.unslot (r : Rel K F S σ H) (hn : H a = none) {j : Nat} (hj : Owned S j) : σ[j]? ≠ some (some (.ref a)) := fun hx => by
  obtain ⟨ob, hj⟩ := hj
  obtain ⟨b, eb, q, _⟩ := r.obj hj
  rw [hx] at eb; cases eb
  obtain ⟨u, e, _⟩ := q.there
  rw [hn] at e; cases e
/-- a new object -/
theorem Rel.new (r : Rel K F S σ H) (hn : H a = none) : Rel K F S σ (upd H a o) :=
  r.put (.inr hn) (.inl (r.none0 hn)) (fun p hp e => by obtain ⟨q, _⟩ := r.held p hp; rw [e, hn] at q; cases q) rfl (fun j sv e => .inl ⟨e, fun hj => r.unslot hn hj⟩) fun j h => h
theorem Pers.new (hn : H a = none) : Pers H (upd H a o) := Pers.put (.inr hn)
/-- a slot is stored with data -/
theorem Rel.setD (r : Rel K F S σ H) {i : Nat} {x : V} {d : D} (v : Pd K H x d) : Rel K F (S.set i (some (.d d))) (σ.set i (some x)) H := by
  have e0 : ∀ j, j ≠ i → (S.set i (some (.d d)))[j]? = S[j]? := fun j h => List.getElem?_set_ne (Ne.symm h)
  have e1 : ∀ j, j ≠ i → (σ.set i (some x))[j]? = σ[j]? := fun j h => List.getElem?_set_ne (Ne.symm h)
  have own : ∀ j, Owned (S.set i (some (.d d))) j → j ≠ i ∧ Owned S j := fun j ⟨ob, h⟩ => by
    by_cases hj : j = i
    · subst hj
      by_cases hl : j < S.length
      · rw [List.getElem?_set_self hl] at h
        rcases h with h | h <;> cases h
      · have q : (S.set j (some (.d d)))[j]? = none := List.getElem?_eq_none (by rw [List.length_set]; omega)
        rw [q] at h
        rcases h with h | h <;> cases h
    · rw [e0 j hj] at h; exact ⟨hj, ob, h⟩
  refine ⟨by rw [List.length_set, List.length_set]; exact r.len, fun j sv e => ?_, fun j k a ne hj hk => ?_, r.keep, r.there, r.tabs, fun p hp => ⟨(r.held p hp).1, (r.held p hp).2.1, fun j hj => by
    obtain ⟨nj, oj⟩ := own j hj
    rw [e1 j nj]
    exact (r.held p hp).2.2 j oj⟩⟩
  · by_cases hj : j = i
    · subst hj
      have hl : j < S.length := by
        have := List.getElem?_eq_some_iff.mp e
        obtain ⟨h, _⟩ := this
        rw [List.length_set] at h; exact h
      rw [List.getElem?_set_self hl] at e
      cases e
      exact ⟨x, List.getElem?_set_self (by rw [← r.len]; exact hl), v⟩
    · rw [e0 j hj] at e
      rw [e1 j hj]
      exact r.slot j sv e
  · obtain ⟨nj, oj⟩ := own j hj
    obtain ⟨nk, ok⟩ := own k hk
    rw [e1 j nj, e1 k nk]
    exact r.apart j k a ne oj ok
/-- a slot takes an own object over -/
theorem Rel.setO (r : Rel K F S σ H) {i : Nat} {x : V} {ob : Ob} (v : VR K F S σ H x (.own ob)) : Rel K F (S.set i (some (.own ob))) (σ.set i (some x)) H := by
  obtain ⟨a, rfl, q, n, nu, nh⟩ := v
  have e0 : ∀ j, j ≠ i → (S.set i (some (.own ob)))[j]? = S[j]? := fun j h => List.getElem?_set_ne (Ne.symm h)
  have e1 : ∀ j, j ≠ i → (σ.set i (some (V.ref a)))[j]? = σ[j]? := fun j h => List.getElem?_set_ne (Ne.symm h)
  have own : ∀ j, j ≠ i → Owned (S.set i (some (.own ob))) j → Owned S j := fun j hj ⟨ob2, h⟩ => by
    rw [e0 j hj] at h; exact ⟨ob2, h⟩
  refine ⟨by rw [List.length_set, List.length_set]; exact r.len, fun j sv e => ?_, fun j k b ne hj hk => ?_, r.keep, r.there, r.tabs, fun p hp => ⟨(r.held p hp).1, (r.held p hp).2.1, fun j hj => by
    by_cases h1 : j = i
    · subst h1
      intro hx
      by_cases hl : j < σ.length
      · rw [List.getElem?_set_self hl] at hx
        cases hx
        exact nh p hp rfl
      · rw [List.getElem?_eq_none (by rw [List.length_set]; omega)] at hx
        cases hx
    · rw [e1 j h1]
      exact (r.held p hp).2.2 j (own j h1 hj)⟩⟩
  · by_cases hj : j = i
    · subst hj
      have hl : j < S.length := by
        obtain ⟨h, _⟩ := List.getElem?_eq_some_iff.mp e
        rw [List.length_set] at h; exact h
      rw [List.getElem?_set_self hl] at e
      cases e
      exact ⟨_, List.getElem?_set_self (by rw [← r.len]; exact hl), a, rfl, q, n⟩
    · rw [e0 j hj] at e
      rw [e1 j hj]
      exact r.slot j sv e
  · by_cases h1 : j = i
    · subst h1
      have nk : k ≠ j := Ne.symm ne
      rw [e1 k nk]
      intro hx
      by_cases hl : j < σ.length
      · rw [List.getElem?_set_self hl] at hx
        cases hx
        exact nu k (own k nk hk)
      · rw [List.getElem?_eq_none (by rw [List.length_set]; omega)] at hx
        cases hx
    · rw [e1 j h1]
      by_cases h2 : k = i
      · subst h2
        intro hx hy
        by_cases hl : k < σ.length
        · rw [List.getElem?_set_self hl] at hy
          cases hy
          exact nu j (own j h1 hj) hx
        · rw [List.getElem?_eq_none (by rw [List.length_set]; omega)] at hy
          cases hy
      · rw [e1 k h2]
        exact r.apart j k b ne (own j h1 hj) (own k h2 hk)
/-- a list's own slot, frozen -/
theorem Rel.freeze (r : Rel K F S σ H) {i : Nat} {ds : List D} (h : S[i]? = some (some (.own (.lst ds)))) {vs : List V} {od : Obj} (e : σ[i]? = some (some (.ref a))) (hH : H a = some (.lst vs)) (hv : PdAll K H vs ds) :
    Rel K F (S.set i (some (.d (.list ds)))) σ (upd H a (.frz od (.lst vs))) ∧ Pers H (upd H a (.frz od (.lst vs))) ∧ Pd K (upd H a (.frz od (.lst vs))) (.ref a) (.list ds) := by
  have hm : Mut (H a) := by rw [hH]; trivial
  have p : Pers H (upd H a (.frz od (.lst vs))) := Pers.put (.inl hm)
  have pd : Pd K (upd H a (.frz od (.lst vs))) (.ref a) (.list ds) := .lst (.inl ⟨od, upd_same⟩) (hv.mono p)
  have hl : i < S.length := (List.getElem?_eq_some_iff.mp h).1
  have n0 : F.H0 a = none := by
    obtain ⟨x, ex, b, e2, q, n⟩ := r.slot i _ h
    rw [e] at ex; cases ex; cases e2; exact n
  refine ⟨?_, p, pd⟩
  refine r.put (.inl hm) (.inl n0) (fun p hp e' => (r.held p hp).2.2 i ⟨_, .inl h⟩ (e' ▸ e)) (List.length_set ..) (fun j sv ej => ?_) fun j ⟨ob, hj⟩ => ?_
  · by_cases hj : j = i
    · subst hj
      rw [List.getElem?_set_self hl] at ej
      cases ej
      exact .inr ⟨_, e, pd⟩
    · rw [List.getElem?_set_ne (Ne.symm hj)] at ej
      exact .inl ⟨ej, fun oj => r.apart i j a (Ne.symm hj) ⟨_, .inl h⟩ oj e⟩
  · by_cases hj2 : j = i
    · subst hj2; exact ⟨_, .inl h⟩
    · rw [List.getElem?_set_ne (Ne.symm hj2)] at hj; exact ⟨ob, hj⟩
end

/-! ### names, constants -/
section
variable {X : Cx} {F : Fx} {e : Expr}
def fVar (i : Nat) : FS → Res D := fun S => match S[i]? with
  | some (some (.d d)) => .ok d S
  | some (some (.own (.lst ds))) => .ok (.list ds) (S.set i (some (.d (.list ds))))
  | _ => .bad
theorem e_var {i : Nat} (h : PE X e (tVar i)) : ED X F e (fVar i) := by
  refine ⟨fun pins s σ H Q I ⟨S, r, p⟩ => ?_⟩
  unfold fVar at p
  split at p
  · rename_i d hd
    obtain ⟨x, ex, v⟩ := r.slot i _ hd
    exact h.run pins s σ H Q I ⟨x, ex, p.ok r v⟩
  · rename_i ds hd
    obtain ⟨x, ex, a, rfl, ⟨vs, hH, hv⟩, n⟩ := r.slot i _ hd
    obtain ⟨od, I1⟩ := I.lock hH trivial
    obtain ⟨r1, p1, v1⟩ := r.freeze (od := od) hd ex hH hv
    exact h.run pins s σ _ Q I1 ⟨_, ex, p _ _ p1 r1 v1⟩
  · exact p.elim
/-- a look at a name, nothing frozen -/
def fPeek (i : Nat) : FS → Res D := fun S => match S[i]? with
  | some (some (.d d)) => .ok d S
  | some (some (.own (.lst ds))) => .ok (.list ds) S
  | some (some (.pin (.lst ds))) => .ok (.list ds) S
  | _ => .bad
theorem e_peek {i : Nat} (h : PE X e (tVar i)) : EQ X F e (fPeek i) := by
  refine ⟨fun pins s σ H Q I ⟨S, r, p⟩ => ?_⟩
  unfold fPeek at p
  split at p
  · rename_i d hd
    obtain ⟨x, ex, v⟩ := r.slot i _ hd
    exact h.run pins s σ H Q I ⟨x, ex, p.ok r (Or.inl v)⟩
  · rename_i ds hd
    obtain ⟨x, ex, a, rfl, ⟨vs, hH, hv⟩, n⟩ := r.slot i _ hd
    exact h.run pins s σ H Q I ⟨_, ex, p.ok r (Or.inr ⟨a, vs, ds, rfl, rfl, .inl (.inl hH), hv⟩)⟩
  · rename_i ds hd
    obtain ⟨x, ex, a, rfl, ⟨vs, hH, hv⟩, n⟩ := r.slot i _ hd
    exact h.run pins s σ H Q I ⟨_, ex, p.ok r (Or.inr ⟨a, vs, ds, rfl, rfl, .inl (.inl hH), hv⟩)⟩
  · exact p.elim
def fC {α : Type} (d : α) : FS → Res α := fun S => .ok d S
theorem e_int {i : Int} {j : Nat} {pos : Pos} : ED X F (.Constant (.int i) j pos) (fC (.int i)) := pe_int.via fun σ H Q ⟨S, r, p⟩ => p.ok r (.int i)
theorem e_bl {b : Bool} {j : Nat} {pos : Pos} : ED X F (.Constant (.bool b) j pos) (fC (.bool b)) := pe_bl.via fun σ H Q ⟨S, r, p⟩ => p.ok r (.bl b)
theorem e_non {j : Nat} {pos : Pos} : ED X F (.Constant .none j pos) (fC .none) := pe_non.via fun σ H Q ⟨S, r, p⟩ => p.ok r .non
theorem e_str {x : Str} {j : Nat} {pos : Pos} : ED X F (.Constant (.str x) j pos) (fC (.str x)) := pe_str.via fun σ H Q ⟨S, r, p⟩ => p.ok r (.str x)
/-- data as a value; data as data for the moment -/
def fV (f : FS → Res D) : FS → Res SV := bnd f fun d => fC (.d d)
theorem ED.v {f : FS → Res D} (h : ED X F e f) : EV X F e (fV f) := h.via fun σ H Q hw => hw.bind.imp fun x H1 ⟨d, S1, r, v, p, q⟩ => q.ok r v
theorem ED.q {f : FS → Res D} (h : ED X F e f) : EQ X F e f := h.via fun σ H Q ⟨S, r, p⟩ => ⟨S, r, by
  cases e : f S with
  | ok d S1 => rw [e] at p; exact fun x H1 q r1 v => p x H1 q r1 (Or.inl v)
  | exn e2 S1 => rw [e] at p; exact p
  | bad => rw [e] at p; exact p⟩
/-- a value as data: a new list is frozen -/
def fFrz (f : FS → Res SV) : FS → Res D := bnd f fun sv S => match sv with
  | .d d => .ok d S
  | .own (.lst ds) => .ok (.list ds) S
  | _ => .bad
theorem EV.frz {f : FS → Res SV} (h : EV X F e f) : ED X F e (fFrz f) := by
  refine ⟨fun pins s σ H Q I hw => ?_⟩
  refine thn (h.run pins s σ H _ I (rdG.bind hw)) fun u s1 ⟨x, H1, I1, rx, sv, S1, r, v, p, q⟩ => ?_
  cases sv with
  | d d => exact ⟨x, H1, I1, rx, q.ok r v⟩
  | own ob =>
    cases ob with
    | lst ds =>
      obtain ⟨a, rfl, ⟨vs, hH, hv⟩, n, nu, nh⟩ := v
      obtain ⟨od, I2⟩ := I1.lock hH trivial
      have hm : Mut (H1 a) := by rw [hH]; trivial
      have p2 : Pers H1 (upd H1 a (.frz od (.lst vs))) := Pers.put (.inl hm)
      have r2 : Rel X.K F S1 σ (upd H1 a (.frz od (.lst vs))) := r.put (.inl hm) (.inl n) nh rfl (fun j sv e => .inl ⟨e, nu j⟩) fun j h => h
      exact ⟨_, _, I2, rx, q _ _ p2 r2 (Pd.lst (.inl ⟨od, upd_same⟩) (hv.mono p2))⟩
    | dic kvs => exact q.elim
  | pin ob => exact q.elim
/-- .. for the moment: nothing is frozen -/
theorem EV.q {f : FS → Res SV} (h : EV X F e f) : EQ X F e (fFrz f) := h.via fun σ H Q hw => (rdG.bind hw).imp fun x H1 ⟨sv, S1, r, v, p, q⟩ => by
  cases sv with
  | d d => exact q.ok r (Or.inl v)
  | own ob =>
    cases ob with
    | lst ds => obtain ⟨a, rfl, ⟨vs, hH, hv⟩, n, nu, nh⟩ := v; exact q.ok r (Or.inr ⟨a, vs, ds, rfl, rfl, .inl (.inl hH), hv⟩)
    | dic kvs => exact q.elim
  | pin ob => exact q.elim
end
end Fz
end

section
set_option Elab.async false
set_option linter.all false
set_option maxRecDepth 100000
set_option maxHeartbeats 4000000
/-! F2: operators. -/
namespace Fz
open PySem PySem.Spec PyProof.Rows L2
section
variable {X : Cx} {F : Fx} {α : Type} {R : VRel α}
/-- an operation by data: what is asked of the two values -/
def rOp {α : Type} (K : Fg) (F : Fx) (R : VRel α) (g : D → D → FS → Res α) : R2 := fun x y H Q => ∃ S σ d e, Rel K F S σ H ∧ Qd K H x d ∧ Qd K H y e ∧ postG K F R (g d e S) σ H Q
abbrev OpF (X : Cx) (F : Fx) (R : VRel α) (f : Value → Value → Sem Value) (g : D → D → FS → Res α) : Prop := OpR X f (rOp X.K F R g)
/-- by cases of the data: each by a rule of its own -/
theorem opF_by {f : Value → Value → Sem Value} {g : D → D → FS → Res α}
    (h : ∀ S σ d e H, (∃ r : R2, OpR X f r ∧ ∀ x y Q, Rel X.K F S σ H → Qd X.K H x d → Qd X.K H y e → postG X.K F R (g d e S) σ H Q → r x y H Q) ∨ g d e S = .bad) : OpF X F R f g := by
  intro pins s σ0 H x y v u Q I rx ry ⟨S, σ, d, e, r, hx, hy, p⟩
  rcases h S σ d e H with ⟨r2, o, k⟩ | hb
  · exact o pins s σ0 H x y v u Q I rx ry (k x y Q r hx hy p)
  · rw [hb] at p; exact p.elim
/-- sums -/
def pAdd (d e : D) : FS → Res SV := fun S => match d, e with
  | .int i, .int j => .ok (.d (.int (i + j))) S
  | .str a, .str b => if a.length + b.length ≤ sizeLine then .ok (.d (.str (a ++ b))) S else .bad
  | .tuple xs, .tuple ys => if xs.length + ys.length ≤ sizeLine then .ok (.d (.tuple (xs ++ ys))) S else .bad
  | .list xs, .list ys => if xs.length + ys.length ≤ sizeLine then .ok (.own (.lst (xs ++ ys))) S else .bad
  | _, _ => .bad
def rCatQ (K : Fg) : R2 := fun x y H Q => ∃ l b xs zs, x = .ref l ∧ y = .ref b ∧ SqL K H l xs ∧ SqL K H b zs ∧ xs.length + zs.length ≤ sizeLine ∧ ∀ p, H p = none → Q (.ref p) (upd H p (.lst (xs ++ zs)))
theorem op_catQ : OpR X (binaryOp .Add) (rCatQ X.K) := by
  intro pins s σ H x y v u Q I rx ry h
  obtain ⟨l, b, xs, zs, rfl, rfl, hH, hB, hz, q⟩ := h
  cases rx
  cases ry
  obtain ⟨its, r, ⟨⟨c1, dd1, dt1, sl1⟩, n, e, k1, k2, k3⟩, _⟩ := I.list hH
  obtain ⟨its2, r2, ⟨⟨c2, dd2, dt2, sl2⟩, n2, e2, l1, l2, l3⟩, _⟩ := I.list hB
  simp only at k1 k2 k3 l1 l2 l3
  subst k1 k2 k3 l1 l2 l3
  have hz2 : its.length + its2.length ≤ sizeLine := by rw [← r.length, ← r2.length]; exact hz
  refine concat_meets ⟨_, e, rfl⟩ ⟨_, e2, rfl⟩ noFill_list_add seq_list_add PySem.F.slot_list_add PySem.F.entry_list_add (PySem.F.args_list_add_2 _ _)
    (list_addW l b its.toArray its2.toArray n n2 _ _ sl1 sl2 (by simpa using hz2)) ⟨e, e2, ?_⟩
  have ea : its.toArray ++ its2.toArray = (its ++ its2).toArray := by simp
  rw [ea]
  exact ⟨.ref _, _, I.lnew (t' := s.toks) (r.append r2) (by rw [List.length_append]; exact hz), rfl, q _ I.fresh⟩
/-- a new list is an own value -/
theorem newList {K : Fg} {S : FS} {σ : Sl} {H : Hp} {p : Addr} {vs : List V} {ds : List D} {Q : VK} (r : Rel K F S σ H) (hv : PdAll K H vs ds) (hp : H p = none) (q : postG K F VR (.ok (.own (.lst ds)) S) σ H Q) : Q (.ref p) (upd H p (.lst vs)) := by
  have p1 : Pers H (upd H p (.lst vs)) := Pers.new hp
  exact q _ _ p1 (r.new hp) ⟨p, rfl, ⟨vs, upd_same, hv.mono p1⟩, r.none0 hp, fun j hj => r.unslot hp hj, fun b hb e => by obtain ⟨q, _⟩ := r.held b hb; rw [e, hp] at q; cases q⟩
theorem newTup {K : Fg} {S : FS} {σ : Sl} {H : Hp} {p : Addr} {vs : List V} {ds : List D} (r : Rel K F S σ H) (hv : PdAll K H vs ds) (hp : H p = none) :
    Pers H (upd H p (.tup vs)) ∧ Rel K F S σ (upd H p (.tup vs)) ∧ Pd K (upd H p (.tup vs)) (.ref p) (.tuple ds) := by
  have p1 : Pers H (upd H p (.tup vs)) := Pers.new hp
  exact ⟨p1, r.new hp, .tup (.inl (.inl upd_same)) (hv.mono p1)⟩
theorem op_addF : OpF X F VR (binaryOp .Add) pAdd := opF_by fun S σ d e H => by
  cases d with
  | int i =>
    cases e with
    | int j => exact .inl ⟨_, op_add, fun x y Q r hx hy p => ⟨i, j, hx.int, hy.int, p.ok r (Pd.int _)⟩⟩
    | _ => exact .inr rfl
  | str a =>
    cases e with
    | str b =>
      by_cases hl : a.length + b.length ≤ sizeLine
      · refine .inl ⟨_, op_add_str, fun x y Q r hx hy p => ⟨a, b, hx.str, hy.str, hl, ?_⟩⟩
        simp only [pAdd, if_pos hl] at p
        exact p.ok r (Pd.str _)
      · exact .inr (if_neg hl)
    | _ => exact .inr rfl
  | tuple xs =>
    cases e with
    | tuple ys =>
      by_cases hl : xs.length + ys.length ≤ sizeLine
      · refine .inl ⟨_, op_catA, fun x y Q r hx hy p => ?_⟩
        simp only [pAdd, if_pos hl] at p
        obtain ⟨a, vs, rfl, h1, r1⟩ := hx.tuple
        obtain ⟨b, ws, rfl, h2, r2⟩ := hy.tuple
        refine ⟨a, b, vs, ws, rfl, rfl, h1, h2, by rw [r1.length, r2.length]; exact hl, fun e0 => ?_, fun _ e0 => ?_, fun _ _ q hq => ?_⟩
        · subst e0
          cases r1
          exact p.ok r (Pd.tup h2 r2)
        · subst e0
          cases r2
          rw [List.append_nil] at p
          exact p.ok r (Pd.tup h1 r1)
        · obtain ⟨p1, r3, v⟩ := newTup r (r1.append r2) hq
          exact p _ _ p1 r3 v
      · exact .inr (if_neg hl)
    | _ => exact .inr rfl
  | list xs =>
    cases e with
    | list ys =>
      by_cases hl : xs.length + ys.length ≤ sizeLine
      · refine .inl ⟨_, op_catQ, fun x y Q r hx hy p => ?_⟩
        simp only [pAdd, if_pos hl] at p
        obtain ⟨a, vs, rfl, h1, r1⟩ := hx.list
        obtain ⟨b, ws, rfl, h2, r2⟩ := hy.list
        exact ⟨a, b, vs, ws, rfl, rfl, h1, h2, by rw [r1.length, r2.length]; exact hl, fun q hq => newList r (r1.append r2) hq p⟩
      · exact .inr (if_neg hl)
    | _ => exact .inr rfl
  | none => exact .inr rfl
  | bool b => exact .inr rfl
  | dict k => exact .inr rfl
/-- ints alone -/
def pInt (g : Int → Int → Option Int) (d e : D) : FS → Res D := fun S => match d, e with
  | .int i, .int j => (match g i j with
    | some k => .ok (.int k) S
    | none => .bad)
  | _, _ => .bad
theorem op_intF {f : Value → Value → Sem Value} {C : Int → Int → Prop} [∀ i j, Decidable (C i j)] {g : Int → Int → Int} (h : OpR X f (rI C fun i j => .int (g i j))) : OpF X F PR f (pInt fun i j => if C i j then some (g i j) else none) := opF_by fun S σ d e H => by
  cases d with
  | int i =>
    cases e with
    | int j =>
      by_cases hc : C i j
      · refine .inl ⟨_, h, fun x y Q r hx hy p => ⟨i, j, hx.int, hy.int, hc, ?_⟩⟩
        simp only [pInt, if_pos hc] at p
        exact p.ok r (Pd.int _)
      · exact .inr (by simp only [pInt, if_neg hc])
    | _ => exact .inr rfl
  | _ => exact .inr rfl
noncomputable instance (i j : Int) : Decidable (CMulW i j) := Classical.propDecidable _
noncomputable instance (i j : Int) : Decidable (CDivW i j) := Classical.propDecidable _
noncomputable instance (i j : Int) : Decidable (CPow i j) := Classical.propDecidable _
abbrev pSub := pInt fun i j => some (i - j)
noncomputable abbrev pMul := pInt fun i j => if CMulW i j then some (i * j) else none
noncomputable abbrev pDiv := pInt fun i j => if CDivW i j then some (i / j) else none
abbrev pMod := pInt fun i j => if 0 < j then some (i % j) else none
noncomputable abbrev pPow := pInt fun i j => if CPow i j then some (i ^ j.toNat) else none
noncomputable abbrev pShl := pInt fun i j => if CPow i j then some (i * 2 ^ j.toNat) else none
abbrev pShr := pInt fun i j => if 0 ≤ j then some (i / 2 ^ j.toNat) else none
abbrev pAnd := pInt fun i j => some (Builtin.bitAnd i j)
abbrev pOr := pInt fun i j => some (Builtin.bitOr i j)
theorem op_int0 {f : Value → Value → Sem Value} {g : Int → Int → Int} (h : OpR X f (rI0 fun i j => .int (g i j))) : OpF X F PR f (pInt fun i j => some (g i j)) := opF_by fun S σ d e H => by
  cases d with
  | int i =>
    cases e with
    | int j => exact .inl ⟨_, h, fun x y Q r hx hy p => ⟨i, j, hx.int, hy.int, p.ok r (Pd.int _)⟩⟩
    | _ => exact .inr rfl
  | _ => exact .inr rfl
theorem op_subF : OpF X F PR (binaryOp .Sub) pSub := op_int0 op_sub
theorem op_mulF : OpF X F PR (binaryOp .Mult) pMul := op_intF op_mulW
theorem op_divF : OpF X F PR (binaryOp .FloorDiv) pDiv := op_intF op_fdivW
theorem op_modF : OpF X F PR (binaryOp .Mod) pMod := op_intF op_mod
theorem op_powF : OpF X F PR (binaryOp .Pow) pPow := op_intF op_pow
theorem op_shlF : OpF X F PR (binaryOp .LShift) pShl := op_intF op_shl
theorem op_shrF : OpF X F PR (binaryOp .RShift) pShr := op_intF op_shr
theorem op_andF : OpF X F PR (binaryOp .BitAnd) pAnd := op_int0 op_and
theorem op_orF : OpF X F PR (binaryOp .BitOr) pOr := op_int0 op_or
/-- comparisons of ints -/
def pCmp (g : Int → Int → Bool) (d e : D) : FS → Res D := fun S => match d, e with
  | .int i, .int j => .ok (.bool (g i j)) S
  | _, _ => .bad
theorem op_cmpF {f : Value → Value → Sem Value} {g : Int → Int → Bool} (h : OpR X f (rI0 fun i j => .bl (g i j))) : OpF X F PR f (pCmp g) := opF_by fun S σ d e H => by
  cases d with
  | int i =>
    cases e with
    | int j => exact .inl ⟨_, h, fun x y Q r hx hy p => ⟨i, j, hx.int, hy.int, p.ok r (Pd.bl _)⟩⟩
    | _ => exact .inr rfl
  | _ => exact .inr rfl
abbrev pLt := pCmp fun i j => decide (i < j)
abbrev pLe := pCmp fun i j => decide (i ≤ j)
abbrev pGt := pCmp fun i j => decide (j < i)
abbrev pGe := pCmp fun i j => decide (j ≤ i)
theorem op_ltF : OpF X F PR (compareOp .Lt) pLt := op_cmpF op_lt
theorem op_leF : OpF X F PR (compareOp .LtE) pLe := op_cmpF op_le
theorem op_gtF : OpF X F PR (compareOp .Gt) pGt := op_cmpF op_gt
theorem op_geF : OpF X F PR (compareOp .GtE) pGe := op_cmpF op_ge
/-- == and != of data -/
def strs2 : D → D → Bool
  | .str _, .str _ => true
  | _, _ => false
/-- two texts, or data without dicts, of texts that can be written -/
def eqOk (d e : D) : Bool := strs2 d e || (SeqAt.shaped d && SeqAt.shaped e)
def pEq (d e : D) : FS → Res D := fun S => if eqOk d e = true then .ok (.bool (PyData.eqv d e)) S else .bad
def pNe (d e : D) : FS → Res D := fun S => if eqOk d e = true then .ok (.bool (!PyData.eqv d e)) S else .bad
theorem eqOk_cases {d e : D} (h : eqOk d e = true) : (∃ a b, d = .str a ∧ e = .str b) ∨ (SeqAt.shaped d = true ∧ SeqAt.shaped e = true) := by
  unfold eqOk at h
  rcases Bool.or_eq_true_iff.mp h with h | h
  · unfold strs2 at h
    split at h
    · exact .inl ⟨_, _, rfl, rfl⟩
    · cases h
  · exact .inr (Bool.and_eq_true_iff.mp h)
theorem op_eqF (hu : X.A.units + 64 < cLine) : OpF X F PR (compareOp .Eq) pEq := opF_by fun S σ d e H => by
  by_cases hc : eqOk d e = true
  · rcases eqOk_cases hc with ⟨a, b, rfl, rfl⟩ | hs
    · refine .inl ⟨_, op_eq, fun x y Q r hx hy p => ?_⟩
      rw [hx.str, hy.str]
      unfold pEq at p; rw [if_pos hc] at p
      refine ⟨rfl, ?_⟩
      rw [dec_str]
      have q := p.ok r (Pd.bl _)
      simpa only [PyData.eqv] using q
    · refine .inl ⟨_, op_eqD hu, fun x y Q r hx hy p => ⟨d, e, hx.dp, hy.dp, hs.1, hs.2, ?_⟩⟩
      unfold pEq at p; rw [if_pos hc] at p
      exact p.ok r (Pd.bl _)
  · exact .inr (by unfold pEq; rw [if_neg hc])
theorem op_neF (hu : X.A.units + 64 < cLine) : OpF X F PR (compareOp .NotEq) pNe := opF_by fun S σ d e H => by
  by_cases hc : eqOk d e = true
  · rcases eqOk_cases hc with ⟨a, b, rfl, rfl⟩ | hs
    · refine .inl ⟨_, op_ne, fun x y Q r hx hy p => ?_⟩
      rw [hx.str, hy.str]
      unfold pNe at p; rw [if_pos hc] at p
      refine ⟨rfl, ?_⟩
      rw [dec_str]
      have q := p.ok r (Pd.bl _)
      simpa only [PyData.eqv] using q
    · refine .inl ⟨_, op_neD hu, fun x y Q r hx hy p => ⟨d, e, hx.dp, hy.dp, hs.1, hs.2, ?_⟩⟩
      unfold pNe at p; rw [if_pos hc] at p
      exact p.ok r (Pd.bl _)
  · exact .inr (by unfold pNe; rw [if_neg hc])
def dNone : D → Bool
  | .none => true
  | _ => false
def pIs (d e : D) : FS → Res D := fun S => match e with
  | .none => .ok (.bool (dNone d)) S
  | _ => .bad
def pIsNot (d e : D) : FS → Res D := fun S => match e with
  | .none => .ok (.bool (!dNone d)) S
  | _ => .bad
theorem Qd.isNone {K : Fg} {H : Hp} {x : V} {d : D} (h : Qd K H x d) : decide (x = .non) = dNone d := by
  rcases h with h | ⟨a, vs, ds, rfl, rfl, h, r⟩
  · cases h <;> rfl
  · rfl
theorem op_isF : OpF X F PR (compareOp .Is) pIs := opF_by fun S σ d e H => by
  cases e with
  | none => exact .inl ⟨_, op_isN, fun x y Q r hx hy p => ⟨hy.non, by rw [hx.isNone]; exact p.ok r (Pd.bl _)⟩⟩
  | _ => exact .inr rfl
theorem op_isNotF : OpF X F PR (compareOp .IsNot) pIsNot := opF_by fun S σ d e H => by
  cases e with
  | none => exact .inl ⟨_, op_notN, fun x y Q r hx hy p => ⟨hy.non, by rw [hx.isNone]; exact p.ok r (Pd.bl _)⟩⟩
  | _ => exact .inr rfl
end

/-! ### two operands -/
section
variable {X : Cx} {F : Fx} {α : Type} {R : VRel α} {a b : Expr} {pos : Pos} {fa fb : FS → Res D} {g : D → D → FS → Res α}
def fOp {α : Type} (g : D → D → FS → Res α) (fa fb : FS → Res D) : FS → Res α := bnd fa fun d => bnd fb fun e => g d e
/-- the left one is a name: it is looked at behind the right one -/
def fOpN {α : Type} (g : D → D → FS → Res α) (i : Nat) (fb : FS → Res D) : FS → Res α := bnd (fPeek i) fun _ => bnd fb fun e => bnd (fPeek i) fun d => g d e
theorem tOp_of {σ : Sl} {H : Hp} {Q : VK} (h : rdG X.K F R (fOp g fa fb) σ H Q) : tOp (rOp X.K F R g) (rdG X.K F PR fa) (rdG X.K F QR fb) σ H Q := by
  refine (rdG.bind h).imp fun x H1 ⟨d, S1, r1, v1, p1, q1⟩ => ?_
  refine (rdG.bind (k := fun e => g d e) (⟨S1, r1, q1⟩ : rdG X.K F R (bnd fb fun e => g d e) σ H1 Q)).imp fun y H2 ⟨e, S2, r2, v2, p2, q2⟩ => ?_
  exact ⟨S2, σ, d, e, r2, .inl (Pd.mono p2 v1), v2, q2⟩
theorem peek_val {K : Fg} {S : FS} {σ : Sl} {H : Hp} {i : Nat} {d : D} {S' : FS} (r : Rel K F S σ H) (h : fPeek i S = .ok d S') : S' = S ∧ ∃ x, σ[i]? = some (some x) ∧ Qd K H x d := by
  unfold fPeek at h
  split at h
  · rename_i d' hd
    cases h
    obtain ⟨x, ex, v⟩ := r.slot i _ hd
    exact ⟨rfl, x, ex, .inl v⟩
  · rename_i ds hd
    cases h
    obtain ⟨x, ex, a, rfl, ⟨vs, hH, hv⟩, n⟩ := r.slot i _ hd
    exact ⟨rfl, _, ex, .inr ⟨a, vs, ds, rfl, rfl, .inl (.inl hH), hv⟩⟩
  · rename_i ds hd
    cases h
    obtain ⟨x, ex, a, rfl, ⟨vs, hH, hv⟩, n⟩ := r.slot i _ hd
    exact ⟨rfl, _, ex, .inr ⟨a, vs, ds, rfl, rfl, .inl (.inl hH), hv⟩⟩
  · cases h
theorem peek_ok {i : Nat} {S : FS} : (∃ d, fPeek i S = .ok d S) ∨ fPeek i S = .bad := by
  unfold fPeek
  split
  · exact .inl ⟨_, rfl⟩
  · exact .inl ⟨_, rfl⟩
  · exact .inl ⟨_, rfl⟩
  · exact .inr rfl
/-- behind the right operand: the name's value -/
theorem peek_in {K : Fg} {S : FS} {σ : Sl} {H : Hp} {i : Nat} {k : D → FS → Res α} {Q : VK} (r : Rel K F S σ H) (p : postG K F R (bnd (fPeek i) k S) σ H Q) : ∃ x d, σ[i]? = some (some x) ∧ Qd K H x d ∧ postG K F R (k d S) σ H Q := by
  unfold bnd at p
  rcases peek_ok (i := i) (S := S) with ⟨d, e⟩ | e
  · obtain ⟨_, x, ex, v⟩ := peek_val r e
    rw [e] at p
    exact ⟨x, d, ex, v, p⟩
  · rw [e] at p; exact p.elim
theorem tOpN_of {i : Nat} {σ : Sl} {H : Hp} {Q : VK} (h : rdG X.K F R (fOpN g i fb) σ H Q) : tOp (rOp X.K F R g) (tVar i) (rdG X.K F QR fb) σ H Q := by
  obtain ⟨S, r, p⟩ := h
  obtain ⟨x, d0, ex, _, p⟩ := peek_in (k := fun _ => bnd fb fun e => bnd (fPeek i) fun d => g d e) r p
  refine ⟨x, ex, (rdG.bind (k := fun e => bnd (fPeek i) fun d => g d e) (R' := R) ⟨S, r, p⟩).imp fun y H1 ⟨e, S1, r1, v1, p1, q1⟩ => ?_⟩
  obtain ⟨x', d, ex', vd, q2⟩ := peek_in r1 q1
  rw [ex] at ex'; cases ex'
  exact ⟨S1, σ, d, e, r1, vd, v1, q2⟩
theorem e_op {op : Operator} (ho : OpF X F R (binaryOp op) g) (ha : ED X F a fa) (hb : EQ X F b fb) : PE X (.BinOp a op b pos) (rdG X.K F R (fOp g fa fb)) := (pe_op ho ha hb).via fun _ _ _ h => tOp_of h
theorem e_opN {i : Nat} {op : Operator} (ho : OpF X F R (binaryOp op) g) (ha : PE X a (tVar i)) (hb : EQ X F b fb) : PE X (.BinOp a op b pos) (rdG X.K F R (fOpN g i fb)) := (pe_op ho ha hb).via fun _ _ _ h => tOpN_of h
theorem e_cmp {op : CmpOp} (ho : OpF X F R (compareOp op) g) (ha : ED X F a fa) (hb : EQ X F b fb) (hm : behindInMarks op b = false) : PE X (.Compare a [op] [b] pos) (rdG X.K F R (fOp g fa fb)) := (pe_cmpR ho ha hb hm).via fun _ _ _ h => tOp_of h
theorem e_cmpN {i : Nat} {op : CmpOp} (ho : OpF X F R (compareOp op) g) (ha : PE X a (tVar i)) (hb : EQ X F b fb) (hm : behindInMarks op b = false) : PE X (.Compare a [op] [b] pos) (rdG X.K F R (fOpN g i fb)) := (pe_cmpR ho ha hb hm).via fun _ _ _ h => tOpN_of h
/-- a bool's value as a test -/
def fT (f : FS → Res D) : FS → Res Bool := bnd f fun d S => match d with
  | .bool b => .ok b S
  | _ => .bad
theorem tTest_of {σ : Sl} {H : Hp} {Q : Bool → Hp → Prop} {f : FS → Res D} {t : TE} (h : rdT X.K F (fT f) σ H Q) (ht : ∀ Q, rdG X.K F PR f σ H Q → t σ H Q) : tTest t σ H Q := by
  refine ht _ ((rdG.bindT h).imp fun x H1 ⟨d, S1, r, v, p, q⟩ => ?_)
  cases d with
  | bool b => cases v; exact ⟨b, rfl, q.ok r⟩
  | _ => exact q.elim
theorem t_cmp {op : CmpOp} {g : D → D → FS → Res D} (ho : OpF X F PR (compareOp op) g) (ha : ED X F a fa) (hb : EQ X F b fb) (hm : behindInMarks op b = false) : ET X F (.Compare a [op] [b] pos) (fT (fOp g fa fb)) :=
  (pt_cmpR ho ha hb hm).via fun _ _ _ h => tTest_of h fun _ h => tOp_of h
theorem t_cmpN {i : Nat} {op : CmpOp} {g : D → D → FS → Res D} (ho : OpF X F PR (compareOp op) g) (ha : PE X a (tVar i)) (hb : EQ X F b fb) (hm : behindInMarks op b = false) : ET X F (.Compare a [op] [b] pos) (fT (fOpN g i fb)) :=
  (pt_cmpR ho ha hb hm).via fun _ _ _ h => tTest_of h fun _ h => tOpN_of h
/-- an expression whose value is a bool, as a test -/
theorem t_val {e : Expr} {f : FS → Res D} (h : ED X F e f) (he : ∀ whole, isTrue e X.env whole = (do let v ← whole; standAt e.pos; holding [v] (truthy v)) := by intro _; rfl) : ET X F e (fT f) :=
  (pt_val h he).via fun σ H Q h => (rdG.bindT h).imp fun x H1 ⟨d, S1, r, v, p, q⟩ => by
    cases d with
    | bool b => cases v; exact ⟨b, rfl, q.ok r⟩
    | _ => exact q.elim
/-- and, or, not as tests -/
def fAndT (f g : FS → Res Bool) : FS → Res Bool := bnd f fun b => if b = true then g else fC false
def fOrT (f g : FS → Res Bool) : FS → Res Bool := bnd f fun b => if b = true then fC true else g
def fNotT (f : FS → Res Bool) : FS → Res Bool := bnd f fun b => fC (!b)
abbrev EW (X : Cx) (F : Fx) (e : Expr) (f : FS → Res Bool) : Prop := PW X e (rdT X.K F f)
theorem _root_.L2.PW.via {X : Cx} {e : Expr} {t t' : TT} (h : PW X e t) (hw : ∀ σ H Q, t' σ H Q → t σ H Q) : PW X e t' := ⟨fun wh pins s σ H Q I q => h.run wh pins s σ H Q I (hw σ H Q q)⟩
variable {f f2 : FS → Res Bool} {rest : List Expr}
theorem w_and1 (ha : ET X F a f) : EW X F (.BoolOp .And [a] pos) f := pw_and1 ha
theorem w_or1 (ha : ET X F a f) : EW X F (.BoolOp .Or [a] pos) f := pw_or1 ha
theorem w_and (ha : ET X F a f) (hb : EW X F (.BoolOp .And (b :: rest) pos) f2) : EW X F (.BoolOp .And (a :: b :: rest) pos) (fAndT f f2) :=
  (pw_and ha hb).via fun σ H Q h => (rdT.bindT h).imp fun c H1 ⟨S1, r, p, q⟩ => by
    cases c with
    | true => exact ⟨S1, r, q⟩
    | false => exact q.ok r
theorem w_or (ha : ET X F a f) (hb : EW X F (.BoolOp .Or (b :: rest) pos) f2) : EW X F (.BoolOp .Or (a :: b :: rest) pos) (fOrT f f2) :=
  (pw_or ha hb).via fun σ H Q h => (rdT.bindT h).imp fun c H1 ⟨S1, r, p, q⟩ => by
    cases c with
    | true => exact q.ok r
    | false => exact ⟨S1, r, q⟩
theorem t_not (ha : ET X F a f) : ET X F (.UnaryOp .Not a pos) (fNotT f) :=
  (pt_not ha).via fun σ H Q h => (rdT.bindT h).imp fun c H1 ⟨S1, r, p, q⟩ => q.ok r
/-- a value's truth -/
def dTru : D → Option Bool
  | .none => some false
  | .bool b => some b
  | .int i => some (i != 0)
  | .str x => if x.length ≤ sizeLine then some (x.length != 0) else none
  | .tuple ds => some (!ds.isEmpty)
  | .list ds => some (!ds.isEmpty)
  | .dict _ => none
def fTru (f : FS → Res D) : FS → Res Bool := bnd f fun d S => match dTru d with
  | some b => .ok b S
  | none => .bad
theorem PdAll.isEmpty {K : Fg} {H : Hp} {xs : List V} {ds : List D} (h : PdAll K H xs ds) : xs.isEmpty = ds.isEmpty := by cases h <;> rfl
theorem Qd.tru {K : Fg} {H : Hp} {x : V} {d : D} {b : Bool} (h : Qd K H x d) (e : dTru d = some b) : TruV K x H b := by
  cases d with
  | none => cases h.non; cases e; rfl
  | bool k => cases h.bl; cases e; rfl
  | int k => cases h.int; cases e; rfl
  | str k =>
    cases h.str
    by_cases hk : k.length ≤ sizeLine
    · simp only [dTru, if_pos hk] at e; cases e; exact ⟨hk, by rw [Bool.eq_iff_iff]; simp⟩
    · simp only [dTru, if_neg hk] at e; cases e
  | tuple ds =>
    obtain ⟨a, vs, rfl, h1, r1⟩ := h.tuple
    cases e
    exact .inr (.inl ⟨vs, h1, by rw [r1.isEmpty]⟩)
  | list ds =>
    obtain ⟨a, vs, rfl, h1, r1⟩ := h.list
    cases e
    exact .inl ⟨vs, h1, by rw [r1.isEmpty]⟩
  | dict _ => cases e
theorem t_tru {e : Expr} {f : FS → Res D} (h : EQ X F e f) (he : ∀ whole, isTrue e X.env whole = (do let v ← whole; standAt e.pos; holding [v] (truthy v)) := by intro _; rfl) : ET X F e (fTru f) :=
  (pt_truth h he).via fun σ H Q h => (rdG.bindT h).imp fun x H1 ⟨d, S1, r, v, p, q⟩ => by
    cases e : dTru d with
    | none => rw [e] at q; exact q.elim
    | some b => rw [e] at q; exact ⟨b, Qd.tru v e, q.ok r⟩
/-- and, or of bools as values -/
def fAndV (f g : FS → Res D) : FS → Res D := bnd f fun d => match d with
  | .bool true => g
  | .bool false => fC (.bool false)
  | _ => fun _ => .bad
def fOrV (f g : FS → Res D) : FS → Res D := bnd f fun d => match d with
  | .bool true => fC (.bool true)
  | .bool false => g
  | _ => fun _ => .bad
theorem v_one {op : BoolOp} {f : FS → Res D} (h : ED X F a f) : ED X F (.BoolOp op [a] pos) f := pe_one h
theorem v_and (ha : ED X F a fa) (hb : ED X F (.BoolOp .And (b :: rest) pos) fb) : ED X F (.BoolOp .And (a :: b :: rest) pos) (fAndV fa fb) :=
  (pe_and ha hb).via fun σ H Q h => (rdG.bind h).imp fun x H1 ⟨d, S1, r, v, p, q⟩ => by
    cases d with
    | bool k =>
      cases v
      refine ⟨k, rfl, ?_⟩
      cases k with
      | true => exact ⟨S1, r, q⟩
      | false => exact q.ok r (Pd.bl _)
    | _ => exact q.elim
theorem v_or (ha : ED X F a fa) (hb : ED X F (.BoolOp .Or (b :: rest) pos) fb) : ED X F (.BoolOp .Or (a :: b :: rest) pos) (fOrV fa fb) :=
  (pe_or ha hb).via fun σ H Q h => (rdG.bind h).imp fun x H1 ⟨d, S1, r, v, p, q⟩ => by
    cases d with
    | bool k =>
      cases v
      refine ⟨k, rfl, ?_⟩
      cases k with
      | true => exact q.ok r (Pd.bl _)
      | false => exact ⟨S1, r, q⟩
    | _ => exact q.elim
def fNotV (f : FS → Res D) : FS → Res D := bnd (fTru f) fun b => fC (.bool (!b))
theorem v_not (ha : EQ X F a fa) : ED X F (.UnaryOp .Not a pos) (fNotV fa) :=
  (pe_notT ha).via fun σ H Q ⟨S, r, p⟩ => by
    unfold fNotV fTru at p
    have p' : rdG X.K F PR (bnd fa fun d => bnd (fun S => match dTru d with | some b => Res.ok b S | none => Res.bad) fun b => fC (.bool (!b))) σ H Q := ⟨S, r, by
      unfold bnd at p ⊢
      cases e : fa S with
      | ok d S1 => rw [e] at p; exact p
      | exn e2 S1 => rw [e] at p; exact p
      | bad => rw [e] at p; exact p⟩
    refine (rdG.bind p').imp fun x H1 ⟨d, S1, r, v, p, q⟩ => ?_
    unfold bnd at q
    cases e : dTru d with
    | none => rw [e] at q; exact q.elim
    | some b => rw [e] at q; exact ⟨b, Qd.tru v e, q.ok r (Pd.bl _)⟩
/-- a if t else b -/
def fIte {α : Type} (t : FS → Res Bool) (f g : FS → Res α) : FS → Res α := bnd t fun b => if b = true then f else g
theorem e_ite {c : Expr} {t : FS → Res Bool} {f1 f3 : FS → Res α} (hc : ET X F c t) (ha : PE X a (rdG X.K F R f1)) (hb : PE X b (rdG X.K F R f3)) : PE X (.IfExp c a b pos) (rdG X.K F R (fIte t f1 f3)) :=
  (pe_ifExp hc ha hb).via fun σ H Q h => (rdT.bind h).imp fun c H1 ⟨S1, r, p, q⟩ => by
    cases c with
    | true => exact ⟨S1, r, q⟩
    | false => exact ⟨S1, r, q⟩
/-- -a -/
def pNeg (d : D) : FS → Res D := fun S => match d with
  | .int i => .ok (.int (-i)) S
  | _ => .bad
theorem e_neg (ha : ED X F a fa) : ED X F (.UnaryOp .USub a pos) (bnd fa pNeg) :=
  (pe_un un_neg ha).via fun σ H Q h => (rdG.bind h).imp fun x H1 ⟨d, S1, r, v, p, q⟩ => by
    cases d with
    | int i => cases v; exact ⟨i, rfl, q.ok r (Pd.int _)⟩
    | _ => exact q.elim
end
end Fz
end

section
set_option Elab.async false
set_option linter.all false
set_option maxRecDepth 100000
set_option maxHeartbeats 4000000
/-! F3: argument lists, displays, subscripts, slices, calls of built-ins. -/
namespace Fz
open PySem PySem.Spec PyProof.Rows L2
/-! ### argument lists -/
inductive QAll (K : Fg) (H : Hp) : List V → List D → Prop
  | nil : QAll K H [] []
  | cons {x : V} {d : D} {xs : List V} {ds : List D} (h : Qd K H x d) (r : QAll K H xs ds) : QAll K H (x :: xs) (d :: ds)
theorem PdAll.q {K : Fg} {H : Hp} : ∀ {xs : List V} {ds : List D}, PdAll K H xs ds → QAll K H xs ds
  | _, _, .nil => .nil
  | _, _, .cons h r => .cons (.inl h) r.q
def AR (K : Fg) (_ : Fx) (_ : FS) (_ : Sl) (H : Hp) (xs : List V) (ds : List D) : Prop := PdAll K H xs ds
def AQ (K : Fg) (_ : Fx) (_ : FS) (_ : Sl) (H : Hp) (xs : List V) (ds : List D) : Prop := QAll K H xs ds
abbrev EA (X : Cx) (F : Fx) (es : List Expr) (f : FS → Res (List D)) : Prop := PA X es (rdG X.K F AR f)
abbrev EAQ (X : Cx) (F : Fx) (es : List Expr) (f : FS → Res (List D)) : Prop := PA X es (rdG X.K F AQ f)
theorem _root_.L2.PA.via {X : Cx} {e : List Expr} {t t' : TA} (h : PA X e t) (hw : ∀ σ H Q, t' σ H Q → t σ H Q) : PA X e t' := ⟨fun p pins s σ H Q I q => h.run p pins s σ H Q I (hw σ H Q q)⟩
def fCons (f : FS → Res D) (g : FS → Res (List D)) : FS → Res (List D) := bnd f fun d => bnd g fun ds => fC (d :: ds)
section
variable {X : Cx} {F : Fx} {e : Expr} {es : List Expr} {f : FS → Res D} {g : FS → Res (List D)} {pos : Pos} {α : Type} {R : VRel α}
theorem a_nil : EA X F [] (fC []) := pa_nil.via fun _ _ _ ⟨_, r, p⟩ => p.ok r .nil
theorem a_cons (ha : ED X F e f) (hr : EA X F es g) (hs : starEach (e :: es) X.env = (false, eval e X.env) :: starEach es X.env := by rfl) : EA X F (e :: es) (fCons f g) :=
  (pa_cons ha hr hs).via fun σ H Q h => (rdG.bind h).imp fun x H1 ⟨d, S1, r1, v1, p1, q1⟩ =>
    (rdG.bind (k := fun ds => fC (d :: ds)) (R' := AR) ⟨S1, r1, q1⟩).imp fun xs H2 ⟨ds, S2, r2, v2, p2, q2⟩ => q2.ok r2 (.cons (Pd.mono p2 v1) v2)
theorem EA.q (h : EA X F es g) : EAQ X F es g := h.via fun σ H Q ⟨S, r, p⟩ => ⟨S, r, by
  cases e : g S with
  | ok d S1 => rw [e] at p; exact fun x H1 q r1 v => p x H1 q r1 (PdAll.q v)
  | exn e2 S1 => rw [e] at p; exact p
  | bad => rw [e] at p; exact p⟩
/-- the last argument may be looked at -/
theorem a_last (ha : EQ X F e f) (hs : starEach [e] X.env = (false, eval e X.env) :: starEach [] X.env := by rfl) : EAQ X F [e] (fCons f (fC [])) :=
  (pa_cons ha pa_nil hs).via fun σ H Q h => (rdG.bind h).imp fun x H1 ⟨d, S1, r1, v1, p1, q1⟩ => q1.ok r1 (.cons v1 .nil)
theorem a_consQ (ha : ED X F e f) (hr : EAQ X F es g) (hs : starEach (e :: es) X.env = (false, eval e X.env) :: starEach es X.env := by rfl) : EAQ X F (e :: es) (fCons f g) :=
  (pa_cons ha hr hs).via fun σ H Q h => (rdG.bind h).imp fun x H1 ⟨d, S1, r1, v1, p1, q1⟩ =>
    (rdG.bind (k := fun ds => fC (d :: ds)) (R' := AQ) ⟨S1, r1, q1⟩).imp fun xs H2 ⟨ds, S2, r2, v2, p2, q2⟩ => q2.ok r2 (.cons (.inl (Pd.mono p2 v1)) v2)
/-! ### displays -/
def fTup (g : FS → Res (List D)) : FS → Res D := bnd g fun ds S => if ds.length ≤ sizeLine then .ok (.tuple ds) S else .bad
def fLst (g : FS → Res (List D)) : FS → Res SV := bnd g fun ds S => if ds.length ≤ sizeLine then .ok (.own (.lst ds)) S else .bad
theorem e_tup {k : Nat} (h : EA X F es g) : ED X F (.Tuple es k pos) (fTup g) := (pe_tup h).via fun σ H Q h => (rdG.bind h).imp fun xs H1 ⟨ds, S1, r, v, p, q⟩ => by
  split at q
  · rename_i hl
    refine ⟨by rw [PdAll.length v]; exact hl, fun a ha => ?_⟩
    obtain ⟨p1, r3, v3⟩ := newTup r v ha
    exact q _ _ p1 r3 v3
  · exact q.elim
theorem e_lst (h : EA X F es g) : EV X F (.List es pos) (fLst g) := (pe_lst h).via fun σ H Q h => (rdG.bind h).imp fun xs H1 ⟨ds, S1, r, v, p, q⟩ => by
  split at q
  · rename_i hl
    exact ⟨by rw [PdAll.length v]; exact hl, fun a ha => newList r v ha q⟩
  · exact q.elim
end
/-! ### subscripts -/
section
variable {X : Cx} {F : Fx} {α : Type} {R : VRel α} {a b : Expr} {pos : Pos} {fa fb : FS → Res D} {g : D → D → FS → Res α}
def pIx (d e : D) : FS → Res D := fun S => match d, e with
  | .tuple ds, .int i => (match atI ds i with
    | some d => .ok d S
    | none => .bad)
  | .list ds, .int i => (match atI ds i with
    | some d => .ok d S
    | none => .bad)
  | .str z, .int i => if z.length ≤ sizeLine then (match atI z.cps.toList i with
    | some c => .ok (.str ⟨#[c]⟩) S
    | none => .bad) else .bad
  | _, _ => .bad
theorem PdAll.atI {K : Fg} {H : Hp} {xs : List V} {ds : List D} {i : Int} {d : D} (h : PdAll K H xs ds) (e : atI ds i = some d) : ∃ x, L2.atI xs i = some x ∧ Pd K H x d := by
  unfold L2.atI at e ⊢
  rw [h.length]
  cases q : ixN ds.length i with
  | none => rw [q] at e; cases e
  | some j =>
    rw [q] at e
    obtain ⟨x, h1, h2⟩ := h.get (show ds[j]? = some d from e)
    exact ⟨x, h1, h2⟩
theorem ix_F : IxR X (rOp X.K F PR pIx) := by
  intro value slice pins s σ0 H x y v u Q I rx ry ⟨S, σ, d, e, r, hx, hy, p⟩ hs
  cases d with
  | tuple ds =>
    cases e with
    | int i =>
      cases q : atI ds i with
      | none => simp only [pIx, q] at p; exact p.elim
      | some d =>
        simp only [pIx, q] at p
        obtain ⟨a, vs, rfl, h1, r1⟩ := hx.tuple
        obtain ⟨z, h2, h3⟩ := r1.atI q
        exact ix_tup value slice pins s σ0 H _ y v u Q I rx ry ⟨a, vs, i, z, rfl, hy.int, h1, h2, p.ok r h3⟩ hs
    | _ => exact p.elim
  | list ds =>
    cases e with
    | int i =>
      cases q : atI ds i with
      | none => simp only [pIx, q] at p; exact p.elim
      | some d =>
        simp only [pIx, q] at p
        obtain ⟨a, vs, rfl, h1, r1⟩ := hx.list
        obtain ⟨z, h2, h3⟩ := r1.atI q
        exact ix_list value slice pins s σ0 H _ y v u Q I rx ry ⟨a, vs, i, z, rfl, hy.int, h1, h2, p.ok r h3⟩ hs
    | _ => exact p.elim
  | str z =>
    cases e with
    | int i =>
      by_cases hl : z.length ≤ sizeLine
      · cases q : atI z.cps.toList i with
        | none => simp only [pIx, q, if_pos hl] at p; exact p.elim
        | some c =>
          simp only [pIx, q, if_pos hl] at p
          exact ix_str value slice pins s σ0 H _ y v u Q I rx ry ⟨z, i, c, hx.str, hy.int, hl, q, p.ok r (Pd.str _)⟩ hs
      · simp only [pIx, if_neg hl] at p; exact p.elim
    | _ => exact p.elim
  | _ => exact p.elim
theorem e_ix (ha : ED X F a fa) (hb : ED X F b fb) (hs : PlainIx b := by exact fun _ _ => rfl) : ED X F (.Subscript a b pos) (fOp pIx fa fb) := (pe_ix ix_F ha hb.q hs).via fun _ _ _ h => tOp_of h
theorem e_ixN {i : Nat} (ha : PE X a (tVar i)) (hb : ED X F b fb) (hs : PlainIx b := by exact fun _ _ => rfl) : ED X F (.Subscript a b pos) (fOpN pIx i fb) := (pe_ix ix_F ha hb.q hs).via fun _ _ _ h => tOpN_of h
/-! ### slices -/
def OR (_ : Fg) (_ : Fx) (_ : FS) (_ : Sl) (_ : Hp) (o o' : Option Int) : Prop := o = o'
abbrev EO (X : Cx) (F : Fx) (e : Option Expr) (f : FS → Res (Option Int)) : Prop := PO X e (rdG X.K F OR f)
theorem _root_.L2.PO.via {X : Cx} {e : Option Expr} {t t' : TO} (h : PO X e t) (hw : ∀ σ H Q, t' σ H Q → t σ H Q) : PO X e t' := ⟨fun pins s σ H Q I q => h.run pins s σ H Q I (hw σ H Q q)⟩
def fPart (f : FS → Res D) : FS → Res (Option Int) := bnd f fun d S => match d with
  | .int i => .ok (some i) S
  | _ => .bad
theorem o_none : EO X F none (fC none) := po_none.via fun _ _ _ ⟨_, r, p⟩ => p.ok r rfl
theorem o_some (h : ED X F a fa) : EO X F (some a) (fPart fa) := (po_some h).via fun σ H Q h => (rdG.bind h).imp fun x H1 ⟨d, S1, r, v, p, q⟩ => by
  cases d with
  | int i => cases v; exact ⟨i, rfl, q.ok r rfl⟩
  | _ => exact q.elim
def cutL {β : Type} (xs : List β) (lo hi : Option Int) : List β := (xs.drop (HT.sIx xs.length 0 lo)).take (HT.sIx xs.length xs.length hi - HT.sIx xs.length 0 lo)
def pSl (d : D) (lo hi : Option Int) : FS → Res SV := fun S => match d with
  | .tuple ds => .ok (.d (.tuple (cutL ds lo hi))) S
  | .list ds => .ok (.own (.lst (cutL ds lo hi))) S
  | .str z => if z.length ≤ sizeLine then .ok (.d (.str (cutS z lo hi))) S else .bad
  | _ => .bad
def rSlF (K : Fg) (F : Fx) : V → Option Int → Option Int → Hp → VK → Prop := fun x lo hi H Q => ∃ S σ d, Rel K F S σ H ∧ Qd K H x d ∧ postG K F VR (pSl d lo hi S) σ H Q
theorem PdAll.cut {K : Fg} {H : Hp} {xs : List V} {ds : List D} (h : PdAll K H xs ds) (lo hi : Option Int) : PdAll K H (cutV xs lo hi) (cutL ds lo hi) := by
  unfold cutV cutL
  rw [h.length]
  exact (h.drop _).take _
theorem sl_F : SlR X (rSlF X.K F) := by
  intro pins s σ0 H x v vl vu lo hi sl Q I rx hs pl pu ⟨S, σ, d, r, hx, p⟩
  cases d with
  | tuple ds =>
    obtain ⟨a, vs, rfl, h1, r1⟩ := hx.tuple
    refine sl_tupA pins s σ0 H _ v vl vu lo hi sl Q I rx hs pl pu ⟨a, vs, rfl, h1, fun hw => ?_, fun hw q hq => ?_⟩
    · have e : cutL ds lo hi = ds := by
        unfold cutL
        rw [← r1.length, hw.1, hw.2, List.drop_zero, Nat.sub_zero, r1.length]
        exact List.take_length
      have p' : postG X.K F VR (.ok (.d (.tuple (cutL ds lo hi))) S) σ H Q := p
      rw [e] at p'
      exact p'.ok r (Pd.tup h1 r1)
    · obtain ⟨p1, r3, v3⟩ := newTup r (r1.cut lo hi) hq
      exact p _ _ p1 r3 v3
  | list ds =>
    obtain ⟨a, vs, rfl, h1, r1⟩ := hx.list
    exact sl_list pins s σ0 H _ v vl vu lo hi sl Q I rx hs pl pu ⟨a, vs, rfl, h1, fun q hq => newList r (r1.cut lo hi) hq p⟩
  | str z =>
    by_cases hl : z.length ≤ sizeLine
    · simp only [pSl, if_pos hl] at p
      exact sl_str pins s σ0 H _ v vl vu lo hi sl Q I rx hs pl pu ⟨z, hx.str, hl, p.ok r (Pd.str _)⟩
    · simp only [pSl, if_neg hl] at p; exact p.elim
  | _ => exact p.elim
def fSl (fa : FS → Res D) (fl fh : FS → Res (Option Int)) : FS → Res SV := bnd fa fun d => bnd fl fun lo => bnd fh fun hi => pSl d lo hi
def fSlN (i : Nat) (fl fh : FS → Res (Option Int)) : FS → Res SV := bnd (fPeek i) fun _ => bnd fl fun lo => bnd fh fun hi => bnd (fPeek i) fun d => pSl d lo hi
theorem e_sl {lo hi : Option Expr} {p2 : Pos} {fl fh : FS → Res (Option Int)} (ha : ED X F a fa) (hl : EO X F lo fl) (hh : EO X F hi fh) : EV X F (.Subscript a (.Slice lo hi none p2) pos) (fSl fa fl fh) :=
  (pe_slice sl_F ha hl hh).via fun σ H Q h => (rdG.bind h).imp fun x H1 ⟨d, S1, r1, v1, p1, q1⟩ =>
    (rdG.bind (k := fun lo => bnd fh fun hi => pSl d lo hi) (R' := VR) ⟨S1, r1, q1⟩).imp fun l H2 ⟨lo, S2, r2, e2, p2, q2⟩ => by
      cases e2
      refine (rdG.bind (k := fun hi => pSl d l hi) (R' := VR) ⟨S2, r2, q2⟩).imp fun u H3 ⟨hi, S3, r3, e3, p3, q3⟩ => ?_
      cases e3
      exact ⟨S3, σ, d, r3, .inl (Pd.mono (p2.trans p3) v1), q3⟩
theorem e_slN {i : Nat} {lo hi : Option Expr} {p2 : Pos} {fl fh : FS → Res (Option Int)} (ha : PE X a (tVar i)) (hl : EO X F lo fl) (hh : EO X F hi fh) : EV X F (.Subscript a (.Slice lo hi none p2) pos) (fSlN i fl fh) :=
  (pe_slice sl_F ha hl hh).via fun σ H Q ⟨S, r, p⟩ => by
    obtain ⟨x, d0, ex, _, p⟩ := peek_in (k := fun _ => bnd fl fun lo => bnd fh fun hi => bnd (fPeek i) fun d => pSl d lo hi) r p
    refine ⟨x, ex, (rdG.bind (k := fun lo => bnd fh fun hi => bnd (fPeek i) fun d => pSl d lo hi) (R' := VR) ⟨S, r, p⟩).imp fun l H2 ⟨lo, S2, r2, e2, p2, q2⟩ => ?_⟩
    cases e2
    refine (rdG.bind (k := fun hi => bnd (fPeek i) fun d => pSl d l hi) (R' := VR) ⟨S2, r2, q2⟩).imp fun u H3 ⟨hi, S3, r3, e3, p3, q3⟩ => ?_
    cases e3
    obtain ⟨x', d, ex', vd, q4⟩ := peek_in r3 q3
    rw [ex] at ex'; cases ex'
    exact ⟨S3, σ, d, r3, vd, q4⟩
end
/-! ### built-ins by name -/
section
variable {X : Cx} {F : Fx} {α : Type} {R : VRel α} {g : List D → FS → Res α} {pos p : Pos}
def rCallF {α : Type} (K : Fg) (F : Fx) (R : VRel α) (g : List D → FS → Res α) : List V → Hp → VK → Prop := fun xs H Q => ∃ S σ ds, Rel K F S σ H ∧ QAll K H xs ds ∧ postG K F R (g ds S) σ H Q
abbrev CallF (X : Cx) (F : Fx) (R : VRel α) (f : Value) (g : List D → FS → Res α) : Prop := CallR X f (rCallF X.K F R g)
def fCall {α : Type} (g : List D → FS → Res α) (fs : FS → Res (List D)) : FS → Res α := bnd fs g
theorem tCB_of {fs : FS → Res (List D)} {σ : Sl} {H : Hp} {Q : VK} (h : rdG X.K F R (fCall g fs) σ H Q) : tCB (rCallF X.K F R g) (rdG X.K F AQ fs) σ H Q :=
  (rdG.bind h).imp fun xs H1 ⟨ds, S1, r1, v1, p1, q1⟩ => ⟨S1, σ, ds, r1, v1, q1⟩
theorem e_callB {id : String} {x : Str} {e : Expr} {es : List Expr} {fs : FS → Res (List D)} (hc : CallF X F R (.builtin id) g) (hg : Gl X x) (hm : X.mg x = none) (hv : bootBuiltins x = some (.builtin id)) (ha : EAQ X F (e :: es) fs)
    (hn : x ≠ "__name__" := by decide) (hdb : (x == ("__debug__" : Str)) = false := by decide) (he : starEach (e :: es) X.env = (false, eval e X.env) :: starEach es X.env := by rfl) (hpl : (backTo pos (starEach es X.env)).any (·.1) = false := by rfl) :
    PE X (.Call (.Name x p) (e :: es) [] pos) (rdG X.K F R (fCall g fs)) := (pe_callB hc hg hm hv ha hn hdb he hpl).via fun _ _ _ h => tCB_of h
theorem e_callTy {T : String} {x : Str} {e : Expr} {es : List Expr} {fs : FS → Res (List D)} (hc : CallF X F R (.type T) g) (hg : Gl X x) (hm : X.mg x = none) (hv : bootBuiltins x = some (.type T)) (ha : EAQ X F (e :: es) fs)
    (hn : x ≠ "__name__" := by decide) (hdb : (x == ("__debug__" : Str)) = false := by decide) (he : starEach (e :: es) X.env = (false, eval e X.env) :: starEach es X.env := by rfl) (hpl : (backTo pos (starEach es X.env)).any (·.1) = false := by rfl) :
    PE X (.Call (.Name x p) (e :: es) [] pos) (rdG X.K F R (fCall g fs)) := (pe_callTy hc hg hm hv ha hn hdb he hpl).via fun _ _ _ h => tCB_of h
/-- one argument -/
def one {α : Type} (g : D → FS → Res α) : List D → FS → Res α
  | [d], S => g d S
  | _, _ => .bad
def two {α : Type} (g : D → D → FS → Res α) : List D → FS → Res α
  | [d, e], S => g d e S
  | _, _ => .bad
theorem _root_.L2.CallR.via {f : Value} {r r' : List V → Hp → VK → Prop} (h : CallR X f r) (hw : ∀ x H Q, r' x H Q → r x H Q) : CallR X f r' := fun pins s σ H xs us Q I rx q => h pins s σ H xs us Q I rx (hw xs H Q q)
theorem callF_one {f : Value} {g : D → FS → Res α} (h : ∀ d, (∃ r : List V → Hp → VK → Prop, CallR X f r ∧ ∀ S σ H x Q, Rel X.K F S σ H → Qd X.K H x d → postG X.K F R (g d S) σ H Q → r [x] H Q) ∨ ∀ S, g d S = .bad) : CallF X F R f (one g) := by
  intro pins s σ0 H xs us Q I rx ⟨S, σ, ds, r, ha, p⟩
  cases ha with
  | nil => exact p.elim
  | cons h1 hr =>
    cases hr with
    | nil =>
      rcases h _ with ⟨r2, o, k⟩ | hb
      · exact o pins s σ0 H _ us Q I rx (k S σ H _ Q r h1 p)
      · simp only [one] at p; rw [hb] at p; exact p.elim
    | cons _ _ => exact p.elim
theorem callF_two {f : Value} {g : D → D → FS → Res α} (h : ∀ d e, (∃ r : List V → Hp → VK → Prop, CallR X f r ∧ ∀ S σ H x y Q, Rel X.K F S σ H → Qd X.K H x d → Qd X.K H y e → postG X.K F R (g d e S) σ H Q → r [x, y] H Q) ∨ ∀ S, g d e S = .bad) : CallF X F R f (two g) := by
  intro pins s σ0 H xs us Q I rx ⟨S, σ, ds, r, ha, p⟩
  cases ha with
  | nil => exact p.elim
  | cons h1 hr =>
    cases hr with
    | nil => exact p.elim
    | cons h2 hr =>
      cases hr with
      | nil =>
        rcases h _ _ with ⟨r2, o, k⟩ | hb
        · exact o pins s σ0 H _ us Q I rx (k S σ H _ _ Q r h1 h2 p)
        · simp only [two] at p; rw [hb] at p; exact p.elim
      | cons _ _ => exact p.elim
def pLen (d : D) : FS → Res D := fun S => match d with
  | .tuple ds => .ok (.int ds.length) S
  | .list ds => .ok (.int ds.length) S
  | .str z => if z.length ≤ sizeLine then .ok (.int z.length) S else .bad
  | _ => .bad
theorem c_len : CallF X F PR (.builtin "len") (one pLen) := callF_one fun d => by
  cases d with
  | tuple ds => exact .inl ⟨_, call_len, fun S σ H x Q r hx p => by
      obtain ⟨a, vs, rfl, h1, r1⟩ := hx.tuple
      exact ⟨_, _, rfl, .inr ⟨vs, h1, rfl⟩, p.ok r (by rw [r1.length]; exact Pd.int _)⟩⟩
  | list ds => exact .inl ⟨_, call_len, fun S σ H x Q r hx p => by
      obtain ⟨a, vs, rfl, h1, r1⟩ := hx.list
      exact ⟨_, _, rfl, .inl ⟨vs, h1, rfl⟩, p.ok r (by rw [r1.length]; exact Pd.int _)⟩⟩
  | str z =>
    by_cases hl : z.length ≤ sizeLine
    · exact .inl ⟨_, call_len, fun S σ H x Q r hx p => by
        simp only [pLen, if_pos hl] at p
        cases hx.str
        exact ⟨_, _, rfl, ⟨hl, rfl⟩, p.ok r (Pd.int _)⟩⟩
    · exact .inr fun S => if_neg hl
  | _ => exact .inr fun _ => rfl
def pToInt (d : D) : FS → Res D := fun S => match d with
  | .int i => .ok (.int i) S
  | .bool b => .ok (.int (if b then 1 else 0)) S
  | _ => .bad
theorem c_int : CallF X F PR (.type "int") (one pToInt) := callF_one fun d => by
  cases d with
  | int i => exact .inl ⟨_, call_int1, fun S σ H x Q r hx p => .inl ⟨i, by rw [hx.int], p.ok r (Pd.int _)⟩⟩
  | bool i => exact .inl ⟨_, call_int1, fun S σ H x Q r hx p => .inr ⟨i, by rw [hx.bl], p.ok r (Pd.int _)⟩⟩
  | _ => exact .inr fun _ => rfl
def pAbs (d : D) : FS → Res D := fun S => match d with
  | .int i => .ok (.int (if i < 0 then -i else i)) S
  | _ => .bad
theorem c_abs : CallF X F PR (.builtin "abs") (one pAbs) := callF_one fun d => by
  cases d with
  | int i => exact .inl ⟨_, call_abs, fun S σ H x Q r hx p => ⟨i, by rw [hx.int], p.ok r (Pd.int _)⟩⟩
  | _ => exact .inr fun _ => rfl
def pMax2 (d e : D) : FS → Res D := fun S => match d, e with
  | .int i, .int j => .ok (.int (if j > i then j else i)) S
  | _, _ => .bad
def pMin2 (d e : D) : FS → Res D := fun S => match d, e with
  | .int i, .int j => .ok (.int (if j < i then j else i)) S
  | _, _ => .bad
theorem c_max2 (hc : X.calm = true) : CallF X F PR (.builtin "max") (two pMax2) := callF_two fun d e => by
  cases d with
  | int i =>
    cases e with
    | int j => exact .inl ⟨_, call_max2 hc, fun S σ H x y Q r hx hy p => ⟨i, j, by rw [hx.int, hy.int], p.ok r (Pd.int _)⟩⟩
    | _ => exact .inr fun _ => rfl
  | _ => exact .inr fun _ => rfl
theorem c_min2 (hc : X.calm = true) : CallF X F PR (.builtin "min") (two pMin2) := callF_two fun d e => by
  cases d with
  | int i =>
    cases e with
    | int j => exact .inl ⟨_, call_min2 hc, fun S σ H x y Q r hx hy p => ⟨i, j, by rw [hx.int, hy.int], p.ok r (Pd.int _)⟩⟩
    | _ => exact .inr fun _ => rfl
  | _ => exact .inr fun _ => rfl
def pTuple (d : D) : FS → Res D := fun S => match d with
  | .tuple ds => .ok (.tuple ds) S
  | .list ds => .ok (.tuple ds) S
  | _ => .bad
theorem c_tuple : CallF X F PR (.type "tuple") (one pTuple) := callF_one fun d => by
  cases d with
  | tuple ds => exact .inl ⟨_, call_tuple_of, fun S σ H x Q r hx p => by
      obtain ⟨a, vs, rfl, h1, r1⟩ := hx.tuple
      exact ⟨a, vs, rfl, .inr ⟨h1, p.ok r (Pd.tup h1 r1)⟩⟩⟩
  | list ds => exact .inl ⟨_, call_tuple_of, fun S σ H x Q r hx p => by
      obtain ⟨a, vs, rfl, h1, r1⟩ := hx.list
      refine ⟨a, vs, rfl, .inl ⟨h1, fun l hl => ?_⟩⟩
      obtain ⟨p1, r3, v3⟩ := newTup r r1 hl
      exact p _ _ p1 r3 v3⟩
  | _ => exact .inr fun _ => rfl
def pList (d : D) : FS → Res SV := fun S => match d with
  | .tuple ds => .ok (.own (.lst ds)) S
  | .list ds => .ok (.own (.lst ds)) S
  | _ => .bad
theorem c_list : CallF X F VR (.type "list") (one pList) := callF_one fun d => by
  cases d with
  | tuple ds => exact .inl ⟨_, call_list_of, fun S σ H x Q r hx p => by
      obtain ⟨a, vs, rfl, h1, r1⟩ := hx.tuple
      exact ⟨a, vs, rfl, .inr h1, fun l hl => newList r r1 hl p⟩⟩
  | list ds => exact .inl ⟨_, call_list_of, fun S σ H x Q r hx p => by
      obtain ⟨a, vs, rfl, h1, r1⟩ := hx.list
      exact ⟨a, vs, rfl, .inl h1, fun l hl => newList r r1 hl p⟩⟩
  | _ => exact .inr fun _ => rfl
/-- all, any of a list of bools -/
def bls : List D → Option (List Bool)
  | [] => some []
  | .bool b :: r => (bls r).map (b :: ·)
  | _ :: _ => none
theorem PdAll.bls {K : Fg} {H : Hp} : ∀ {xs : List V} {ds : List D} {bs : List Bool}, PdAll K H xs ds → Fz.bls ds = some bs → xs = bs.map V.bl
  | _, _, _, .nil, e => by cases e; rfl
  | _, _, bs, .cons (d := d) h r, e => by
    cases d with
    | bool b =>
      cases h
      unfold Fz.bls at e
      obtain ⟨cs, e1, rfl⟩ := Option.map_eq_some_iff.mp e
      rw [PdAll.bls r e1]; rfl
    | _ => cases e
def pAll (d : D) : FS → Res D := fun S => match d with
  | .list ds => (match bls ds with
    | some bs => .ok (.bool (bs.all id)) S
    | none => .bad)
  | _ => .bad
def pAny (d : D) : FS → Res D := fun S => match d with
  | .list ds => (match bls ds with
    | some bs => .ok (.bool (bs.any id)) S
    | none => .bad)
  | _ => .bad
theorem c_all (hc : X.calm = true) : CallF X F PR (.builtin "all") (one pAll) := callF_one fun d => by
  cases d with
  | list ds =>
    cases q : bls ds with
    | none => exact .inr fun _ => by simp only [pAll, q]
    | some bs => exact .inl ⟨_, cr_all hc, fun S σ H x Q r hx p => by
        simp only [pAll, q] at p
        obtain ⟨a, vs, rfl, h1, r1⟩ := hx.list
        have e := r1.bls q
        subst e
        exact ⟨a, bs, rfl, h1, p.ok r (Pd.bl _)⟩⟩
  | _ => exact .inr fun _ => rfl
theorem c_any (hc : X.calm = true) : CallF X F PR (.builtin "any") (one pAny) := callF_one fun d => by
  cases d with
  | list ds =>
    cases q : bls ds with
    | none => exact .inr fun _ => by simp only [pAny, q]
    | some bs => exact .inl ⟨_, cr_any hc, fun S σ H x Q r hx p => by
        simp only [pAny, q] at p
        obtain ⟨a, vs, rfl, h1, r1⟩ := hx.list
        have e := r1.bls q
        subst e
        exact ⟨a, bs, rfl, h1, p.ok r (Pd.bl _)⟩⟩
  | _ => exact .inr fun _ => rfl
/-! isinstance of a built-in class -/
def dTyp : D → String
  | .none => "NoneType"
  | .bool _ => "bool"
  | .int _ => "int"
  | .str _ => "str"
  | .tuple _ => "tuple"
  | .list _ => "list"
  | .dict _ => "dict"
def isT (a T : String) : Bool := a == T || (a == "bool" && T == "int")
theorem Qd.ty {K : Fg} {H : Hp} {x : V} {d : D} (h : Qd K H x d) : TyX K H x (.type (dTyp d)) := by
  have tl : ∀ {a vs}, SqL K H a vs → TyX K H (.ref a) (.type "list") := fun {a vs} h => by
    rcases h with (h | ⟨o, h⟩) | ⟨o, its, n, h, hc, _⟩
    · exact .base (.lst h)
    · exact .base (.frz h)
    · exact .kList h hc
  rcases h with h | ⟨a, vs, ds, rfl, rfl, h, r⟩
  · cases h with
    | non => exact .base .non
    | bl b => exact .base (.bl b)
    | int b => exact .base (.int b)
    | str b => exact .base (.str b)
    | tup h r =>
      rcases h with (h | ⟨o, h⟩) | ⟨o, its, n, h, hc, _⟩
      · exact .base (.tup h)
      · exact .fTuple h
      · exact .kTuple h hc
    | lst h r => exact tl h.sq
  · exact tl h
theorem kit_all {K : Fg} : ∀ d : D, ∀ T ∈ ["int", "bool", "str", "tuple", "list", "dict"], PySem.W.kitOne K (.type (dTyp d)) (.type T) = some (isT (dTyp d) T) := by
  have key : ∀ a ∈ ["NoneType", "bool", "int", "str", "tuple", "list", "dict"], ∀ T ∈ ["int", "bool", "str", "tuple", "list", "dict"], kitB a T = some (isT a T) := by decide +kernel
  intro d T hT
  refine kit_ty (key _ ?_ T hT)
  cases d <;> simp [dTyp]
def fIsi (T : String) (f : FS → Res D) : FS → Res D := bnd f fun d S => .ok (.bool (isT (dTyp d) T)) S
theorem e_isi {T : String} {x : Str} {e : Expr} {f : FS → Res D} {q : Pos} (hg : Gl X "isinstance") (hm : X.mg "isinstance" = none) (hv : bootBuiltins "isinstance" = some (.builtin "isinstance")) (he : EQ X F e f)
    (hg2 : Gl X x) (hm2 : X.mg x = none) (hv2 : bootBuiltins x = some (.type T)) (hn2 : x ≠ "__name__" := by decide) (hdb2 : (x == ("__debug__" : Str)) = false := by decide) (hT : T ∈ ["int", "bool", "str", "tuple", "list", "dict"] := by decide)
    (hs : starEach [e, .Name x q] X.env = (false, eval e X.env) :: starEach [.Name x q] X.env := by rfl) (hs2 : starEach [.Name x q] X.env = (false, eval (.Name x q) X.env) :: starEach [] X.env := by rfl) (hpl : (backTo pos (starEach [.Name x q] X.env)).any (·.1) = false := by rfl) :
    ED X F (.Call (.Name "isinstance" p) [e, .Name x q] [] pos) (fIsi T f) :=
  (pe_callB call_isi hg hm hv (pa_cons he (pa_cons (pe_bltn (v := .ty T) hg2 hm2 hv2 rfl hn2 hdb2) pa_nil hs2) hs) (by decide) (by decide) hs hpl).via fun σ H Q h => (rdG.bind h).imp fun x H1 ⟨d, S1, r, v, p, q⟩ =>
    ⟨_, _, _, _, _, rfl, .ty T, v.ty, kit_all d T hT, q.ok r (Pd.bl _)⟩
end
end Fz
end

section
set_option Elab.async false
set_option linter.all false
set_option maxRecDepth 100000
set_option maxHeartbeats 4000000
/-! F4: statements. -/
namespace Fz
open PySem PySem.Spec PyProof.Rows L2
inductive SRes where
  | nx (S : FS)
  | rt (v : SV) (S : FS)
  | bk (S : FS)
  | ct (S : FS)
  | exn (e : Exn) (S : FS)
  | bad
def bndS {α : Type} (fa : FS → Res α) (k : α → FS → SRes) : FS → SRes := fun S => match fa S with
  | .ok a S1 => k a S1
  | .exn e S1 => .exn e S1
  | .bad => .bad
def postS (K : Fg) (F : Fx) (r : SRes) (D : Ends) (H : Hp) : Prop := match r with
  | .nx S => ∀ σ H', Pers H H' → Rel K F S σ H' → D.nx σ H'
  | .rt v S => ∀ x σ H', Pers H H' → Rel K F S σ H' → VR K F S σ H' x v → D.rt x H'
  | .bk S => ∀ σ H', Pers H H' → Rel K F S σ H' → D.bk σ H'
  | .ct S => ∀ σ H', Pers H H' → Rel K F S σ H' → D.ct σ H'
  | .exn e S => ∀ c dx σ H', Pers H H' → Rel K F S σ H' → ExR K H' e c dx → F.E c dx H'
  | .bad => False
def rdS (K : Fg) (F : Fx) (f : FS → SRes) : TS := fun D σ H => ∃ S, Rel K F S σ H ∧ postS K F (f S) D H
abbrev ES (X : Cx) (F : Fx) (st : Stmt) (f : FS → SRes) : Prop := PS X st (rdS X.K F f)
abbrev EB (X : Cx) (F : Fx) (st : List Stmt) (f : FS → SRes) : Prop := PSs X st (rdS X.K F f)
theorem _root_.L2.PSs.via {X : Cx} {e : List Stmt} {t t' : TS} (h : PSs X e t) (hw : ∀ D σ H, t' D σ H → t D σ H) : PSs X e t' := ⟨fun pins s σ H D I q => h.run pins s σ H D I (hw D σ H q)⟩
section
variable {α ι : Type} {K : Fg} {F : Fx} {R : GRel ι α} {σ : Sl} {H H' : Hp} {D D' : Ends}
theorem postS.later {r : SRes} (p : Pers H H') (h : postS K F r D H) : postS K F r D H' := by
  cases r with
  | nx S => exact fun σ H2 q r => h σ H2 (p.trans q) r
  | rt v S => exact fun x σ H2 q r => h x σ H2 (p.trans q) r
  | bk S => exact fun σ H2 q r => h σ H2 (p.trans q) r
  | ct S => exact fun σ H2 q r => h σ H2 (p.trans q) r
  | exn e S => exact fun c dx σ H2 q r => h c dx σ H2 (p.trans q) r
  | bad => exact h
theorem rdG.bindS {fa : FS → Res α} {k : α → FS → SRes} (h : rdS K F (bndS fa k) D σ H) :
    rdG K F R fa σ H fun x H1 => ∃ d S1, Rel K F S1 σ H1 ∧ R K F S1 σ H1 x d ∧ Pers H H1 ∧ postS K F (k d S1) D H1 := by
  obtain ⟨S, r, p⟩ := h
  refine ⟨S, r, ?_⟩
  unfold bndS at p
  cases e : fa S with
  | ok d S1 => rw [e] at p; exact fun x H1 q r1 v => ⟨d, S1, r1, v, q, postS.later q p⟩
  | exn e2 S1 => rw [e] at p; exact fun c dx H1 q r1 v => p c dx σ H1 q r1 v
  | bad => rw [e] at p; exact p
theorem rdT.bindS {fa : FS → Res Bool} {k : Bool → FS → SRes} (h : rdS K F (bndS fa k) D σ H) :
    rdT K F fa σ H fun b H1 => ∃ S1, Rel K F S1 σ H1 ∧ Pers H H1 ∧ postS K F (k b S1) D H1 := by
  obtain ⟨S, r, p⟩ := h
  refine ⟨S, r, ?_⟩
  unfold bndS at p
  cases e : fa S with
  | ok d S1 => rw [e] at p; exact fun H1 q r1 => ⟨S1, r1, q, postS.later q p⟩
  | exn e2 S1 => rw [e] at p; exact fun c dx H1 q r1 v => p c dx σ H1 q r1 v
  | bad => rw [e] at p; exact p
end
def fSeq (f g : FS → SRes) : FS → SRes := fun S => match f S with
  | .nx S1 => g S1
  | r => r
section
variable {X : Cx} {F : Fx} {st : Stmt} {rest : List Stmt} {f g : FS → SRes} {pos : Pos} {e : Expr}
theorem s_nil : EB X F [] (fun S => .nx S) := pss_nil.via fun D σ H ⟨S, r, p⟩ => p σ H (.refl H) r
theorem s_cons (h1 : ES X F st f) (h2 : EB X F rest g) : EB X F (st :: rest) (fSeq f g) := (pss_cons h1 h2).via fun D σ H ⟨S, r, p⟩ => by
  refine ⟨S, r, ?_⟩
  unfold fSeq at p
  cases e : f S with
  | nx S1 => rw [e] at p; exact fun σ' H' q r1 => ⟨S1, r1, p.later q⟩
  | rt v S1 => rw [e] at p; exact p
  | bk S1 => rw [e] at p; exact p
  | ct S1 => rw [e] at p; exact p
  | exn e2 S1 => rw [e] at p; exact p
  | bad => rw [e] at p; exact p
theorem s_one (h1 : ES X F st f) : EB X F [st] f := pss_one h1
theorem s_pass : ES X F (.Pass pos) (fun S => .nx S) := ps_pass.via fun D σ H ⟨S, r, p⟩ => p σ H (.refl H) r
theorem s_break : ES X F (.Break pos) (fun S => .bk S) := ps_break.via fun D σ H ⟨S, r, p⟩ => p σ H (.refl H) r
theorem s_continue : ES X F (.Continue pos) (fun S => .ct S) := ps_continue.via fun D σ H ⟨S, r, p⟩ => p σ H (.refl H) r
/-- not to be come to -/
theorem s_never : ES X F st (fun _ => .bad) := ps_never.via fun D σ H ⟨S, r, p⟩ => p
def fRet (f : FS → Res SV) : FS → SRes := bndS f fun v S => .rt v S
def fRetD (f : FS → Res D) : FS → SRes := bndS f fun v S => .rt (.d v) S
theorem s_ret {f : FS → Res SV} (h : EV X F e f) : ES X F (.Return (some e) pos) (fRet f) := (ps_ret h).via fun D σ H h => (rdG.bindS h).imp fun x H1 ⟨d, S1, r, v, p, q⟩ => q x σ H1 (.refl H1) r v
theorem s_retD {f : FS → Res D} (h : ED X F e f) : ES X F (.Return (some e) pos) (fRetD f) := (ps_ret h).via fun D σ H h => (rdG.bindS h).imp fun x H1 ⟨d, S1, r, v, p, q⟩ => q x σ H1 (.refl H1) r v
theorem s_retN : ES X F (.Return none pos) (fun S => .rt (.d .none) S) := ps_retN.via fun D σ H ⟨S, r, p⟩ => p .non σ H (.refl H) r Pd.non
def fDrop {α : Type} (f : FS → Res α) : FS → SRes := bndS f fun _ S => .nx S
theorem s_expr {α : Type} {R : VRel α} {f : FS → Res α} (he : PE X e (rdG X.K F R f)) (hs : swapsWith e none pos.line X.env = pure false := by rfl) : ES X F (.Expr e pos) (fDrop f) :=
  (ps_expr he hs).via fun D σ H h => (rdG.bindS h).imp fun x H1 ⟨d, S1, r, v, p, q⟩ => q σ H1 (.refl H1) r
theorem s_doc {x : Str} {j : Nat} {p1 p2 : Pos} : ES X F (.Expr (.Constant (.str x) j p1) p2) (fun S => .nx S) := ps_doc.via fun D σ H ⟨S, r, p⟩ => p σ H (.refl H) r
def fIf (t : FS → Res Bool) (f g : FS → SRes) : FS → SRes := bndS t fun b => if b = true then f else g
theorem s_if {c : Expr} {a b : List Stmt} {t : FS → Res Bool} (hc : ET X F c t) (ha : EB X F a f) (hb : EB X F b g) : ES X F (.If c a b pos) (fIf t f g) :=
  (ps_if hc ha hb).via fun D σ H h => (rdT.bindS h).imp fun b H1 ⟨S1, r, p, q⟩ => by
    cases b with
    | true => exact ⟨S1, r, q⟩
    | false => exact ⟨S1, r, q⟩
def fSet (i : Nat) (f : FS → Res SV) : FS → SRes := bndS f fun v S => .nx (S.set i (some v))
def fSetD (i : Nat) (f : FS → Res D) : FS → SRes := bndS f fun v S => .nx (S.set i (some (.d v)))
theorem Rel.setV {K : Fg} {S : FS} {σ : Sl} {H : Hp} {i : Nat} {x : V} {v : SV} (r : Rel K F S σ H) (h : VR K F S σ H x v) : Rel K F (S.set i (some v)) (σ.set i (some x)) H := by
  cases v with
  | d d => exact r.setD h
  | own ob => exact r.setO h
  | pin ob => exact h.elim
theorem s_set {i : Nat} {x : Str} {pos' : Pos} {f : FS → Res SV} (hN : X.N.Nodup) (hi : X.N[i]? = some x) (hx : Loc X.env.scope x) (he : EV X F e f) (hs : swapsWith e (some (.Name x pos')) pos.line X.env = pure false := by rfl)
    (hf : X.fn x = true ∨ X.env.scope.names.lookup x = some .local := by first | exact .inl rfl | exact .inr rfl | assumption) : ES X F (.Assign [.Name x pos'] e pos) (fSet i f) :=
  (ps_set hN hi hx he hs hf).via fun D σ H h => (rdG.bindS h).imp fun x H1 ⟨d, S1, r, v, p, q⟩ => q _ H1 (.refl H1) (r.setV v)
theorem s_setD {i : Nat} {x : Str} {pos' : Pos} {f : FS → Res D} (hN : X.N.Nodup) (hi : X.N[i]? = some x) (hx : Loc X.env.scope x) (he : ED X F e f) (hs : swapsWith e (some (.Name x pos')) pos.line X.env = pure false := by rfl)
    (hf : X.fn x = true ∨ X.env.scope.names.lookup x = some .local := by first | exact .inl rfl | exact .inr rfl | assumption) : ES X F (.Assign [.Name x pos'] e pos) (fSetD i f) :=
  (ps_set hN hi hx he hs hf).via fun D σ H h => (rdG.bindS h).imp fun x H1 ⟨d, S1, r, v, p, q⟩ => q _ H1 (.refl H1) (r.setD v)
theorem peek_inS {K : Fg} {S : FS} {σ : Sl} {H : Hp} {i : Nat} {k : D → FS → SRes} {D : Ends} (r : Rel K F S σ H) (p : postS K F (bndS (fPeek i) k S) D H) : ∃ x d, σ[i]? = some (some x) ∧ Qd K H x d ∧ postS K F (k d S) D H := by
  unfold bndS at p
  rcases peek_ok (i := i) (S := S) with ⟨d, e⟩ | e
  · obtain ⟨_, x, ex, v⟩ := peek_val r e
    rw [e] at p
    exact ⟨x, d, ex, v, p⟩
  · rw [e] at p; exact p.elim
/-- x += e -/
def fAug {α : Type} (c : α → SV) (i : Nat) (g : D → D → FS → Res α) (f : FS → Res D) : FS → SRes := bndS (fPeek i) fun _ => bndS f fun e => bndS (fPeek i) fun d => bndS (g d e) fun z S => .nx (S.set i (some (c z)))
theorem ip_of {op : Operator} {g : Int → Int → Int} (h : PIp X op (ipI g)) : PIp X op (rOp X.K F PR (pInt fun i j => some (g i j))) := by
  intro pins s σ0 H x y v u Q I rx ry ⟨S, σ, d, e, r, hx, hy, p⟩
  cases d with
  | int i =>
    cases e with
    | int j => exact h pins s σ0 H x y v u Q I rx ry ⟨i, j, hx.int, hy.int, p.ok r (Pd.int _)⟩
    | _ => exact p.elim
  | _ => exact p.elim
theorem aug_tail {α : Type} {R : VRel α} {c : α → SV} {K : Fg} {S : FS} {σ : Sl} {H : Hp} {i : Nat} {r : Res α} {D : Ends} (hc : ∀ S σ H x z, R K F S σ H x z → VR K F S σ H x (c z)) (p : postS K F (bndS (fun _ => r) (fun z S => .nx (S.set i (some (c z)))) S) D H) :
    postG K F R r σ H fun z H' => D.nx (σ.set i (some z)) H' := by
  unfold bndS at p
  cases r with
  | ok z S1 => exact fun x H' q r1 v => p _ _ q (r1.setV (hc _ _ _ _ _ v))
  | exn e S1 => exact fun c dx H' q r1 v => p c dx σ H' q r1 v
  | bad => exact p
theorem s_aug {α : Type} {R : VRel α} {c : α → SV} {i : Nat} {x : Str} {op : Operator} {pos' : Pos} {f : FS → Res D} {g : D → D → FS → Res α} (hN : X.N.Nodup) (hi : X.N[i]? = some x) (hx : Loc X.env.scope x) (he : ED X F e f) (ho : PIp X op (rOp X.K F R g))
    (hc : ∀ S σ H x z, R X.K F S σ H x z → VR X.K F S σ H x (c z)) (hf : X.fn x = true ∨ X.env.scope.names.lookup x = some .local := by first | exact .inl rfl | exact .inr rfl | assumption) : ES X F (.AugAssign (.Name x pos') op e pos) (fAug c i g f) :=
  (ps_aug hN hi hx he ho hf).via fun D σ H ⟨S, r, p⟩ => by
    obtain ⟨x1, d0, ex, _, p⟩ := peek_inS (k := fun _ => bndS f fun e => bndS (fPeek i) fun d => bndS (g d e) fun z S => .nx (S.set i (some (c z)))) r p
    refine ⟨x1, ex, (rdG.bindS (k := fun e => bndS (fPeek i) fun d => bndS (g d e) fun z S => .nx (S.set i (some (c z)))) ⟨S, r, p⟩).imp fun y H1 ⟨e, S1, r1, v1, p1, q1⟩ => ?_⟩
    obtain ⟨x', d, ex', vd, q2⟩ := peek_inS (k := fun d => bndS (g d e) fun z S => .nx (S.set i (some (c z)))) r1 q1
    rw [ex] at ex'; cases ex'
    exact ⟨S1, σ, d, e, r1, vd, .inl v1, aug_tail (S := S1) hc q2⟩
theorem vr_d {K : Fg} : ∀ S σ H x z, PR K F S σ H x z → VR K F S σ H x (.d z) := fun _ _ _ _ _ h => h
theorem vr_v {K : Fg} : ∀ S σ H x z, VR K F S σ H x z → VR K F S σ H x (id z) := fun _ _ _ _ _ h => h
theorem ip_addF : PIp X .Add (rOp X.K F PR (pInt fun i j => some (i + j))) := ip_of ip_add
theorem ip_subF : PIp X .Sub (rOp X.K F PR (pInt fun i j => some (i - j))) := ip_of ip_sub

/-! ### while -/
def whileN (c : FS → Res Bool) (b : FS → SRes) : Nat → FS → SRes
  | 0, _ => .bad
  | n + 1, S => match c S with
    | .ok true S1 => (match b S1 with
      | .nx S2 => whileN c b n S2
      | .ct S2 => whileN c b n S2
      | .bk S2 => .nx S2
      | r => r)
    | .ok false S1 => .nx S1
    | .exn e S1 => .exn e S1
    | .bad => .bad
open Classical in
noncomputable def whileF (c : FS → Res Bool) (b : FS → SRes) (S : FS) : SRes := if h : ∃ n, whileN c b n S ≠ .bad then whileN c b h.choose S else .bad
theorem whileN_succ {c : FS → Res Bool} {b : FS → SRes} : ∀ n S, whileN c b n S ≠ .bad → whileN c b (n + 1) S = whileN c b n S
  | 0, S, h => absurd rfl h
  | n + 1, S, h => by
    rw [whileN] at h
    rw [whileN, whileN]
    cases e : c S with
    | ok k S1 =>
      cases k with
      | true =>
        rw [e] at h
        simp only at h ⊢
        cases e2 : b S1 with
        | nx S2 => rw [e2] at h; exact whileN_succ n S2 h
        | ct S2 => rw [e2] at h; exact whileN_succ n S2 h
        | _ => rfl
      | false => rfl
    | _ => rfl
theorem whileN_le {c : FS → Res Bool} {b : FS → SRes} {n m : Nat} {S : FS} (h : whileN c b n S ≠ .bad) (hl : n ≤ m) : whileN c b m S = whileN c b n S := by
  induction hl with
  | refl => rfl
  | step _ ih => rw [whileN_succ _ _ (by rw [ih]; exact h), ih]
theorem whileF_of {c : FS → Res Bool} {b : FS → SRes} {n : Nat} {S : FS} (h : whileN c b n S ≠ .bad) : whileF c b S = whileN c b n S := by
  unfold whileF
  rw [dif_pos ⟨n, h⟩]
  have h2 := (⟨n, h⟩ : ∃ n, whileN c b n S ≠ .bad).choose_spec
  by_cases hl : (⟨n, h⟩ : ∃ n, whileN c b n S ≠ .bad).choose ≤ n
  · exact (whileN_le h2 hl).symm
  · exact whileN_le h (by omega)
theorem whileF_get {c : FS → Res Bool} {b : FS → SRes} {S : FS} (h : whileF c b S ≠ .bad) : ∃ n, whileN c b n S ≠ .bad ∧ whileF c b S = whileN c b n S := by
  by_cases hn : ∃ n, whileN c b n S ≠ .bad
  · exact ⟨_, hn.choose_spec, by unfold whileF; rw [dif_pos hn]⟩
  · exact absurd (by unfold whileF; rw [dif_neg hn]) h
/-- one turn -/
theorem whileF_eq (c : FS → Res Bool) (b : FS → SRes) (S : FS) : whileF c b S = match c S with
    | .ok true S1 => (match b S1 with
      | .nx S2 => whileF c b S2
      | .ct S2 => whileF c b S2
      | .bk S2 => .nx S2
      | r => r)
    | .ok false S1 => .nx S1
    | .exn e S1 => .exn e S1
    | .bad => .bad := by
  by_cases h : ∃ n, whileN c b n S ≠ .bad
  · obtain ⟨n, h⟩ := h
    rw [whileF_of h]
    cases n with
    | zero => exact absurd rfl h
    | succ n =>
      rw [whileN] at h ⊢
      cases e : c S with
      | ok k S1 =>
        cases k with
        | true =>
          rw [e] at h
          simp only at h ⊢
          cases e2 : b S1 with
          | nx S2 => rw [e2] at h; exact (whileF_of h).symm
          | ct S2 => rw [e2] at h; exact (whileF_of h).symm
          | _ => rfl
        | false => rfl
      | _ => rfl
  · have hb : whileF c b S = .bad := by unfold whileF; rw [dif_neg h]
    rw [hb]
    have h1 : ∀ n, whileN c b n S = .bad := fun n => Classical.byContradiction fun q => h ⟨n, q⟩
    have none : ∀ S2, (∀ n, whileN c b n S2 = .bad) → whileF c b S2 = .bad := fun S2 q => by
      unfold whileF; rw [dif_neg (fun ⟨n, z⟩ => z (q n))]
    have h2 := fun n => h1 (n + 1)
    simp only [whileN] at h2
    cases e : c S with
    | ok k S1 =>
      cases k with
      | true =>
        rw [e] at h2
        simp only at h2 ⊢
        cases e2 : b S1 with
        | nx S2 => rw [e2] at h2; exact (none S2 h2).symm
        | ct S2 => rw [e2] at h2; exact (none S2 h2).symm
        | rt v S2 => rw [e2] at h2; exact (h2 0).symm
        | bk S2 => rw [e2] at h2; exact (h2 0).symm
        | exn v S2 => rw [e2] at h2; exact (h2 0).symm
        | bad => rfl
      | false => rw [e] at h2; exact (h2 0).symm
    | exn v S2 => rw [e] at h2; exact (h2 0).symm
    | bad => rfl
theorem s_while {c : Expr} {body : List Stmt} {tc : FS → Res Bool} {b : FS → SRes} (hp : PassesOwn (model X.prog X.w) X.A X.env X.xe) (hc : ET X F c tc) (hb : EB X F body b) : ES X F (.While c body [] pos) (whileF tc b) :=
  (ps_while hp hc hb).via fun D σ H ⟨S, r, p⟩ => by
    have ne : whileF tc b S ≠ .bad := fun e => by rw [e] at p; exact p
    obtain ⟨n, hn, e⟩ := whileF_get ne
    rw [e] at p
    refine ⟨fun m σ H => ∃ S, Rel X.K F S σ H ∧ whileN tc b m S ≠ .bad ∧ postS X.K F (whileN tc b m S) D H, ⟨n, S, r, hn, p⟩, ?_⟩
    rintro m σ H ⟨S, r, hn, p⟩
    cases m with
    | zero => exact absurd rfl hn
    | succ m =>
      rw [whileN] at hn p
      refine ⟨S, r, ?_⟩
      cases e : tc S with
      | ok k S1 =>
        rw [e] at hn p
        intro H1 p1 r1
        cases k with
        | false => exact p σ H1 p1 r1
        | true =>
          rw [if_pos rfl]
          refine ⟨_, fun σ' H' q => ⟨m, Nat.lt_succ_self m, q⟩, S1, r1, ?_⟩
          simp only at hn p
          cases e2 : b S1 with
          | nx S2 => rw [e2] at hn p; exact fun σ2 H2 p2 r2 => ⟨S2, r2, hn, p.later (p1.trans p2)⟩
          | ct S2 => rw [e2] at hn p; exact fun σ2 H2 p2 r2 => ⟨S2, r2, hn, p.later (p1.trans p2)⟩
          | bk S2 => rw [e2] at p; exact postS.later p1 p
          | rt v S2 => rw [e2] at p; exact postS.later p1 p
          | exn v S2 => rw [e2] at p; exact postS.later p1 p
          | bad => rw [e2] at hn; exact absurd rfl hn
      | exn e2 S1 => rw [e] at p; exact fun c dx H1 p1 r1 v => p c dx σ H1 p1 r1 v
      | bad => rw [e] at hn; exact absurd rfl hn
end
/-! ### targets -/
section
variable {X : Cx} {F : Fx} {pos : Pos}
/-- the slots beside ts stay -/
def Beside (ts : List Nat) (σ σ' : Sl) : Prop := σ'.length = σ.length ∧ ∀ j, j ∉ ts → σ'[j]? = σ[j]?
theorem Beside.refl (ts : List Nat) (σ : Sl) : Beside ts σ σ := ⟨rfl, fun _ _ => rfl⟩
theorem Beside.trans {ts : List Nat} {σ σ1 σ2 : Sl} (a : Beside ts σ σ1) (b : Beside ts σ1 σ2) : Beside ts σ σ2 := ⟨b.1.trans a.1, fun j h => (b.2 j h).trans (a.2 j h)⟩
theorem Beside.mono {ts ts' : List Nat} {σ σ' : Sl} (a : Beside ts σ σ') (h : ∀ j, j ∈ ts → j ∈ ts') : Beside ts' σ σ' := ⟨a.1, fun j hj => a.2 j fun z => hj (h j z)⟩
theorem Beside.set {σ : Sl} {i : Nat} {v : Option V} : Beside [i] σ (σ.set i v) := ⟨List.length_set .., fun j h => List.getElem?_set_ne (fun e => h (by simp [e]))⟩
def rdTG (K : Fg) (F : Fx) (ts : List Nat) (g : D → FS → Option FS) : TG := fun v σ H Q => ∃ S d, Rel K F S σ H ∧ Pd K H v d ∧ match g d S with
  | some S' => ∀ σ' H', Pers H H' → Rel K F S' σ' H' → Beside ts σ σ' → Q σ' H'
  | none => False
def rdTGs (K : Fg) (F : Fx) (ts : List Nat) (g : List D → FS → Option FS) : TGs := fun vs σ H Q => ∃ S ds, Rel K F S σ H ∧ PdAll K H vs ds ∧ match g ds S with
  | some S' => ∀ σ' H', Pers H H' → Rel K F S' σ' H' → Beside ts σ σ' → Q σ' H'
  | none => False
abbrev EG (X : Cx) (F : Fx) (e : Expr) (ts : List Nat) (g : D → FS → Option FS) : Prop := PG X e (rdTG X.K F ts g)
abbrev EGs (X : Cx) (F : Fx) (e : List Expr) (ts : List Nat) (g : List D → FS → Option FS) : Prop := PGs X e (rdTGs X.K F ts g)
theorem _root_.L2.PG.via {X : Cx} {e : Expr} {t t' : TG} (h : PG X e t) (hw : ∀ v σ H Q, t' v σ H Q → t v σ H Q) : PG X e t' := ⟨fun pins s σ H v u Q I r q => h.run pins s σ H v u Q I r (hw v σ H Q q)⟩
theorem _root_.L2.PGs.via {X : Cx} {e : List Expr} {t t' : TGs} (h : PGs X e t) (hw : ∀ v σ H Q, t' v σ H Q → t v σ H Q) : PGs X e t' := ⟨fun pins s σ H v u Q I r q => h.run pins s σ H v u Q I r (hw v σ H Q q)⟩
def gN (i : Nat) : D → FS → Option FS := fun d S => some (S.set i (some (.d d)))
theorem g_name {i : Nat} {x : Str} (hN : X.N.Nodup) (hi : X.N[i]? = some x) (hx : Loc X.env.scope x) (hf : X.fn x = true ∨ X.env.scope.names.lookup x = some .local := by first | exact .inl rfl | exact .inr rfl | assumption) : EG X F (.Name x pos) [i] (gN i) :=
  (pg_name hN hi hx hf).via fun v σ H Q ⟨S, d, r, hd, q⟩ => q _ _ (.refl H) (r.setD hd) .set
def gNl : List D → FS → Option FS
  | [], S => some S
  | _ :: _, _ => none
def gCs (g : D → FS → Option FS) (h : List D → FS → Option FS) : List D → FS → Option FS
  | d :: ds, S => (g d S).bind (h ds)
  | [], _ => none
theorem gs_nil : EGs X F [] [] gNl := pgs_nil.via fun v σ H Q ⟨S, ds, r, hd, q⟩ => by
  cases hd with
  | nil => exact ⟨rfl, q _ _ (.refl H) r (.refl _ _)⟩
  | cons _ _ => exact q.elim
theorem gs_cons {e : Expr} {es : List Expr} {ts us : List Nat} {g : D → FS → Option FS} {h : List D → FS → Option FS} (h1 : EG X F e ts g) (h2 : EGs X F es us h)
    (hs : (assignEach (e :: es) X.env).map (·.2) = assign e X.env :: (assignEach es X.env).map (·.2) := by rfl) : EGs X F (e :: es) (ts ++ us) (gCs g h) :=
  (pgs_cons h1 h2 hs).via fun v σ H Q ⟨S, ds, r, hd, q⟩ => by
    cases hd with
    | nil => exact q.elim
    | cons hd hr =>
      refine ⟨_, _, rfl, S, _, r, hd, ?_⟩
      simp only [gCs] at q
      cases e1 : g _ S with
      | none => rw [e1] at q; exact q.elim
      | some S1 =>
        rw [e1] at q
        intro σ1 H1 p1 r1 b1
        refine ⟨S1, _, r1, hr.mono p1, ?_⟩
        simp only [Option.bind_some] at q
        cases e2 : h _ S1 with
        | none => rw [e2] at q; exact q.elim
        | some S2 => rw [e2] at q; exact fun σ2 H2 p2 r2 b2 => q σ2 H2 (p1.trans p2) r2 ((b1.mono fun j h => List.mem_append_left _ h).trans (b2.mono fun j h => List.mem_append_right _ h))
def gTp (n : Nat) (g : List D → FS → Option FS) : D → FS → Option FS
  | .tuple ds, S => if ds.length = n then g ds S else none
  | _, _ => none
theorem g_tup {es : List Expr} {k : Nat} {ts : List Nat} {g : List D → FS → Option FS} {n : Nat} (hc : X.calm = true) (h : EGs X F es ts g) (hn : (assignEach es X.env).length = n := by rfl) (hst : (assignEach es X.env).findIdx? (·.1) = none := by rfl) : EG X F (.Tuple es k pos) ts (gTp n g) :=
  (pg_tup hc h hn hst).via fun v σ H Q ⟨S, d, r, hd, q⟩ => by
    cases hd with
    | @tup _ _ ds hs hr =>
      simp only [gTp] at q
      by_cases hl : ds.length = n
      · rw [if_pos hl] at q
        exact ⟨_, _, rfl, hs, by rw [hr.length]; exact hl, S, _, r, hr, q⟩
      · rw [if_neg hl] at q
        exact q.elim
    | _ => exact q.elim
/-- target = e -/
def fAsg (g : D → FS → Option FS) (f : FS → Res D) : FS → SRes := bndS f fun d S => match g d S with
  | some S' => .nx S'
  | none => .bad
theorem s_asg {tg e : Expr} {ts : List Nat} {f : FS → Res D} {g : D → FS → Option FS} (he : ED X F e f) (hg : EG X F tg ts g) (hs : swapsWithSole [tg] e pos.line X.env = pure false := by rfl) (hw : swappedStores [tg] e X.env = pure none := by rfl)
    (h1 : (assignEach [tg] X.env).map (·.2) = [assign tg X.env] := by rfl) : ES X F (.Assign [tg] e pos) (fAsg g f) :=
  (ps_asg he hg hs hw h1).via fun D σ H h => (rdG.bindS h).imp fun x H1 ⟨d, S1, r, v, p, q⟩ => ⟨S1, d, r, v, by
    cases e : g d S1 with
    | none => rw [e] at q; exact q
    | some S2 => rw [e] at q; exact fun σ' H' p r _ => q σ' H' p r⟩
/-- a, b = x, y (plain locals) -/
def fPar (i j : Nat) (f : FS → Res (List D)) : FS → SRes := bndS f fun ds S => match ds with
  | [a, b] => .nx ((S.set i (some (.d a))).set j (some (.d b)))
  | _ => .bad
theorem s_par {i j : Nat} {x y : Str} {a b : Expr} {f : FS → Res (List D)} {px py pt : Pos} {kt k2 : Nat} {pt2 : Pos} (hc : X.calm = true) (hN : X.N.Nodup) (hi : X.N[i]? = some x) (hj : X.N[j]? = some y) (hij : i ≠ j)
    (hx : X.env.scope.names.lookup x = some .local) (hy : X.env.scope.names.lookup y = some .local) (ha : EA X F [a, b] f)
    (hw : swappedStores [.Tuple [.Name x px, .Name y py] kt pt] (.Tuple [a, b] k2 pt2) X.env = pure (some [x, y]))
    (hs : swapsWithSole [.Tuple [.Name x px, .Name y py] kt pt] (.Tuple [a, b] k2 pt2) pos.line X.env = pure false := by rfl) :
    ES X F (.Assign [.Tuple [.Name x px, .Name y py] kt pt] (.Tuple [a, b] k2 pt2) pos) (fPar i j f) :=
  (ps_par hc hN hi hj hij hx hy ha hw hs).via fun D σ H h => (rdG.bindS h).imp fun xs H1 ⟨ds, S1, r, v, p, q⟩ => by
    cases v with
    | nil => exact q.elim
    | cons h1 hr =>
      cases hr with
      | nil => exact q.elim
      | cons h2 hr =>
        cases hr with
        | nil => exact ⟨_, _, rfl, q _ _ (.refl H1) ((r.setD h1).setD h2)⟩
        | cons _ _ => exact q.elim
end
end Fz
end

section
set_option Elab.async false
set_option linter.all false
set_option maxRecDepth 100000
set_option maxHeartbeats 4000000
/-! F5: for, list methods, stores to items. -/
namespace Fz
open PySem PySem.Spec PyProof.Rows L2
/-- J hands the data ds out, one after another, while what is for good stays -/
structure Yields (K : Fg) (J : It) (H1 : Hp) (ds : List D) : Prop where
  go : ∀ i H, Pers H1 H → i < ds.length → J.go i H
  stop : ∀ H, Pers H1 H → J.stop ds.length H
  yld : ∀ i H x H' d, Pers H1 H → ds[i]? = some d → J.yld i H x H' → Pers H H' ∧ (∀ F S σ, Rel K F S σ H → Rel K F S σ H') ∧ Pd K H' x d
def rdI (K : Fg) (F : Fx) (f : FS → Res (List D)) : TI := fun σ H R => ∃ S, Rel K F S σ H ∧ match f S with
  | .ok ds S1 => ∀ J H1, Pers H H1 → Rel K F S1 σ H1 → Yields K J H1 ds → R J H1
  | .exn e S1 => ∀ c dx H1, Pers H H1 → Rel K F S1 σ H1 → ExR K H1 e c dx → F.E c dx H1
  | .bad => False
abbrev EI (X : Cx) (F : Fx) (tg iter : Expr) (f : FS → Res (List D)) : Prop := PI X tg iter (rdI X.K F f)
def forF (g : D → FS → Option FS) (b : FS → SRes) : List D → FS → SRes
  | [], S => .nx S
  | d :: ds, S => match g d S with
    | some S1 => (match b S1 with
      | .nx S2 => forF g b ds S2
      | .ct S2 => forF g b ds S2
      | .bk S2 => .nx S2
      | r => r)
    | none => .bad
def fFor (it : FS → Res (List D)) (g : D → FS → Option FS) (b : FS → SRes) : FS → SRes := bndS it fun ds => forF g b ds
section
variable {X : Cx} {F : Fx} {pos : Pos}
theorem s_for {tg iter : Expr} {ts : List Nat} {body : List Stmt} {it : FS → Res (List D)} {g : D → FS → Option FS} {b : FS → SRes} (hp : PassesOwn (model X.prog X.w) X.A X.env X.xe) (hc : X.calm = true) (hi : EI X F tg iter it) (hg : EG X F tg ts g) (hb : EB X F body b)
    (hs : ∀ x, foldedSetIterable iter X.env x = pure x := by intro _; rfl) : ES X F (.For tg iter body [] pos) (fFor it g b) :=
  (ps_for hp hc hi hg hb hs).via fun D σ H ⟨S, r, p⟩ => by
    refine ⟨S, r, ?_⟩
    unfold fFor bndS at p
    cases e : it S with
    | exn e2 S1 => rw [e] at p; exact fun c dx H1 p1 r1 v => p c dx σ H1 p1 r1 v
    | bad => rw [e] at p; exact p
    | ok ds S1 =>
      rw [e] at p
      intro J H1 p1 r1 y
      refine ⟨fun i m σ H => ∃ S, Rel X.K F S σ H ∧ Pers H1 H ∧ m = ds.length - i ∧ i ≤ ds.length ∧ postS X.K F (forF g b (ds.drop i) S) D H, ⟨ds.length, S1, r1, .refl H1, rfl, Nat.zero_le _, postS.later p1 p⟩, ?_⟩
      rintro i m σ H ⟨S, r, pH, rfl, hi, p⟩
      by_cases hl : i < ds.length
      · refine .inr ⟨y.go i H pH hl, fun σ' H' => ∃ S, Rel X.K F S σ' H' ∧ Pers H1 H' ∧ postS X.K F (forF g b (ds.drop (i + 1)) S) D H', fun σ' H' ⟨S2, r2, p2, q2⟩ => ⟨ds.length - (i + 1), by omega, S2, r2, p2, rfl, hl, q2⟩, fun x H' hy => ?_⟩
        obtain ⟨p2, k2, v2⟩ := y.yld i H x H' ds[i] pH (List.getElem?_eq_getElem hl) hy
        rw [List.drop_eq_getElem_cons hl] at p
        simp only [forF] at p
        refine ⟨S, ds[i], k2 F S σ r, v2, ?_⟩
        cases e2 : g ds[i] S with
        | none => rw [e2] at p; exact p
        | some S1 =>
          rw [e2] at p
          simp only at p
          intro σ3 H3 p3 r3 _
          refine ⟨S1, r3, ?_⟩
          have p13 : Pers H1 H3 := (pH.trans p2).trans p3
          have p03 : Pers H H3 := p2.trans p3
          cases e3 : b S1 with
          | nx S2 => rw [e3] at p; exact fun σ4 H4 p4 r4 => ⟨S2, r4, p13.trans p4, p.later (p03.trans p4)⟩
          | ct S2 => rw [e3] at p; exact fun σ4 H4 p4 r4 => ⟨S2, r4, p13.trans p4, p.later (p03.trans p4)⟩
          | bk S2 => rw [e3] at p; exact postS.later p03 p
          | rt v S2 => rw [e3] at p; exact postS.later p03 p
          | exn v S2 => rw [e3] at p; exact postS.later p03 p
          | bad => rw [e3] at p; exact p
      · have e : i = ds.length := by omega
        subst e
        rw [List.drop_length] at p
        exact .inl ⟨y.stop H pH, p σ H (.refl H) r⟩
/-- a list, a tuple walked -/
theorem yields_list {K : Fg} {H1 : Hp} {a : Addr} {vs : List V} {ds : List D} (h : FrzL K H1 a vs) (r : PdAll K H1 vs ds) : Yields K (Itl K a) H1 ds where
  go := fun i H p hi => by
    obtain ⟨x, h1, _⟩ := r.get (List.getElem?_eq_getElem hi)
    exact ⟨vs, x, (h.mono p).sq, h1⟩
  stop := fun H p => ⟨vs, (h.mono p).sq, by rw [r.length]; exact Nat.le_refl _⟩
  yld := fun i H x H' d p hd ⟨e, q⟩ => by
    subst e
    have h1 := q vs (h.mono p).sq
    obtain ⟨y, h2, h3⟩ := r.get hd
    rw [h1] at h2; cases h2
    exact ⟨.refl _, fun _ _ _ r => r, h3.mono p⟩
theorem yields_tup {K : Fg} {H1 : Hp} {a : Addr} {vs : List V} {ds : List D} (h : SqT K H1 a vs) (r : PdAll K H1 vs ds) : Yields K (Itt K a) H1 ds where
  go := fun i H p hi => by
    obtain ⟨x, h1, _⟩ := r.get (List.getElem?_eq_getElem hi)
    exact ⟨vs, x, sqT_mono p h, h1⟩
  stop := fun H p => ⟨vs, sqT_mono p h, by rw [r.length]; exact Nat.le_refl _⟩
  yld := fun i H x H' d p hd ⟨e, q⟩ => by
    subst e
    have h1 := q vs (sqT_mono p h)
    obtain ⟨y, h2, h3⟩ := r.get hd
    rw [h1] at h2; cases h2
    exact ⟨.refl _, fun _ _ _ r => r, h3.mono p⟩
def fItems (f : FS → Res D) : FS → Res (List D) := bnd f fun d S => match d with
  | .list ds => .ok ds S
  | .tuple ds => .ok ds S
  | _ => .bad
theorem i_seq {tg l : Expr} {f : FS → Res D} (h : ED X F l f) : EI X F tg l (fItems f) := by
  refine ⟨fun pins s σ H R I ⟨S, r, p⟩ => ?_⟩
  unfold fItems bnd at p
  cases e : f S with
  | exn e2 S1 =>
    rw [e] at p
    refine (pi_list (tl := rdG X.K F PR f) h).run pins s σ H R I ⟨S, r, ?_⟩
    rw [e]; exact p
  | bad => rw [e] at p; exact p.elim
  | ok d S1 =>
    rw [e] at p
    cases d with
    | list ds =>
      refine (pi_list (tl := rdG X.K F PR f) h).run pins s σ H R I ⟨S, r, ?_⟩
      rw [e]
      intro x H1 p1 r1 v
      cases v with
      | lst h2 r2 => exact ⟨_, rfl, ⟨_, h2.sq⟩, p _ H1 p1 r1 (yields_list h2 r2)⟩
    | tuple ds =>
      refine (pi_tup (tl := rdG X.K F PR f) h).run pins s σ H R I ⟨S, r, ?_⟩
      rw [e]
      intro x H1 p1 r1 v
      cases v with
      | tup h2 r2 => exact ⟨_, rfl, ⟨_, h2⟩, p _ H1 p1 r1 (yields_tup h2 r2)⟩
    | _ => exact p.elim
def rngD (lo : Int) (n : Nat) : List D := (List.range n).map fun i => .int (lo + (i : Nat))
theorem yields_rng {K : Fg} {H1 : Hp} {lo : Int} {n : Nat} : Yields K (Itr lo n) H1 (rngD lo n) where
  go := fun i H p hi => by
    have e : (rngD lo n).length = n := by simp [rngD]
    rw [e] at hi; exact hi
  stop := fun H p => by show n ≤ _; simp [rngD]
  yld := fun i H x H' d p hd ⟨e, q⟩ => by
    subst e q
    unfold rngD at hd
    rw [List.getElem?_map] at hd
    obtain ⟨j, h1, rfl⟩ := Option.map_eq_some_iff.mp hd
    have h2 : j = i := by
      obtain ⟨hl, e⟩ := List.getElem?_eq_some_iff.mp h1
      rw [List.getElem_range] at e; exact e.symm
    subst h2
    exact ⟨.refl _, fun _ _ _ r => r, .int _⟩
def inR (j : Int) : Prop := -(2 ^ 62) ≤ j ∧ j < 2 ^ 62
noncomputable instance (j : Int) : Decidable (inR j) := Classical.propDecidable _
noncomputable def fRange1 (f : FS → Res D) : FS → Res (List D) := bnd f fun d S => match d with
  | .int j => if inR j then .ok (rngD 0 j.toNat) S else .bad
  | _ => .bad
noncomputable def fRange2 (f g : FS → Res D) : FS → Res (List D) := bnd f fun d => bnd g fun e S => match d, e with
  | .int i, .int j => if inR i ∧ inR j then .ok (rngD i (j - i).toNat) S else .bad
  | _, _ => .bad
theorem rdI.of {K : Fg} {σ : Sl} {H H1 : Hp} {F : Fx} {R : It → Hp → Prop} {ds : List D} {S : FS} {J : It} (p : match Res.ok ds S with
    | .ok ds S1 => ∀ J H2, Pers H H2 → Rel K F S1 σ H2 → Yields K J H2 ds → R J H2
    | .exn e S1 => ∀ c dx H1, Pers H H1 → Rel K F S1 σ H1 → ExR K H1 e c dx → F.E c dx H1
    | .bad => False) (p1 : Pers H H1) (r : Rel K F S σ H1) (y : Yields K J H1 ds) : R J H1 := p J H1 p1 r y
theorem i_range1 {tg a : Expr} {f : FS → Res D} {p : Pos} (hg : Gl X "range") (hm : X.mg "range" = none) (ha : ED X F a f) (hsa : starEach [a] X.env = (false, eval a X.env) :: starEach [] X.env := by rfl) (hs : starEach [a] X.env = [(false, eval a X.env)] := by rfl) : EI X F tg (.Call (.Name "range" p) [a] [] pos) (fRange1 f) := by
  refine ⟨fun pins s σ H R I ⟨S, r, q⟩ => ?_⟩
  refine (pi_range1 hg hm (pa_cons ha pa_nil hsa) hs).run pins s σ H R I ⟨S, r, ?_⟩
  unfold fRange1 bnd at q
  cases e : f S with
  | exn e2 S1 => rw [e] at q; exact q
  | bad => rw [e] at q; exact q
  | ok d S1 =>
    rw [e] at q
    intro x H1 p1 r1 v
    cases d with
    | int j =>
      cases v
      simp only [Res.bind_ok] at q
      by_cases hj : inR j
      · rw [if_pos hj] at q
        exact ⟨j, rfl, hj.1, hj.2, q _ H1 p1 r1 yields_rng⟩
      · rw [if_neg hj] at q; exact q.elim
    | _ => exact q.elim
theorem i_range2 {tg a b : Expr} {f g : FS → Res D} {p : Pos} (hg : Gl X "range") (hm : X.mg "range" = none) (ha : ED X F a f) (hb : ED X F b g) (hsa : starEach [a, b] X.env = (false, eval a X.env) :: starEach [b] X.env := by rfl) (hsb : starEach [b] X.env = (false, eval b X.env) :: starEach [] X.env := by rfl)
    (hs : starEach [a, b] X.env = [(false, eval a X.env), (false, eval b X.env)] := by rfl) (hs2 : starEach [b] X.env = [(false, eval b X.env)] := by rfl) : EI X F tg (.Call (.Name "range" p) [a, b] [] pos) (fRange2 f g) := by
  refine ⟨fun pins s σ H R I ⟨S, r, q⟩ => ?_⟩
  refine (pi_range2 hg hm (pa_cons ha (pa_cons hb pa_nil hsb) hsa) hs hs2).run pins s σ H R I ⟨S, r, ?_⟩
  unfold fRange2 bnd at q
  cases e : f S with
  | exn e2 S1 => rw [e] at q; exact q
  | bad => rw [e] at q; exact q
  | ok d S1 =>
    rw [e] at q
    intro x H1 p1 r1 v
    refine ⟨S1, r1, ?_⟩
    simp only [Res.bind_ok] at q
    cases e2 : g S1 with
    | exn e3 S2 => rw [e2] at q; exact fun c dx H2 p2 r2 w => q c dx H2 (p1.trans p2) r2 w
    | bad => rw [e2] at q; exact q
    | ok d2 S2 =>
      rw [e2] at q
      intro y H2 p2 r2 v2
      cases d with
      | int i =>
        cases v
        cases d2 with
        | int j =>
          cases v2
          simp only [Res.bind_ok] at q
          by_cases hj : inR i ∧ inR j
          · rw [if_pos hj] at q
            exact ⟨i, j, rfl, ⟨hj.1.1, hj.1.2, hj.2.1, hj.2.2⟩, q _ H2 (p1.trans p2) r2 yields_rng⟩
          · rw [if_neg hj] at q; exact q.elim
        | _ => exact q.elim
      | _ => cases d2 <;> exact q.elim
end
/-! ### the list of a slot -/
def lstAt (S : FS) (i : Nat) : Option (List D) := match S[i]? with
  | some (some (.own (.lst ds))) => some ds
  | some (some (.pin (.lst ds))) => some ds
  | _ => none
def putLst (S : FS) (i : Nat) (ds : List D) : FS := match S[i]? with
  | some (some (.pin _)) => S.set i (some (.pin (.lst ds)))
  | _ => S.set i (some (.own (.lst ds)))
theorem Rel.lst {K : Fg} {F : Fx} {S : FS} {σ : Sl} {H : Hp} {i : Nat} {ds : List D} (r : Rel K F S σ H) (h : lstAt S i = some ds) : ∃ a vs, σ[i]? = some (some (.ref a)) ∧ H a = some (.lst vs) ∧ PdAll K H vs ds ∧
    ∀ vs' ds', PdAll K H vs' ds' → Rel K F (putLst S i ds') σ (upd H a (.lst vs')) ∧ Pers H (upd H a (.lst vs')) := by
  have main : ∀ (sv : SV) (mk : List D → SV), sv = mk ds → (∀ z, putLst S i z = S.set i (some (mk z))) → S[i]? = some (some sv) → (∀ z, mk z = .own (.lst z)) ∨ (∀ z, mk z = .pin (.lst z)) → ∃ a vs, σ[i]? = some (some (.ref a)) ∧ H a = some (.lst vs) ∧ PdAll K H vs ds ∧
      ∀ vs' ds', PdAll K H vs' ds' → Rel K F (putLst S i ds') σ (upd H a (.lst vs')) ∧ Pers H (upd H a (.lst vs')) := by
    intro sv mk es ep hs hm
    have ow : S[i]? = some (some (.own (.lst ds))) ∨ S[i]? = some (some (.pin (.lst ds))) := by
      rcases hm with hm | hm
      · exact .inl (by rw [hs, es, hm])
      · exact .inr (by rw [hs, es, hm])
    obtain ⟨a, ea, ⟨vs, hH, hv⟩, h0⟩ := r.obj ow
    refine ⟨a, vs, ea, hH, hv, fun vs' ds' hv' => ?_⟩
    have hmu : Mut (H a) := by rw [hH]; trivial
    have pp : Pers H (upd H a (.lst vs')) := Pers.put (.inl hmu)
    have hl : i < S.length := (List.getElem?_eq_some_iff.mp hs).1
    have oi : Owned S i := ⟨_, ow⟩
    refine ⟨?_, pp⟩
    rw [ep ds']
    refine r.put (.inl hmu) h0 (fun p hp e' => (r.held p hp).2.2 i oi (e' ▸ ea)) (List.length_set ..) (fun j sv2 ej => ?_) fun j ⟨ob, hj⟩ => ?_
    · by_cases hj : j = i
      · subst hj
        rw [List.getElem?_set_self hl] at ej
        cases ej
        refine .inr ⟨_, ea, ?_⟩
        obtain ⟨x, ex, sr⟩ := r.slot j _ hs
        rw [ea] at ex; cases ex
        rcases hm with hm | hm
        · rw [es, hm] at sr
          rw [hm]
          obtain ⟨b, eb, _, n⟩ := sr
          cases eb
          exact ⟨a, rfl, ⟨vs', upd_same, hv'.mono pp⟩, n⟩
        · rw [es, hm] at sr
          rw [hm]
          obtain ⟨b, eb, _, n⟩ := sr
          cases eb
          exact ⟨a, rfl, ⟨vs', upd_same, hv'.mono pp⟩, n⟩
      · rw [List.getElem?_set_ne (Ne.symm hj)] at ej
        exact .inl ⟨ej, fun oj => r.apart i j a (Ne.symm hj) oi oj ea⟩
    · by_cases hj2 : j = i
      · subst hj2; exact oi
      · rw [List.getElem?_set_ne (Ne.symm hj2)] at hj; exact ⟨ob, hj⟩
  unfold lstAt at h
  split at h
  · rename_i d hd
    cases h
    exact main _ (fun z => .own (.lst z)) rfl (fun z => by unfold putLst; rw [hd]) hd (.inl fun _ => rfl)
  · rename_i d hd
    cases h
    exact main _ (fun z => .pin (.lst z)) rfl (fun z => by unfold putLst; rw [hd]) hd (.inr fun _ => rfl)
  · cases h
section
variable {X : Cx} {F : Fx} {pos : Pos}
/-- a look at the list of a slot -/
def wLst (i : Nat) (k : List D → FS → SRes) : FS → SRes := fun S => match lstAt S i with
  | some ds => k ds S
  | none => .bad
theorem wLst_in {K : Fg} {S : FS} {i : Nat} {k : List D → FS → SRes} {D' : Ends} {H : Hp} (p : postS K F (wLst i k S) D' H) : ∃ ds, lstAt S i = some ds ∧ postS K F (k ds S) D' H := by
  unfold wLst at p
  cases e : lstAt S i with
  | none => rw [e] at p; exact p.elim
  | some ds => rw [e] at p; exact ⟨ds, rfl, p⟩
/-- x.append(e) -/
def fAppend (i : Nat) (f : FS → Res D) : FS → SRes := wLst i fun _ => bndS f fun d => wLst i fun ds S => if ds.length < sizeLine then .nx (putLst S i (ds ++ [d])) else .bad
theorem s_append {i : Nat} {o e : Expr} {f : FS → Res D} {apos cpos : Pos} (ho : PE X o (tVar i)) (he : ED X F e f) (hs : swapsWith (.Call (.Attribute o "append" apos) [e] [] cpos) none pos.line X.env = pure false := by rfl)
    (hb : PE X (.Call (.Attribute o "append" apos) [e] [] cpos) (tBM X.K "list" rAppend (tVar i) (tCons (rdG X.K F PR f) tNil))) : ES X F (.Expr (.Call (.Attribute o "append" apos) [e] [] cpos) pos) (fAppend i f) :=
  (ps_expr hb hs).via fun D σ H ⟨S, r, p⟩ => by
    obtain ⟨ds0, e0, p⟩ := wLst_in p
    obtain ⟨a, vs0, ea, hH0, _, _⟩ := r.lst e0
    refine ⟨_, ea, .inl ⟨rfl, _, .inl (.inl hH0)⟩, ?_⟩
    refine (rdG.bindS (k := fun d => wLst i fun ds S => if ds.length < sizeLine then .nx (putLst S i (ds ++ [d])) else .bad) ⟨S, r, p⟩).imp fun y H1 ⟨d, S1, r1, v1, p1, q1⟩ => ?_
    obtain ⟨ds, e1, q1⟩ := wLst_in q1
    obtain ⟨b, vs, eb, hH, hv, put⟩ := r1.lst e1
    rw [ea] at eb; cases eb
    by_cases hl : ds.length < sizeLine
    · rw [if_pos hl] at q1
      obtain ⟨r2, p2⟩ := put (vs ++ [y]) (ds ++ [d]) (hv.append (.cons v1 .nil))
      exact ⟨a, vs, y, rfl, rfl, hH, by rw [hv.length]; exact hl, q1 _ _ p2 r2⟩
    · rw [if_neg hl] at q1; exact q1.elim
/-- x.extend(e), e a new list -/
def fExtend (i : Nat) (f : FS → Res SV) : FS → SRes := wLst i fun _ => bndS f fun v => match v with
  | .own (.lst es) => wLst i fun ds S => if ds.length + es.length ≤ sizeLine then .nx (putLst S i (ds ++ es)) else .bad
  | _ => fun _ => .bad
theorem s_extend {i : Nat} {o e : Expr} {f : FS → Res SV} {apos cpos : Pos} (ho : PE X o (tVar i)) (he : EV X F e f) (hs : swapsWith (.Call (.Attribute o "extend" apos) [e] [] cpos) none pos.line X.env = pure false := by rfl)
    (hb : PE X (.Call (.Attribute o "extend" apos) [e] [] cpos) (tBM X.K "list" rExtend (tVar i) (tCons (rdG X.K F VR f) tNil))) : ES X F (.Expr (.Call (.Attribute o "extend" apos) [e] [] cpos) pos) (fExtend i f) :=
  (ps_expr hb hs).via fun D σ H ⟨S, r, p⟩ => by
    obtain ⟨ds0, e0, p⟩ := wLst_in p
    obtain ⟨a, vs0, ea, hH0, _, _⟩ := r.lst e0
    refine ⟨_, ea, .inl ⟨rfl, _, .inl (.inl hH0)⟩, ?_⟩
    refine (rdG.bindS (R := VR) ⟨S, r, p⟩).imp fun y H1 ⟨d, S1, r1, v1, p1, q1⟩ => ?_
    cases d with
    | own ob =>
      cases ob with
      | lst es =>
        obtain ⟨c, rfl, ⟨ws, hC, hw⟩, n, nu, nh⟩ := v1
        obtain ⟨ds, e1, q1⟩ := wLst_in q1
        obtain ⟨b, vs, eb, hH, hv, put⟩ := r1.lst e1
        rw [ea] at eb; cases eb
        by_cases hl : ds.length + es.length ≤ sizeLine
        · rw [if_pos hl] at q1
          obtain ⟨r2, p2⟩ := put (vs ++ ws) (ds ++ es) (hv.append hw)
          exact ⟨a, c, vs, ws, rfl, rfl, hH, hC, by rw [hv.length, hw.length]; exact hl, q1 _ _ p2 r2⟩
        · rw [if_neg hl] at q1; exact q1.elim
      | dic _ => exact q1.elim
    | _ => exact q1.elim
/-- x[k] = e -/
def fSetIx (i : Nat) (fe fk : FS → Res D) : FS → SRes := bndS fe fun d => bndS (fPeek i) fun _ => bndS fk fun k => wLst i fun ds S => match k with
  | .int j => (match ixN ds.length j with
    | some m => .nx (putLst S i (ds.set m d))
    | none => .bad)
  | _ => .bad
theorem s_setIx {i : Nat} {o k e : Expr} {fe fk : FS → Res D} {p1 : Pos} (ho : PE X o (tVar i)) (he : ED X F e fe) (hk : ED X F k fk)
    (ha : ∀ v, assign (.Subscript o k p1) X.env v = (do
      let ov ← holding [v] (eval o X.env)
      let iv ← holding [v, ov] (eval k X.env)
      standAt p1
      holding [v, ov, iv] (setItem ov iv v)
      release [v, ov, iv] []) := by intro _; rfl)
    (hs : swapsWithSole [.Subscript o k p1] e pos.line X.env = pure false := by rfl) (hw : swappedStores [.Subscript o k p1] e X.env = pure none := by rfl)
    (h1 : (assignEach [.Subscript o k p1] X.env).map (·.2) = [assign (.Subscript o k p1) X.env] := by rfl) : ES X F (.Assign [.Subscript o k p1] e pos) (fSetIx i fe fk) :=
  (ps_asg he (pg_sub ho hk set_list ha) hs hw h1).via fun D σ H ⟨S, r, p⟩ => by
    refine (rdG.bindS (R := PR) ⟨S, r, p⟩).imp fun y H1 ⟨d, S1, r1, v1, p1, q1⟩ => ?_
    obtain ⟨x, d0, ex, _, q1⟩ := peek_inS r1 q1
    refine ⟨x, ex, (rdG.bindS (R := PR) ⟨S1, r1, q1⟩).imp fun z H2 ⟨kd, S2, r2, v2, p2, q2⟩ => ?_⟩
    obtain ⟨ds, e2, q2⟩ := wLst_in q2
    obtain ⟨a, vs, ea, hH, hv, put⟩ := r2.lst e2
    rw [ex] at ea; cases ea
    cases kd with
    | int j =>
      cases v2
      cases em : ixN ds.length j with
      | none => simp only [em] at q2; exact q2.elim
      | some m =>
        simp only [em] at q2
        have hy : Pd X.K H2 y d := Pd.mono p2 v1
        obtain ⟨r3, p3⟩ := put (vs.set m y) (ds.set m d) (hv.set hy m)
        exact ⟨a, vs, j, m, rfl, rfl, hH, by rw [hv.length]; exact em, q2 _ _ p3 r3⟩
    | _ => exact q2.elim
end
end Fz
end

section
set_option Elab.async false
set_option linter.all false
set_option maxRecDepth 100000
set_option maxHeartbeats 4000000
/-! F6: list comprehensions. -/
namespace Fz
open PySem PySem.Spec PyProof.Rows L2
/-- the slots vs stored anew -/
def setAll {β : Type} (S : List β) : List Nat → (Nat → β) → List β
  | [], _ => S
  | v :: vs, f => (setAll S vs f).set v (f v)
theorem setAll_length {β : Type} (S : List β) (f : Nat → β) : ∀ vs, (setAll S vs f).length = S.length
  | [] => rfl
  | v :: vs => by unfold setAll; rw [List.length_set, setAll_length S f vs]
theorem setAll_in {β : Type} {S : List β} {f : Nat → β} {j : Nat} : ∀ {vs : List Nat}, j ∈ vs → j < S.length → (setAll S vs f)[j]? = some (f j)
  | v :: vs, h, hl => by
    unfold setAll
    by_cases e : v = j
    · subst e
      exact List.getElem?_set_self (by rw [setAll_length]; exact hl)
    · rw [List.getElem?_set_ne e]
      exact setAll_in ((List.mem_cons.mp h).resolve_left (Ne.symm e)) hl
theorem setAll_out {β : Type} {S : List β} {f : Nat → β} {j : Nat} : ∀ {vs : List Nat}, j ∉ vs → (setAll S vs f)[j]? = S[j]?
  | [], _ => rfl
  | v :: vs, h => by
    unfold setAll
    rw [List.getElem?_set_ne (fun e => h (by simp [e]))]
    exact setAll_out fun z => h (List.mem_cons_of_mem _ z)
theorem wipe_eq (σ : Sl) : ∀ vs, wipe σ vs = setAll σ vs fun _ => none
  | [] => rfl
  | v :: vs => by unfold wipe setAll; rw [wipe_eq σ vs]
def wipeS (S : FS) (vs : List Nat) : FS := setAll S vs fun _ => none
def keepD : Option SV → Option SV
  | some (.d d) => some (.d d)
  | _ => none
/-- behind the block: its own slots as they stood ahead of it (data alone) -/
def restS (S S2 : FS) (vs : List Nat) : FS := setAll S2 vs fun v => keepD (S.getD v none)
theorem keepD_some {o : Option SV} {sv : SV} (h : keepD o = some sv) : ∃ d, sv = .d d ∧ o = some (.d d) := by
  unfold keepD at h
  split at h
  · cases h; exact ⟨_, rfl, rfl⟩
  · cases h
/-- the frame within a block: D holds what is made so far, nothing may leave -/
def Fx.blk (F : Fx) (D : Addr) (acc : List V) : Fx := { F with held := (D, acc) :: F.held, E := fun _ _ _ => False }
theorem setAll_some {S : FS} {vs : List Nat} {f : Nat → Option SV} {j : Nat} {sv : SV} (h : (setAll S vs f)[j]? = some (some sv)) : (j ∉ vs ∧ S[j]? = some (some sv)) ∨ (j ∈ vs ∧ j < S.length ∧ f j = some sv) := by
  by_cases hj : j ∈ vs
  · by_cases hl : j < S.length
    · rw [setAll_in hj hl] at h
      exact .inr ⟨hj, hl, Option.some.inj h⟩
    · rw [List.getElem?_eq_none (by rw [setAll_length]; omega)] at h; cases h
  · rw [setAll_out hj] at h; exact .inl ⟨hj, h⟩
section
variable {K : Fg} {F : Fx} {S S2 : FS} {σ σ2 : Sl} {H H2 : Hp} {vs : List Nat}
theorem Rel.wiped (r : Rel K F S σ H) : Rel K F (wipeS S vs) (wipe σ vs) H := by
  rw [wipe_eq]
  have down : ∀ j sv, (wipeS S vs)[j]? = some (some sv) → j ∉ vs ∧ S[j]? = some (some sv) := fun j sv h => by
    rcases setAll_some h with h | ⟨_, _, h⟩
    · exact h
    · cases h
  have ow : ∀ j, Owned (wipeS S vs) j → j ∉ vs ∧ Owned S j := fun j ⟨ob, h⟩ => by
    rcases h with h | h
    · exact ⟨(down j _ h).1, ob, .inl (down j _ h).2⟩
    · exact ⟨(down j _ h).1, ob, .inr (down j _ h).2⟩
  refine ⟨by unfold wipeS; rw [setAll_length, setAll_length]; exact r.len, fun j sv h => ?_, fun i j a ne hi hj => ?_, r.keep, r.there, r.tabs, fun p hp => ⟨(r.held p hp).1, (r.held p hp).2.1, fun i hi => ?_⟩⟩
  · obtain ⟨h1, h2⟩ := down j sv h
    rw [setAll_out h1]; exact r.slot j sv h2
  · obtain ⟨h1, h2⟩ := ow i hi
    obtain ⟨h3, h4⟩ := ow j hj
    rw [setAll_out h1, setAll_out h3]; exact r.apart i j a ne h2 h4
  · obtain ⟨h1, h2⟩ := ow i hi
    rw [setAll_out h1]; exact (r.held p hp).2.2 i h2
theorem Rel.hold (r : Rel K F S σ H) {D : Addr} {acc : List V} (h : H D = some (.lst acc)) (h0 : F.H0 D = none) (hu : ∀ i, Owned S i → σ[i]? ≠ some (some (.ref D))) : Rel K (F.blk D acc) S σ H := by
  refine ⟨r.len, r.slot, r.apart, r.keep, r.there, r.tabs, fun p hp => ?_⟩
  rcases List.mem_cons.mp hp with e | hp
  · subst e; exact ⟨h, h0, hu⟩
  · exact r.held p hp
theorem Rel.unhold {D : Addr} {acc : List V} (r : Rel K (F.blk D acc) S σ H) : Rel K F S σ H :=
  ⟨r.len, r.slot, r.apart, r.keep, r.there, r.tabs, fun p hp => r.held p (List.mem_cons_of_mem _ hp)⟩
/-- behind a block -/
theorem Rel.rest (r0 : Rel K F S σ H) (r : Rel K F S2 σ2 H2) (p : Pers H H2) (hw : wipe σ2 vs = wipe σ vs) : Rel K F (restS S S2 vs) σ H2 := by
  have len : σ2.length = σ.length := by
    have := congrArg List.length hw
    rw [wipe_length, wipe_length] at this; exact this
  have out : ∀ j, j ∉ vs → σ2[j]? = σ[j]? := fun j hj => by
    have := congrArg (fun l : Sl => l[j]?) hw
    simp only [wipe_eq] at this
    rw [setAll_out hj, setAll_out hj] at this; exact this
  have ow : ∀ j, Owned (restS S S2 vs) j → j ∉ vs ∧ Owned S2 j := fun j ⟨ob, h⟩ => by
    rcases h with h | h
    · rcases setAll_some h with ⟨h1, h2⟩ | ⟨_, _, h2⟩
      · exact ⟨h1, ob, .inl h2⟩
      · obtain ⟨d, e, _⟩ := keepD_some h2; cases e
    · rcases setAll_some h with ⟨h1, h2⟩ | ⟨_, _, h2⟩
      · exact ⟨h1, ob, .inr h2⟩
      · obtain ⟨d, e, _⟩ := keepD_some h2; cases e
  refine ⟨by unfold restS; rw [setAll_length, r.len, len], fun j sv h => ?_, fun i j a ne hi hj => ?_, r.keep, r.there, r.tabs, fun q hq => ⟨(r.held q hq).1, (r.held q hq).2.1, fun i hi => ?_⟩⟩
  · rcases setAll_some h with ⟨h1, h2⟩ | ⟨h1, hl, h2⟩
    · rw [← out j h1]; exact r.slot j sv h2
    · obtain ⟨d, rfl, e⟩ := keepD_some h2
      have e2 : S[j]? = some (some (.d d)) := by
        rw [List.getD_eq_getElem?_getD] at e
        cases q : S[j]? with
        | none => rw [q] at e; cases e
        | some o => rw [q] at e; simp only [Option.getD_some] at e; rw [e]
      obtain ⟨x, ex, v⟩ := r0.slot j _ e2
      exact ⟨x, ex, Pd.mono p v⟩
  · obtain ⟨h1, h2⟩ := ow i hi
    obtain ⟨h3, h4⟩ := ow j hj
    rw [← out i h1, ← out j h3]; exact r.apart i j a ne h2 h4
  · obtain ⟨h1, h2⟩ := ow i hi
    rw [← out i h1]; exact (r.held q hq).2.2 i h2
end
/-- tests of a comprehension -/
abbrev ETs (X : Cx) (F : Fx) (ifs : List Expr) (f : FS → Res Bool) : Prop := PTs X ifs (rdT X.K F f)
theorem ts_nil {X : Cx} {F : Fx} : ETs X F [] (fC true) := ⟨fun pins s σ H Q I ⟨S, r, p⟩ => pts_nil.run pins s σ H Q I (p.ok r)⟩
theorem ts_one {X : Cx} {F : Fx} {c : Expr} {f : FS → Res Bool} (h : ET X F c f) : ETs X F [c] f := pts_one h
/-- the turns -/
def lcF (g : D → FS → Option FS) (t : FS → Res Bool) (fe : FS → Res D) (vs : List Nat) : List D → FS → List D → Res SV
  | [], S, acc => .ok (.own (.lst acc)) S
  | d :: ds, S, acc => match g d (wipeS S vs) with
    | none => .bad
    | some S1 => match t S1 with
      | .ok false S2 => lcF g t fe vs ds (restS S S2 vs) acc
      | .ok true S2 => (match fe S2 with
        | .ok y S3 => if acc.length < sizeLine then lcF g t fe vs ds (restS S S3 vs) (acc ++ [y]) else .bad
        | _ => .bad)
      | _ => .bad
def fLc (it : FS → Res (List D)) (g : D → FS → Option FS) (t : FS → Res Bool) (fe : FS → Res D) (vs : List Nat) : FS → Res SV := bnd it fun ds S => lcF g t fe vs ds S []
section
variable {X : Cx} {F : Fx} {elt tg iter : Expr} {ifs : List Expr} {scope : Scope} {own : List (Str × Nat)} {pos : Pos} {it : FS → Res (List D)} {g : D → FS → Option FS} {t : FS → Res Bool} {fe : FS → Res D} {ts : List Nat}
/-- the block's readings, whatever is held -/
def tLcF (K : Fg) (F : Fx) (it : FS → Res (List D)) (g : D → FS → Option FS) (t : FS → Res Bool) (fe : FS → Res D) (vs : List Nat) : TE := rdG K F VR (fLc it g t fe vs)
/-- the parts by their readings for every held list: joined -/
def jTG (K : Fg) (F : Fx) (ts : List Nat) (g : D → FS → Option FS) : TG := fun v σ H Q => ∃ D acc, rdTG K (F.blk D acc) ts g v σ H Q
def jT (K : Fg) (F : Fx) (t : FS → Res Bool) : TT := fun σ H Q => ∃ D acc, rdT K (F.blk D acc) t σ H Q
def jE (K : Fg) (F : Fx) (f : FS → Res D) : TE := fun σ H Q => ∃ D acc, rdG K (F.blk D acc) PR f σ H Q
theorem jG_ok {X : Cx} {e : Expr} (h : ∀ D acc, EG X (F.blk D acc) e ts g) : PG X e (jTG X.K F ts g) := ⟨fun pins s σ H v u Q I r ⟨D, acc, q⟩ => (h D acc).run pins s σ H v u Q I r q⟩
theorem jT_ok {X : Cx} {e : List Expr} (h : ∀ D acc, ETs X (F.blk D acc) e t) : PTs X e (jT X.K F t) := ⟨fun pins s σ H Q I ⟨D, acc, q⟩ => (h D acc).run pins s σ H Q I q⟩
theorem jE_ok {X : Cx} {e : Expr} (h : ∀ D acc, ED X (F.blk D acc) e fe) : PE X e (jE X.K F fe) := ⟨fun pins s σ H Q I ⟨D, acc, q⟩ => (h D acc).run pins s σ H Q I q⟩
theorem lc_read {vs : List Nat} (hts : ∀ j, j ∈ ts → j ∈ vs) {σ : Sl} {H : Hp} {Q : VK} (h : rdG X.K F VR (fLc it g t fe vs) σ H Q) : tLc (rdI X.K F it) (jTG X.K F ts g) (jT X.K F t) (jE X.K F fe) vs σ H Q := by
  obtain ⟨S, r, p⟩ := h
  refine ⟨S, r, ?_⟩
  unfold fLc bnd at p
  cases e : it S with
  | exn e2 S1 => rw [e] at p; exact p
  | bad => rw [e] at p; exact p
  | ok ds S1 =>
    rw [e] at p
    simp only [Res.bind_ok] at p
    intro J H1 p1 r1 y D hD
    have d0 : F.H0 D = none := r1.none0 hD
    have nh : ∀ q ∈ F.held, q.1 ≠ D := fun q hq e => by obtain ⟨z, _⟩ := r1.held q hq; rw [e, hD] at z; cases z
    refine ⟨fun i m H => ∃ S vsA acc, Rel X.K F S σ H ∧ Pers H1 H ∧ m = ds.length - i ∧ i ≤ ds.length ∧ H D = some (.lst vsA) ∧ PdAll X.K H vsA acc ∧ (∀ i, Owned S i → σ[i]? ≠ some (some (.ref D))) ∧ postG X.K F VR (lcF g t fe vs (ds.drop i) S acc) σ H Q,
      ⟨ds.length, S1, [], [], r1.new hD, Pers.new hD, rfl, Nat.zero_le _, upd_same, .nil, fun j hj => r1.unslot hD hj, postG.later (p1.trans (Pers.new hD)) p⟩, ?_⟩
    rintro i m H ⟨S, vsA, acc, r, pH, rfl, hi, hDl, hA, hu, p⟩
    by_cases hl : i < ds.length
    · refine .inr ⟨y.go i H pH hl, fun H' => ∃ S vsA acc, Rel X.K F S σ H' ∧ Pers H1 H' ∧ H' D = some (.lst vsA) ∧ PdAll X.K H' vsA acc ∧ (∀ i, Owned S i → σ[i]? ≠ some (some (.ref D))) ∧ postG X.K F VR (lcF g t fe vs (ds.drop (i + 1)) S acc) σ H' Q,
        fun H' ⟨S, vsA, acc, a1, a2, a3, a4, a5, a6⟩ => ⟨ds.length - (i + 1), by omega, S, vsA, acc, a1, a2, rfl, hl, a3, a4, a5, a6⟩, fun x H' hy => ?_⟩
      obtain ⟨p2, k2, v2⟩ := y.yld i H x H' ds[i] pH (List.getElem?_eq_getElem hl) hy
      rw [List.drop_eq_getElem_cons hl] at p
      simp only [lcF] at p
      have rb : Rel X.K (F.blk D vsA) S σ H := r.hold hDl d0 hu
      have rb2 : Rel X.K (F.blk D vsA) S σ H' := k2 _ _ _ rb
      have rw2 := rb2.wiped (vs := vs)
      refine ⟨D, vsA, wipeS S vs, ds[i], rw2, v2, ?_⟩
      cases e2 : g ds[i] (wipeS S vs) with
      | none => rw [e2] at p; exact p
      | some S1 =>
        rw [e2] at p
        simp only at p
        intro σ3 H3 p3 r3 b3
        have hw3 : wipe σ3 vs = wipe σ vs := by
          apply List.ext_getElem?
          intro j
          by_cases hj : j ∈ vs
          · have l1 : (wipe σ3 vs).length = (wipe σ vs).length := by rw [wipe_length, b3.1]
            by_cases hl2 : j < σ.length
            · rw [wipe_eq, wipe_eq, setAll_in hj (by rw [b3.1, wipe_length]; exact hl2), setAll_in hj hl2]
            · rw [List.getElem?_eq_none (by rw [l1, wipe_length]; omega), List.getElem?_eq_none (by rw [wipe_length]; omega)]
          · rw [wipe_eq, setAll_out hj, b3.2 j (fun z => hj (hts j z)), wipe_eq]
        refine ⟨hw3, D, vsA, S1, r3, ?_⟩
        have pH3 : Pers H1 H3 := (pH.trans p2).trans p3
        cases e3 : t S1 with
        | exn e4 S2 => rw [e3] at p; exact p.elim
        | bad => rw [e3] at p; exact p
        | ok k S2 =>
          rw [e3] at p
          intro H4 p4 r4
          have pH4 := pH3.trans p4
          have pp4 : Pers H H4 := (p2.trans p3).trans p4
          cases k with
          | false =>
            rw [if_neg Bool.false_ne_true]
            have rr := r.rest r4.unhold pp4 hw3
            have h4 := r4.held (D, vsA) (List.mem_cons_self ..)
            refine ⟨_, vsA, acc, rr, pH4, h4.1, hA.mono pp4, fun j hj => ?_, postG.later pp4 p⟩
            obtain ⟨ob, hj⟩ := hj
            have : j ∉ vs ∧ Owned S2 j := by
              rcases hj with h | h
              · rcases setAll_some h with ⟨h1, h2⟩ | ⟨_, _, h2⟩
                · exact ⟨h1, ob, .inl h2⟩
                · obtain ⟨d, e, _⟩ := keepD_some h2; cases e
              · rcases setAll_some h with ⟨h1, h2⟩ | ⟨_, _, h2⟩
                · exact ⟨h1, ob, .inr h2⟩
                · obtain ⟨d, e, _⟩ := keepD_some h2; cases e
            have q := h4.2.2 j this.2
            have out : σ3[j]? = σ[j]? := by rw [b3.2 j (fun z => this.1 (hts j z)), wipe_eq, setAll_out this.1]
            rw [← out]; exact q
          | true =>
            rw [if_pos rfl]
            refine ⟨D, vsA, S2, r4, ?_⟩
            simp only at p
            cases e5 : fe S2 with
            | exn e6 S3 => rw [e5] at p; exact p.elim
            | bad => rw [e5] at p; exact p
            | ok yd S3 =>
              rw [e5] at p
              simp only at p
              intro yv H5 p5 r5 v5
              have pp5 : Pers H H5 := pp4.trans p5
              have h5 := r5.held (D, vsA) (List.mem_cons_self ..)
              have rr := r.rest r5.unhold pp5 hw3
              have hu5 : ∀ j, Owned (restS S S3 vs) j → σ[j]? ≠ some (some (.ref D)) := fun j hj => by
                obtain ⟨ob, hj⟩ := hj
                have : j ∉ vs ∧ Owned S3 j := by
                  rcases hj with h | h
                  · rcases setAll_some h with ⟨h1, h2⟩ | ⟨_, _, h2⟩
                    · exact ⟨h1, ob, .inl h2⟩
                    · obtain ⟨d, e, _⟩ := keepD_some h2; cases e
                  · rcases setAll_some h with ⟨h1, h2⟩ | ⟨_, _, h2⟩
                    · exact ⟨h1, ob, .inr h2⟩
                    · obtain ⟨d, e, _⟩ := keepD_some h2; cases e
                have q := h5.2.2 j this.2
                have out : σ3[j]? = σ[j]? := by rw [b3.2 j (fun z => this.1 (hts j z)), wipe_eq, setAll_out this.1]
                rw [← out]; exact q
              by_cases hz : acc.length < sizeLine
              · rw [if_pos hz] at p
                have hm : Mut (H5 D) := by rw [h5.1]; trivial
                have p6 : Pers H5 (upd H5 D (.lst (vsA ++ [yv]))) := Pers.put (.inl hm)
                have r6 : Rel X.K F (restS S S3 vs) σ (upd H5 D (.lst (vsA ++ [yv]))) := rr.put (.inl hm) (.inl d0) nh rfl (fun j sv e => .inl ⟨e, hu5 j⟩) fun j h => h
                exact ⟨vsA, h5.1, by rw [hA.length]; exact hz, _, _, acc ++ [yd], r6, (pH4.trans p5).trans p6, upd_same, ((hA.mono pp5).mono p6).append (.cons (Pd.mono p6 v5) .nil), hu5, postG.later (pp5.trans p6) p⟩
              · rw [if_neg hz] at p; exact p.elim
    · have e : i = ds.length := by omega
      subst e
      rw [List.drop_length] at p
      exact .inl ⟨y.stop H pH, p _ H (.refl H) r ⟨D, rfl, ⟨vsA, hDl, hA⟩, d0, hu, nh⟩⟩
theorem e_lc (hc : X.calm = true) (hN : X.N.Nodup) (hi : EI X F tg iter it) (ok : BlkOk X.N X.env.scope scope own) (hts : ∀ j, j ∈ ts → j ∈ own.map (·.2))
    (hg : ∀ (s : Shared) (H : Hp) (C : Addr) (cl : List (Str × Addr)) (fp : List Addr) (D : Addr) (acc : List V), EG (X.blk s H scope (compEnvC scope cl C X.env) fp) (F.blk D acc) tg ts g)
    (ht : ∀ (s : Shared) (H : Hp) (C : Addr) (cl : List (Str × Addr)) (fp : List Addr) (D : Addr) (acc : List V), ETs (X.blk s H scope (compEnvC scope cl C X.env) fp) (F.blk D acc) ifs t)
    (he : ∀ (s : Shared) (H : Hp) (C : Addr) (cl : List (Str × Addr)) (fp : List Addr) (D : Addr) (acc : List V), ED (X.blk s H scope (compEnvC scope cl C X.env) fp) (F.blk D acc) elt fe)
    (hs : ∀ x, foldedSetIterable iter X.env x = pure x := by intro _; rfl) : EV X F (.ListComp elt [⟨tg, iter, ifs, 0⟩] scope pos) (fLc it g t fe (own.map (·.2))) :=
  (pe_lc hc hN hi ok (fun s H C cl fp => jG_ok (F := F) (hg s H C cl fp)) (fun s H C cl fp => jT_ok (F := F) (ht s H C cl fp)) (fun s H C cl fp => jE_ok (F := F) (he s H C cl fp)) hs).via fun σ H Q h => lc_read hts h
theorem s_setLc {i : Nat} {y : Str} {py spos : Pos} (hc : X.calm = true) (hN : X.N.Nodup) (hy : X.N[i]? = some y) (hyl : X.env.scope.names.lookup y = some .local)
    (hsw : swapsWith (.ListComp elt [⟨tg, iter, ifs, 0⟩] scope pos) (some (.Name y py)) spos.line X.env = pure true) (hi : EI X F tg iter it) (ok : BlkOk X.N X.env.scope scope own) (hts : ∀ j, j ∈ ts → j ∈ own.map (·.2))
    (hg : ∀ (s : Shared) (H : Hp) (C : Addr) (cl : List (Str × Addr)) (fp : List Addr) (D : Addr) (acc : List V), EG (X.blk s H scope (compEnvC scope cl C X.env) fp) (F.blk D acc) tg ts g)
    (ht : ∀ (s : Shared) (H : Hp) (C : Addr) (cl : List (Str × Addr)) (fp : List Addr) (D : Addr) (acc : List V), ETs (X.blk s H scope (compEnvC scope cl C X.env) fp) (F.blk D acc) ifs t)
    (he : ∀ (s : Shared) (H : Hp) (C : Addr) (cl : List (Str × Addr)) (fp : List Addr) (D : Addr) (acc : List V), ED (X.blk s H scope (compEnvC scope cl C X.env) fp) (F.blk D acc) elt fe)
    (hs : ∀ x, foldedSetIterable iter X.env x = pure x := by intro _; rfl) : ES X F (.Assign [.Name y py] (.ListComp elt [⟨tg, iter, ifs, 0⟩] scope pos) spos) (fSet i (fLc it g t fe (own.map (·.2)))) :=
  (ps_setLc hc hN hy hyl hsw hi ok (fun s H C cl fp => jG_ok (F := F) (hg s H C cl fp)) (fun s H C cl fp => jT_ok (F := F) (ht s H C cl fp)) (fun s H C cl fp => jE_ok (F := F) (he s H C cl fp)) hs).via fun D σ H h =>
    lc_read hts ((rdG.bindS h).imp fun x H1 ⟨d, S1, r, v, p, q⟩ => q _ H1 (.refl H1) (r.setV v))
end
end Fz
end

section
set_option Elab.async false
set_option linter.all false
set_option maxRecDepth 100000
set_option maxHeartbeats 4000000
/-! F7: defs and their calls. -/
namespace Fz
open PySem PySem.Spec PyProof.Rows L2
inductive CRes where
  | ok (v : SV) (args : List SV)
  | exn (e : Exn) (args : List SV)
  | bad
abbrev Den := List SV → CRes
def ArgR (K : Fg) (w : World) (H : Hp) (x : V) : SV → Prop
  | .d d => Pd K H x d
  | .pin ob => ∃ a, x = .ref a ∧ ObR K w H a ob
  | .own _ => False
def PinIx (svs : List SV) (i : Nat) : Prop := ∃ ob, svs[i]? = some (.pin ob)
structure ArgsR (K : Fg) (w : World) (H : Hp) (vs : List V) (svs : List SV) : Prop where
  len : vs.length = svs.length
  get : ∀ (i : Nat) (sv : SV), svs[i]? = some sv → ∃ x, vs[i]? = some x ∧ ArgR K w H x sv
  apart : ∀ (i j : Nat) (a : Addr), i ≠ j → PinIx svs i → PinIx svs j → vs[i]? = some (.ref a) → vs[j]? ≠ some (.ref a)
def PinAd (vs : List V) (svs : List SV) (a : Addr) : Prop := ∃ i, PinIx svs i ∧ vs[i]? = some (.ref a)
/-- what a call leaves -/
structure Left (K : Fg) (w : World) (T : List Addr) (vs : List V) (svs svs' : List SV) (H H' : Hp) : Prop where
  pers : Pers H H'
  keep : ∀ a o, H a = some o → ¬ PinAd vs svs a → isTbl o = false → H' a = some o
  there : ∀ a o, H a = some o → ∃ u, H' a = some u
  tabs : ∀ P ∈ T, TabOk H' P
  args : ∀ (i : Nat) (ob : Ob) (a : Addr), svs'[i]? = some (.pin ob) → vs[i]? = some (.ref a) → ObR K w H' a ob
def RetR (K : Fg) (w : World) (H H' : Hp) (x : V) : SV → Prop
  | .d d => Pd K H' x d
  | .own ob => ∃ a, x = .ref a ∧ ObR K w H' a ob ∧ H a = none
  | .pin _ => False
def spF (K : Fg) (w : World) (T : List Addr) (n : Nat) (den : Den) : Sp := fun vs H Q E => ∃ svs, svs.length = n ∧ ArgsR K w H vs svs ∧ (∀ P ∈ T, TabOk H P) ∧ match den svs with
  | .ok ret svs' => ∀ x H', Left K w T vs svs svs' H H' → RetR K w H H' x ret → Q x H'
  | .exn e svs' => ∀ c dx H', Left K w T vs svs svs' H H' → ExR K H' e c dx → E c dx H'
  | .bad => False
/-! ### a body's den as a def's -/
/-- the pinned arguments as they stand at the end -/
def pinsAt : List SV → FS → Option (List SV)
  | [], _ => some []
  | .pin _ :: r, some (.pin ob) :: S => (pinsAt r S).map (.pin ob :: ·)
  | .pin _ :: _, _ => none
  | sv :: r, _ :: S => (pinsAt r S).map (sv :: ·)
  | _ :: _, [] => none
def startS (n : Nat) (svs : List SV) : FS := svs.map some ++ List.replicate (n - svs.length) none
def denOf (n : Nat) (body : FS → SRes) : Den := fun svs => match body (startS n svs) with
  | .rt v S => (match pinsAt svs S with
    | some svs' => .ok v svs'
    | none => .bad)
  | .nx S => (match pinsAt svs S with
    | some svs' => .ok (.d .none) svs'
    | none => .bad)
  | .exn e S => (match pinsAt svs S with
    | some svs' => .exn e svs'
    | none => .bad)
  | _ => .bad
def pinL : Nat → List V → List SV → List (Nat × Addr)
  | i, .ref a :: vs, .pin _ :: svs => (i, a) :: pinL (i + 1) vs svs
  | i, _ :: vs, _ :: svs => pinL (i + 1) vs svs
  | _, _, _ => []
theorem mem_pinL {j : Nat} {a : Addr} : ∀ {i : Nat} {vs : List V} {svs : List SV}, (j, a) ∈ pinL i vs svs ↔ i ≤ j ∧ (∃ ob, svs[j - i]? = some (.pin ob)) ∧ vs[j - i]? = some (.ref a)
  | i, [], svs => by cases svs <;> simp [pinL]
  | i, v :: vs, [] => by cases v <;> simp [pinL]
  | i, v :: vs, sv :: svs => by
    have step : (j, a) ∈ pinL (i + 1) vs svs ↔ i + 1 ≤ j ∧ (∃ ob, (sv :: svs)[j - i]? = some (.pin ob)) ∧ (v :: vs)[j - i]? = some (.ref a) := by
      rw [mem_pinL (i := i + 1)]
      constructor
      · rintro ⟨h1, h2, h3⟩
        have e : j - i = (j - (i + 1)) + 1 := by omega
        exact ⟨h1, by rw [e]; simpa using h2, by rw [e]; simpa using h3⟩
      · rintro ⟨h1, h2, h3⟩
        have e : j - i = (j - (i + 1)) + 1 := by omega
        rw [e] at h2 h3
        exact ⟨h1, by simpa using h2, by simpa using h3⟩
    have here : ∀ {P : Prop}, (i ≤ j → i ≠ j → P) → (i + 1 ≤ j → P) := fun h q => h (by omega) (by omega)
    cases sv with
    | pin ob =>
      cases v with
      | ref b =>
        simp only [pinL, List.mem_cons, Prod.mk.injEq]
        constructor
        · rintro (⟨rfl, rfl⟩ | h)
          · exact ⟨Nat.le_refl _, ⟨ob, by simp⟩, by simp⟩
          · obtain ⟨h1, h2, h3⟩ := step.mp h
            exact ⟨by omega, h2, h3⟩
        · rintro ⟨h1, h2, h3⟩
          by_cases e : j = i
          · subst e
            simp at h3
            exact .inl ⟨rfl, h3.symm⟩
          · exact .inr (step.mpr ⟨by omega, h2, h3⟩)
      | _ =>
        simp only [pinL]
        rw [step]
        constructor
        · rintro ⟨h1, h2, h3⟩; exact ⟨by omega, h2, h3⟩
        · rintro ⟨h1, h2, h3⟩
          refine ⟨?_, h2, h3⟩
          by_cases e : j = i
          · subst e; simp at h3
          · omega
    | d x =>
      have e0 : pinL i (v :: vs) (.d x :: svs) = pinL (i + 1) vs svs := by cases v <;> rfl
      rw [e0, step]
      constructor
      · rintro ⟨h1, h2, h3⟩; exact ⟨by omega, h2, h3⟩
      · rintro ⟨h1, h2, h3⟩
        refine ⟨?_, h2, h3⟩
        by_cases e : j = i
        · subst e; simp at h2
        · omega
    | own x =>
      have e0 : pinL i (v :: vs) (.own x :: svs) = pinL (i + 1) vs svs := by cases v <;> rfl
      rw [e0, step]
      constructor
      · rintro ⟨h1, h2, h3⟩; exact ⟨by omega, h2, h3⟩
      · rintro ⟨h1, h2, h3⟩
        refine ⟨?_, h2, h3⟩
        by_cases e : j = i
        · subst e; simp at h2
        · omega
theorem pinsAt_get : ∀ {svs : List SV} {S : FS} {svs' : List SV} {i : Nat} {ob : Ob}, pinsAt svs S = some svs' → svs'[i]? = some (.pin ob) → S[i]? = some (some (.pin ob)) ∧ PinIx svs i
  | [], S, svs', i, ob, h, e => by simp [pinsAt] at h; subst h; simp at e
  | .pin o :: r, [], svs', i, ob, h, e => by simp [pinsAt] at h
  | .pin o :: r, none :: S, svs', i, ob, h, e => by simp [pinsAt] at h
  | .pin o :: r, some (.d d) :: S, svs', i, ob, h, e => by simp [pinsAt] at h
  | .pin o :: r, some (.own d) :: S, svs', i, ob, h, e => by simp [pinsAt] at h
  | .pin o :: r, some (.pin o2) :: S, svs', i, ob, h, e => by
    simp only [pinsAt, Option.map_eq_some_iff] at h
    obtain ⟨t, h1, rfl⟩ := h
    cases i with
    | zero => simp at e; subst e; exact ⟨by simp, o, by simp⟩
    | succ i =>
      obtain ⟨h2, o3, h3⟩ := pinsAt_get (i := i) h1 (by simpa using e)
      exact ⟨by simpa using h2, o3, by simpa using h3⟩
  | .d d :: r, [], svs', i, ob, h, e => by simp [pinsAt] at h
  | .own d :: r, [], svs', i, ob, h, e => by simp [pinsAt] at h
  | .d d :: r, s0 :: S, svs', i, ob, h, e => by
    simp only [pinsAt, Option.map_eq_some_iff] at h
    obtain ⟨t, h1, rfl⟩ := h
    cases i with
    | zero => simp at e
    | succ i =>
      obtain ⟨h2, o3, h3⟩ := pinsAt_get (i := i) h1 (by simpa using e)
      exact ⟨by simpa using h2, o3, by simpa using h3⟩
  | .own d :: r, s0 :: S, svs', i, ob, h, e => by
    simp only [pinsAt, Option.map_eq_some_iff] at h
    obtain ⟨t, h1, rfl⟩ := h
    cases i with
    | zero => simp at e
    | succ i =>
      obtain ⟨h2, o3, h3⟩ := pinsAt_get (i := i) h1 (by simpa using e)
      exact ⟨by simpa using h2, o3, by simpa using h3⟩
section
variable {K : Fg} {w : World} {T : List Addr} {N : List Str} {vs : List V} {svs : List SV} {H : Hp}
theorem startS_get {n i : Nat} {sv : SV} (h : (startS n svs)[i]? = some (some sv)) : svs[i]? = some sv := by
  unfold startS at h
  by_cases hi : i < svs.length
  · rw [List.getElem?_append_left (by simpa using hi), List.getElem?_map] at h
    cases e : svs[i]? with
    | none => rw [e] at h; cases h
    | some x => rw [e] at h; simpa using h
  · rw [List.getElem?_append_right (by simpa using hi)] at h
    rw [List.getElem?_replicate] at h
    split at h <;> cases h
theorem start_get {i : Nat} {x : V} (h : vs[i]? = some x) : (L2.start N vs)[i]? = some (some x) := by
  unfold L2.start
  have hi : i < vs.length := (List.getElem?_eq_some_iff.mp h).1
  rw [List.getElem?_append_left (by simpa using hi), List.getElem?_map, h]
  rfl
theorem rel_start (hl : svs.length ≤ N.length) (a : ArgsR K w H vs svs) (ht : ∀ P ∈ T, TabOk H P) (E : XK) : Rel K ⟨H, pinL 0 vs svs, T, [], E, w⟩ (startS N.length svs) (L2.start N vs) H where
  len := by
    unfold startS L2.start
    simp only [List.length_append, List.length_map, List.length_replicate]
    rw [a.len]
  slot := fun i sv h => by
    have h2 := startS_get h
    obtain ⟨x, ex, ar⟩ := a.get i sv h2
    refine ⟨x, start_get ex, ?_⟩
    cases sv with
    | d d => exact ar
    | own ob => exact ar.elim
    | pin ob =>
      obtain ⟨b, rfl, q⟩ := ar
      exact ⟨b, rfl, q, mem_pinL.mpr ⟨Nat.zero_le _, ⟨ob, h2⟩, ex⟩⟩
  apart := fun i j b ne ⟨o1, h1⟩ ⟨o2, h2⟩ e1 e2 => by
    have k : ∀ {i o}, (startS N.length svs)[i]? = some (some (.own o)) ∨ (startS N.length svs)[i]? = some (some (.pin o)) → PinIx svs i := fun {i o} h => by
      rcases h with h | h
      · obtain ⟨x, _, ar⟩ := a.get i _ (startS_get h); exact ar.elim
      · exact ⟨o, startS_get h⟩
    have p1 := k h1
    have p2 := k h2
    have back : ∀ {i}, PinIx svs i → (L2.start N vs)[i]? = some (some (.ref b)) → vs[i]? = some (.ref b) := fun {i} ⟨o, h⟩ e => by
      obtain ⟨x, ex, _⟩ := a.get i _ h
      rw [start_get ex] at e
      cases e; exact ex
    exact a.apart i j b ne p1 p2 (back p1 e1) (back p2 e2)
  keep := fun _ _ e _ _ => e
  there := fun _ o e => ⟨o, e⟩
  tabs := ht
  held := fun _ h => nomatch h
/-- at a def's end -/
theorem left_of {E : XK} {S : FS} {σ : Sl} {H' : Hp} {svs' : List SV} (p : Pers H H') (r : Rel K ⟨H, pinL 0 vs svs, T, [], E, w⟩ S σ H') (e : pinsAt svs S = some svs') : Left K w T vs svs svs' H H' where
  pers := p
  keep := fun a o ho hn ht => r.keep a o ho (fun hm => by
    obtain ⟨⟨i, b⟩, h1, rfl⟩ := List.mem_map.mp hm
    obtain ⟨_, h2, h3⟩ := mem_pinL.mp h1
    exact hn ⟨i, h2, h3⟩) ht
  there := r.there
  tabs := r.tabs
  args := fun i ob a h1 h2 => by
    obtain ⟨h3, _⟩ := pinsAt_get e h1
    obtain ⟨x, ex, b, rfl, q, hp⟩ := r.slot i _ h3
    obtain ⟨_, _, h4⟩ := mem_pinL.mp hp
    have h5 : vs[i]? = some (.ref b) := h4
    rw [h2] at h5; cases h5; exact q
theorem ret_of {E : XK} {S : FS} {σ : Sl} {H' : Hp} {x : V} {v : SV} (h : VR K ⟨H, pinL 0 vs svs, T, [], E, w⟩ S σ H' x v) : RetR K w H H' x v := by
  cases v with
  | d d => exact h
  | own ob => obtain ⟨a, e, q, n, _⟩ := h; exact ⟨a, e, q, n⟩
  | pin ob => exact h.elim
end
/-- room, and no object is being shown -/
structure RoomG (k : Nat) (A : Around) : Prop where
  rm : Room k A
  gd : A.guards = some []
theorem RoomG.mono {j k : Nat} {A : Around} (r : RoomG k A) (h : j ≤ k) : RoomG j A := ⟨r.rm.mono h, r.gd⟩
theorem RoomG.deeper {k : Nat} {A : Around} (r : RoomG (k + 1) A) (env : Env) : RoomG k (A.deeper env) := ⟨r.rm.deeper env, r.gd⟩
/-- a function's promise, asked where no object is being shown -/
structure GOk (P : Program) (w : World) (K : Fg) (mg : Str → Option Value) (base : Heap) (k : Nat) (f : Addr) (fd : FuncData) (ps : List Str) (sp : Sp) : Prop where
  many : ∀ vs H Q E, sp vs H Q E → vs.length = ps.length
  go : ∀ (A : Around) (outer : List Env) (s : Shared) (H : Hp) (args : Args) (us : List Value) (vs : List V) (Q : VK) (E : XK), RoomG k A → Env0 P w K mg base A outer s H → BindsTo s fd args (ps.zip us) → Vals vs us → sp vs H Q E → codeAny (model P w) A (.call (.ref f) args) (CR CX0 outer P w H s Q E) s
theorem GOk.mono {P : Program} {w : World} {K : Fg} {mg : Str → Option Value} {base : Heap} {j k : Nat} {f : Addr} {fd : FuncData} {ps : List Str} {sp : Sp} (G : GOk P w K mg base j f fd ps sp) (h : j ≤ k) : GOk P w K mg base k f fd ps sp :=
  ⟨G.many, fun A outer s H args us vs Q E r => G.go A outer s H args us vs Q E (r.mono h)⟩
/-- the body's den at the start, read -/
theorem den_read {K : Fg} {w : World} {T : List Addr} {n : Nat} {fb : FS → SRes} {vs : List V} {svs : List SV} {H : Hp} {Q : VK} {E : XK} {N : List Str} (hn : N.length = n) (hl : svs.length ≤ N.length) (h2 : ArgsR K w H vs svs) (h3 : ∀ P ∈ T, TabOk H P)
    (h4 : match denOf n fb svs with
      | .ok ret svs' => ∀ x H', Left K w T vs svs svs' H H' → RetR K w H H' x ret → Q x H'
      | .exn e svs' => ∀ c dx H', Left K w T vs svs svs' H H' → ExR K H' e c dx → E c dx H'
      | .bad => False) : rdS K ⟨H, pinL 0 vs svs, T, [], E, w⟩ fb { nx := fun _ H' => Q .non H', rt := Q } (L2.start N vs) H := by
  subst hn
  refine ⟨startS N.length svs, rel_start hl h2 h3 E, ?_⟩
  unfold denOf at h4
  cases e : fb (startS N.length svs) with
  | rt v S1 =>
    rw [e] at h4
    simp only at h4
    cases e2 : pinsAt svs S1 with
    | none => rw [e2] at h4; exact h4.elim
    | some svs' => rw [e2] at h4; exact fun x σ H' p r v => h4 x H' (left_of p r e2) (ret_of v)
  | nx S1 =>
    rw [e] at h4
    simp only at h4
    cases e2 : pinsAt svs S1 with
    | none => rw [e2] at h4; exact h4.elim
    | some svs' => rw [e2] at h4; exact fun σ H' p r => h4 .non H' (left_of p r e2) .non
  | exn e3 S1 =>
    rw [e] at h4
    simp only at h4
    cases e2 : pinsAt svs S1 with
    | none => rw [e2] at h4; exact h4.elim
    | some svs' => rw [e2] at h4; exact fun c dx σ H' p r v => h4 c dx H' (left_of p r e2) v
  | bk S1 => rw [e] at h4; exact h4.elim
  | ct S1 => rw [e] at h4; exact h4.elim
  | bad => rw [e] at h4; exact h4.elim
/-- THE RULE for a def: its body's den -/
theorem def_ok {P : Program} {w : World} {K : Fg} {mg : Str → Option Value} {base : Heap} {x qual : Str} {params : Arguments} {body : List Stmt} {scope : Scope} {f : Addr} {fd : FuncData} {N ps : List Str} {k : Nat} {T : List Addr} {fb : FS → SRes} {dvs : List V} {kws : List (Str × V)}
    (F : FunD K x qual params body scope dvs kws f fd) (S : FnScope N ps scope) (hl : ps.length ≤ N.length)
    (hb : ∀ (A : Around) (outer : List Env) (s : Shared) (H : Hp) (E1 : XK) (H0 : Hp) (pins : List (Nat × Addr)) (E : XK), RoomG k (A.deeper (envOfC qual scope s.heap.objs.size f fd.code)) → EB (cxOf CX0 P w K mg base N qual scope f fd.code A outer s H E1).nox ⟨H0, pins, T, [], E, w⟩ body fb) :
    GOk P w K mg base (k + 1) f fd ps (spF K w T ps.length (denOf N.length fb)) := by
  obtain ⟨oc, od, dV, kV, doc, pm, an, cdv, ct, osl, rfl, lk, hcd, _, _⟩ := F.ex
  refine ⟨fun vs H Q E ⟨svs, h1, h2, _⟩ => h2.len.trans h1, fun A outer s H args us vs Q E hr e0 bt rv ⟨svs, h1, h2, h3, h4⟩ => ?_⟩
  have kin : K.In s.heap := e0.mod.kin.keeps fun a ob q => (e0.bs a ob q).1
  have nlim : s.heap.NoLimit := e0.mod.nolimit.keeps fun a ob q => (e0.bs a ob q).1
  -- the parameters are names of the def's own
  have names : ∀ y ∈ ps.zip us, scope.names.lookup y.1 = some .local ∨ (scope.names.lookup y.1 = some .cell ∧ ((cellsFrom (s.heap.objs.size + 1) scope.names []).lookup y.1).isSome = true) := fun y hy =>
    (S.par y.1 (List.of_mem_zip hy).1).imp id fun q => ⟨q, PySem.W.cellsFrom_some _ _ _ (.inl q)⟩
  refine codeAny_call_function hr.rm.depth (kin _ _ lk) rfl S.co S.gen rfl (PySem.W.codeRec_of kin hcd) (bt _ _ _ _ (wpAny_newFunctionEnv_cells S.kind names fun env he s1 x => ?_))
  subst he
  refine ⟨nlim.keeps x.toInCall.keep, codeAny_func ?_⟩
  have I := inv_start (CX := CX0) (E := E) S hr.rm.hd e0 (h2.len.trans h1) rv x
  have body_ := PSs.nox (hb A outer s H E H (pinL 0 vs svs) E (hr.deeper _))
  refine wpAny_mono (body_.run [] s1 _ H _ I (den_read rfl (by omega) h2 h3 h4)) (fun fl s' q => ?_) fun _ _ q => q
  cases fl with
  | next => obtain ⟨σ2, H2, J, z⟩ := q; exact ⟨.non, H2, J.os, J.bare, J.base, J.hok, rfl, z⟩
  | ret u => obtain ⟨v, σ2, H2, J, rr, z⟩ := q; exact ⟨v, H2, J.os, J.bare, J.base, J.hok, rr, z⟩
  | brk => obtain ⟨_, _, _, z⟩ := q; exact z.elim
  | cont => obtain ⟨_, _, _, z⟩ := q; exact z.elim
/-! ### arguments: data, or a slot that is handed on -/
inductive AD where
  | d (x : D)
  | s (i : Nat)
def ADR (K : Fg) (H : Hp) (σ : Sl) (x : V) : AD → Prop
  | .d d => Pd K H x d
  | .s i => σ[i]? = some (some x)
def AS (K : Fg) (_ : Fx) (_ : FS) (σ : Sl) (H : Hp) (xs : List V) (as : List AD) : Prop := Paired (ADR K H σ) xs as
abbrev EAS (X : Cx) (F : Fx) (es : List Expr) (f : FS → Res (List AD)) : Prop := PA X es (rdG X.K F AS f)
abbrev EKS (X : Cx) (F : Fx) (es : List Keyword) (f : FS → Res (List AD)) : Prop := PK X es (rdG X.K F AS f)
theorem _root_.L2.PK.via {X : Cx} {e : List Keyword} {t t' : TA} (h : PK X e t) (hw : ∀ σ H Q, t' σ H Q → t σ H Q) : PK X e t' := ⟨fun p pins s σ H Q I q => h.run p pins s σ H Q I (hw σ H Q q)⟩
def fAD (f : FS → Res D) (g : FS → Res (List AD)) : FS → Res (List AD) := bnd f fun d => bnd g fun ds => fC (.d d :: ds)
def fAS (i : Nat) (g : FS → Res (List AD)) : FS → Res (List AD) := fun S => match S[i]? with
  | some (some _) => bnd g (fun ds => fC (.s i :: ds)) S
  | _ => .bad
section
variable {X : Cx} {F : Fx} {e : Expr} {es : List Expr} {f : FS → Res D} {g : FS → Res (List AD)} {pos kpos p : Pos} {kws : List Keyword} {nm : Option Str}
theorem as_nil : EAS X F [] (fC []) := pa_nil.via fun _ _ _ ⟨_, r, p⟩ => p.ok r .nil
theorem adr_mono {K : Fg} {H H' : Hp} {σ : Sl} {x : V} {a : AD} (p : Pers H H') (h : ADR K H σ x a) : ADR K H' σ x a := by
  cases a with
  | d d => exact Pd.mono p h
  | s i => exact h
theorem tConsD_of {t : TA} {σ : Sl} {H : Hp} {Q : List V → Hp → Prop} (ht : ∀ Q, rdG X.K F AS g σ H Q → t σ H Q) (h : rdG X.K F AS (fAD f g) σ H Q) : ∀ (hb : ∀ σ H Q, rdG X.K F AS g σ H Q → t σ H Q), tCons (rdG X.K F PR f) t σ H Q := fun hb =>
  (rdG.bind h).imp fun x H1 ⟨d, S1, r1, v1, p1, q1⟩ => hb _ _ _ ((rdG.bind (k := fun ds => fC (.d d :: ds)) (R' := AS) ⟨S1, r1, q1⟩).imp fun xs H2 ⟨ds, S2, r2, v2, p2, q2⟩ => q2.ok r2 (.cons (show ADR _ _ _ _ (.d d) from Pd.mono p2 v1) v2))
theorem tConsS_of {i : Nat} {t : TA} {σ : Sl} {H : Hp} {Q : List V → Hp → Prop} (h : rdG X.K F AS (fAS i g) σ H Q) (hb : ∀ σ H Q, rdG X.K F AS g σ H Q → t σ H Q) : tCons (tVar i) t σ H Q := by
  obtain ⟨S, r, p⟩ := h
  unfold fAS at p
  split at p
  · rename_i sv hs
    obtain ⟨x, ex, _⟩ := r.slot i _ hs
    exact ⟨x, ex, hb _ _ _ ((rdG.bind (k := fun ds => fC (.s i :: ds)) (R' := AS) ⟨S, r, p⟩).imp fun xs H2 ⟨ds, S2, r2, v2, p2, q2⟩ => q2.ok r2 (.cons (show ADR _ _ _ _ (.s i) from ex) v2))⟩
  · exact p.elim
theorem as_d (ha : ED X F e f) (hr : EAS X F es g) (hs : starEach (e :: es) X.env = (false, eval e X.env) :: starEach es X.env := by rfl) : EAS X F (e :: es) (fAD f g) :=
  (pa_cons ha hr hs).via fun σ H Q h => tConsD_of (fun _ h => h) h fun _ _ _ h => h
theorem as_s {i : Nat} (ha : PE X e (tVar i)) (hr : EAS X F es g) (hs : starEach (e :: es) X.env = (false, eval e X.env) :: starEach es X.env := by rfl) : EAS X F (e :: es) (fAS i g) :=
  (pa_cons ha hr hs).via fun σ H Q h => tConsS_of h fun _ _ _ h => h
theorem ks_nil : EKS X F [] (fC []) := pk_nil.via fun _ _ _ ⟨_, r, p⟩ => p.ok r .nil
theorem ks_d (ha : ED X F e f) (hr : EKS X F kws g) : EKS X F (⟨nm, e, kpos⟩ :: kws) (fAD f g) := (pk_cons ha hr).via fun σ H Q h => tConsD_of (fun _ h => h) h fun _ _ _ h => h
theorem ks_s {i : Nat} (ha : PE X e (tVar i)) (hr : EKS X F kws g) : EKS X F (⟨nm, e, kpos⟩ :: kws) (fAS i g) := (pk_cons ha hr).via fun σ H Q h => tConsS_of h fun _ _ _ h => h
/-- the arguments as a callee takes them -/
def resolve (S : FS) : List AD → Option (List SV)
  | [] => some []
  | .d d :: r => (resolve S r).map (.d d :: ·)
  | .s i :: r => match S[i]? with
    | some (some (.own ob)) => (resolve S r).map (.pin ob :: ·)
    | some (some (.pin ob)) => (resolve S r).map (.pin ob :: ·)
    | _ => none
/-- the slots behind the call -/
def setOb (S : FS) (i : Nat) (ob : Ob) : FS := match S[i]? with
  | some (some (.pin _)) => S.set i (some (.pin ob))
  | _ => S.set i (some (.own ob))
def back : List AD → List SV → FS → Option FS
  | [], _, S => some S
  | .d _ :: r, _ :: svs, S => back r svs S
  | .s i :: r, .pin ob :: svs, S => back r svs (setOb S i ob)
  | _, _, _ => none
def slotsOf : List AD → List Nat
  | [] => []
  | .d _ :: r => slotsOf r
  | .s i :: r => i :: slotsOf r
/-- what a call does -/
def callD (den : Den) (as : List AD) : FS → Res SV := fun S => if (slotsOf as).Nodup then (match resolve S as with
  | some svs => (match den svs with
    | .ok ret svs' => (match back as svs' S with
      | some S' => .ok ret S'
      | none => .bad)
    | .exn e svs' => (match back as svs' S with
      | some S' => .exn e S'
      | none => .bad)
    | .bad => .bad)
  | none => .bad) else .bad
theorem setOb_length (S : FS) (i : Nat) (ob : Ob) : (setOb S i ob).length = S.length := by
  unfold setOb; split <;> exact List.length_set ..
theorem setOb_ne {S : FS} {i j : Nat} {ob : Ob} (h : j ≠ i) : (setOb S i ob)[j]? = S[j]? := by
  unfold setOb; split <;> exact List.getElem?_set_ne (Ne.symm h)
theorem setOb_get {S : FS} {i : Nat} {ob : Ob} (h : i < S.length) : (setOb S i ob)[i]? = some (some (match S[i]? with | some (some (.pin _)) => .pin ob | _ => .own ob)) := by
  unfold setOb
  split <;> rw [List.getElem?_set_self h]
theorem setOb_congr {S1 S2 : FS} {i : Nat} {ob : Ob} (hl : S1.length = S2.length) (h : S1[i]? = S2[i]?) : (setOb S1 i ob)[i]? = (setOb S2 i ob)[i]? := by
  by_cases hi : i < S1.length
  · rw [setOb_get hi, setOb_get (hl ▸ hi), h]
  · rw [List.getElem?_eq_none (by rw [setOb_length]; omega), List.getElem?_eq_none (by rw [setOb_length]; omega)]
theorem back_length : ∀ {as : List AD} {svs : List SV} {S S' : FS}, back as svs S = some S' → S'.length = S.length
  | [], _, S, S', h => by simp [back] at h; rw [h]
  | .d _ :: r, [], S, S', h => by simp [back] at h
  | .d _ :: r, _ :: svs, S, S', h => back_length (as := r) (by simpa [back] using h)
  | .s i :: r, [], S, S', h => by simp [back] at h
  | .s i :: r, .d _ :: svs, S, S', h => by simp [back] at h
  | .s i :: r, .own _ :: svs, S, S', h => by simp [back] at h
  | .s i :: r, .pin ob :: svs, S, S', h => (back_length (as := r) (by simpa [back] using h)).trans (setOb_length ..)
theorem back_out {j : Nat} : ∀ {as : List AD} {svs : List SV} {S S' : FS}, back as svs S = some S' → j ∉ slotsOf as → S'[j]? = S[j]?
  | [], _, S, S', h, _ => by simp [back] at h; rw [h]
  | .d _ :: r, [], S, S', h, _ => by simp [back] at h
  | .d _ :: r, _ :: svs, S, S', h, hj => back_out (as := r) (by simpa [back] using h) hj
  | .s i :: r, [], S, S', h, _ => by simp [back] at h
  | .s i :: r, .d _ :: svs, S, S', h, _ => by simp [back] at h
  | .s i :: r, .own _ :: svs, S, S', h, _ => by simp [back] at h
  | .s i :: r, .pin ob :: svs, S, S', h, hj => by
    have h1 : j ≠ i := fun e => hj (by simp [slotsOf, e])
    have h2 : j ∉ slotsOf r := fun e => hj (by simp [slotsOf, e])
    exact (back_out (as := r) (by simpa [back] using h) h2).trans (setOb_ne h1)
theorem slots_mem {j : Nat} : ∀ {as : List AD}, j ∈ slotsOf as ↔ ∃ i : Nat, as[i]? = some (.s j)
  | [] => by simp [slotsOf]
  | .d x :: r => by
    rw [show slotsOf (.d x :: r) = slotsOf r from rfl, slots_mem (as := r)]
    constructor
    · rintro ⟨i, h⟩; exact ⟨i + 1, by simpa using h⟩
    · rintro ⟨i, h⟩
      cases i with
      | zero => simp at h
      | succ i => exact ⟨i, by simpa using h⟩
  | .s k :: r => by
    rw [show slotsOf (.s k :: r) = k :: slotsOf r from rfl, List.mem_cons, slots_mem (as := r)]
    constructor
    · rintro (rfl | ⟨i, h⟩)
      · exact ⟨0, rfl⟩
      · exact ⟨i + 1, by simpa using h⟩
    · rintro ⟨i, h⟩
      cases i with
      | zero => simp at h; exact .inl h.symm
      | succ i => exact .inr ⟨i, by simpa using h⟩
theorem slots_inj {j : Nat} : ∀ {as : List AD} {i i' : Nat}, (slotsOf as).Nodup → as[i]? = some (.s j) → as[i']? = some (.s j) → i = i'
  | [], i, i', _, h, _ => by simp at h
  | .d _ :: r, i, i', hn, h, h' => by
    cases i with
    | zero => simp at h
    | succ i =>
      cases i' with
      | zero => simp at h'
      | succ i' => exact congrArg Nat.succ (slots_inj (as := r) (i := i) (i' := i') (j := j) hn (by simpa using h) (by simpa using h'))
  | .s k :: r, i, i', hn, h, h' => by
    obtain ⟨n1, n2⟩ := List.nodup_cons.mp hn
    cases i with
    | zero =>
      cases i' with
      | zero => rfl
      | succ i' =>
        simp at h
        subst h
        exact absurd (slots_mem.mpr ⟨i', by simpa using h'⟩) n1
    | succ i =>
      cases i' with
      | zero =>
        simp at h'
        subst h'
        exact absurd (slots_mem.mpr ⟨i, by simpa using h⟩) n1
      | succ i' => exact congrArg Nat.succ (slots_inj (as := r) (i := i) (i' := i') (j := j) n2 (by simpa using h) (by simpa using h'))
theorem back_in {j : Nat} : ∀ {as : List AD} {svs : List SV} {S S' : FS} {i : Nat}, back as svs S = some S' → (slotsOf as).Nodup → as[i]? = some (.s j) →
    ∃ ob, svs[i]? = some (.pin ob) ∧ S'[j]? = (setOb S j ob)[j]?
  | [], _, S, S', i, h, _, e => by simp at e
  | .d _ :: r, [], S, S', i, h, _, _ => by simp [back] at h
  | .d _ :: r, _ :: svs, S, S', i, h, hn, e => by
    cases i with
    | zero => simp at e
    | succ i =>
      obtain ⟨ob, h1, h2⟩ := back_in (as := r) (i := i) (by simpa [back] using h) hn (by simpa using e)
      exact ⟨ob, by simpa using h1, h2⟩
  | .s k :: r, [], S, S', i, h, _, _ => by simp [back] at h
  | .s k :: r, .d _ :: svs, S, S', i, h, _, _ => by simp [back] at h
  | .s k :: r, .own _ :: svs, S, S', i, h, _, _ => by simp [back] at h
  | .s k :: r, .pin ob :: svs, S, S', i, h, hn, e => by
    obtain ⟨n1, n2⟩ := List.nodup_cons.mp hn
    have hb : back r svs (setOb S k ob) = some S' := by simpa [back] using h
    cases i with
    | zero =>
      simp at e
      subst e
      exact ⟨ob, by simp, back_out hb n1⟩
    | succ i =>
      have e' : r[i]? = some (.s j) := by simpa using e
      obtain ⟨ob2, h1, h2⟩ := back_in (as := r) (i := i) hb n2 e'
      have ne : j ≠ k := fun z => n1 (slots_mem.mpr ⟨i, by rw [← z]; exact e'⟩)
      exact ⟨ob2, by simpa using h1, h2.trans (setOb_congr (setOb_length ..) (setOb_ne ne))⟩
theorem res_get {S : FS} : ∀ {as : List AD} {svs : List SV}, resolve S as = some svs → svs.length = as.length ∧ ∀ (i : Nat) (sv : SV), svs[i]? = some sv → (∃ d, as[i]? = some (.d d) ∧ sv = .d d) ∨ ∃ j ob, as[i]? = some (.s j) ∧ sv = .pin ob ∧ (S[j]? = some (some (.own ob)) ∨ S[j]? = some (some (.pin ob)))
  | [], svs, h => by simp [resolve] at h; subst h; simp
  | .d x :: r, svs, h => by
    simp only [resolve, Option.map_eq_some_iff] at h
    obtain ⟨t, h1, rfl⟩ := h
    obtain ⟨l, g⟩ := res_get (as := r) h1
    refine ⟨by simp [l], fun i sv e => ?_⟩
    cases i with
    | zero => simp at e; subst e; exact .inl ⟨x, by simp, rfl⟩
    | succ i => simpa using g i sv (by simpa using e)
  | .s k :: r, svs, h => by
    simp only [resolve] at h
    have main : ∀ ob, (S[k]? = some (some (.own ob)) ∨ S[k]? = some (some (.pin ob))) → (resolve S r).map (SV.pin ob :: ·) = some svs → svs.length = (AD.s k :: r).length ∧ ∀ (i : Nat) (sv : SV), svs[i]? = some sv → (∃ d, (AD.s k :: r)[i]? = some (.d d) ∧ sv = .d d) ∨ ∃ j ob, (AD.s k :: r)[i]? = some (.s j) ∧ sv = .pin ob ∧ (S[j]? = some (some (.own ob)) ∨ S[j]? = some (some (.pin ob))) := by
      intro ob ho h
      simp only [Option.map_eq_some_iff] at h
      obtain ⟨t, h1, rfl⟩ := h
      obtain ⟨l, g⟩ := res_get (as := r) h1
      refine ⟨by simp [l], fun i sv e => ?_⟩
      cases i with
      | zero => simp at e; subst e; exact .inr ⟨k, ob, by simp, rfl, ho⟩
      | succ i => simpa using g i sv (by simpa using e)
    split at h
    · rename_i ob q; exact main ob (.inl q) h
    · rename_i ob q; exact main ob (.inr q) h
    · cases h
theorem paired_get {α β : Type} {R : α → β → Prop} : ∀ {xs : List α} {ys : List β} {i : Nat} {y : β}, Paired R xs ys → ys[i]? = some y → ∃ x, xs[i]? = some x ∧ R x y
  | _, _, _, _, .nil, e => by simp at e
  | _, _, 0, _, .cons h _, e => by simp at e; subst e; exact ⟨_, rfl, h⟩
  | _, _, i + 1, y, .cons _ r, e => by
    obtain ⟨x, h1, h2⟩ := paired_get (i := i) r (by simpa using e)
    exact ⟨x, by simpa using h1, h2⟩
theorem paired_len {α β : Type} {R : α → β → Prop} : ∀ {xs : List α} {ys : List β}, Paired R xs ys → xs.length = ys.length
  | _, _, .nil => rfl
  | _, _, .cons _ r => by rw [List.length_cons, List.length_cons, paired_len r]
section
variable {K : Fg} {F : Fx} {S S' : FS} {σ : Sl} {H H' : Hp} {vs : List V} {as : List AD} {svs svs' : List SV}
theorem args_of (r : Rel K F S σ H) (v : Paired (ADR K H σ) vs as) (hn : (slotsOf as).Nodup) (e : resolve S as = some svs) : ArgsR K F.w H vs svs ∧
    ∀ i, PinIx svs i → ∃ j a, as[i]? = some (.s j) ∧ vs[i]? = some (.ref a) ∧ σ[j]? = some (some (.ref a)) ∧ Owned S j := by
  obtain ⟨l, g⟩ := res_get e
  have pin : ∀ i, PinIx svs i → ∃ j a, as[i]? = some (.s j) ∧ vs[i]? = some (.ref a) ∧ σ[j]? = some (some (.ref a)) ∧ Owned S j := fun i ⟨ob, h⟩ => by
    rcases g i _ h with ⟨d, _, z⟩ | ⟨j, ob2, h1, h2, h3⟩
    · cases z
    · cases h2
      obtain ⟨x, ex, hx⟩ := paired_get v h1
      obtain ⟨a, ea, _, _⟩ := r.obj h3
      have hx' : σ[j]? = some (some x) := hx
      rw [ea] at hx'; cases hx'
      exact ⟨j, a, h1, ex, ea, ob, h3⟩
  refine ⟨⟨(paired_len v).trans l.symm, fun i sv h => ?_, fun i j a ne hi hj e1 e2 => ?_⟩, pin⟩
  · rcases g i _ h with ⟨d, h1, rfl⟩ | ⟨j, ob, h1, rfl, h3⟩
    · obtain ⟨x, ex, hx⟩ := paired_get v h1
      exact ⟨x, ex, hx⟩
    · obtain ⟨x, ex, hx⟩ := paired_get v h1
      obtain ⟨a, ea, q, _⟩ := r.obj h3
      have hx' : σ[j]? = some (some x) := hx
      rw [ea] at hx'; cases hx'
      exact ⟨_, ex, a, rfl, q⟩
  · obtain ⟨j1, a1, h1, h2, h3, h4⟩ := pin i hi
    obtain ⟨j2, a2, k1, k2, k3, k4⟩ := pin j hj
    rw [e1] at h2; cases h2
    rw [e2] at k2; cases k2
    have nj : j1 ≠ j2 := fun z => ne (slots_inj hn h1 (z ▸ k1))
    exact r.apart j1 j2 a nj h4 k4 h3 k3
theorem rel_back (r : Rel K F S σ H) (v : Paired (ADR K H σ) vs as) (hn : (slotsOf as).Nodup) (e : resolve S as = some svs) (hl : Left K F.w F.tabs vs svs svs' H H') (hb : back as svs' S = some S') : Rel K F S' σ H' := by
  obtain ⟨ar, pin⟩ := args_of r v hn e
  obtain ⟨l, g⟩ := res_get e
  -- a pinned address stands in a handed slot
  have pinad : ∀ a, PinAd vs svs a → ∃ j, j ∈ slotsOf as ∧ σ[j]? = some (some (.ref a)) ∧ Owned S j := fun a ⟨i, hi, h⟩ => by
    obtain ⟨j, a1, h1, h2, h3, h4⟩ := pin i hi
    rw [h] at h2; cases h2
    exact ⟨j, slots_mem.mpr ⟨i, h1⟩, h3, h4⟩
  have own : ∀ j, Owned S' j → Owned S j := fun j ⟨ob, h⟩ => by
    by_cases hj : j ∈ slotsOf as
    · obtain ⟨i, hi⟩ := slots_mem.mp hj
      obtain ⟨x, ex, hx⟩ := paired_get v hi
      have hi2 : i < svs.length := by rw [l]; exact (List.getElem?_eq_some_iff.mp hi).1
      rcases g i _ (List.getElem?_eq_getElem hi2) with ⟨d, z, _⟩ | ⟨j2, ob2, z, _, h3⟩
      · rw [hi] at z; cases z
      · rw [hi] at z; cases z; exact ⟨ob2, h3⟩
    · rw [back_out hb hj] at h; exact ⟨ob, h⟩
  have kept : ∀ j b, j ∉ slotsOf as → Owned S j → σ[j]? = some (some (.ref b)) → H' b = H b := fun j b hj oj eb => by
    obtain ⟨ob, h⟩ := oj
    obtain ⟨b2, eb2, q, _⟩ := r.obj h
    rw [eb] at eb2; cases eb2
    obtain ⟨u, eu, _, nt⟩ := q.there
    rw [eu]
    refine hl.keep b u eu (fun hp => ?_) nt
    obtain ⟨j2, m2, e2, o2⟩ := pinad b hp
    exact r.apart j j2 b (fun z => hj (z ▸ m2)) ⟨ob, h⟩ o2 eb e2
  refine ⟨(back_length hb).trans r.len, fun j sv h => ?_, fun i j a ne hi hj => r.apart i j a ne (own i hi) (own j hj), fun a o ho hp ht => ?_, fun a o ho => ?_, hl.tabs, fun p hp => ?_⟩
  · by_cases hj : j ∈ slotsOf as
    · obtain ⟨i, hi⟩ := slots_mem.mp hj
      have hi2 : i < svs.length := by rw [l]; exact (List.getElem?_eq_some_iff.mp hi).1
      rcases g i _ (List.getElem?_eq_getElem hi2) with ⟨d, z, _⟩ | ⟨j2, ob2, z, ep, h3⟩
      · rw [hi] at z; cases z
      · rw [hi] at z; cases z
        obtain ⟨j3, a, q1, q2, q3, q4⟩ := pin i ⟨ob2, by rw [List.getElem?_eq_getElem hi2, ep]⟩
        rw [hi] at q1; cases q1
        obtain ⟨ob, h4, h5⟩ := back_in hb hn hi
        have ok := hl.args i ob a h4 q2
        have hjl : j < S.length := by rcases h3 with z | z <;> exact (List.getElem?_eq_some_iff.mp z).1
        rw [h5] at h
        refine ⟨_, q3, ?_⟩
        unfold setOb at h
        rcases h3 with h3 | h3
        · rw [h3] at h
          simp only at h
          rw [List.getElem?_set_self hjl] at h
          cases h
          obtain ⟨x, ex, b, eb, _, n⟩ := r.slot j _ h3
          rw [q3] at ex; cases ex; cases eb
          exact ⟨a, rfl, ok, n⟩
        · rw [h3] at h
          simp only at h
          rw [List.getElem?_set_self hjl] at h
          cases h
          obtain ⟨x, ex, b, eb, _, n⟩ := r.slot j _ h3
          rw [q3] at ex; cases ex; cases eb
          exact ⟨a, rfl, ok, n⟩
    · rw [back_out hb hj] at h
      obtain ⟨x, ex, w⟩ := r.slot j sv h
      refine ⟨x, ex, ?_⟩
      cases sv with
      | d d => exact Pd.mono hl.pers w
      | own ob =>
        obtain ⟨b, rfl, q, n⟩ := w
        exact ⟨b, rfl, q.later hl.pers (kept j b hj ⟨ob, .inl h⟩ ex), n⟩
      | pin ob =>
        obtain ⟨b, rfl, q, n⟩ := w
        exact ⟨b, rfl, q.later hl.pers (kept j b hj ⟨ob, .inr h⟩ ex), n⟩
  · have h1 := r.keep a o ho hp ht
    refine hl.keep a o h1 (fun hpa => ?_) ht
    obtain ⟨j, _, e2, ob, h2⟩ := pinad a hpa
    obtain ⟨b, eb, _, q⟩ := r.obj h2
    rw [e2] at eb; cases eb
    rcases q with q | q
    · rw [ho] at q; cases q
    · exact hp q
  · obtain ⟨u, hu⟩ := r.there a o ho
    exact hl.there a u hu
  · obtain ⟨h1, h2, h3⟩ := r.held p hp
    refine ⟨hl.keep _ _ h1 (fun hpa => ?_) rfl, h2, fun i hi => h3 i (own i hi)⟩
    obtain ⟨j, _, e2, oj⟩ := pinad _ hpa
    exact h3 j oj e2
theorem vr_back (r : Rel K F S σ H) (r2 : Rel K F S' σ H') (how : ∀ j, Owned S' j → Owned S j) {x : V} {ret : SV} (h : RetR K F.w H H' x ret) : VR K F S' σ H' x ret := by
  cases ret with
  | d d => exact h
  | own ob =>
    obtain ⟨a, rfl, q, n⟩ := h
    exact ⟨a, rfl, q, r.none0 n, fun i hi => r.unslot n (how i hi), fun p hp e => by obtain ⟨z, _⟩ := r.held p hp; rw [e, n] at z; cases z⟩
  | pin ob => exact h.elim
theorem own_back (hn : (slotsOf as).Nodup) (e : resolve S as = some svs) (hb : back as svs' S = some S') : ∀ j, Owned S' j → Owned S j := fun j ⟨ob, h⟩ => by
  obtain ⟨l, g⟩ := res_get e
  by_cases hj : j ∈ slotsOf as
  · obtain ⟨i, hi⟩ := slots_mem.mp hj
    have hi2 : i < svs.length := by rw [l]; exact (List.getElem?_eq_some_iff.mp hi).1
    rcases g i _ (List.getElem?_eq_getElem hi2) with ⟨d, z, _⟩ | ⟨j2, ob2, z, _, h3⟩
    · rw [hi] at z; cases z
    · rw [hi] at z; cases z; exact ⟨ob2, h3⟩
  · rw [back_out hb hj] at h; exact ⟨ob, h⟩
/-- a call's reading: the callee's promise -/
theorem call_in {den : Den} {n : Nat} {Q : VK} (r : Rel K F S σ H) (v : Paired (ADR K H σ) vs as) (hl : as.length = n) (p : postG K F VR (callD den as S) σ H Q) : spF K F.w F.tabs n den vs H Q F.E := by
  unfold callD at p
  by_cases hn : (slotsOf as).Nodup
  · rw [if_pos hn] at p
    cases e : resolve S as with
    | none => rw [e] at p; exact p.elim
    | some svs =>
      rw [e] at p
      simp only at p
      obtain ⟨ar, _⟩ := args_of r v hn e
      refine ⟨svs, (res_get e).1.trans hl, ar, r.tabs, ?_⟩
      cases e2 : den svs with
      | bad => rw [e2] at p; exact p
      | ok ret svs' =>
        rw [e2] at p
        simp only at p
        intro x H' lf rr
        cases e3 : back as svs' S with
        | none => rw [e3] at p; exact p.elim
        | some S' =>
          rw [e3] at p
          have r2 := rel_back r v hn e lf e3
          exact p x H' lf.pers r2 (vr_back r r2 (own_back hn e e3) rr)
      | exn ex svs' =>
        rw [e2] at p
        simp only at p
        intro c dx H' lf rr
        cases e3 : back as svs' S with
        | none => rw [e3] at p; exact p.elim
        | some S' =>
          rw [e3] at p
          exact p c dx H' lf.pers (rel_back r v hn e lf e3) rr
  · rw [if_neg hn] at p; exact p.elim
end
def fCallP (den : Den) (n : Nat) (f : FS → Res (List AD)) : FS → Res SV := bnd f fun as => if as.length = n then callD den as else fun _ => .bad
/-- how a def of the text is called: all that a call asks -/
structure Fn (P : Program) (w : World) (K : Fg) (mg : Str → Option Value) (base : Heap) (T : List Addr) (k : Nat) (x : Str) (ps : List Str) (n : Nat) (den : Den) : Prop where
  ex : ∃ f fd, GOk P w K mg base k f fd ps (spF K w T n den) ∧ mg x = some (.ref f) ∧ PySem.W.keepIn K (.ref f) = true ∧ Binds K fd ps []
theorem run_g {k : Nat} {f : Addr} {fd : FuncData} {ps : List Str} {sp : Sp} {pins : List (Addr × Obj)} {σ : L2.St} {H : Hp} {s : Shared} {Q : VK} {E : XK} {args : Args} {us : List Value} {vs : List V} (G : GOk X.prog X.w X.K X.mg X.base k f fd ps sp) (hr : RoomG k X.A)
    (I : Inv X pins σ H s) (hb : BindsTo s fd args (ps.zip us)) (r : Vals vs us) (h : sp vs H Q E) : codeAny (model X.prog X.w) X.A (.call (.ref f) args) (fun r s' => match r with
      | .ok (.ret u) => EP X pins σ Q u s'
      | .ok _ => False
      | .error e => X.xe e s') s :=
  codeAny_mono (G.go X.A X.stack s H args us vs Q E hr I.env0 hb r h) fun r s' q => match r, q with
    | .ok (.ret _), q => I.after q
theorem e_call {den : Den} {k j n : Nat} {x : Str} {ps : List Str} {g : FS → Res (List AD)} (G : Fn X.prog X.w X.K X.mg X.base F.tabs k x ps n den) (hr : RoomG j X.A) (hk : k ≤ j) (hg : Gl X x) (ha : EAS X F (e :: es) g)
    (hw : F.w = X.w := by rfl) (hdb : (x == ("__debug__" : Str)) = false := by decide) (he : starEach (e :: es) X.env = (false, eval e X.env) :: starEach es X.env := by rfl) (hpl : (backTo pos (starEach es X.env)).any (·.1) = false := by rfl) :
    EV X F (.Call (.Name x p) (e :: es) [] pos) (fCallP den n g) := by
  obtain ⟨f, fd, F1, hm, kp, b⟩ := G.ex
  refine ⟨fun pins s σ H Q I h => wpAny_Call_Name_kw (ld_glob I hg hm ?_ hdb)⟩
  refine PySem.W.callWith_K (h₀ := X.base) I.ok.mod.kin kp (thn (ha.run pos pins s σ H _ I (rdG.bind h)) fun us s1 ⟨vs, H1, I1, rv, as, S1, r, v, p, q⟩ => ⟨I1.kIn, ?_⟩) he hpl
  split at q
  · rename_i hl
    have sp := call_in r v hl q
    rw [hw] at sp
    have hn : us.length = ps.length := rv.length.symm.trans (F1.many _ _ _ _ sp)
    have bd := b s1 us I1.kIn (by rw [List.append_nil]; exact hn)
    rw [List.append_nil] at bd
    exact wpAny_call (run_g F1 (hr.mono hk) I1 bd rv sp)
  · exact q.elim
theorem e_call0 {den : Den} {k j : Nat} {x : Str} {ps : List Str} (G : Fn X.prog X.w X.K X.mg X.base F.tabs k x ps 0 den) (hr : RoomG j X.A) (hk : k ≤ j) (hg : Gl X x) (hw : F.w = X.w := by rfl) (hdb : (x == ("__debug__" : Str)) = false := by decide) :
    EV X F (.Call (.Name x p) [] [] pos) (callD den []) := by
  obtain ⟨f, fd, F1, hm, kp, b⟩ := G.ex
  refine ⟨fun pins s σ H Q I ⟨S, r, q⟩ => wpAny_Call_Name_kw (ld_glob I hg hm ?_ hdb)⟩
  have sp := call_in r .nil rfl q
  rw [hw] at sp
  have bd := b s [] I.kIn (F1.many _ _ _ _ sp)
  exact PySem.W.callWith_K0 I.kIn kp (wpAny_call (run_g F1 (hr.mono hk) I bd .nil sp))
end
end Fz
end

section
set_option Elab.async false
set_option linter.all false
set_option maxRecDepth 100000
set_option maxHeartbeats 4000000
/-! F8: several values at once, keywords, chains, is of bools. -/
namespace Fz
open PySem PySem.Spec PyProof.Rows L2
/-! ### x is True -/
theorem is_bool_gen {M : Model} {A : Around} {E : Value → Shared → Prop} {s : Shared} {Q : Value → Shared → Prop} {v : Value} {b : Bool} (hv : ∀ id, v ≠ .builtin id) (h : Q (.bool (v == .bool b)) s) : wpAny M A (compareOp .Is v (.bool b)) Q E s := by
  cases v <;> first | exact wpAny_pure h | exact absurd rfl (hv _)
theorem isnot_bool_gen {M : Model} {A : Around} {E : Value → Shared → Prop} {s : Shared} {Q : Value → Shared → Prop} {v : Value} {b : Bool} (hv : ∀ id, v ≠ .builtin id) (h : Q (.bool (!(v == .bool b))) s) : wpAny M A (compareOp .IsNot v (.bool b)) Q E s := by
  cases v <;> first | exact wpAny_pure h | exact absurd rfl (hv _)
theorem relV_nobuiltin {x : V} {v : Value} (r : RelV x v) : ∀ id, v ≠ .builtin id := fun id e => by
  subst e
  cases x with
  | int _ => obtain ⟨t, e⟩ := r; cases e
  | str _ => obtain ⟨t, e⟩ := r; cases e
  | byt _ => obtain ⟨t, e⟩ := r; cases e
  | flt _ => obtain ⟨t, e⟩ := r; cases e
  | _ => cases r
theorem relV_bool {x : V} {v : Value} {b : Bool} (r : RelV x v) : (v == Value.bool b) = decide (x = .bl b) := by
  cases x with
  | non => cases r; rfl
  | bl c =>
    cases r
    by_cases e : c = b
    · subst e; simp
    · rw [decide_eq_false (fun z => e (V.bl.inj z))]
      exact beq_eq_false_iff_ne.mpr fun z => e (Value.bool.inj z)
  | int _ => obtain ⟨t, rfl⟩ := r; rfl
  | str _ => obtain ⟨t, rfl⟩ := r; rfl
  | byt _ => obtain ⟨t, rfl⟩ := r; rfl
  | flt _ => obtain ⟨t, rfl⟩ := r; rfl
  | ref _ => cases r; rfl
  | ty _ => cases r; rfl
def dIsB (b : Bool) : D → Bool
  | .bool c => c == b
  | _ => false
theorem Qd.isBool {K : Fg} {H : Hp} {x : V} {d : D} {b : Bool} (h : Qd K H x d) : decide (x = .bl b) = dIsB b d := by
  rcases h with h | ⟨a, vs, ds, rfl, rfl, h, r⟩
  · cases h with
    | bl c => cases c <;> cases b <;> rfl
    | _ => rfl
  · rfl
def pIsB (d e : D) : FS → Res D := fun S => match e with
  | .bool b => .ok (.bool (dIsB b d)) S
  | .none => .ok (.bool (dNone d)) S
  | _ => .bad
def pIsNotB (d e : D) : FS → Res D := fun S => match e with
  | .bool b => .ok (.bool (!dIsB b d)) S
  | .none => .ok (.bool (!dNone d)) S
  | _ => .bad
section
variable {X : Cx} {F : Fx}
theorem op_isBF : OpF X F PR (compareOp .Is) pIsB := by
  intro pins s σ0 H x y v u Q I rx ry ⟨S, σ, d, e, r, hx, hy, p⟩
  cases e with
  | bool b =>
    cases hy.bl
    cases (show u = Value.bool b from ry)
    refine is_bool_gen (relV_nobuiltin rx) ?_
    rw [relV_bool rx, hx.isBool]
    exact ⟨.bl _, H, I, rfl, p.ok r (Pd.bl _)⟩
  | none => exact op_isN pins s σ0 H x y v u Q I rx ry ⟨hy.non, by rw [hx.isNone]; exact p.ok r (Pd.bl _)⟩
  | _ => exact p.elim
theorem op_isNotBF : OpF X F PR (compareOp .IsNot) pIsNotB := by
  intro pins s σ0 H x y v u Q I rx ry ⟨S, σ, d, e, r, hx, hy, p⟩
  cases e with
  | bool b =>
    cases hy.bl
    cases (show u = Value.bool b from ry)
    refine isnot_bool_gen (relV_nobuiltin rx) ?_
    rw [relV_bool rx, hx.isBool]
    exact ⟨.bl _, H, I, rfl, p.ok r (Pd.bl _)⟩
  | none => exact op_notN pins s σ0 H x y v u Q I rx ry ⟨hy.non, by rw [hx.isNone]; exact p.ok r (Pd.bl _)⟩
  | _ => exact p.elim
end
/-! ### several own values at once -/
inductive AVR (K : Fg) (F : Fx) (S : FS) (σ : Sl) (H : Hp) : List V → List SV → Prop
  | nil : AVR K F S σ H [] []
  | cons {x : V} {sv : SV} {xs : List V} {svs : List SV} (h : VR K F S σ H x sv) (n : ∀ (ob : Ob) (a : Addr), sv = .own ob → x = .ref a → ∀ (i : Nat) (ob' : Ob), svs[i]? = some (.own ob') → xs[i]? ≠ some (.ref a)) (r : AVR K F S σ H xs svs) : AVR K F S σ H (x :: xs) (sv :: svs)
abbrev EAV (X : Cx) (F : Fx) (es : List Expr) (f : FS → Res (List SV)) : Prop := PA X es (rdG X.K F AVR f)
def Fx.hold (F : Fx) (a : Addr) (vs : List V) : Fx := { F with held := (a, vs) :: F.held }
def fConsV (f : FS → Res SV) (g : FS → Res (List SV)) : FS → Res (List SV) := bnd f fun d => match d with
  | .d d => bnd g fun ds => fC (.d d :: ds)
  | .own (.lst es) => bnd g fun ds => fC (.own (.lst es) :: ds)
  | _ => fun _ => .bad
section
variable {X : Cx} {F : Fx} {e : Expr} {es : List Expr} {f : FS → Res SV} {g : FS → Res (List SV)} {pos : Pos}
theorem av_nil : EAV X F [] (fC []) := pa_nil.via fun _ _ _ ⟨_, r, p⟩ => p.ok r .nil
def jAV (K : Fg) (F : Fx) (g : FS → Res (List SV)) : TA := fun σ H Q => rdG K F AVR g σ H Q ∨ ∃ a vs, rdG K (F.hold a vs) AVR g σ H Q
theorem av_unhold {K : Fg} {F : Fx} {S : FS} {σ : Sl} {H : Hp} {a : Addr} {vs : List V} {xs : List V} {svs : List SV} (h : AVR K (F.hold a vs) S σ H xs svs) : AVR K F S σ H xs svs ∧ ∀ (i : Nat) (ob : Ob), svs[i]? = some (.own ob) → xs[i]? ≠ some (.ref a) := by
  induction h with
  | nil => exact ⟨.nil, fun i ob h => by simp at h⟩
  | @cons x sv xs svs h n r ih =>
    refine ⟨.cons ?_ n ih.1, fun i ob h1 h2 => ?_⟩
    · cases sv with
      | d d => exact h
      | own ob => obtain ⟨b, e, q, n0, nu, nh⟩ := h; exact ⟨b, e, q, n0, nu, fun p hp => nh p (List.mem_cons_of_mem _ hp)⟩
      | pin ob => exact h
    · cases i with
      | zero =>
        simp at h1 h2
        subst h1
        obtain ⟨b2, e, q, n0, nu, nh⟩ := h
        rw [h2] at e; cases e
        exact nh (a, vs) (List.mem_cons_self ..) rfl
      | succ i => exact ih.2 i ob (by simpa using h1) (by simpa using h2)
theorem avr_len {K : Fg} {F : Fx} {S : FS} {σ : Sl} {H : Hp} : ∀ {xs : List V} {svs : List SV}, AVR K F S σ H xs svs → xs.length = svs.length
  | _, _, .nil => rfl
  | _, _, .cons _ _ r => by rw [List.length_cons, List.length_cons, avr_len r]
theorem rel_hold {K : Fg} {F : Fx} {S : FS} {σ : Sl} {H : Hp} {a : Addr} {vs : List V} (r : Rel K F S σ H) (h : H a = some (.lst vs)) (h0 : F.H0 a = none) (hu : ∀ i, Owned S i → σ[i]? ≠ some (some (.ref a))) : Rel K (F.hold a vs) S σ H := by
  refine ⟨r.len, r.slot, r.apart, r.keep, r.there, r.tabs, fun p hp => ?_⟩
  rcases List.mem_cons.mp hp with e | hp
  · subst e; exact ⟨h, h0, hu⟩
  · exact r.held p hp
theorem rel_unhold {K : Fg} {F : Fx} {S : FS} {σ : Sl} {H : Hp} {a : Addr} {vs : List V} (r : Rel K (F.hold a vs) S σ H) : Rel K F S σ H :=
  ⟨r.len, r.slot, r.apart, r.keep, r.there, r.tabs, fun p hp => r.held p (List.mem_cons_of_mem _ hp)⟩
theorem av_cons (ha : EV X F e f) (hr : EAV X F es g) (hr2 : ∀ a vs, EAV X (F.hold a vs) es g) (hs : starEach (e :: es) X.env = (false, eval e X.env) :: starEach es X.env := by rfl) : EAV X F (e :: es) (fConsV f g) := by
  have hj : PA X es (jAV X.K F g) := ⟨fun p pins s σ H Q I h => by
    rcases h with h | ⟨a, vs, h⟩
    · exact hr.run p pins s σ H Q I h
    · exact (hr2 a vs).run p pins s σ H Q I h⟩
  refine (pa_cons ha hj hs).via fun σ H Q h => (rdG.bind h).imp fun x H1 ⟨d, S1, r1, v1, p1, q1⟩ => ?_
  cases d with
  | d d =>
    exact .inl ((rdG.bind (k := fun ds => fC (.d d :: ds)) (R' := AVR) ⟨S1, r1, q1⟩).imp fun xs H2 ⟨ds, S2, r2, v2, p2, q2⟩ => q2.ok r2 (.cons (show VR _ _ _ _ _ _ (.d d) from Pd.mono p2 v1) (fun _ _ e => nomatch e) v2))
  | own ob =>
    cases ob with
    | lst es' =>
      obtain ⟨a, rfl, ⟨vs, hH, hv⟩, n0, nu, nh⟩ := v1
      have rh := rel_hold r1 hH n0 nu
      refine .inr ⟨a, vs, ⟨S1, rh, ?_⟩⟩
      simp only [bnd] at q1
      cases e2 : g S1 with
      | bad => rw [e2] at q1; exact q1
      | exn e3 S2 => rw [e2] at q1; exact fun c dx H2 p2 r2 w => q1 c dx H2 p2 (rel_unhold r2) w
      | ok ds S2 =>
        rw [e2] at q1
        intro xs H2 p2 r2 v2
        have hh := r2.held (a, vs) (List.mem_cons_self ..)
        obtain ⟨v3, ne⟩ := av_unhold v2
        exact q1 _ H2 p2 (rel_unhold r2) (.cons (show VR _ _ _ _ _ _ (.own (.lst es')) from ⟨a, rfl, ⟨vs, hh.1, hv.mono p2⟩, n0, hh.2.2, nh⟩) (fun _ _ _ e i ob' h1 => by cases e; exact ne i ob' h1) v3)
    | dic _ => exact q1.elim
  | pin ob => exact v1.elim
/-- a, b, c = x, y, z: all stored -/
def setsV : List Nat → List SV → FS → Option FS
  | [], [], S => some S
  | i :: is, v :: vs, S => setsV is vs (S.set i (some v))
  | _, _, _ => none
def setsX : List Nat → List V → Sl → Sl
  | i :: is, x :: xs, σ => setsX is xs (σ.set i (some x))
  | _, _, σ => σ
def fPars (is : List Nat) (f : FS → Res (List SV)) : FS → SRes := bndS f fun vs S => match setsV is vs S with
  | some S' => .nx S'
  | none => .bad
theorem vr_set {K : Fg} {F : Fx} {S : FS} {σ : Sl} {H : Hp} {i : Nat} {x y : V} {v w : SV} (hy : VR K F S σ H y w) (hx : VR K F S σ H x v) (n : ∀ (ob : Ob) (a : Addr), v = .own ob → x = .ref a → ∀ ob', w = .own ob' → y ≠ .ref a) : VR K F (S.set i (some v)) (σ.set i (some x)) H y w := by
  cases w with
  | d d => exact hy
  | pin ob => exact hy
  | own ob =>
    obtain ⟨b, e, q, n0, nu, nh⟩ := hy
    refine ⟨b, e, q, n0, fun j hj hs => ?_, nh⟩
    obtain ⟨ob2, hj⟩ := hj
    by_cases hji : j = i
    · subst hji
      by_cases hl : j < S.length
      · rw [List.getElem?_set_self hl] at hj
        have hl2 : j < σ.length := by
          by_cases hl2 : j < σ.length
          · exact hl2
          · rw [List.getElem?_eq_none (by rw [List.length_set]; omega)] at hs; cases hs
        rw [List.getElem?_set_self hl2] at hs
        cases hs
        rcases hj with hj | hj
        · cases hj; exact n ob2 b rfl rfl ob rfl e
        · cases hj; exact hx.elim
      · rw [List.getElem?_eq_none (by rw [List.length_set]; omega)] at hj
        rcases hj with hj | hj <;> cases hj
    · rw [List.getElem?_set_ne (Ne.symm hji)] at hj hs
      exact nu j ⟨ob2, hj⟩ hs
theorem sets_rel {K : Fg} {F : Fx} {H : Hp} : ∀ {is : List Nat} {xs : List V} {svs : List SV} {S S' : FS} {σ : Sl}, Rel K F S σ H → AVR K F S σ H xs svs → setsV is svs S = some S' → xs.length = is.length ∧ Rel K F S' (setsX is xs σ) H
  | [], [], [], S, S', σ, r, v, e => by simp [setsV] at e; subst e; exact ⟨rfl, r⟩
  | [], _, _ :: _, S, S', σ, r, v, e => by simp [setsV] at e
  | i :: is, _, [], S, S', σ, r, v, e => by simp [setsV] at e
  | i :: is, x :: xs, sv :: svs, S, S', σ, r, v, e => by
    cases v with
    | cons h n rr =>
      have key : ∀ {ys : List V} {ws : List SV}, AVR K F S σ H ys ws → (∀ (ob : Ob) (a : Addr), sv = .own ob → x = .ref a → ∀ (i : Nat) (ob' : Ob), ws[i]? = some (.own ob') → ys[i]? ≠ some (.ref a)) → AVR K F (S.set i (some sv)) (σ.set i (some x)) H ys ws := by
        intro ys ws hv
        induction hv with
        | nil => exact fun _ => .nil
        | cons h2 n2 r2 ih =>
          intro hn
          exact .cons (vr_set h2 h fun ob a e1 e2 ob' e3 e4 => hn ob a e1 e2 0 ob' (by simp [e3]) (by simp [e4])) n2 (ih fun ob a e1 e2 j ob' h1 => by
            have := hn ob a e1 e2 (j + 1) ob' (by simpa using h1)
            simpa using this)
      obtain ⟨l, q⟩ := sets_rel (is := is) (xs := xs) (svs := svs) (r.setV h) (key rr n) (by simpa [setsV] using e)
      exact ⟨by simp [l], q⟩
theorem s_par2 {i j : Nat} {x y : Str} {a b : Expr} {f : FS → Res (List SV)} {px py pt : Pos} {kt k2 : Nat} {pt2 : Pos} (hc : X.calm = true) (hN : X.N.Nodup) (hi : X.N[i]? = some x) (hj : X.N[j]? = some y) (hij : i ≠ j)
    (hx : X.env.scope.names.lookup x = some .local) (hy : X.env.scope.names.lookup y = some .local) (ha : EAV X F [a, b] f)
    (hw : swappedStores [.Tuple [.Name x px, .Name y py] kt pt] (.Tuple [a, b] k2 pt2) X.env = pure (some [x, y]))
    (hs : swapsWithSole [.Tuple [.Name x px, .Name y py] kt pt] (.Tuple [a, b] k2 pt2) pos.line X.env = pure false := by rfl) :
    ES X F (.Assign [.Tuple [.Name x px, .Name y py] kt pt] (.Tuple [a, b] k2 pt2) pos) (fPars [i, j] f) :=
  (ps_par hc hN hi hj hij hx hy ha hw hs).via fun D σ H h => (rdG.bindS h).imp fun xs H1 ⟨ds, S1, r, v, p, q⟩ => by
    cases e : setsV [i, j] ds S1 with
    | none => rw [e] at q; exact q.elim
    | some S2 =>
      rw [e] at q
      obtain ⟨l, r2⟩ := sets_rel r v e
      match xs, l with
      | [u, w], _ => exact ⟨u, w, rfl, q _ _ (.refl H1) r2⟩
theorem s_par3 {i j l : Nat} {x y z : Str} {a b c : Expr} {f : FS → Res (List SV)} {px py pz pt : Pos} {kt k2 : Nat} {pt2 : Pos} (hc : X.calm = true) (hN : X.N.Nodup) (hi : X.N[i]? = some x) (hj : X.N[j]? = some y) (hl : X.N[l]? = some z) (hij : i ≠ j) (hil : i ≠ l) (hjl : j ≠ l)
    (hx : X.env.scope.names.lookup x = some .local) (hy : X.env.scope.names.lookup y = some .local) (hz : X.env.scope.names.lookup z = some .local) (ha : EAV X F [a, b, c] f)
    (hw : swappedStores [.Tuple [.Name x px, .Name y py, .Name z pz] kt pt] (.Tuple [a, b, c] k2 pt2) X.env = pure (some [x, y, z]))
    (hs : swapsWithSole [.Tuple [.Name x px, .Name y py, .Name z pz] kt pt] (.Tuple [a, b, c] k2 pt2) pos.line X.env = pure false := by rfl) :
    ES X F (.Assign [.Tuple [.Name x px, .Name y py, .Name z pz] kt pt] (.Tuple [a, b, c] k2 pt2) pos) (fPars [i, j, l] f) :=
  (ps_par3 hc hN hi hj hl hij hil hjl hx hy hz ha hw hs).via fun D σ H h => (rdG.bindS h).imp fun xs H1 ⟨ds, S1, r, v, p, q⟩ => by
    cases e : setsV [i, j, l] ds S1 with
    | none => rw [e] at q; exact q.elim
    | some S2 =>
      rw [e] at q
      obtain ⟨l, r2⟩ := sets_rel r v e
      match xs, l with
      | [u, w, t], _ => exact ⟨u, w, t, rfl, q _ _ (.refl H1) r2⟩
/-- by a tuple that is laid and taken apart -/
def gNs : List Nat → TGs
  | [] => gNil
  | i :: is => gCons (gName i) (gNs is)
theorem gNs_of : ∀ {is : List Nat} {xs : List V} {σ : Sl} {H : Hp} {Q : L2.St → Hp → Prop}, xs.length = is.length → Q (setsX is xs σ) H → gNs is xs σ H Q
  | [], [], σ, H, Q, _, q => ⟨rfl, q⟩
  | i :: is, x :: xs, σ, H, Q, l, q => ⟨x, xs, rfl, gNs_of (is := is) (by simpa using l) q⟩
theorem s_pars {tgs vals : List Expr} {is : List Nat} {f : FS → Res (List SV)} {pt : Pos} {kt k2 : Nat} {pt2 : Pos} (hc : X.calm = true) (hn : is.length ≤ sizeLine) (ha : EAV X F vals f) (hg : PGs X tgs (gNs is)) (hk : (assignEach tgs X.env).length = is.length := by rfl) (hst : (assignEach tgs X.env).findIdx? (·.1) = none := by rfl)
    (hs : swapsWithSole [.Tuple tgs kt pt] (.Tuple vals k2 pt2) pos.line X.env = pure false := by rfl) (hw : swappedStores [.Tuple tgs kt pt] (.Tuple vals k2 pt2) X.env = pure none := by rfl)
    (h1 : (assignEach [.Tuple tgs kt pt] X.env).map (·.2) = [assign (.Tuple tgs kt pt) X.env] := by rfl) : ES X F (.Assign [.Tuple tgs kt pt] (.Tuple vals k2 pt2) pos) (fPars is f) :=
  (ps_asg (pe_tup ha) (pg_tup hc hg hk hst) hs hw h1).via fun D σ H h => (rdG.bindS h).imp fun xs H1 ⟨ds, S1, r, v, p, q⟩ => by
    cases e : setsV is ds S1 with
    | none => rw [e] at q; exact q.elim
    | some S2 =>
      rw [e] at q
      obtain ⟨l, r2⟩ := sets_rel r v e
      refine ⟨by rw [l]; exact hn, fun a ha => ⟨a, xs, rfl, .inl (.inl upd_same), l, gNs_of l ?_⟩⟩
      exact q _ _ (Pers.new ha) (r2.new ha)
end
end Fz
end

section
set_option Elab.async false
set_option linter.all false
set_option maxRecDepth 100000
set_option maxHeartbeats 4000000
/-! F9: keywords, chains. -/
namespace Fz
open PySem PySem.Spec PyProof.Rows L2
/-- the places of the parameters among the positional arguments and the keywords' values, as written -/
def permL {α : Type} (p : List Nat) (l : List α) : List α := p.filterMap fun i => l[i]?
theorem vals_perm {vs : List V} {us : List Value} (r : Vals vs us) : ∀ p : List Nat, Vals (permL p vs) (permL p us)
  | [] => .nil
  | i :: p => by
    have ih := vals_perm r p
    unfold permL
    cases e : vs[i]? with
    | none =>
      have e2 : us[i]? = none := r.none_of e
      rw [List.filterMap_cons_none e, List.filterMap_cons_none e2]
      exact ih
    | some x =>
      obtain ⟨u, e2, h⟩ := r.get e
      rw [List.filterMap_cons_some e, List.filterMap_cons_some e2]
      exact .cons h ih
theorem paired_perm {α β : Type} {R : α → β → Prop} {xs : List α} {ys : List β} (r : Paired R xs ys) : ∀ p : List Nat, Paired R (permL p xs) (permL p ys)
  | [] => .nil
  | i :: p => by
    have ih := paired_perm r p
    unfold permL
    have hl := paired_len r
    cases e : ys[i]? with
    | none =>
      have e2 : xs[i]? = none := List.getElem?_eq_none (by rw [hl]; exact List.getElem?_eq_none_iff.mp e)
      rw [List.filterMap_cons_none e, List.filterMap_cons_none e2]
      exact ih
    | some y =>
      obtain ⟨x, e2, h⟩ := paired_get r e
      rw [List.filterMap_cons_some e, List.filterMap_cons_some e2]
      exact .cons h ih
structure KwF (K : Fg) (fd : FuncData) (ps : List Str) (n : Nat) (ks : List Str) (perm : List Nat) : Prop where
  to : ∀ (s : Shared) (us ws : List Value), K.In s.heap → us.length = n → ws.length = ks.length → BindsTo s fd ⟨us, ks.zip ws⟩ (ps.zip (permL perm (us ++ ws)))
theorem kwF_of {K : Fg} {x qual : Str} {params : Arguments} {body : List Stmt} {scope : Scope} {kws : List (Str × V)} {f : Addr} {fd : FuncData} {ps : List Str} {n : Nat} {ks : List Str} {perm : List Nat} (F : FunD K x qual params body scope [] kws f fd)
    (h : ∀ (kV doc pm : Value) (an : Option Addr) (cdv ct : Value) (us ws : List Value), us.length = n → ws.length = ks.length → bindArgs (PySem.W.fnOf x qual params body scope .none kV doc pm an cdv ct) ⟨us, ks.zip ws⟩ = pure (ps.zip (permL perm (us ++ ws)))) : KwF K fd ps n ks perm := by
  obtain ⟨oc, od, dV, kV, doc, pm, an, cdv, ct, osl, rfl, lk, hcd, hD, hK⟩ := F.ex
  rcases hD with ⟨_, rfl⟩ | ⟨e, _⟩
  · exact ⟨fun s us ws _ l1 l2 => .of_eq (h kV doc pm an cdv ct us ws l1 l2)⟩
  · exact absurd rfl e
/-- a def of the text, called with keywords -/
structure FnK (P : Program) (w : World) (K : Fg) (mg : Str → Option Value) (base : Heap) (T : List Addr) (k : Nat) (x : Str) (ps : List Str) (n : Nat) (den : Den) (m : Nat) (ks : List Str) (perm : List Nat) : Prop where
  ex : ∃ f fd, GOk P w K mg base k f fd ps (spF K w T n den) ∧ mg x = some (.ref f) ∧ PySem.W.keepIn K (.ref f) = true ∧ KwF K fd ps m ks perm
def fCallK (den : Den) (n m : Nat) (nk : Nat) (perm : List Nat) (f g : FS → Res (List AD)) : FS → Res SV := bnd f fun as => bnd g fun bs => if as.length = m ∧ bs.length = nk ∧ (permL perm (as ++ bs)).length = n then callD den (permL perm (as ++ bs)) else fun _ => .bad
theorem paired_append {α β : Type} {R : α → β → Prop} : ∀ {xs xs' : List α} {ys ys' : List β}, Paired R xs ys → Paired R xs' ys' → Paired R (xs ++ xs') (ys ++ ys')
  | _, _, _, _, .nil, h => h
  | _, _, _, _, .cons r t, h => .cons r (paired_append t h)
section
variable {X : Cx} {F : Fx} {e : Expr} {es : List Expr} {kws : List Keyword} {x : Str} {p pos : Pos} {den : Den} {k j n m : Nat} {ps ks : List Str} {perm : List Nat} {f g : FS → Res (List AD)}
theorem run_kw {pins : List (Addr × Obj)} {σ : L2.St} {H : Hp} {s : Shared} {Q : VK} {us ws : List Value} {vs zs : List V} {fa : Addr} {fd : FuncData} (F1 : GOk X.prog X.w X.K X.mg X.base k fa fd ps (spF X.K X.w F.tabs n den)) (hr : RoomG k X.A) (hb : KwF X.K fd ps m ks perm)
    (I : Inv X pins σ H s) (r : Vals vs us) (rz : Vals zs ws) (l1 : vs.length = m) (l2 : zs.length = ks.length) (h : spF X.K X.w F.tabs n den (permL perm (vs ++ zs)) H Q F.E) : wpAny (model X.prog X.w) X.A (call (.ref fa) us (ks.zip ws)) (EP X pins σ Q) X.xe s :=
  wpAny_call (run_g F1 hr I (hb.to s us ws I.kIn (r.length.symm.trans l1) (rz.length.symm.trans l2)) (vals_perm (r.append rz) perm) h)
theorem e_callK (G : FnK X.prog X.w X.K X.mg X.base F.tabs k x ps n den m ks perm) (hr : RoomG j X.A) (hk : k ≤ j) (hg : Gl X x) (ha : EAS X F (e :: es) f) (hkw : EKS X F kws g) (hW : F.w = X.w := by rfl)
    (hall : (backToKw pos (keywordEach kws X.env)).all (·.1.isSome) = true := by rfl) (hks : (backToKw pos (keywordEach kws X.env)).filterMap (·.1) = ks := by rfl)
    (hdb : (x == ("__debug__" : Str)) = false := by decide) (he : starEach (e :: es) X.env = (false, eval e X.env) :: starEach es X.env := by rfl)
    (hpl : ((backTo pos (starEach (e :: es) X.env)).any (·.1) || (backToKw pos (keywordEach kws X.env)).any (·.1.isNone)) = false := by rfl) :
    EV X F (.Call (.Name x p) (e :: es) kws pos) (fCallK den n m ks.length perm f g) := by
  obtain ⟨fa, fd, F1, hm, kp, b⟩ := G.ex
  refine ⟨fun pins s σ H Q I hw => ?_⟩
  refine wpAny_Call_Name_kw (ld_glob I hg hm ?_ hdb)
  refine PySem.W.callWith_KW (h₀ := X.base) I.ok.mod.kin kp hall (thn (ha.run pos pins s σ H _ I (rdG.bind hw)) fun us s1 ⟨vs, H1, I1, r, as, S1, r1, v1, p1, q1⟩ => ?_) hpl he
  refine thn (hkw.run pos pins s1 σ H1 _ I1 (rdG.bind (R' := VR) ⟨S1, r1, q1⟩)) fun ws s2 ⟨zs, H2, I2, rz, bs, S2, r2, v2, p2, q2⟩ => ⟨I2.kIn, ?_⟩
  rw [hks]
  split at q2
  · rename_i hl
    have v12 : Paired (ADR X.K H2 σ) (vs ++ zs) (as ++ bs) := paired_append (Paired.mapP v1 fun _ _ z => adr_mono p2 z) v2
    exact run_kw F1 (hr.mono hk) b I2 r rz ((paired_len v1).trans hl.1) ((paired_len v2).trans hl.2.1) (hW ▸ call_in r2 (paired_perm v12 perm) hl.2.2 q2)
  · exact q2.elim
theorem e_callK0 (G : FnK X.prog X.w X.K X.mg X.base F.tabs k x ps n den 0 ks perm) (hr : RoomG j X.A) (hk : k ≤ j) (hg : Gl X x) (hkw : EKS X F kws g) (hW : F.w = X.w := by rfl)
    (hall : (backToKw pos (keywordEach kws X.env)).all (·.1.isSome) = true := by rfl) (hks : (backToKw pos (keywordEach kws X.env)).filterMap (·.1) = ks := by rfl)
    (hdb : (x == ("__debug__" : Str)) = false := by decide) (hpl : ((backTo pos (starEach [] X.env)).any (·.1) || (backToKw pos (keywordEach kws X.env)).any (·.1.isNone)) = false := by rfl) :
    EV X F (.Call (.Name x p) [] kws pos) (fCallK den n 0 ks.length perm (fC []) g) := by
  obtain ⟨fa, fd, F1, hm, kp, b⟩ := G.ex
  refine ⟨fun pins s σ H Q I ⟨S, r, hw⟩ => ?_⟩
  refine wpAny_Call_Name_kw (ld_glob I hg hm ?_ hdb)
  have hw2 : postG X.K F VR (bnd g (fun bs => if ([] : List AD).length = 0 ∧ bs.length = ks.length ∧ (permL perm ([] ++ bs)).length = n then callD den (permL perm ([] ++ bs)) else fun _ => .bad) S) σ H Q := hw
  refine PySem.W.callWith_KW0 (h₀ := X.base) I.ok.mod.kin kp hall (thn (hkw.run pos pins s σ H _ I (rdG.bind (R' := VR) ⟨S, r, hw2⟩)) fun ws s2 ⟨zs, H2, I2, rz, bs, S2, r2, v2, p2, q2⟩ => ⟨I2.kIn, ?_⟩) hpl
  rw [hks]
  split at q2
  · rename_i hl
    exact run_kw (vs := []) F1 (hr.mono hk) b I2 .nil rz rfl ((paired_len v2).trans hl.2.1) (hW ▸ call_in r2 (paired_perm (paired_append (.nil (F := ADR X.K H2 σ)) v2) perm) hl.2.2 q2)
  · exact q2.elim
end
/-! ### chains a < b < c -/
section
variable {X : Cx} {F : Fx} {a b c : Expr} {pos : Pos} {fa fb fc : FS → Res D} {g g' : D → D → FS → Res D}
def fChain (g g' : D → D → FS → Res D) (fa fb fc : FS → Res D) : FS → Res D := bnd fa fun d => bnd fb fun e => bnd (g d e) fun z => match z with
  | .bool true => bnd fc fun h => g' e h
  | .bool false => fC (.bool false)
  | _ => fun _ => .bad
theorem chain_of {op op' : CmpOp} {σ : Sl} {H : Hp} {Q : VK} (h : rdG X.K F PR (fChain g g' fa fb fc) σ H Q) :
    tChain (rOp X.K F PR g) (rOp X.K F PR g') (rdG X.K F PR fa) (rdG X.K F PR fb) (rdG X.K F QR fc) σ H Q := by
  refine (rdG.bind h).imp fun x H1 ⟨d, S1, r1, v1, p1, q1⟩ => ?_
  refine (rdG.bind (k := fun e => bnd (g d e) fun z => match z with | .bool true => bnd fc fun h => g' e h | .bool false => fC (.bool false) | _ => fun _ => .bad) (R' := PR) ⟨S1, r1, q1⟩).imp fun y H2 ⟨e, S2, r2, v2, p2, q2⟩ => ?_
  have q3 : rdG X.K F PR (bnd (g d e) fun z => match z with | .bool true => bnd fc fun h => g' e h | .bool false => fC (.bool false) | _ => fun _ => .bad) σ H2 Q := ⟨S2, r2, q2⟩
  refine ⟨S2, σ, d, e, r2, .inl (Pd.mono p2 v1), .inl v2, ?_⟩
  unfold bnd at q2
  cases eg : g d e S2 with
  | bad => rw [eg] at q2; exact q2
  | exn e3 S3 => rw [eg] at q2; exact q2
  | ok z S3 =>
    rw [eg] at q2
    intro z' H3 p3 r3 v3
    cases z with
    | bool k =>
      cases v3
      refine ⟨k, rfl, ?_⟩
      cases k with
      | true =>
        refine (rdG.bind (k := fun h => g' e h) (R' := PR) ⟨S3, r3, postG.later p3 q2⟩).imp fun w H4 ⟨h, S4, r4, v4, p4, q4⟩ => ?_
        exact ⟨S4, σ, e, h, r4, .inl (Pd.mono (p3.trans p4) v2), v4, q4⟩
      | false => exact q2 _ _ p3 r3 (Pd.bl _)
    | _ => exact q2.elim
theorem e_chain {op op' : CmpOp} (ho : OpF X F PR (compareOp op) g) (ho' : OpF X F PR (compareOp op') g') (ha : ED X F a fa) (hb : ED X F b fb) (hc : EQ X F c fc) (hm : lastMarks [op, op'] [b, c] = false := by with_unfolding_all rfl) : ED X F (.Compare a [op, op'] [b, c] pos) (fChain g g' fa fb fc) :=
  (pe_chain ho ho' ha hb hc (hm := hm)).via fun σ H Q h => chain_of (op := op) (op' := op') h
theorem t_chain {op op' : CmpOp} (ho : OpF X F PR (compareOp op) g) (ho' : OpF X F PR (compareOp op') g') (ha : ED X F a fa) (hb : ED X F b fb) (hc : EQ X F c fc) (hm : lastMarks [op, op'] [b, c] = false := by with_unfolding_all rfl) : ET X F (.Compare a [op, op'] [b, c] pos) (fT (fChain g g' fa fb fc)) :=
  (pt_chain ho ho' ha hb hc (hm := hm)).via fun σ H Q h => tTest_of h fun _ h => chain_of (op := op) (op' := op') h
end
end Fz
end

section
set_option Elab.async false
set_option linter.all false
set_option maxRecDepth 100000
set_option maxHeartbeats 4000000
/-! F10: any, all of a generator expression. -/
namespace Fz
open PySem PySem.Spec PyProof.Rows L2 GenW
abbrev gbX (X : Cx) (A' : Around) (s : Shared) (H : Hp) (env' : Env) (fp : List Addr) (pn : List (Addr × Obj)) : Cx :=
  { X with A := A', s_0 := s, H_0 := H, env := env', outer := X.stack, stack := env' :: X.stack, ex := fp, fn := fun _ => false, pn := pn, xe := fun _ _ => False }
theorem inv_same {Y : Cx} {pins : List (Addr × Obj)} {σ : Sl} {H : Hp} {s s' : Shared} (I : Inv Y pins σ H s) (h : s'.heap = s.heap) (o : s'.os = s.os) (b : AllBare s'.gens) : Inv Y pins σ H s' :=
  ⟨I.ok, o.trans I.os, b, by rw [h]; exact I.base, by rw [h]; exact I.loc, by rw [h]; exact I.cell, I.free, I.freeC, by rw [h]; exact I.pin, by rw [h]; exact I.hok, I.len⟩
section
variable {X : Cx} {pins : List (Addr × Obj)} {σ : Sl} {H : Hp} {s : Shared}
theorem gen_start {scope : Scope} {own : List (Str × Nat)} {fp : List Addr} {A' : Around} {code : Value} {go : Obj} {gs : GenState} {h' : Heap} {tk : Nat} {m0 : Str → Option Value} (I : Inv X pins σ H s) (ok : BlkOk X.N X.env.scope scope own) (nc : ∀ y ∈ scope.names, y.2 ≠ .cell) (hN : X.N.Nodup)
    (hfp : ∀ b ∈ fp, FpOk X pins H b ∧ b < s.heap.objs.size) (hA : X.calm = true → A'.handled = none) (hfr : A'.frames = some (genEnv scope (cloFrom X.env.cells scope.names []) s.heap.objs.size code builtinsNs X.env :: X.stack))
    (hn : h'.Ns s.heap.objs.size m0) (kp : ∀ b o, s.heap.get? b = some o → h'.get? b = some o) (hg : ∀ v, go.data ≠ .cell v) (hp : (h'.push go).get? h'.objs.size = some go) (hgs : gs.bare = true) :
    Inv (gbX X A' s H (genEnv scope (cloFrom X.env.cells scope.names []) s.heap.objs.size code builtinsNs X.env) fp [(h'.objs.size, go)]) [] (wipe σ (own.map (·.2))) H { s with gens := s.gens.push gs, toks := tk, heap := h'.push go } := by
  have hfree : ∀ y ∈ scope.names, y.2 = .free → ∃ c, X.env.cells.lookup y.1 = some c := fun y hy e => by
    rcases ok.free y hy e with k | k
    · exact I.ok.has _ (.inl k)
    · exact I.ok.has _ (.inr k)
  generalize hcenv : genEnv scope (cloFrom X.env.cells scope.names []) s.heap.objs.size code builtinsNs X.env = cenv at hfr
  have kp2 : ∀ b o, s.heap.get? b = some o → (h'.push go).get? b = some o := fun b o e => Heap.get?_push_of_some _ (kp b o e)
  have hL : cenv.locals = s.heap.objs.size := by rw [← hcenv]; rfl
  have hcl : cenv.cells = cloFrom X.env.cells scope.names [] := by rw [← hcenv]; rfl
  have hsc : cenv.scope = scope := by rw [← hcenv]; rfl
  have hltC : s.heap.objs.size < h'.objs.size := hn.lt
  have cm : ∀ {y c}, (y, c) ∈ cloFrom X.env.cells scope.names [] → X.env.cells.lookup y = some c ∧ c < s.heap.objs.size := fun {y c} hm => by
    rcases cloFrom_mem hm with hm | ⟨h1, rfl⟩
    · cases hm
    · obtain ⟨c, hc⟩ := hfree _ h1 rfl
      rw [hc]
      obtain ⟨w, z⟩ := I.cell _ _ hc
      exact ⟨rfl, z.lt⟩
  have mem : ∀ {y c}, cenv.cells.lookup y = some c → X.env.cells.lookup y = some c ∧ c < s.heap.objs.size := fun {y c} e => by
    rw [hcl] at e
    exact cm (PySem.mem_of_lookup e)
  have look : ∀ {y}, scope.names.lookup y = some .free → ∃ c, cenv.cells.lookup y = some c ∧ X.env.cells.lookup y = some c := fun {y} hl => by
    have hy : (y, NameKind.free) ∈ scope.names := PySem.mem_of_lookup hl
    obtain ⟨c', e'⟩ := mem_lookup (cloFrom_has (cells := X.env.cells) (acc := []) hy)
    rw [← hcl] at e'
    exact ⟨c', e', (mem e').1⟩
  have okB : (gbX X A' s H cenv fp [(h'.objs.size, go)]).Ok := by
    refine ⟨I.ok.mod, by show cenv.scope.kind = _; rw [hsc]; exact ok.kind, by show cenv.globals = _; rw [← hcenv]; exact I.ok.glob, by show cenv.builtins = _; rw [← hcenv]; rfl, by show s.heap.objs.size ≤ cenv.locals; rw [hL]; exact Nat.le_refl _,
      fun y z c e1 e2 => I.ok.inj y z c (mem e1).1 (mem e2).1, fun y hy => ?_, fun y c z e => (Bool.false_ne_true z).elim, hA, hfr, .inr ⟨rfl, by show cenv.frame = some cenv.locals; rw [← hcenv]; rfl⟩, fun b hb => ⟨?_, fun y c e z => ?_⟩, I.bs, Nat.le_trans I.ok.bsz I.sz, fun b o e hb => ?_, fun b hb z => ?_, I.stack, I.stkFree⟩
    · show ∃ c, cenv.cells.lookup y = some c
      have hy : cenv.scope.names.lookup y = some .cell ∨ cenv.scope.names.lookup y = some .free := hy
      rw [hsc] at hy
      rcases hy with hy | hy
      · exact absurd rfl (nc _ (PySem.mem_of_lookup hy))
      · obtain ⟨c, h1, _⟩ := look hy
        exact ⟨c, h1⟩
    · show b ≠ cenv.locals
      rw [hL]; exact Nat.ne_of_lt (hfp b hb).2
    · exact (hfp b hb).1.2.2.2.2.1 y c (mem e).1 z
    · rcases (hfp b hb).1.2.2.2.1 with z | z
      · exact I.ok.noex b o e z
      · exact absurd (Nat.lt_of_lt_of_le (Heap.lt_size e) (Nat.le_trans I.ok.bsz z)) (Nat.lt_irrefl _)
    · rcases List.mem_cons.mp (I.stkSub b z) with z | z
      · exact (hfp b hb).1.2.1 z
      · exact (hfp b hb).1.2.2.1 z
  refine ⟨okB, rfl, AllBare.push I.bare hgs, Un.kept kp2, ⟨m0, ?_, fun i y av e1 e2 e3 => ?_⟩, fun y c e => ?_, ?_, fun y c e => ?_, fun p hp2 => ?_, I.hok.kept kp2, by rw [wipe_length]; exact I.len⟩
  · show Heap.Ns _ cenv.locals _
    rw [hL]
    exact hn.push _
  · obtain ⟨e2, hne⟩ := wipe_some e2
    have e3 : Vis cenv.scope y := e3
    rw [hsc] at e3
    have no : ∀ k, scope.names.lookup y = some k → ¬ (k = .local ∨ k = .cell) := fun k e hh => by
      rcases ok.own _ (PySem.mem_of_lookup e) hh with e' | e'
      · obtain ⟨p, hp, hpy⟩ := List.mem_map.mp e'
        have e3 := ok.ix p hp
        have : p.1 = y := hpy
        rw [this] at e3
        exact hne (List.mem_map.mpr ⟨p, hp, nodup_ix hN e3 e1⟩)
      · exact e' (List.mem_of_getElem? e1)
    have hfr2 : scope.names.lookup y = some .free := by
      rcases e3 with e3 | e3 | e3
      · exact absurd (.inl rfl) (no _ e3)
      · exact absurd (.inr rfl) (no _ e3)
      · exact e3
    obtain ⟨m, hn2, hl⟩ := I.loc
    have hvis : Vis X.env.scope y := (ok.free _ (PySem.mem_of_lookup hfr2) rfl).elim (fun k => .inr (.inl k)) (fun k => .inr (.inr k))
    obtain ⟨w, r, q⟩ := hl i y av e1 e2 hvis
    refine ⟨w, r, .inr ⟨.inr (by show cenv.scope.names.lookup y = _; rw [hsc]; exact hfr2), ?_⟩⟩
    obtain ⟨c, h1, h2⟩ := look hfr2
    rcases q with ⟨k, _⟩ | ⟨_, c', e', z⟩
    · have k : X.env.scope.names.lookup y = some .local := k
      rcases ok.free _ (PySem.mem_of_lookup hfr2) rfl with k' | k' <;> rw [show X.env.scope.names.lookup y = _ from k'] at k <;> cases k
    · rw [h2] at e'; cases e'
      exact ⟨c, h1, z.keeps kp2⟩
  · obtain ⟨w, z⟩ := I.cell y c (mem (show cenv.cells.lookup y = some c from e)).1
    exact ⟨w, z.keeps kp2⟩
  · show H cenv.locals = none
    rw [hL]; exact I.hok.fresh (Nat.le_refl _)
  · exact I.freeC y c (mem (show cenv.cells.lookup y = some c from e)).1
  · have hp2 : p ∈ [(h'.objs.size, go)] := by simpa using hp2
    rw [List.mem_singleton.mp hp2]
    refine ⟨hp, I.hok.fresh (Nat.le_of_lt hltC), ?_, fun z => ?_, hg⟩
    · show h'.objs.size ≠ cenv.locals
      rw [hL]; exact Nat.ne_of_gt hltC
    · rcases List.mem_cons.mp (I.stkSub _ z) with z | z
      · have q : h'.objs.size < s.heap.objs.size := by
          have e : h'.objs.size = X.env.locals := z
          rw [e]; exact I.lt
        exact absurd (Nat.lt_trans hltC q) (Nat.lt_irrefl _)
      · exact I.nofs (Nat.le_of_lt hltC) z
end
/-! ### the generator's turns -/
def anyF (stop : Bool) (g : D → FS → Option FS) (t : FS → Res Bool) (fe : FS → Res D) (vs : List Nat) : List D → FS → Res Bool
  | [], S => .ok (!stop) S
  | d :: ds, S => match g d (wipeS S vs) with
    | none => .bad
    | some S1 => match t S1 with
      | .ok false S2 => anyF stop g t fe vs ds (restS S S2 vs)
      | .ok true S2 => (match fe S2 with
        | .ok (.bool b) S3 => if b = stop then .ok stop (restS S S3 vs) else anyF stop g t fe vs ds (restS S S3 vs)
        | _ => .bad)
      | _ => .bad
structure Woken (s s' : Shared) : Prop where
  heap : s'.heap = s.heap
  os : s'.os = s.os
  bare : AllBare s'.gens
def GYp (Y : Cx) (stop : Bool) (Q : Bool → Hp → Prop) : Protocol := fun n s₀ v s kap => ∃ b H' σ pins, v = .bool b ∧ Inv Y pins σ H' s ∧ (b = stop → Q stop H') ∧ (b ≠ stop → ∀ s', Woken s s' → kap (.send .none) s')
def GRp (Y : Cx) (stop : Bool) (Q : Bool → Hp → Prop) : Nat → Shared → Shared → Prop := fun n s₀ s => ∃ H' σ pins, Inv Y pins σ H' s ∧ Q (!stop) H'
abbrev GRr (Y : Cx) (stop : Bool) (Q : Bool → Hp → Prop) : GenEnd := fun n s₀ r s₁ => r = .ok .next ∧ GRp Y stop Q n s₀ s₁
section
variable {Y : Cx} {F : Fx} {elt tg iter : Expr} {ifs : List Expr} {scope : Scope} {pos : Pos} {g : D → FS → Option FS} {t : FS → Res Bool} {fe : FS → Res D} {ts vs : List Nat} {stop : Bool} {Q : Bool → Hp → Prop}
  {A : Around} {it : Addr} {fp : List Addr} {tn : Nat → Heap → Prop} {J : It} {H1 : Hp} {ds : List D} {σ : Sl}
theorem thnY {α : Type} {m : Sem α} {P P' : α → Shared → Prop} {M : Model} {E : Value → Shared → Prop} {s : Shared} (hx : ∀ e s, Y.xe e s → False) (h : wpAny M A m P Y.xe s) (hQ : ∀ a s, P a s → P' a s) : wpAny M A m P' E s := wpAny_mono h hQ fun _ _ z => (hx _ _ z).elim
theorem gen_loop (hc : Y.calm = true) (hx : ∀ e s, Y.xe e s → False) (hA : A.over (.compLoop (.GeneratorExp elt [⟨tg, iter, ifs, 0⟩] scope pos) 0 (.ref it) .none Y.env) [] = Y.A) (hco : Y.env.scope.isCoroutine = false)
    (T : Turn Y.prog Y.w Y.K tg J fp it tn) (stat : ∀ (σ' : Sl) (H' : Hp) (s' : Shared), Inv Y [] σ' H' s' → (∀ b ∈ fp, H' b = none) → ∀ b ∈ fp, FpOk Y [] H' b) (y : Yields Y.K J H1 ds)
    (pg : EG Y F tg ts g) (pt : ETs Y F ifs t) (pe : ED Y F elt fe) (hts : ∀ j, j ∈ ts → j ∈ vs) :
    ∀ (k i n : Nat) (s₀ s : Shared) (S : FS) (H : Hp), ds.length - i = k → i ≤ ds.length → k ≤ n → Inv Y [] (wipe σ vs) H s → tn i s.heap → (∀ b ∈ fp, H b = none) → Pers H1 H → Rel Y.K F S σ H → postT Y.K F (anyF stop g t fe vs (ds.drop i) S) σ H Q →
      Seg (model Y.prog Y.w) A (GRr Y stop Q) (GYp Y stop Q) n s₀ (.compLoop (.GeneratorExp elt [⟨tg, iter, ifs, 0⟩] scope pos) 0 (.ref it) .none Y.env)
        ((model Y.prog Y.w).den (.compLoop (.GeneratorExp elt [⟨tg, iter, ifs, 0⟩] scope pos) 0 (.ref it) .none Y.env)) [] s := by
  intro k
  induction k with
  | zero =>
    intro i n s₀ s S H hk hi hkn I st nf pH r p
    have e : i = ds.length := by omega
    subst e
    rw [List.drop_length] at p
    show Seg _ A _ _ n s₀ _ ((compTurn (.GeneratorExp elt [⟨tg, iter, ifs, 0⟩] scope pos) 0 (.ref it) .none Y.env).onRaise (leaving Y.env)) [] s
    rw [compTurn_gen, Sem.onRaise_eq_wrap]
    refine seg_bind_wrap (wpAny_standAt ?_)
    refine seg_bind_wrap ?_
    rw [hA]
    have td := T.done Y rfl rfl rfl hc ds.length [] s _ H (fun _ _ => False) I (stat _ _ _ I nf) st (y.stop H pH)
    refine thnF td fun rr s6 ⟨hr, I6⟩ => ?_
    subst hr
    exact seg_end (.ok .next) ⟨rfl, H, _, _, I6, p.ok r⟩
  | succ k ih =>
    intro i n s₀ s S H hk hi hkn I st nf pH r p
    have hl : i < ds.length := by omega
    show Seg _ A _ _ n s₀ _ ((compTurn (.GeneratorExp elt [⟨tg, iter, ifs, 0⟩] scope pos) 0 (.ref it) .none Y.env).onRaise (leaving Y.env)) [] s
    rw [compTurn_gen, Sem.onRaise_eq_wrap]
    refine seg_bind_wrap (wpAny_standAt ?_)
    refine seg_bind_wrap ?_
    rw [hA]
    have ti := T.item Y rfl rfl rfl hc i [] s _ H (fun _ _ => False) I (stat _ _ _ I nf) st (y.go i H pH hl)
    refine thnF ti fun rr s6 ⟨u, hr, h6⟩ => ?_
    subst hr
    refine seg_bind_wrap ?_
    rw [hA]
    refine thnF h6 fun _ s7 ⟨x, H7, I7, r7, y7, st7, n7⟩ => ?_
    obtain ⟨p2, k2, v2⟩ := y.yld i H x H7 ds[i] pH (List.getElem?_eq_getElem hl) y7
    rw [List.drop_eq_getElem_cons hl] at p
    simp only [anyF] at p
    have rb2 : Rel Y.K F S σ H7 := k2 _ _ _ r
    have rw2 := rb2.wiped (vs := vs)
    have I7' := I7.pinned (stat _ _ _ I7 n7) (T.obj _ _ st7)
    refine seg_bind_wrap ?_
    rw [hA]
    cases e2 : g ds[i] (wipeS S vs) with
    | none => rw [e2] at p; exact p.elim
    | some S1 =>
      rw [e2] at p
      simp only at p
      refine thnY hx (pg.run _ s7 _ H7 x u (fun σ8 H8 => wipe σ8 vs = wipe σ vs ∧ Pers H7 H8 ∧ Rel Y.K F S1 σ8 H8) I7' r7 ⟨wipeS S vs, ds[i], rw2, v2, ?_⟩) fun _ s8 ⟨σ8, H8, I8, hw8, p8, r8⟩ => ?_
      · rw [e2]
        intro σ3 H3 p3 r3 b3
        refine ⟨?_, p3, r3⟩
        apply List.ext_getElem?
        intro j
        by_cases hj : j ∈ vs
        · have l1 : (wipe σ3 vs).length = (wipe σ vs).length := by rw [wipe_length, b3.1]
          by_cases hl2 : j < σ.length
          · rw [wipe_eq, wipe_eq, setAll_in hj (by rw [b3.1, wipe_length]; exact hl2), setAll_in hj hl2]
          · rw [List.getElem?_eq_none (by rw [l1, wipe_length]; omega), List.getElem?_eq_none (by rw [wipe_length]; omega)]
        · rw [wipe_eq, setAll_out hj, b3.2 j (fun z => hj (hts j z)), wipe_eq]
      refine seg_bind_wrap ?_
      rw [hA]
      have pH8 : Pers H1 H8 := (pH.trans p2).trans p8
      -- the turn's end
      have fin : ∀ {n' : Nat} {s0' s' : Shared} {H' : Hp} {S' : FS}, k ≤ n' → Inv Y ([] ++ L2.pinsAt fp s7.heap) σ8 H' s' → Pers H8 H' → Rel Y.K F (restS S S' vs) σ H' → postT Y.K F (anyF stop g t fe vs (ds.drop (i + 1)) (restS S S' vs)) σ H' Q →
          Seg (model Y.prog Y.w) A (GRr Y stop Q) (GYp Y stop Q) n' s0' (.compLoop (.GeneratorExp elt [⟨tg, iter, ifs, 0⟩] scope pos) 0 (.ref it) .none Y.env)
            ((model Y.prog Y.w).den (.compLoop (.GeneratorExp elt [⟨tg, iter, ifs, 0⟩] scope pos) 0 (.ref it) .none Y.env)) [] s' := fun {n' s0' s' H' S'} hn' I' pp rr qq => by
        have pin' : ∀ b ∈ fp, ∀ o, s7.heap.get? b = some o → s'.heap.get? b = some o ∧ H' b = none := fun b hb o e =>
          let z := I'.pin (b, o) (List.mem_append_right _ (List.mem_append_right _ (mem_pinsAt hb e)))
          ⟨z.1, z.2.1⟩
        have hl3 : (wipe σ vs).length = σ8.length := by rw [← hw8, wipe_length]
        refine ih (i + 1) n' s0' s' _ H' (by omega) hl hn' ((I'.unpinned (pins := [])).weak hl3 (fun j v e => ?_)) (T.keep _ _ _ st7 fun b hb o e => (pin' b hb o e).1) (fun b hb => ?_) (pH8.trans pp) rr qq
        · rw [← hw8] at e
          exact (wipe_some e).1
        · obtain ⟨o, e, _⟩ := T.obj _ _ st7 b hb
          exact (pin' b hb o e).2
      cases e3 : t S1 with
      | exn e4 S2 => rw [e3] at p; exact p.elim
      | bad => rw [e3] at p; exact p.elim
      | ok kk S2 =>
        rw [e3] at p
        refine thnY hx (pt.run _ s8 σ8 H8 (fun b H9 => b = kk ∧ Pers H8 H9 ∧ Rel Y.K F S2 σ8 H9) I8 ⟨S1, r8, ?_⟩) fun b s9 ⟨H9, I9, eb, p9, r9⟩ => ?_
        · rw [e3]
          exact fun H4 p4 r4 => ⟨rfl, p4, r4⟩
        subst eb
        have pp9 : Pers H H9 := (p2.trans p8).trans p9
        cases b with
        | false =>
          simp only [Bool.false_eq_true, if_false]
          refine seg_again rfl ?_
          exact fin (n' := n) (by omega) I9 p9 (r.rest r9 pp9 hw8) (p.later pp9)
        | true =>
          simp only at p
          simp only [if_true]
          cases e5 : fe S2 with
          | exn e6 S3 => rw [e5] at p; exact p.elim
          | bad => rw [e5] at p; exact p.elim
          | ok yd S3 =>
            rw [e5] at p
            cases yd with
            | bool b =>
              simp only at p
              have hy : ∀ v, yieldOut Y.env v = yieldValue v := fun v => by simp only [yieldOut, hco, Bool.false_eq_true, if_false]
              simp only [hy]
              obtain ⟨n, rfl⟩ : ∃ m, n = m + 1 := ⟨n - 1, by omega⟩
              rw [Sem.bind_eq_wrap', Sem.bind_eq_wrap', Sem.wrap_wrap, Sem.wrap_wrap]
              refine seg_wrap ?_
              rw [hA]
              refine thnY hx (pe.run _ s9 σ8 H9 (fun z H10 => z = .bl b ∧ Pers H9 H10 ∧ Rel Y.K F S3 σ8 H10) I9 ⟨S2, r9, ?_⟩) fun z s10 ⟨yv, H10, I10, r10, ev, p10, q10⟩ => ?_
              · rw [e5]
                intro z H5 p5 r5 v5
                cases v5
                exact ⟨rfl, p5, r5⟩
              subst ev
              obtain rfl : z = Value.bool b := r10
              have pp10 : Pers H H10 := pp9.trans p10
              have rr := r.rest q10 pp10 hw8
              refine seg_at (seg_yield rfl rfl rfl ⟨b, H10, σ8, _, rfl, I10, fun hb => ?_, fun hb s'' wk => ?_⟩)
              · rw [if_pos hb] at p
                exact p H10 pp10 rr
              · rw [if_neg hb] at p
                refine seg_again rfl ?_
                exact fin (n' := n) (by omega) (inv_same I10 wk.heap wk.os wk.bare) (p9.trans p10) rr (p.later pp10)
            | _ => exact p.elim
end
end Fz
end

section
set_option Elab.async false
set_option linter.all false
set_option maxRecDepth 100000
set_option maxHeartbeats 4000000
/-! F11: any, all of a generator expression: the consumer, the rule. -/
namespace Fz
open PySem PySem.Spec PyProof.Rows L2 GenW
section
variable {Y : Cx} {F : Fx} {elt tg iter : Expr} {ifs : List Expr} {scope : Scope} {pos : Pos} {stop : Bool} {Q : Bool → Hp → Prop}
  {A : Around} {it : Addr} {σ : Sl}
theorem gen_begin {n : Nat} {s₀ s : Shared} {fp : List Addr} {tn : Nat → Heap → Prop} {J : It} {R : GenEnd} {Yp : Protocol} (T : Turn Y.prog Y.w Y.K tg J fp it tn) (st : tn 0 s.heap)
    (loop : Seg (model Y.prog Y.w) A R Yp n s₀ (.compLoop (.GeneratorExp elt [⟨tg, iter, ifs, 0⟩] scope pos) 0 (.ref it) .none Y.env)
        ((model Y.prog Y.w).den (.compLoop (.GeneratorExp elt [⟨tg, iter, ifs, 0⟩] scope pos) 0 (.ref it) .none Y.env)) [] s) :
    Seg (model Y.prog Y.w) A R Yp n s₀ (.compStart (.GeneratorExp elt [⟨tg, iter, ifs, 0⟩] scope pos) 0 (.ref it) .none Y.env)
        ((model Y.prog Y.w).den (.compStart (.GeneratorExp elt [⟨tg, iter, ifs, 0⟩] scope pos) 0 (.ref it) .none Y.env)) [] s := by
  show Seg _ A _ _ _ s₀ _ ((compStart (.GeneratorExp elt [⟨tg, iter, ifs, 0⟩] scope pos) 0 (.ref it) .none Y.env).onRaise (leaving Y.env)) [] s
  unfold compStart
  rw [Sem.onRaise_eq_wrap]
  show Seg _ A _ _ _ s₀ _ ((ask >>= _).wrap _ _ _ _) [] s
  refine seg_bind_wrap (wpAny_askSetting ?_)
  split
  · exact seg_again rfl loop
  · first
      | exact seg_bind_wrap (wpAny_rule (seg_bind_wrap (wpAny_standAt (seg_bind_wrap (T.self _ 0 s _ _ st (seg_again rfl loop))))))
      | (refine seg_bind_wrap (wpAny_rule ?_); show Seg _ A _ _ _ s₀ _ ((standAt iter.pos >>= _).wrap _ _ _ _) [] s; exact seg_bind_wrap (wpAny_standAt (seg_bind_wrap (T.self _ 0 s _ _ st (seg_again rfl loop)))))
/-- the builtin's loop -/
def loopId (stop : Bool) : String := if stop then "any.loop" else "all.loop"
theorem use_gen {a : Addr} {gi : Nat} {go : Obj} {RR : Result → Shared → Prop} (hh : A.handled = none) (hd : A.depth < recursionLimit) (hpn : Y.pn = [(a, go)]) (hgo : ∀ h : Heap, h.get? a = some go → h.IsGen a gi)
    (hlim : ∀ σ pins H s, Inv Y pins σ H s → s.heap.NoLimit)
    (fin : ∀ b H' σ pins s', Inv Y pins σ H' s' → Q b H' → RR (.ok (.ret (.bool b))) s') :
    ∀ (n : Nat) (gs : GenState) (s : Shared), s.heap.IsGen a gi → s.heap.NoLimit → s.gens[gi]? = some gs → gs.Goes (model Y.prog Y.w) A.in1.in1 (GRr Y stop Q) (GYp Y stop Q) n (.send .none) (s.setGen gi .running) →
      codeAny (model Y.prog Y.w) A (.builtin (loopId stop) ⟨[.ref a], []⟩) RR s := by
  intro n
  induction n with
  | zero =>
    intro gs s hg hl hgs hgoes
    have key : wpAny (model Y.prog Y.w) A.in1 (pyNext (.ref a)) (fun o s1 => match o with
        | none => RR (.ok (.ret (.bool (!stop)))) s1
        | some v => v = .bool stop ∧ RR (.ok (.ret (.bool stop))) s1) (fun e s' => RR (.error e) s') s := by
      refine wpAny_pyNext_genexpQ (P := GRp Y stop Q) hh hl hd hg hgs hgoes (fun v s₁ gs' hb hv => ?_) (fun s₁ hp h' hk => ?_)
      · obtain ⟨b, H', σ, pins, rfl, I, h1, h2⟩ := hv
        by_cases e : b = stop
        · subst e
          exact ⟨rfl, fin _ H' σ pins _ (inv_same I rfl rfl (allBare_setGen I.bare hb)) (h1 rfl)⟩
        · exact (h2 e s₁ ⟨rfl, rfl, I.bare⟩).elim
      · obtain ⟨H', σ, pins, I, q⟩ := hp
        have I2 : Inv Y pins σ H' (s₁.setGen gi .finished) := inv_same I rfl rfl (allBare_setGen I.bare rfl)
        exact fin _ H' σ pins _ (I2.kept (t' := _) hk) q
    cases stop with
    | true =>
      show codeAny _ A (.builtin "any.loop" ⟨[.ref a], []⟩) RR s
      refine codeAny_builtin F.entry_any_loop ?_
      rw [Around.under_plainId F.plain_any_loop _]
      show wpAny _ A.in1 (pyNext (.ref a) >>= _) _ _ s
      refine wpAny_bind (wpAny_mono key (fun o s1 h1 => ?_) fun _ _ e => e)
      cases o with
      | none => exact wpAny_bind (wpAny_rule (wpAny_pure h1))
      | some v =>
        obtain ⟨rfl, h1⟩ := h1
        refine wpAny_bind (wpAny_holding (wpAny_truthy_bool ?_))
        refine wpAny_bind (wpAny_letGo ?_)
        simp only [if_true]
        exact wpAny_bind (wpAny_rule (wpAny_pure h1))
    | false =>
      show codeAny _ A (.builtin "all.loop" ⟨[.ref a], []⟩) RR s
      refine codeAny_builtin F.entry_all_loop ?_
      rw [Around.under_plainId F.plain_all_loop _]
      show wpAny _ A.in1 (pyNext (.ref a) >>= _) _ _ s
      refine wpAny_bind (wpAny_mono key (fun o s1 h1 => ?_) fun _ _ e => e)
      cases o with
      | none => exact wpAny_bind (wpAny_rule (wpAny_pure h1))
      | some v =>
        obtain ⟨rfl, h1⟩ := h1
        refine wpAny_bind (wpAny_holding (wpAny_truthy_bool ?_))
        refine wpAny_bind (wpAny_letGo ?_)
        simp only [Bool.false_eq_true, if_false]
        exact wpAny_bind (wpAny_rule (wpAny_pure h1))
  | succ n ih =>
    intro gs s hg hl hgs hgoes
    have hlt : gi < s.gens.size := by
      rcases Nat.lt_or_ge gi s.gens.size with h | h
      · exact h
      · rw [Array.getElem?_eq_none h] at hgs; cases hgs
    have key : wpAny (model Y.prog Y.w) A.in1 (pyNext (.ref a)) (fun o s1 => match o with
        | none => RR (.ok (.ret (.bool (!stop)))) s1
        | some v => (v = .bool stop ∧ RR (.ok (.ret (.bool stop))) s1) ∨ (v = .bool (!stop) ∧ codeAny (model Y.prog Y.w) A (.builtin (loopId stop) ⟨[.ref a], []⟩) RR s1)) (fun e s' => RR (.error e) s') s := by
      refine wpAny_gsz (n := gi + 1) hlt ?_
      refine wpAny_mono (E := fun e s' => gi + 1 ≤ s'.gens.size → RR (.error e) s') ?_ (fun a s h => h) (fun _ _ h => h)
      refine wpAny_pyNext_genexpQ (P := GRp Y stop Q) hh hl hd hg hgs hgoes (fun v s₁ gs' hb hv => ?_) (fun s₁ hp h' hk => ?_)
      · intro hsz
        obtain ⟨b, H', σ, pins, rfl, I, h1, h2⟩ := hv
        have I2 : Inv Y pins σ H' (s₁.setGen gi gs') := inv_same I rfl rfl (allBare_setGen I.bare hb)
        by_cases e : b = stop
        · subst e
          exact .inl ⟨rfl, fin _ H' σ pins _ I2 (h1 rfl)⟩
        · refine .inr ⟨by cases b <;> cases stop <;> simp_all, ?_⟩
          have hsz' : gi < s₁.gens.size := by rw [← setGen_size s₁ gi gs']; exact hsz
          have hat : (s₁.setGen gi gs').gens[gi]? = some gs' := setGen_at hsz'
          have pin := (I2.pin (a, go) (List.mem_append_left _ (by rw [hpn]; exact List.mem_singleton.mpr rfl))).1
          exact ih gs' _ (hgo _ pin) (hlim _ _ _ _ I2) hat (h2 e _ ⟨rfl, rfl, allBare_setGen I2.bare rfl⟩)
      · intro _
        obtain ⟨H', σ, pins, I, q⟩ := hp
        have I2 : Inv Y pins σ H' (s₁.setGen gi .finished) := inv_same I rfl rfl (allBare_setGen I.bare rfl)
        exact fin _ H' σ pins _ (I2.kept (t' := _) hk) q
    cases stop with
    | true =>
      show codeAny _ A (.builtin "any.loop" ⟨[.ref a], []⟩) RR s
      refine codeAny_builtin F.entry_any_loop ?_
      rw [Around.under_plainId F.plain_any_loop _]
      show wpAny _ A.in1 (pyNext (.ref a) >>= _) _ _ s
      refine wpAny_bind (wpAny_mono key (fun o s1 h1 => ?_) fun _ _ e => e)
      cases o with
      | none => exact wpAny_bind (wpAny_rule (wpAny_pure h1))
      | some v =>
        rcases h1 with ⟨rfl, h1⟩ | ⟨rfl, h1⟩
        · refine wpAny_bind (wpAny_holding (wpAny_truthy_bool ?_))
          refine wpAny_bind (wpAny_letGo ?_)
          simp only [if_true]
          exact wpAny_bind (wpAny_rule (wpAny_pure h1))
        · refine wpAny_bind (wpAny_holding (wpAny_truthy_bool ?_))
          refine wpAny_bind (wpAny_letGo ?_)
          simp only [Bool.not_true, Bool.false_eq_true, if_false]
          exact wpAny_pure ⟨plainId_quiet F.plain_any_loop _, h1⟩
    | false =>
      show codeAny _ A (.builtin "all.loop" ⟨[.ref a], []⟩) RR s
      refine codeAny_builtin F.entry_all_loop ?_
      rw [Around.under_plainId F.plain_all_loop _]
      show wpAny _ A.in1 (pyNext (.ref a) >>= _) _ _ s
      refine wpAny_bind (wpAny_mono key (fun o s1 h1 => ?_) fun _ _ e => e)
      cases o with
      | none => exact wpAny_bind (wpAny_rule (wpAny_pure h1))
      | some v =>
        rcases h1 with ⟨rfl, h1⟩ | ⟨rfl, h1⟩
        · refine wpAny_bind (wpAny_holding (wpAny_truthy_bool ?_))
          refine wpAny_bind (wpAny_letGo ?_)
          simp only [Bool.false_eq_true, if_false]
          exact wpAny_bind (wpAny_rule (wpAny_pure h1))
        · refine wpAny_bind (wpAny_holding (wpAny_truthy_bool ?_))
          refine wpAny_bind (wpAny_letGo ?_)
          simp only [Bool.not_false, if_true]
          exact wpAny_pure ⟨plainId_quiet F.plain_all_loop _, h1⟩
end
end Fz
end

section
set_option Elab.async false
set_option linter.all false
set_option maxRecDepth 100000
set_option maxHeartbeats 4000000
/-! F12: any, all of a generator expression: the rule. -/
namespace Fz
open PySem PySem.Spec PyProof.Rows L2 GenW
theorem pers_grow {H : Hp} {P : Addr} {ps ps' : Array Value} (h : H P = some (.tbl ps)) : Pers H (upd H P (.tbl ps')) := by
  have k : ∀ a u, H a = some u → (∀ q, u ≠ .tbl q) → upd H P (.tbl ps') a = some u := fun a u e n => by
    rw [upd_ne]
    · exact e
    · intro z
      rw [z, h] at e
      exact n _ (Option.some.inj e).symm
  exact ⟨fun a xs e => k a _ e (fun q z => nomatch z), fun a o u e => k a _ e (fun q z => nomatch z)⟩
theorem Rel.grow {K : Fg} {F : Fx} {S : FS} {σ : Sl} {H : Hp} {P : Addr} {ps ps' : Array Value} (r : Rel K F S σ H) (h : H P = some (.tbl ps)) (ht : TriplesOk ps'.toList) : Rel K F S σ (upd H P (.tbl ps')) := by
  have p : Pers H (upd H P (.tbl ps')) := pers_grow h
  have later : ∀ {a ob}, ObR K F.w H a ob → ObR K F.w (upd H P (.tbl ps')) a ob := fun {a ob} q => by
    refine q.later p (upd_ne fun z => ?_)
    obtain ⟨u, eu, _, nt⟩ := q.there
    rw [z, h] at eu; cases eu; cases nt
  refine ⟨r.len, fun i sv e => ?_, r.apart, fun a o ho hp ht2 => ?_, fun a o ho => ?_, fun P2 hP2 => ?_, fun q hq => ?_⟩
  · obtain ⟨x, ex, w⟩ := r.slot i sv e
    refine ⟨x, ex, ?_⟩
    cases sv with
    | d d => exact Pd.mono p w
    | own ob => obtain ⟨a, rfl, q, n⟩ := w; exact ⟨a, rfl, later q, n⟩
    | pin ob => obtain ⟨a, rfl, q, n⟩ := w; exact ⟨a, rfl, later q, n⟩
  · have e := r.keep a o ho hp ht2
    rw [upd_ne]; exact e
    intro z; rw [z, h] at e; cases e; cases ht2
  · by_cases z : a = P
    · subst z; exact ⟨_, upd_same⟩
    · obtain ⟨u, e⟩ := r.there a o ho
      exact ⟨u, by rw [upd_ne z]; exact e⟩
  · by_cases z : P2 = P
    · subst z; exact ⟨_, upd_same, ht⟩
    · obtain ⟨q, e, t⟩ := r.tabs P2 hP2
      exact ⟨q, by rw [upd_ne z]; exact e, t⟩
  · obtain ⟨e, h0, hu⟩ := r.held q hq
    refine ⟨?_, h0, hu⟩
    rw [upd_ne]; exact e
    intro z; rw [z, h] at e; cases e
structure GenSc (scope : Scope) : Prop where
  co : scope.isCoroutine = false
  nc : ∀ y ∈ scope.names, y.2 ≠ .cell
  dot : scope.names.lookup (".0" : Str) = some NameKind.local
def anyNm (stop : Bool) : Str := if stop then "any" else "all"
def fAny (stop : Bool) (it : FS → Res (List D)) (g : D → FS → Option FS) (t : FS → Res Bool) (fe : FS → Res D) (vs : List Nat) : FS → Res D := bnd it fun ds S => match anyF stop g t fe vs ds S with
  | .ok b S => .ok (.bool b) S
  | _ => .bad
theorem boot_anyNm : ∀ stop, bootBuiltins (anyNm stop) = some (.builtin (if stop then "any" else "all"))
  | true => boot_any
  | false => by first | rfl | decide | kernel_rfl
theorem over_gen {A : Around} {elt tg iter : Expr} {ifs : List Expr} {scope : Scope} {pos : Pos} {it acc : Value} {env : Env} : A.over (.compLoop (.GeneratorExp elt [⟨tg, iter, ifs, 0⟩] scope pos) 0 it acc env) [] = A.deeper env := by
  first
    | rfl
    | (obtain ⟨hd, d, fr, gs, u⟩ := A; simp [Around.over, Around.deeper, marksOver, frameCount, unitsOf, envsOf, guardsOf, pushEnvs, pushGuards, Code.envs, Code.env?, Code.isFrame, Code.guards, Code.isGuard, Code.weight, Code.frames, Code.isCreation, Code.isCaller, Code.cUnits])
section
variable {X : Cx} {F : Fx} {elt tg iter : Expr} {ifs : List Expr} {scope : Scope} {own : List (Str × Nat)} {gpos : Pos} {it : FS → Res (List D)} {g : D → FS → Option FS} {t : FS → Res Bool} {fe : FS → Res D} {ts : List Nat}
theorem eval_gen {stop : Bool} {k : Nat} {c P : Addr} {Q0 : Value → Shared → Prop} {pins : List (Addr × Obj)} {s : Shared} {σ : Sl} {H : Hp} {Q : VK}
    (hr : RoomG (k + 1) X.A) (hc : X.calm = true) (hN : X.N.Nodup) (TB : GxR.TabB X.base X.mg c P) (hcode : X.env.code = .ref c) (hP : P ∈ F.tabs) (hi : EI X F tg iter it) (ok : BlkOk X.N X.env.scope scope own) (G : GenSc scope) (hts : ∀ j, j ∈ ts → j ∈ own.map (·.2))
    (hg : ∀ (A' : Around) (s : Shared) (H : Hp) (C : Addr) (cl : List (Str × Addr)) (code : Value) (fp : List Addr) (pn : List (Addr × Obj)), RoomG k A' → EG (gbX X A' s H (genEnv scope cl C code builtinsNs X.env) fp pn) F tg ts g)
    (ht : ∀ (A' : Around) (s : Shared) (H : Hp) (C : Addr) (cl : List (Str × Addr)) (code : Value) (fp : List Addr) (pn : List (Addr × Obj)), RoomG k A' → ETs (gbX X A' s H (genEnv scope cl C code builtinsNs X.env) fp pn) F ifs t)
    (he : ∀ (A' : Around) (s : Shared) (H : Hp) (C : Addr) (cl : List (Str × Addr)) (code : Value) (fp : List Addr) (pn : List (Addr × Obj)), RoomG k A' → ED (gbX X A' s H (genEnv scope cl C code builtinsNs X.env) fp pn) F elt fe)
    (hs : ∀ x, genFold iter X.env x = pure x) (I : Inv X pins σ H s) (h : rdG X.K F PR (fAny stop it g t fe (own.map (·.2))) σ H Q)
    (hQ : ∀ (a : Addr) (gi : Nat) (go : Obj) (gs : GenState) (s5 : Shared) (Y : Cx) (n : Nat), s5.heap.IsGen a gi → s5.heap.NoLimit → s5.gens[gi]? = some gs → Y.prog = X.prog → Y.w = X.w → Y.pn = [(a, go)] → (∀ h : Heap, h.get? a = some go → h.IsGen a gi) →
      gs.Goes (model X.prog X.w) X.A.in1.in1 (GRr Y stop fun b H' => Q (.bl b) H') (GYp Y stop fun b H' => Q (.bl b) H') n (.send .none) (s5.setGen gi .running) → (∀ H' σ' pins' s', Inv Y pins' σ' H' s' → Inv X pins σ H' s') → Q0 (.ref a) s5) :
    wpAny (model X.prog X.w) X.A (eval (.GeneratorExp elt [⟨tg, iter, ifs, 0⟩] scope gpos) X.env) Q0 X.xe s := by
  obtain ⟨S, r, p⟩ := h
  have hfree : ∀ y ∈ scope.names, y.2 = .free → ∃ c, X.env.cells.lookup y.1 = some c := fun y hy e => by
    rcases ok.free y hy e with k | k
    · exact I.ok.has _ (.inl k)
    · exact I.ok.has _ (.inr k)
  unfold fAny bnd at p
  have hit : rdI X.K F it σ H fun J H1 => ∃ S1 ds, Rel X.K F S1 σ H1 ∧ Pers H H1 ∧ Yields X.K J H1 ds ∧ postT X.K F (anyF stop g t fe (own.map (·.2)) ds S1) σ H1 fun b H' => Q (.bl b) H' := by
    refine ⟨S, r, ?_⟩
    cases e : it S with
    | exn e2 S1 => rw [e] at p; exact p
    | bad => rw [e] at p; exact p
    | ok ds S1 =>
      rw [e] at p
      intro J H1 p1 r1 y
      refine ⟨S1, ds, r1, p1, y, ?_⟩
      simp only [Res.bind_ok] at p
      cases e2 : anyF stop g t fe (own.map (·.2)) ds S1 with
      | ok b S2 => rw [e2] at p; exact fun H' p2 r2 => p (.bl b) H' (p1.trans p2) r2 (.bl b)
      | exn e3 S2 => rw [e2] at p; exact p.elim
      | bad => rw [e2] at p; exact p
  refine wpAny_GeneratorExp_make G.co (closure_ok hfree) G.nc G.dot ok.kind hr.rm.depth ?_ hs
  refine thn (hi.run pins s σ H _ I hit) fun xv s1 hx => thn hx fun itv s2 h2 => ?_
  obtain ⟨it, fp, tn, J, H2, e, I2, T, st2, f2, S1, ds, r2, p2, y2, q⟩ := h2
  subst e
  obtain ⟨ps, hPt, htr⟩ := r2.tabs P hP
  have hPs : s2.heap.get? P = some { cls := .none, data := .fields ps } := I2.hok P _ hPt
  have cd : PySem.W.CodeHd s2.heap c P := TB.code.keeps fun b u e => I2.bk b u e
  have nP : ∀ b ∈ fp, b ≠ P := fun b hb z => by
    have := (f2 b hb).1
    rw [z, hPt] at this; cases this
  have szb : ∀ b ∈ fp, ∃ o, s2.heap.get? b = some o := fun b hb => let ⟨o, e, _⟩ := T.obj _ _ st2 b hb; ⟨o, e⟩
  have cont : ∀ (code : Value) (h3 : Heap) (tk : Nat) (ps' : Array Value), Heap.ExtBut P s2.heap h3 → h3.get? P = some { cls := .none, data := .fields ps' } → (∃ more, ps' = ps ++ more) → TriplesOk ps'.toList →
      wpAny (model X.prog X.w) X.A (builtinsFor X.env.globals X.env.builtins) (fun bi s₄ => ∀ h', h'.Ns s₄.heap.objs.size (fun y => if y = ".0" then some (.ref it) else none) → Heap.SameBut s₄.heap.objs.size (s₄.heap.push { cls := .type "frame", data := .dict #[] }) h' →
          Q0 (.ref h'.objs.size) { s₄ with
            gens := s₄.gens.push (.fresh (.compStart (.GeneratorExp elt [⟨tg, iter, ifs, 0⟩] scope gpos) 0 (.ref it) .none (genEnv scope (cloFrom X.env.cells scope.names []) s₄.heap.objs.size code bi X.env))),
            toks := s₄.toks + 1 + 1 + 1,
            heap := h'.push { cls := .type "generator", data := .fields #[.int s₄.gens.size 0, .str "<genexpr>" (s₄.toks + 1), .str (X.env.qual ++ "<genexpr>") (s₄.toks + 1 + 1)] } }) X.xe { s2 with heap := h3, toks := tk } := by
    intro code h3 tk ps' hx hP3 hmore ht3
    obtain ⟨more, em⟩ := hmore
    have I3 := GxR.inv_tab (more := more) (h' := h3) (g' := s2.gens) (d' := s2.drawn) (t' := tk) I2 hPt (fun b o hb e => hx b o hb e) (by rw [← em]; exact hP3) I2.bare
    rw [← em] at I3
    have r3 : Rel X.K F S1 σ (upd H2 P (.tbl ps')) := r2.grow hPt ht3
    have pp3 : Pers H2 (upd H2 P (.tbl ps')) := pers_grow hPt
    generalize hH3 : upd H2 P (.tbl ps') = H3 at I3 r3 pp3
    have n3 : ∀ b ∈ fp, H3 b = none := fun b hb => by rw [← hH3, upd_ne (nP b hb)]; exact (f2 b hb).1
    generalize hs3 : ({ s2 with heap := h3, toks := tk } : Shared) = s3 at *
    have hh3 : s3.heap = h3 := by rw [← hs3]
    have f3 : ∀ b ∈ fp, FpOk X pins H3 b ∧ b < s3.heap.objs.size := fun b hb => by
      obtain ⟨o, e⟩ := szb b hb
      exact ⟨⟨n3 b hb, (f2 b hb).2⟩, by rw [hh3]; exact Heap.lt_size (hx b o (nP b hb) e)⟩
    have st3 : tn 0 s3.heap := T.keep _ _ _ st2 fun b hb o e => by rw [hh3]; exact hx b o (nP b hb) e
    obtain ⟨bm, ob, e1, e2, e3, e4, e5, e6, e7, e8⟩ := TB.bm
    refine wpAny_builtinsFor (m := X.mg) (by rw [I3.ok.glob]; exact I3.mod.glob.keeps I3.bk) e1 e2 (I3.bk _ _ e5) e6 e7 e8 ?_
    intro h' hn' hs'
    have keep' : ∀ b o, s3.heap.get? b = some o → h'.get? b = some o := fun b o e => hs'.extBut b o (Nat.ne_of_lt (Heap.lt_size e)) (Heap.get?_push_of_some _ e)
    generalize hgo : ({ cls := .type "generator", data := .fields #[.int s3.gens.size 0, .str "<genexpr>" (s3.toks + 1), .str (X.env.qual ++ "<genexpr>") (s3.toks + 1 + 1)] } : Obj) = go
    have hpush : (h'.push go).get? h'.objs.size = some go := by rw [← hgo]; exact Heap.get?_push_size _ rfl
    have isG : ∀ h : Heap, h.get? h'.objs.size = some go → h.IsGen h'.objs.size s3.gens.size := fun h e => ⟨go, _, _, e, by rw [← hgo], by rw [← hgo], by rw [← hgo]⟩
    have hgc : ∀ v, go.data ≠ .cell v := fun v z => by rw [← hgo] at z; cases z
    let genv := genEnv scope (cloFrom X.env.cells scope.names []) s3.heap.objs.size code builtinsNs X.env
    let A' := X.A.in1.in1.deeper genv
    have hr' : RoomG k A' := ⟨⟨hr.rm.hd, by have := hr.rm.dp; show X.A.depth + 1 + 3 * k + 5 < _; omega, by have := hr.rm.un; show X.A.units + 1 + 1 + 3 + 16 * k + 200 < _; omega⟩, hr.gd⟩
    have hfr : A'.frames = some (genv :: X.stack) := Around.frames_deeper (show X.A.in1.in1.frames = some X.stack from I3.ok.frames)
    have I4 := gen_start (A' := A') (code := code) (go := go) (gs := .fresh (.compStart (.GeneratorExp elt [⟨tg, iter, ifs, 0⟩] scope gpos) 0 (.ref it) .none genv)) (tk := s3.toks + 1 + 1 + 1) I3 ok G.nc hN f3 (fun _ => hr.rm.hd) hfr hn' keep' hgc hpush rfl
    have stat : ∀ (σ' : Sl) (H' : Hp) (s' : Shared), Inv (gbX X A' s3 H3 genv fp [(h'.objs.size, go)]) [] σ' H' s' → (∀ b ∈ fp, H' b = none) → ∀ b ∈ fp, FpOk (gbX X A' s3 H3 genv fp [(h'.objs.size, go)]) [] H' b := fun σ' H' s' I' hn b hb =>
      ⟨hn b hb, (I'.ok.exf b hb).1, I'.ok.exfs b hb, .inl hb, fun x c e => (I'.ok.exf b hb).2 x c e, fun p hp => by
        have hp2 : p ∈ [(h'.objs.size, go)] := by simpa using hp
        rw [List.mem_singleton.mp hp2]
        exact Nat.ne_of_gt (Nat.lt_trans (f3 b hb).2 hn'.lt)⟩
    have loop := fun (s₀ s' : Shared) (w : Woken { s3 with gens := s3.gens.push (.fresh (.compStart (.GeneratorExp elt [⟨tg, iter, ifs, 0⟩] scope gpos) 0 (.ref it) .none genv)), toks := s3.toks + 1 + 1 + 1, heap := h'.push go } s') =>
      gen_loop (Y := gbX X A' s3 H3 genv fp [(h'.objs.size, go)]) (F := F) (A := X.A.in1.in1) (stop := stop) (Q := fun b H' => Q (.bl b) H') (elt := elt) (iter := iter) (pos := gpos) (scope := scope) (vs := own.map (·.2)) (σ := σ) (H1 := H2) (ds := ds) hc (fun _ _ z => z) over_gen G.co T stat y2
        (hg A' s3 H3 _ _ code fp _ hr') (ht A' s3 H3 _ _ code fp _ hr') (he A' s3 H3 _ _ code fp _ hr') hts ds.length 0 ds.length s₀ s' S1 H3 (Nat.sub_zero _) (Nat.zero_le _) (Nat.le_refl _) (inv_same I4 w.heap w.os w.bare)
        (T.keep _ _ _ st3 fun b _ o e => by rw [w.heap]; exact Heap.get?_push_of_some _ (keep' b o e)) n3 pp3 r3 (by rw [List.drop_zero]; exact postT.later pp3 q)
    refine hQ _ s3.gens.size go _ _ (gbX X A' s3 H3 genv fp [(h'.objs.size, go)]) ds.length (isG _ hpush) I4.nolimit (Array.getElem?_push_size ..) rfl rfl rfl isG ?_ fun H' σ' pins' s' I' => ?_
    · refine ⟨rfl, ?_⟩
      have wk : Woken { s3 with gens := s3.gens.push (.fresh (.compStart (.GeneratorExp elt [⟨tg, iter, ifs, 0⟩] scope gpos) 0 (.ref it) .none genv)), toks := s3.toks + 1 + 1 + 1, heap := h'.push go }
          (({ s3 with gens := s3.gens.push (.fresh (.compStart (.GeneratorExp elt [⟨tg, iter, ifs, 0⟩] scope gpos) 0 (.ref it) .none genv)), toks := s3.toks + 1 + 1 + 1, heap := h'.push go } : Shared).setGen s3.gens.size .running) := ⟨rfl, rfl, allBare_setGen I4.bare rfl⟩
      exact gen_begin (Y := gbX X A' s3 H3 genv fp [(h'.objs.size, go)]) T (T.keep _ _ _ st3 fun b _ o e => Heap.get?_push_of_some _ (keep' b o e)) (loop _ _ wk)
    · exact I3.call' (ch := fp) I'.os I'.base I'.hok I'.bare fun b hb => ⟨(f3 b hb).1.2.2.2.1, (f3 b hb).1.2.1, (f3 b hb).1.2.2.2.2.1, (f3 b hb).1.2.2.2.2.2⟩
  refine ⟨I2.nolimit, ?_⟩
  cases hf : codeAmong gpos ps.toList with
  | none =>
    refine wpAny_genexprCodeX hcode (cd.code hPs htr) (cd.tab hPs) hf fun c' h' tk hx hge hlt hco' _ htab' _ => ?_
    obtain ⟨o1, vs, f1, tf, fl, tg, inF, tx, tt, op, _, _, _, _, _, _, _, _, _, htr', _⟩ := hco'
    exact cont _ h' tk _ hx htab'.2 ⟨_, rfl⟩ htr'
  | some cv =>
    refine wpAny_genexprCode_hit hcode (cd.code hPs htr) hf ?_
    exact cont cv s2.heap s2.toks ps (Heap.ExtBut.refl _ _) hPs ⟨#[], by simp⟩ htr
end
end Fz
namespace Fz
open PySem PySem.Spec PyProof.Rows L2 GenW
section
variable {X : Cx} {F : Fx} {elt tg iter : Expr} {ifs : List Expr} {scope : Scope} {own : List (Str × Nat)} {gpos : Pos} {it : FS → Res (List D)} {g : D → FS → Option FS} {t : FS → Res Bool} {fe : FS → Res D} {ts : List Nat}
theorem e_any (stop : Bool) {k : Nat} {c P : Addr} {p pos : Pos}
    (hr : RoomG (k + 1) X.A) (hc : X.calm = true) (hN : X.N.Nodup) (hgl : Gl X (anyNm stop)) (hm : X.mg (anyNm stop) = none) (TB : GxR.TabB X.base X.mg c P) (hcode : X.env.code = .ref c) (hP : P ∈ F.tabs) (hi : EI X F tg iter it) (ok : BlkOk X.N X.env.scope scope own) (G : GenSc scope) (hts : ∀ j, j ∈ ts → j ∈ own.map (·.2))
    (hg : ∀ (A' : Around) (s : Shared) (H : Hp) (C : Addr) (cl : List (Str × Addr)) (code : Value) (fp : List Addr) (pn : List (Addr × Obj)), RoomG k A' → EG (gbX X A' s H (genEnv scope cl C code builtinsNs X.env) fp pn) F tg ts g)
    (ht : ∀ (A' : Around) (s : Shared) (H : Hp) (C : Addr) (cl : List (Str × Addr)) (code : Value) (fp : List Addr) (pn : List (Addr × Obj)), RoomG k A' → ETs (gbX X A' s H (genEnv scope cl C code builtinsNs X.env) fp pn) F ifs t)
    (he : ∀ (A' : Around) (s : Shared) (H : Hp) (C : Addr) (cl : List (Str × Addr)) (code : Value) (fp : List Addr) (pn : List (Addr × Obj)), RoomG k A' → ED (gbX X A' s H (genEnv scope cl C code builtinsNs X.env) fp pn) F elt fe)
    (hs : ∀ x, genFold iter X.env x = pure x := by intro _; rfl)
    (hea : starEach [.GeneratorExp elt [⟨tg, iter, ifs, 0⟩] scope gpos] X.env = (false, eval (.GeneratorExp elt [⟨tg, iter, ifs, 0⟩] scope gpos) X.env) :: starEach [] X.env := by rfl) :
    ED X F (.Call (.Name (anyNm stop) p) [.GeneratorExp elt [⟨tg, iter, ifs, 0⟩] scope gpos] [] pos) (fAny stop it g t fe (own.map (·.2))) := by
  refine ⟨fun pins s σ H Q I h => ?_⟩
  refine wpAny_Call_Name_kw (ld_blt I hgl hm (boot_anyNm stop) ?_ (by cases stop <;> decide) (by cases stop <;> decide))
  refine PyProof.Rows.callWith_builtin1 ?_ hea (by rfl)
  rw [hea]
  show wpAny _ _ (spliced ((false, eval (.GeneratorExp elt [⟨tg, iter, ifs, 0⟩] scope gpos) X.env) :: backTo pos (starEach [] X.env))) _ _ s
  refine Calls.spliced_cons (eval_gen (stop := stop) hr hc hN TB hcode hP hi ok G hts hg ht he hs I h fun a gi go gs s5 Y n hG hl hgs hp hw hpn hgo hgoes hback => ?_)
  refine Calls.spliced_nil ?_
  have fin : ∀ (b : Bool) (H' : Hp) (σ' : List (Option V)) (pins' : List (Addr × Obj)) (s' : Shared), Inv Y pins' σ' H' s' → Q (.bl b) H' → EP X pins σ Q (.bool b) s' := fun b H' σ' pins' s' I' q => ⟨.bl b, H', hback _ _ _ _ I', rfl, q⟩
  have U := use_gen (Y := Y) (A := X.A) (stop := stop) (Q := fun b H' => Q (.bl b) H') (RR := fun r s' => match r with | .ok (.ret v) => EP X pins σ Q v s' | .ok _ => False | .error e => X.xe e s') hr.rm.hd hr.rm.depth hpn hgo (fun σ pins H s I => I.nolimit) (fun b H' σ' pins' s' I' q => fin b H' σ' pins' s' I' q) n gs s5 hG hl hgs (by rw [hp, hw]; exact hgoes)
  rw [hp, hw] at U
  cases stop with
  | true =>
    refine call_function_tree PySem.F.kind_any PySem.F.plain_any PySem.F.entry_any (PySem.F.args_any1 _) ?_
    unfold Builtin.«any»
    refine wpAny_bind (m := oneArg "any" _) (wpAny_pure ?_)
    refine wpAny_bind (wpAny_pyIter_gen hG ?_)
    exact wpAny_pure ⟨plainId_quiet PySem.F.plain_any_loop _, U⟩
  | false =>
    refine call_function_tree PySem.F.kind_all PySem.F.plain_all PySem.F.entry_all (PySem.F.args_all1 _) ?_
    unfold Builtin.«all»
    refine wpAny_bind (m := oneArg "all" _) (wpAny_pure ?_)
    refine wpAny_bind (wpAny_pyIter_gen hG ?_)
    exact wpAny_pure ⟨plainId_quiet PySem.F.plain_all_loop _, U⟩
end
end Fz
end

section
set_option Elab.async false
set_option linter.all false
set_option maxRecDepth 100000
set_option maxHeartbeats 4000000
/-! F13: the head with code objects' tables; a def whose code object is known. -/
namespace Fz
open PySem PySem.Spec PyProof.Rows L2
/-- the def's code object, the code object's table -/
def codeA (K : Fg) (p : Str × Option Str) : Addr := match K.lookup (He.fAd K p) with
  | some ⟨_, _, .func fd, _⟩ => (match fd.code with
    | .ref c => c
    | _ => 0)
  | _ => 0
def tabA (K : Fg) (c : Addr) : Addr := match K.lookup c with
  | some ⟨_, _, .fields vs, _⟩ => (match (vs[11]? : Option Value) with
    | some (.ref P) => P
    | _ => 0)
  | _ => 0
def tabOf (K : Fg) (p : Str × Option Str) : Addr := tabA K (codeA K p)
def isRefC (K : Fg) (p : Str × Option Str) : Bool := match K.lookup (He.fAd K p) with
  | some ⟨_, _, .func fd, _⟩ => (match fd.code with
    | .ref _ => true
    | _ => false)
  | _ => false
def emptyT : Option Obj → Bool
  | some ⟨.none, none, .fields vs, sl⟩ => vs.isEmpty && sl.isEmpty
  | _ => false
theorem emptyT_ok {o : Option Obj} (h : emptyT o = true) : o = some { cls := .none, data := .fields #[] } := by
  unfold emptyT at h
  split at h
  · rename_i vs sl
    obtain ⟨h1, h2⟩ := He.ba h
    have e1 : vs = #[] := Array.isEmpty_iff.mp h1
    have e2 : sl = #[] := Array.isEmpty_iff.mp h2
    subst e1 e2; rfl
  · cases h
abbrev DP := Str × Option Str
/-- the part of the heap that is looked at: without the tables -/
def kOf (n : Nat) (ts : List DP) (g : Addr → Option Obj) : Fg := let as := He.asD g n; let K0 := He.frG g as; let tb := ts.map (tabOf K0); He.frG g (as.filter fun a => !(tb.contains a))
def tabB (g : Addr → Option Obj) (K : Fg) (p : DP) : Bool := isRefC K p && (PySem.W.codeHdIn K (codeA K p) (tabOf K p) && (emptyT (g (tabOf K p)) && (K.lookup (tabOf K p)).isNone))
abbrev AlC : Type := He.AlD × Bool
def obsC (n : Nat) (fa : List He.Fa) (fn : List He.DefD) (ts : List DP) (g : Addr → Option Obj) : AlC := let K := kOf n ts g; (He.obsD fa fn K, ts.all (tabB g K))
structure TabS (K : Fg) (h : Heap) (p : DP) : Prop where
  ref : isRefC K p = true
  hd : PySem.W.codeHdIn K (codeA K p) (tabOf K p) = true
  at_ : h.get? (tabOf K p) = some { cls := .none, data := .fields #[] }
  no : K.lookup (tabOf K p) = none
theorem tabB_ok {h : Heap} {K : Fg} {p : DP} (e : tabB h.get? K p = true) : TabS K h p := by
  obtain ⟨e1, e2⟩ := He.ba e
  obtain ⟨e3, e4⟩ := He.ba e2
  obtain ⟨e5, e6⟩ := He.ba e4
  exact ⟨e1, e3, emptyT_ok e5, by simpa using e6⟩
def hookC (n : Nat) (fa : List He.Fa) (fn : List He.DefD) (ts : List DP) : PySem.W.Hook where
  α := AlC
  obs := fun s => obsC n fa fn ts s.heap.get?
  val := fun _ => (He.valD fn, true)
  says := fun _ h => ∃ K : PySem.W.Frag, K.In h ∧ He.SaysD fa fn K ∧ ∀ p ∈ ts, TabS K h p
  of := fun _ s e => ⟨kOf n ts s.heap.get?, He.frG_in, congrArg (fun z : AlC => z.1) e, fun p hp => tabB_ok (List.all_eq_true.mp (congrArg (fun z : AlC => z.2) e) p hp)⟩
  keeps := fun _ _ _ ⟨K, hK, c, t⟩ k => ⟨K, PySem.W.Frag.In.keeps hK k, c, fun p hp => let ⟨a, b, d, e⟩ := t p hp; ⟨a, b, k _ _ d, e⟩⟩
theorem obsC_eq {n : Nat} {fa : List He.Fa} {fn : List He.DefD} {ts : List DP} {g : Addr → Option Obj} {s : Shared} (h : ∀ a, g a = s.heap.get? a) : obsC n fa fn ts g = (hookC n fa fn ts).obs s := by
  have e : g = s.heap.get? := funext h
  rw [e] <;> rfl
theorem code_of {K : Fg} {p : DP} {x qual : Str} {params : Arguments} {body : List Stmt} {scope : Scope} {dvs : List V} {kws : List (Str × V)} {fd : FuncData} (F : FunD K x qual params body scope dvs kws (He.fAd K p) fd) (h : isRefC K p = true) : fd.code = .ref (codeA K p) := by
  obtain ⟨oc, od, dV, kV, doc, pm, an, cdv, ct, osl, e, lk, _⟩ := F.ex
  unfold isRefC at h
  unfold codeA
  rw [lk] at h ⊢
  simp only at h ⊢
  split at h
  · rename_i c hc
    rw [hc]
  · cases h
end Fz
end

section
set_option Elab.async false
set_option linter.all false
set_option maxRecDepth 100000
set_option maxHeartbeats 4000000
/-! F14: the law's def at the head's end: the script as data, the tables. -/
namespace Fz
open PySem PySem.Spec PyProof.Rows L2
def scriptD (ns : List Int) : D := .list (ns.map .int)
theorem pdInts {K : Fg} {H : Hp} : ∀ ns : List Int, PdAll K H (ns.map V.int) (ns.map .int)
  | [] => .nil
  | i :: r => .cons (.int i) (pdInts r)
theorem spF_script {K : Fg} {w : World} {T : List Addr} {den : Den} {a : Addr} {ns : List Int} {l : List SV} {H : Hp} {Q : VK} {E : XK} (h : FrzL K H a (ns.map V.int)) (hT : ∀ P ∈ T, TabOk H P) (hd : den [.d (scriptD ns)] = .ok (.d (.bool true)) l) (q : ∀ H', Q (.bl true) H') : spF K w T 1 den [.ref a] H Q E := by
  refine ⟨[.d (scriptD ns)], rfl, ⟨rfl, fun i sv e => ?_, fun i j b ne ⟨ob, hi⟩ => ?_⟩, hT, ?_⟩
  · cases i with
    | zero => simp at e; subst e; exact ⟨_, rfl, .lst h (pdInts ns)⟩
    | succ i => simp at e
  · cases i with
    | zero => simp at hi
    | succ i => simp at hi
  · rw [hd]
    intro x H' _ r
    cases r
    exact q H'
/-- what is tracked when the law is called: its code's tables, the script -/
def lawH (ex : Bool) (a : Addr) (o : Obj) (xs : List V) (tb : List Addr) : Hp := fun b => if b ∈ tb then some (.tbl #[]) else if ex = true ∧ b = a then some (.frz o (.lst xs)) else none
section
variable {ex : Bool} {a : Addr} {o : Obj} {xs : List V} {tb : List Addr} {b : Addr}
theorem lawH_tab (h : b ∈ tb) : lawH ex a o xs tb b = some (.tbl #[]) := if_pos h
theorem lawH_script (h : a ∉ tb) : lawH true a o xs tb a = some (.frz o (.lst xs)) := by unfold lawH; rw [if_neg h, if_pos ⟨rfl, rfl⟩]
theorem lawH_off (h : b ∉ tb) (n : ¬ (ex = true ∧ b = a)) : lawH ex a o xs tb b = none := by unfold lawH; rw [if_neg h, if_neg n]
theorem lawH_cases {u : HO} (e : lawH ex a o xs tb b = some u) : (b ∈ tb ∧ u = .tbl #[]) ∨ (ex = true ∧ b = a ∧ u = .frz o (.lst xs)) := by
  by_cases h : b ∈ tb
  · rw [lawH_tab h] at e; cases e; exact .inl ⟨h, rfl⟩
  · by_cases n : ex = true ∧ b = a
    · unfold lawH at e
      rw [if_neg h, if_pos n] at e
      cases e
      exact .inr ⟨n.1, n.2, rfl⟩
    · rw [lawH_off h n] at e; cases e
end
theorem law_end {P : Program} {w : World} {K : Fg} {mg mb : Str → Option Value} {k : Nat} {fa a : Addr} {cs : List (Addr × Addr)} {fd : FuncData} {x : Str} {s : Shared} {vs : List Value} {ns : List Int} {den : Den} {l : List SV}
    (kin : K.In s.heap) (gns : s.heap.Ns mainGlobals mg) (bns : s.heap.Ns builtinsNs mb) (bbt : ∀ x : Str, x ≠ "__name__" → mb x = bootBuiltins x) (nlim : s.heap.NoLimit) (ng : s.gens = #[])
    (tabs : ∀ p ∈ cs, s.heap.get? p.2 = some { cls := .none, data := .fields #[] }) (tK : ∀ p ∈ cs, K.lookup p.2 = none) (cds : ∀ p ∈ cs, PySem.W.CodeHd s.heap p.1 p.2)
    (bmod : ∃ (bm : Addr) (ob : Obj), mg "__builtins__" = some (.ref bm) ∧ bm ≠ builtinsNs ∧ s.heap.get? bm = some ob ∧ ob.cls = .type "module" ∧ ob.dict = some builtinsNs ∧ ob.data = .plain)
    (hobj : s.heap.get? a = some { cls := .type "list", data := .seq vs.toArray }) (hints : IntsAre vs ns) (hlen : ns.length ≤ sizeLine) (room : RoomG k callerA)
    (hF : ∀ base : Heap, K.In base → base.Ns mainGlobals mg → (∀ p ∈ cs, GxR.TabB base mg p.1 p.2) → GOk P w K mg base k fa fd [x] (spF K w (cs.map (·.2)) 1 den)) (bd : ∀ (s : Shared) (u : Value), BindsTo s fd ⟨[u], []⟩ [(x, u)])
    (hd : den [.d (scriptD ns)] = .ok (.d (.bool true)) l) :
    codeAny (model P w) callerA (.call (.ref fa) ⟨[.ref a], []⟩) (fun r s' => r = .ok (.ret (.bool true)) ∧ OldK s.heap s'.heap ∧ s'.os = s.os ∧ AllBare s'.gens) s := by
  have rv := vals_ints hints
  let tb := cs.map (·.2)
  let o : Obj := { cls := .type "list", data := .seq vs.toArray }
  have tabAt : ∀ b ∈ tb, s.heap.get? b = some { cls := .none, data := .fields #[] } := fun b hb => by
    obtain ⟨p, hp, rfl⟩ := List.mem_map.mp hb
    exact tabs p hp
  have aOff : a ∉ tb := fun z => by
    have q := (tabAt a z).symm.trans hobj
    cases q
  let ex := (K.lookup a).isNone
  let H : Hp := lawH ex a o (ns.map V.int) tb
  have hok : HOk P w H s.heap := fun b u e => by
    rcases lawH_cases e with ⟨hb, rfl⟩ | ⟨_, rfl, rfl⟩
    · exact tabAt b hb
    · exact ⟨hobj, by rw [List.length_map]; exact hlen, vs, _, rv, hobj⟩
  -- what is neither a list like the script's nor a table is not tracked
  have off : ∀ {b : Addr} {ob : Obj}, s.heap.get? b = some ob → ob.data ≠ .fields #[] → (∀ its n, ob.data ≠ .seq its n) → H b = none := fun {b ob} e n1 n2 => by
    cases q : H b with
    | none => rfl
    | some u =>
      rcases lawH_cases q with ⟨hb, _⟩ | ⟨_, hb, _⟩
      · have := e.symm.trans (tabAt b hb)
        cases this
        exact (n1 rfl).elim
      · rw [hb] at e
        have := e.symm.trans hobj
        cases this
        exact (n2 _ _ rfl).elim
  have seen : ∀ {b : Addr} {ob : Obj}, s.heap.get? b = some ob → ob.data ≠ .fields #[] → (∀ its n, ob.data ≠ .seq its n) → (hidT s.heap H).get? b = some ob := fun e n1 n2 => hidT_get e (off e n1 n2)
  have nsH : ∀ {b : Addr} {m : Str → Option Value}, s.heap.Ns b m → (hidT s.heap H).Ns b m := fun ⟨ob, es, ep, e, d, r⟩ => ⟨ob, es, ep, seen e (fun z => by rw [d] at z; cases z) (fun its n z => by rw [d] at z; cases z), d, r⟩
  have kinH : K.In (hidT s.heap H) := fun b ob e => hidT_get (kin b ob e) (by
    cases q : H b with
    | none => rfl
    | some u =>
      rcases lawH_cases q with ⟨hb, _⟩ | ⟨hx, hb, _⟩
      · obtain ⟨p, hp, rfl⟩ := List.mem_map.mp hb
        rw [tK p hp] at e; cases e
      · have hx' : (K.lookup a).isNone = true := hx
        rw [hb] at e
        rw [e] at hx'; cases hx')
  have nGT : ∀ p ∈ cs, mainGlobals ≠ p.2 := fun p hp z => by
    obtain ⟨ob, es, ep, e, d, _⟩ := gns
    rw [z, tabs p hp] at e
    cases e; cases d
  have tbB : ∀ p ∈ cs, GxR.TabB (hidT s.heap H) mg p.1 p.2 := fun p hp => by
    refine ⟨?_, ?_, nGT p hp⟩
    · obtain ⟨ob, us, file, tf, flags, tg, inF, text, tt, e1, r1, r2, r3, rest⟩ := cds p hp
      refine ⟨ob, us, file, tf, flags, tg, inF, text, tt, seen e1 (fun z => ?_) (fun its n z => ?_), r1, r2, r3, rest⟩
      · rw [r2] at z; cases z; simp at r3
      · rw [r2] at z; cases z
    · obtain ⟨bm, ob, b1, b2, b3, b4, b5, b6⟩ := bmod
      refine ⟨bm, ob, b1, b2, fun z => ?_, fun z => ?_, seen b3 (fun y => by rw [b6] at y; cases y) (fun its n y => by rw [b6] at y; cases y), b4, b5, b6⟩
      · obtain ⟨o2, es, ep, e, d, _⟩ := gns
        rw [← z, b3] at e
        cases e
        rw [b6] at d; cases d
      · rw [z, tabs p hp] at b3
        cases b3; cases b6
  have e0 : Env0 P w K mg (hidT s.heap H) callerA [] s H := ⟨rfl, ⟨kinH, nsH gns, ⟨mb, nsH bns, bbt⟩, let ⟨mc, h1, h2⟩ := nlim; ⟨mc, nsH h1, h2⟩⟩, fun b ob e => of_hidT e, Nat.le_of_eq (hidT_size _ _), trivial, fun b hb => (List.not_mem_nil hb).elim, hok, .of_eq ng⟩
  have fz : FrzL K H a (ns.map V.int) := by
    cases q : K.lookup a with
    | none =>
      have hx : ex = true := by show (K.lookup a).isNone = true; rw [q]; rfl
      refine .inl ⟨o, ?_⟩
      show lawH ex a o (ns.map V.int) tb a = _
      rw [hx]; exact lawH_script aOff
    | some ob =>
      have e := (kin a ob q).symm.trans hobj
      cases e
      exact .inr (.inr ⟨_, vs.toArray, _, q, rfl, rfl, rfl, by rw [List.size_toArray, ← rv.length, List.length_map]; exact hlen, by simpa using rv⟩)
  refine codeAny_mono ((hF _ kinH (nsH gns) tbB).go callerA [] s H ⟨[.ref a], []⟩ [.ref a] [.ref a] (fun v _ => v = .bl true) (fun _ _ _ => False) room e0 (bd s (.ref a)) (.cons rfl .nil) (spF_script fz (fun Pt hP => ⟨#[], lawH_tab hP, trivial⟩) hd fun _ => rfl)) fun r s' h => ?_
  match r, h with
  | .ok (.ret u), ⟨v, H', os, bare, un, hok', rr, ev⟩ =>
    have ev : v = .bl true := ev
    subst ev
    obtain rfl : u = Value.bool true := rr
    have grown : ∀ p ∈ cs, ∃ more : Array Value, s'.heap.get? p.2 = some { cls := .none, data := .fields more } := fun p hp => by
      obtain ⟨more, z⟩ := un.tbls p.2 #[] (lawH_tab (List.mem_map_of_mem hp))
      exact ⟨_, hok' p.2 _ z⟩
    have same : ∀ b ob, b ∉ tb → s.heap.get? b = some ob → s'.heap.get? b = some ob := fun b ob nb e => by
      cases q : H b with
      | none => exact un.keep b ob e q (List.not_mem_nil) (List.not_mem_nil)
      | some u =>
        rcases lawH_cases q with ⟨hb, _⟩ | ⟨_, hb, eu⟩
        · exact (nb hb).elim
        · subst eu
          have z := hok' b _ (un.frzs b o _ q)
          rw [hb] at e
          have := e.symm.trans hobj
          cases this
          exact z.1
    refine ⟨rfl, ⟨fun b ob e => ?_, fun b ob e => ?_⟩, os, bare⟩
    · by_cases hb : b ∈ tb
      · obtain ⟨p, hp, rfl⟩ := List.mem_map.mp hb
        obtain ⟨more, hm⟩ := grown p hp
        have := e.symm.trans (tabs p hp)
        cases this
        exact .inr (.inl ⟨((cds p hp).tab (tabs p hp)).isCodeTable, rfl, #[], more, rfl, by rw [Array.empty_append]; exact hm⟩)
      · exact .inl (same b ob hb e)
    · by_cases hb : b ∈ tb
      · obtain ⟨p, hp, rfl⟩ := List.mem_map.mp hb
        obtain ⟨more, hm⟩ := grown p hp
        exact ⟨_, hm⟩
      · exact ⟨ob, same b ob hb e⟩
/-- the walk: what the head says of the law's def -/
theorem walk_F {lw : PySem.W.OpenLaw} {n k : Nat} {q : Program} {loose : List Str} {XP : (Str → Option Value) → Heap → Prop} {YP : World → Heap → Prop} {d : DefRec} {x : Str} (hn : lw.most = some n) (hn2 : n ≤ sizeLine) (hdf : d.params.defaults = []) (room : RoomG k callerA)
    (hF : ∀ (w : World) (mg : Str → Option Value) (fa : Addr) (h : Heap), YP w h → h.Ns mainGlobals mg → mg d.name = some (.ref fa) → ∃ (K : PySem.W.Frag) (cs : List (Addr × Addr)) (fd : FuncData) (den : Den), K.In h ∧
      (∀ p ∈ cs, h.get? p.2 = some { cls := .none, data := .fields #[] }) ∧ (∀ p ∈ cs, K.lookup p.2 = none) ∧ (∀ p ∈ cs, PySem.W.CodeHd h p.1 p.2) ∧ (∀ (s : Shared) (u : Value), BindsTo s fd ⟨[u], []⟩ [(x, u)]) ∧
      (∀ ns : List Int, ns.length ≤ n → (∀ z ∈ ns, Builtin.Int.intBits z ≤ 1048576) → ∃ l, den [.d (scriptD ns)] = .ok (.d (.bool true)) l) ∧
      ∀ base : Heap, K.In base → base.Ns mainGlobals mg → (∀ p ∈ cs, GxR.TabB base mg p.1 p.2) → GOk lw.prog w K mg base k fa fd [x] (spF K w (cs.map (·.2)) 1 den)) :
    PySem.W.WalkO q loose XP YP lw.row.toRowW d [] (fun f vs => PySem.call f vs) := by
  refine Att.attach_callB hn hdf fun w s₀ s mg mb fa o pm cd doc a vs ns G Y ho hd hcd hmg hobj hints hl hbits hg => ?_
  obtain ⟨K, cs, fd, den, kin, t1, t2, t3, bd, hlaw, hG⟩ := hF w mg fa _ Y G.T.g hmg
  obtain ⟨l, hden⟩ := hlaw ns hl hbits
  exact law_end kin G.T.g G.T.b G.T.builtins G.T.nolimit hg t1 t2 t3 G.T.bmain hobj hints (Nat.le_trans hl hn2) room hG bd hden
end Fz
end

section
set_option Elab.async false
set_option linter.all false
set_option maxRecDepth 100000
set_option maxHeartbeats 4000000
/-! F15: what the head tells, packed; defs by it. -/
namespace Fz
open PySem PySem.Spec PyProof.Rows L2
/-- all that the head tells -/
structure HeadC (fa : List He.Fa) (fn : List He.DefD) (ts : List DP) (K : Fg) (mg : Str → Option Value) (base : Heap) (T : List Addr) : Prop where
  says : He.SaysD fa fn K
  kin : K.In base
  gl : base.Ns mainGlobals mg
  rc : ∀ p ∈ ts, isRefC K p = true
  tb : ∀ p ∈ ts, GxR.TabB base mg (codeA K p) (tabOf K p)
  tT : T = ts.map (tabOf K)
section
variable {fa : List He.Fa} {fn : List He.DefD} {ts : List DP} {K : Fg} {mg : Str → Option Value} {base : Heap} {T : List Addr} {P : Program} {w : World}
theorem HeadC.free (C : HeadC fa fn ts K mg base T) (i : Nat) {x : Str} (h : fa[i]? = some (.free x) := by rfl) : mg x = none := He.free_ok C.kin C.gl (C.says.fact i h)
theorem HeadC.glo (C : HeadC fa fn ts K mg base T) (i : Nat) {x : Str} (h : fa[i]? = some (.glo x) := by rfl) : mg x = some (.ref (He.ga K x)) := He.glo_ok C.kin C.gl (C.says.fact i h)
theorem HeadC.int (C : HeadC fa fn ts K mg base T) (i : Nat) {x : Str} {z : Int} (h : fa[i]? = some (.int x z) := by rfl) : ∃ t, mg x = some (.int z t) := He.int_ok C.kin C.gl (C.says.fact i h)
theorem HeadC.tab (C : HeadC fa fn ts K mg base T) (i : Nat) {p : DP} (h : ts[i]? = some p := by rfl) : GxR.TabB base mg (codeA K p) (tabOf K p) ∧ tabOf K p ∈ T := by
  have hm := List.mem_of_getElem? h
  refine ⟨C.tb p hm, ?_⟩
  rw [C.tT]; exact List.mem_map_of_mem hm
theorem e_gint {X : Cx} {F : Fx} {x : Str} {z : Int} {pos : Pos} (hg : Gl X x) (hm : ∃ t, X.mg x = some (.int z t)) (hd : (x == ("__debug__" : Str)) = false := by decide) : ED X F (.Name x pos) (fC (.int z)) := by
  obtain ⟨t, hm⟩ := hm
  exact (pe_glob (v := .int z) hg hm ⟨t, rfl⟩ hd).via fun σ H Q ⟨S, r, p⟩ => p.ok r (.int z)
/-- the context of a def's body -/
abbrev bX (P : Program) (w : World) (K : Fg) (mg : Str → Option Value) (base : Heap) (N : List Str) (qual : Str) (scope : Scope) (f : Addr) (cdv : Value) (A : Around) (outer : List Env) (s : Shared) (H : Hp) (E1 : XK) : Cx := (cxOf CX0 P w K mg base N qual scope f cdv A outer s H E1).nox
/-- a def of the text keeps its promise -/
structure FnF (P : Program) (w : World) (K : Fg) (mg : Str → Option Value) (base : Heap) (T : List Addr) (k : Nat) (d : He.DefD) (x : Str) (ps : List Str) (n : Nat) (den : Den) : Prop where
  ex : ∃ fd, FunD K d.name d.qual d.params d.body d.scope [] (d.kws K) (He.fAd K d.at_) fd ∧ GOk P w K mg base k (He.fAd K d.at_) fd ps (spF K w T n den) ∧ mg x = some (.ref (He.fAd K d.at_))
theorem FnF.toFn {k n : Nat} {d : He.DefD} {x : Str} {ps : List Str} {den : Den} (G : FnF P w K mg base T k d x ps n den)
    (ha : ∀ (kV doc pm : Value) (an : Option Addr) (cdv ct : Value) (us : List Value), us.length = ps.length → bindArgs (PySem.W.fnOf d.name d.qual d.params d.body d.scope .none kV doc pm an cdv ct) ⟨us, []⟩ = pure (ps.zip us)) : Fn P w K mg base T k x ps n den := by
  obtain ⟨fd, FD, F1, hg⟩ := G.ex
  exact ⟨_, fd, F1, hg, FD.kp, FD.bindsN ha⟩
theorem FnF.toFnK {k n m : Nat} {d : He.DefD} {x : Str} {ps ks : List Str} {perm : List Nat} {den : Den} (G : FnF P w K mg base T k d x ps n den)
    (h : ∀ (kV doc pm : Value) (an : Option Addr) (cdv ct : Value) (us ws : List Value), us.length = m → ws.length = ks.length → bindArgs (PySem.W.fnOf d.name d.qual d.params d.body d.scope .none kV doc pm an cdv ct) ⟨us, ks.zip ws⟩ = pure (ps.zip (permL perm (us ++ ws)))) : FnK P w K mg base T k x ps n den m ks perm := by
  obtain ⟨fd, FD, F1, hg⟩ := G.ex
  exact ⟨_, fd, F1, hg, FD.kp, kwF_of FD h⟩
/-- a def by its body -/
theorem fn_mk {k n : Nat} {d : He.DefD} {x : Str} {N ps : List Str} {fb : FS → SRes} (C : HeadC fa fn ts K mg base T) (i j : Nat) (S : FnScope N ps d.scope)
    (hb : ∀ (cdv : Value) (A : Around) (outer : List Env) (s : Shared) (H : Hp) (E1 : XK) (H0 : Hp) (pins : List (Nat × Addr)) (E : XK), RoomG k (A.deeper (envOfC d.qual d.scope s.heap.objs.size (He.fAd K d.at_) cdv)) → EB (bX P w K mg base N d.qual d.scope (He.fAd K d.at_) cdv A outer s H E1) ⟨H0, pins, T, [], E, w⟩ d.body fb)
    (hn : N.length = n := by rfl) (hl : ps.length ≤ N.length := by decide) (hi : fn[i]? = some d := by rfl) (hj : fa[j]? = some (.glo x) := by rfl) (hat : d.at_ = (x, none) := by rfl) (hd : d.dfl = [] := by rfl) : FnF P w K mg base T (k + 1) d x ps ps.length (denOf n fb) := by
  obtain ⟨fd, FD⟩ := C.says.def_ i hi
  have FD' : FunD K d.name d.qual d.params d.body d.scope [] (d.kws K) (He.fAd K d.at_) fd := by
    have e : d.dvs K = [] := by unfold He.DefD.dvs; rw [hd]; rfl
    rw [← e]; exact FD
  have hg : mg x = some (.ref (He.fAd K d.at_)) := by
    rw [hat]; exact C.glo j hj
  subst hn
  exact ⟨fd, FD', def_ok FD' S hl (hb fd.code), hg⟩
/-- a def with generator expressions -/
theorem fn_mkC {k n : Nat} {d : He.DefD} {x : Str} {N ps : List Str} {fb : FS → SRes} (C : HeadC fa fn ts K mg base T) (i j l : Nat) (S : FnScope N ps d.scope)
    (hb : ∀ (A : Around) (outer : List Env) (s : Shared) (H : Hp) (E1 : XK) (H0 : Hp) (pins : List (Nat × Addr)) (E : XK), RoomG k (A.deeper (envOfC d.qual d.scope s.heap.objs.size (He.fAd K d.at_) (.ref (codeA K d.at_)))) → EB (bX P w K mg base N d.qual d.scope (He.fAd K d.at_) (.ref (codeA K d.at_)) A outer s H E1) ⟨H0, pins, T, [], E, w⟩ d.body fb)
    (hn : N.length = n := by rfl) (hl : ps.length ≤ N.length := by decide) (hi : fn[i]? = some d := by rfl) (hj : fa[j]? = some (.glo x) := by rfl) (ht : ts[l]? = some d.at_ := by rfl) (hat : d.at_ = (x, none) := by rfl) (hd : d.dfl = [] := by rfl) : FnF P w K mg base T (k + 1) d x ps ps.length (denOf n fb) := by
  obtain ⟨fd, FD⟩ := C.says.def_ i hi
  have FD' : FunD K d.name d.qual d.params d.body d.scope [] (d.kws K) (He.fAd K d.at_) fd := by
    have e : d.dvs K = [] := by unfold He.DefD.dvs; rw [hd]; rfl
    rw [← e]; exact FD
  have hg : mg x = some (.ref (He.fAd K d.at_)) := by
    rw [hat]; exact C.glo j hj
  subst hn
  have ec := code_of FD' (C.rc _ (List.mem_of_getElem? ht))
  exact ⟨fd, FD', def_ok FD' S hl (by rw [ec]; exact hb), hg⟩
/-- of a den that never answers nothing is asked -/
theorem fn_bad {k : Nat} {d : He.DefD} {x : Str} {ps : List Str} (C : HeadC fa fn ts K mg base T) (i j : Nat) (hi : fn[i]? = some d := by rfl) (hj : fa[j]? = some (.glo x) := by rfl) (hat : d.at_ = (x, none) := by rfl) (hd : d.dfl = [] := by rfl) : FnF P w K mg base T k d x ps ps.length (fun _ => .bad) := by
  obtain ⟨fd, FD⟩ := C.says.def_ i hi
  have FD' : FunD K d.name d.qual d.params d.body d.scope [] (d.kws K) (He.fAd K d.at_) fd := by
    have e : d.dvs K = [] := by unfold He.DefD.dvs; rw [hd]; rfl
    rw [← e]; exact FD
  have hg : mg x = some (.ref (He.fAd K d.at_)) := by
    rw [hat]; exact C.glo j hj
  exact ⟨fd, FD', ⟨fun vs H Q E ⟨svs, _, _, _, z⟩ => z.elim, fun A outer s H args us vs Q E _ _ _ _ ⟨svs, _, _, _, z⟩ => z.elim⟩, hg⟩
end
section
variable {X : Cx} {F : Fx} {i : Nat} {o e : Expr} {apos cpos pos : Pos}
theorem s_app {f : FS → Res D} (ho : PE X o (tVar i)) (he : ED X F e f) (hs : swapsWith (.Call (.Attribute o "append" apos) [e] [] cpos) none pos.line X.env = pure false := by rfl) (hbase : attributeBase o "append" X.env (eval o X.env) = eval o X.env := by rfl)
    (hfew : ((backTo cpos (starEach [e] X.env)).all (fun x => !x.1) && (backToKw cpos (keywordEach [] X.env)).all (fun x => x.1.isSome) && decide ([e].length + ([] : List Keyword).length + (if ([] : List Keyword).isEmpty then 0 else 1) < 30)) = true := by rfl)
    (hline : (apos.endLine == cpos.line) = true := by rfl) (hse : starEach [e] X.env = (false, eval e X.env) :: starEach [] X.env := by rfl) (hplain : (backTo cpos (starEach [] X.env)).any (·.1) = false := by rfl) :
    ES X F (.Expr (.Call (.Attribute o "append" apos) [e] [] cpos) pos) (fAppend i f) :=
  s_append ho he hs (pe_bm PySem.F.plainAttrs_list PySem.F.slot_list_append PySem.F.type_list_append mt_append ho (pa_cons he pa_nil hse) hbase hfew hline hse hplain)
theorem s_ext {f : FS → Res SV} (ho : PE X o (tVar i)) (he : EV X F e f) (hs : swapsWith (.Call (.Attribute o "extend" apos) [e] [] cpos) none pos.line X.env = pure false := by rfl) (hbase : attributeBase o "extend" X.env (eval o X.env) = eval o X.env := by rfl)
    (hfew : ((backTo cpos (starEach [e] X.env)).all (fun x => !x.1) && (backToKw cpos (keywordEach [] X.env)).all (fun x => x.1.isSome) && decide ([e].length + ([] : List Keyword).length + (if ([] : List Keyword).isEmpty then 0 else 1) < 30)) = true := by rfl)
    (hline : (apos.endLine == cpos.line) = true := by rfl) (hse : starEach [e] X.env = (false, eval e X.env) :: starEach [] X.env := by rfl) (hplain : (backTo cpos (starEach [] X.env)).any (·.1) = false := by rfl) :
    ES X F (.Expr (.Call (.Attribute o "extend" apos) [e] [] cpos) pos) (fExtend i f) :=
  s_extend ho he hs (pe_bm PySem.F.plainAttrs_list PySem.F.slot_list_extend PySem.F.type_list_extend mt_extend ho (pa_cons he pa_nil hse) hbase hfew hline hse hplain)
end
theorem t_bool {X : Cx} {F : Fx} {e : Expr} {f : FS → Res Bool} (h : EW X F e f) : ET X F e f := h.pt
/-- built-ins by name -/
theorem bt_bool : bootBuiltins "bool" = some (.type "bool") := by decide +kernel
theorem bt_str : bootBuiltins "str" = some (.type "str") := by decide +kernel
theorem bt_dict : bootBuiltins "dict" = some (.type "dict") := by decide +kernel
theorem bt_len : bootBuiltins "len" = some (.builtin "len") := by decide +kernel
theorem bt_abs : bootBuiltins "abs" = some (.builtin "abs") := by decide +kernel
theorem bt_max : bootBuiltins "max" = some (.builtin "max") := by decide +kernel
theorem bt_min : bootBuiltins "min" = some (.builtin "min") := by decide +kernel
theorem bt_all : bootBuiltins "all" = some (.builtin "all") := by decide +kernel
theorem bt_any : bootBuiltins "any" = some (.builtin "any") := by decide +kernel
theorem bt_repr : bootBuiltins "repr" = some (.builtin "repr") := by decide +kernel
theorem bt_isinstance : bootBuiltins "isinstance" = some (.builtin "isinstance") := by decide +kernel
theorem bt_int : bootBuiltins "int" = some (.type "int") := by decide +kernel
theorem bt_tuple : bootBuiltins "tuple" = some (.type "tuple") := by decide +kernel
theorem bt_list : bootBuiltins "list" = some (.type "list") := by decide +kernel
end Fz
end

section
set_option Elab.async false
set_option linter.all false
set_option maxRecDepth 100000
set_option maxHeartbeats 4000000
/-! F16: repr of data; min of tuples of ints. -/
namespace Fz
open PySem PySem.Spec PyProof.Rows L2
/-! ### repr -/
def showOk (d : D) : Prop := d.showable = true ∧ d.hasDict = false ∧ d.shown.length ≤ sizeLine ∧ d.depth ≤ 60
noncomputable instance (d : D) : Decidable (showOk d) := Classical.propDecidable _
noncomputable def pRepr (d : D) : FS → Res D := fun S => match d with
  | .list ds => if showOk (.list ds) then .ok (.str (PyData.shown (.list ds))) S else .bad
  | .tuple ds => if showOk (.tuple ds) then .ok (.str (PyData.shown (.tuple ds))) S else .bad
  | _ => .bad
def rReprD (K : Fg) : List V → Hp → VK → Prop := fun xs H Q => ∃ a d, xs = [.ref a] ∧ Dp K H (.ref a) d ∧ showOk d ∧ Q (.str d.shown) H
section
variable {X : Cx} {F : Fx}
theorem cr_reprD {k : Nat} (hr : RoomG k X.A) : CallR X (.builtin "repr") (rReprD X.K) := by
  intro pins s σ H xs us Q I rx ⟨a, d, ex, hd, ⟨h1, h2, h3, h4⟩, q⟩
  subst ex
  rw [Vals.ref1 rx]
  obtain ⟨as, r⟩ := Dp.reads I d (.ref a) (.ref a) hd rfl
  exact repr_of_reads' r h1 (PyData.noDict_hsm h2) hr.gd (by have := hr.rm.units; omega) (fun _ _ e => e) (fun h' u tk hk => ⟨.str d.shown, H, I.kept hk, ⟨u, rfl⟩, q⟩) h3
theorem c_repr {k : Nat} (hr : RoomG k X.A) : CallF X F PR (.builtin "repr") (one pRepr) := callF_one fun d => by
  cases d with
  | list ds =>
    by_cases h : showOk (.list ds)
    · exact .inl ⟨_, cr_reprD hr, fun S σ H x Q r hx p => by
        simp only [pRepr, if_pos h] at p
        obtain ⟨a, vs, rfl, _, _⟩ := hx.list
        exact ⟨a, _, rfl, hx.dp, h, p.ok r (.str _)⟩⟩
    · exact .inr fun _ => by simp only [pRepr, if_neg h]
  | tuple ds =>
    by_cases h : showOk (.tuple ds)
    · exact .inl ⟨_, cr_reprD hr, fun S σ H x Q r hx p => by
        simp only [pRepr, if_pos h] at p
        obtain ⟨a, vs, rfl, _, _⟩ := hx.tuple
        exact ⟨a, _, rfl, hx.dp, h, p.ok r (.str _)⟩⟩
    · exact .inr fun _ => by simp only [pRepr, if_neg h]
  | _ => exact .inr fun _ => rfl
end
/-! ### min of a list of tuples of ints -/
def intsOf : List D → Option (List Int)
  | [] => some []
  | .int i :: r => (intsOf r).map (i :: ·)
  | _ :: _ => none
def tupsOf : List D → Option (List (List Int))
  | [] => some []
  | .tuple ds :: r => (intsOf ds).bind fun ns => (tupsOf r).map (ns :: ·)
  | _ :: _ => none
/-- the place of the least one, the first of the equal -/
def leastAt (nss : List (List Int)) : Nat → Nat
  | 0 => 0
  | k + 1 => if HT.lexLt (nss.getD (k + 1) []) (nss.getD (leastAt nss k) []) = true then k + 1 else leastAt nss k
def pMin1 (d : D) : FS → Res D := fun S => match d with
  | .list (e :: ds) => (match tupsOf (e :: ds) with
    | some nss => (match (e :: ds)[leastAt nss ds.length]? with
      | some x => .ok x S
      | none => .bad)
    | none => .bad)
  | _ => .bad
section
variable {P : Program} {w : World} {A : Around} {R : Result → Shared → Prop} {I S l : Addr} {items : Array Value} {nss : List (List Int)} {h₀ : Heap}
/-- the items are tuples of these ints, in every heap that keeps what stood in h₀ -/
def TupsAt (h₀ : Heap) (items : Array Value) (nss : List (List Int)) : Prop := ∀ (i : Nat) (v : Value), items[i]? = some v → ∃ a its, v = .ref a ∧ IsTup h₀ a its ∧ IntsAre its.toList (nss.getD i [])
theorem min_turn (hu : A.units < cLine) (ht : TupsAt h₀ items nss) {i j : Nat} {v u : Value} {s : Shared} {Q : Value → Shared → Prop} {E : Value → Shared → Prop} (hv : items[i]? = some v) (hw : items[j]? = some u) (hk : ∀ b o, h₀.get? b = some o → s.heap.get? b = some o)
    (q : Q (.bool (HT.lexLt (nss.getD i []) (nss.getD j []))) s) : wpAny (model P w) A (richCompare .Lt v u) Q E s := by
  obtain ⟨a, x, rfl, ⟨o, e, c, n, d⟩, ia⟩ := ht i v hv
  obtain ⟨b, y, rfl, ⟨o2, e2, c2, n2, d2⟩, ib⟩ := ht j u hw
  exact HT.lt_tupInts (l := a) (b := b) ⟨o, hk _ _ e, c, n, d⟩ ⟨o2, hk _ _ e2, c2, n2, d2⟩ ia ib hu q
theorem min_loopT (hh : A.handled = none) (hu : A.units + 1 < cLine) (ht : TupsAt h₀ items nss) (hlI : l ≠ I) (hIS : I ≠ S) (hlS : l ≠ S) (h0I : ∀ o, h₀.get? I ≠ some o) (h0S : ∀ o, h₀.get? S ≠ some o) :
    ∀ (k j : Nat) (s : Shared) (v : Value) (c : Nat), items.size - (j + 1) = k → j + 1 ≤ items.size → s.heap.IsListIter I l (j + 1) → s.heap.IsList l items → items[leastAt nss j]? = some v → (∀ b o, h₀.get? b = some o → s.heap.get? b = some o) →
      s.heap.get? S = some { cls := .type "list", dict := none, data := .seq #[v, v] c, slots := #[] } →
      (∀ u h' tk, items[leastAt nss (items.size - 1)]? = some u → (∀ b o, b ≠ I → b ≠ S → s.heap.get? b = some o → h'.get? b = some o) → R (.ok (.ret u)) { s with heap := h', toks := tk }) →
      codeAny (model P w) A (.builtin "min.loop" ⟨[.ref I, .none, .ref S], []⟩) R s := by
  have W : Walks P w A.in1 I [I, l] [I] items.size (fun i v => items[i]? = some v) (fun i h => h.IsListIter I l i ∧ h.IsList l items) := Walks.list (A := A.in1) hh I l hlI items
  have nm : (toString "min" ++ toString ".loop" : String) = "min.loop" := by decide
  have keepS : ∀ {h h' : Heap} {ob : Obj}, (∀ b o, b ∉ [I] → h.get? b = some o → h'.get? b = some o) → h.get? S = some ob → h'.get? S = some ob := fun hk e => hk S _ (by simp [Ne.symm hIS]) e
  have old : ∀ {h h' : Heap}, (∀ b o, h₀.get? b = some o → h.get? b = some o) → (∀ b o, b ∉ [I] → h.get? b = some o → h'.get? b = some o) → ∀ b o, h₀.get? b = some o → h'.get? b = some o := fun h1 h2 b o e => h2 b o (by
    intro z
    rw [List.mem_singleton.mp z] at e
    exact h0I _ e) (h1 b o e)
  intro k
  induction k with
  | zero =>
    intro j s v c hk hj hit hl hv ho hS hR
    have hin : j + 1 = items.size := by omega
    refine codeAny_builtin PySem.F.entry_min_loop ?_
    rw [Around.under_plainId PySem.F.plain_min_loop _]
    show wpAny _ A.in1 (seqItems? (.ref S) >>= _) _ _ s
    refine wpAny_bind (wpAny_seqItems hS rfl ?_)
    show wpAny _ A.in1 (tryCatch (pyNext (.ref I)) _ >>= _) _ _ s
    refine wpAny_bind (wpAny_tryCatch (W.done s _ _ (hin ▸ ⟨hit, hl⟩) fun h' tk hk' => ?_))
    have hS' := keepS hk' hS
    show wpAny _ A.in1 (updateSeq S (fun _ => #[]) >>= _) _ _ _
    refine wpAny_bind (wpAny_updateSeq hS' rfl (wpAny_bind (wpAny_letGo (wpAny_pure ?_))))
    exact hR v _ tk (by rw [← hin]; exact hv) fun b o hbI hbS e => (Heap.get?_update_other _ _ (Ne.symm hbS)).trans (hk' b o (by simp [hbI]) e)
  | succ k ih =>
    intro j s v c hk hj hit hl hv ho hS hR
    have hlt : j + 1 < items.size := by omega
    refine codeAny_builtin PySem.F.entry_min_loop ?_
    rw [Around.under_plainId PySem.F.plain_min_loop _]
    show wpAny _ A.in1 (seqItems? (.ref S) >>= _) _ _ s
    refine wpAny_bind (wpAny_seqItems hS rfl ?_)
    show wpAny _ A.in1 (tryCatch (pyNext (.ref I)) _ >>= _) _ _ s
    refine wpAny_bind (wpAny_tryCatch (W.item (j + 1) s _ _ hlt ⟨hit, hl⟩ fun x h' tk hx ⟨hit', hl'⟩ hk' => ?_))
    have hS' := keepS hk' hS
    have ho' := old ho hk'
    show wpAny _ A.in1 (tryCatch (holding [x, x] (richCompare .Lt x v >>= _)) _ >>= _) _ _ _
    refine wpAny_bind (wpAny_tryCatch (wpAny_holding (wpAny_bind (min_turn (A := A.in1) hu ht hx hv ho' ?_))))
    refine wpAny_bind (wpAny_holding (wpAny_truthy_bool ?_))
    refine wpAny_bind (wpAny_letGo (wpAny_pure ?_))
    have upd' : ∀ {f : Array Value → Array Value} {b : Addr} {o : Obj}, b ≠ S → h'.get? b = some o → (h'.update S (Obj.mapSeq f)).get? b = some o := fun hb e => (Heap.get?_update_other _ _ (Ne.symm hb)).trans e
    by_cases hb : HT.lexLt (nss.getD (j + 1) []) (nss.getD (leastAt nss j) []) = true
    · rw [hb]
      simp only [if_true]
      refine wpAny_bind (wpAny_updateSeq hS' rfl (wpAny_bind (wpAny_letGo ?_)))
      rw [nm]
      have e1 : leastAt nss (j + 1) = j + 1 := by simp only [leastAt, hb, if_true]
      refine wpAny_pure ⟨plainId_quiet PySem.F.plain_min_loop _, ih (j + 1) _ x _ (by omega) hlt (hit'.at fun o e => upd' hIS e) (hl'.at fun o e => upd' hlS e) (by rw [e1]; exact hx) (fun b o e => upd' (fun z => h0S _ (z ▸ e)) (ho' b o e)) (Heap.get?_update_self _ hS' rfl) fun u h'' tk'' hu' hk'' => ?_⟩
      exact hR u h'' tk'' hu' fun b o hbI hbS e => hk'' b o hbI hbS (upd' hbS (hk' b o (by simp [hbI]) e))
    · have hb' : HT.lexLt (nss.getD (j + 1) []) (nss.getD (leastAt nss j) []) = false := by simpa using hb
      rw [hb']
      simp only [Bool.false_eq_true, if_false]
      refine wpAny_bind (wpAny_letGo ?_)
      rw [nm]
      have e1 : leastAt nss (j + 1) = leastAt nss j := by simp only [leastAt, hb', Bool.false_eq_true, if_false]
      refine wpAny_pure ⟨plainId_quiet PySem.F.plain_min_loop _, ih (j + 1) _ v c (by omega) hlt hit' hl' (by rw [e1]; exact hv) ho' hS' fun u h'' tk'' hu' hk'' => ?_⟩
      exact hR u h'' tk'' hu' fun b o hbI hbS e => hk'' b o hbI hbS (hk' b o (by simp [hbI]) e)
theorem min_tups {s : Shared} {E : Value → Shared → Prop} {Q : Value → Shared → Prop} (hh : A.handled = none) (hu : A.units + 1 < cLine) (hl : s.heap.IsList l items) (ht : TupsAt s.heap items nss) (hn : 0 < items.size)
    (hQ : ∀ u h' tk, items[leastAt nss (items.size - 1)]? = some u → (∀ b o, s.heap.get? b = some o → h'.get? b = some o) → Q u { s with heap := h', toks := tk }) : wpAny (model P w) A (call (.builtin "min") [.ref l]) Q E s := by
  have nm : (toString "min" ++ toString ".loop" : String) = "min.loop" := by decide
  refine call_function_tree PySem.F.kind_min PySem.F.plain_min PySem.F.entry_min (PySem.F.args_min1 _) ?_
  show wpAny _ A.in1 (Builtin.Builtins.bindParams "min" ["key", "default"] 0 ⟨[], []⟩ >>= _) _ _ s
  refine wpAny_bind (wpAny_of_eq (show Builtin.Builtins.bindParams "min" ["key", "default"] 0 ⟨[], []⟩ = pure [none, none] from rfl) ?_)
  refine wpAny_bind (wpAny_pure ?_)
  refine wpAny_bind (wpAny_pyIter_list hl ?_)
  refine wpAny_bind (wpAny_newObj_type ?_)
  rw [nm]
  generalize hI : s.heap.objs.size = I
  generalize hs1 : s.heap.push { cls := .type "list_iterator", data := .fields #[.ref l, .int 0 0] } = h1
  have ltl : l < I := by rw [← hI]; obtain ⟨o, e, _⟩ := hl; exact Heap.lt_size e
  have z1 : h1.objs.size = I + 1 := by rw [← hs1, Heap.size_push, hI]
  have k1 : ∀ b o, s.heap.get? b = some o → h1.get? b = some o := fun b o e => by rw [← hs1]; exact Heap.get?_push_of_some _ e
  have it1 : h1.IsListIter I l 0 := by rw [← hs1, ← hI]; exact ⟨_, Heap.get?_push_size _ rfl, rfl, rfl⟩
  generalize hS : h1.objs.size = S at *
  generalize hs2 : h1.push { cls := .type "list", data := .seq #[] } = h2
  have k2 : ∀ b o, h1.get? b = some o → h2.get? b = some o := fun b o e => by rw [← hs2]; exact Heap.get?_push_of_some _ e
  have eS : h2.get? S = some { cls := .type "list", dict := none, data := .seq #[] 0, slots := #[] } := by rw [← hs2, ← hS]; exact Heap.get?_push_size _ rfl
  have nI : ∀ o, s.heap.get? I ≠ some o := fun o e => Nat.lt_irrefl _ (by have := Heap.lt_size e; rw [hI] at this; exact this)
  have nS : ∀ o, s.heap.get? S ≠ some o := fun o e => by
    have q := Heap.lt_size e
    rw [hI] at q
    rw [z1] at q
    exact Nat.lt_irrefl _ (Nat.lt_of_succ_lt q)
  have hIS : I ≠ S := fun z => Nat.lt_irrefl I (by rw [z1] at z; exact Nat.lt_of_lt_of_eq (Nat.lt_succ_self I) z.symm)
  have hlS : l ≠ S := fun z => Nat.lt_irrefl l (by rw [z1] at z; exact Nat.lt_of_lt_of_eq (Nat.lt_succ_of_lt ltl) z.symm)
  have hlI : l ≠ I := Nat.ne_of_lt ltl
  have W : Walks P w A.in1 I [I, l] [I] items.size (fun i v => items[i]? = some v) (fun i h => h.IsListIter I l i ∧ h.IsList l items) := Walks.list (A := A.in1) hh I l hlI items
  have it2 : h2.IsListIter I l 0 := it1.at fun o e => k2 I o e
  have l2 : h2.IsList l items := hl.at fun o e => k2 l o (k1 l o e)
  refine wpAny_pure ⟨plainId_quiet PySem.F.plain_min_loop _, ?_⟩
  refine codeAny_builtin PySem.F.entry_min_loop ?_
  rw [Around.under_plainId PySem.F.plain_min_loop _]
  show wpAny _ A.in1 (seqItems? (.ref S) >>= _) _ _ _
  refine wpAny_bind (wpAny_seqItems eS rfl ?_)
  show wpAny _ A.in1 (tryCatch (pyNext (.ref I)) _ >>= _) _ _ _
  refine wpAny_bind (wpAny_tryCatch (W.item 0 _ _ _ hn ⟨it2, l2⟩ fun v h3 tk hv ⟨it3, l3⟩ k3 => ?_))
  have eS3 := k3 S _ (by simp [Ne.symm hIS]) eS
  show wpAny _ A.in1 (updateSeq S (fun _ => #[v, v]) >>= _) _ _ _
  refine wpAny_bind (wpAny_updateSeq eS3 rfl ?_)
  rw [nm]
  have up : ∀ {b : Addr} {o : Obj}, b ≠ S → h3.get? b = some o → (h3.update S (Obj.mapSeq fun _ => #[v, v])).get? b = some o := fun hb e => (Heap.get?_update_other _ _ (Ne.symm hb)).trans e
  have old3 : ∀ b o, s.heap.get? b = some o → h3.get? b = some o := fun b o e => k3 b o (by
    intro z
    rw [List.mem_singleton.mp z] at e
    exact nI _ e) (k2 b o (k1 b o e))
  refine wpAny_pure ⟨plainId_quiet PySem.F.plain_min_loop _, min_loopT (h₀ := s.heap) hh hu ht hlI hIS hlS nI nS _ 0 _ v _ rfl hn (it3.at fun o e => up hIS e) (l3.at fun o e => up hlS e) hv (fun b o e => up (fun z => nS _ (z ▸ e)) (old3 b o e)) (Heap.get?_update_self _ eS3 rfl) fun u h' tk' hu' hk' => ?_⟩
  exact hQ u h' tk' hu' fun b o e => hk' b o (fun z => nI _ (z ▸ e)) (fun z => nS _ (z ▸ e)) (up (fun z => nS _ (z ▸ e)) (old3 b o e))
end
end Fz
namespace Fz
open PySem PySem.Spec PyProof.Rows L2
theorem pdAll_ints {K : Fg} {H : Hp} : ∀ {ds : List D} {vs : List V} {ns : List Int}, intsOf ds = some ns → PdAll K H vs ds → vs = ns.map V.int
  | [], _, _, e, .nil => by cases e; rfl
  | .int i :: r, _, ns, e, .cons h t => by
    simp only [intsOf, Option.map_eq_some_iff] at e
    obtain ⟨ms, e2, rfl⟩ := e
    cases h
    rw [List.map_cons, pdAll_ints e2 t]
  | .none :: _, _, _, e, _ => by cases e
  | .bool _ :: _, _, _, e, _ => by cases e
  | .str _ :: _, _, _, e, _ => by cases e
  | .list _ :: _, _, _, e, _ => by cases e
  | .tuple _ :: _, _, _, e, _ => by cases e
  | .dict _ :: _, _, _, e, _ => by cases e
theorem tupsOf_get : ∀ {ds : List D} {nss : List (List Int)} {i : Nat} {d : D}, tupsOf ds = some nss → ds[i]? = some d → ∃ es, d = .tuple es ∧ intsOf es = some (nss.getD i [])
  | [], _, _, _, _, h => by simp at h
  | .tuple es :: r, nss, i, d, e, h => by
    simp only [tupsOf, Option.bind_eq_some_iff, Option.map_eq_some_iff] at e
    obtain ⟨ns, e1, mss, e2, rfl⟩ := e
    cases i with
    | zero => simp at h; subst h; exact ⟨es, rfl, by simpa using e1⟩
    | succ i =>
      obtain ⟨es2, q1, q2⟩ := tupsOf_get e2 (i := i) (by simpa using h)
      exact ⟨es2, q1, by simpa using q2⟩
  | .none :: _, _, _, _, e, _ => by cases e
  | .bool _ :: _, _, _, _, e, _ => by cases e
  | .str _ :: _, _, _, _, e, _ => by cases e
  | .list _ :: _, _, _, _, e, _ => by cases e
  | .int _ :: _, _, _, _, e, _ => by cases e
  | .dict _ :: _, _, _, _, e, _ => by cases e
theorem vals_get {vs : List V} {us : List Value} (r : Vals vs us) {i : Nat} {u : Value} (h : us[i]? = some u) : ∃ v, vs[i]? = some v ∧ RelV v u := by
  have hl : i < vs.length := by rw [r.length]; exact (List.getElem?_eq_some_iff.mp h).1
  obtain ⟨u2, h2, rv⟩ := r.get (List.getElem?_eq_getElem hl)
  rw [h] at h2; cases h2
  exact ⟨_, List.getElem?_eq_getElem hl, rv⟩
section
variable {X : Cx} {F : Fx}
def rMinT (K : Fg) : List V → Hp → VK → Prop := fun xs H Q => ∃ a vs ds nss, xs = [.ref a] ∧ SqL K H a vs ∧ PdAll K H vs ds ∧ tupsOf ds = some nss ∧ 0 < ds.length ∧ ∀ x, vs[leastAt nss (ds.length - 1)]? = some x → Q x H
theorem cr_minT {k : Nat} (hr : RoomG k X.A) : CallR X (.builtin "min") (rMinT X.K) := by
  intro pins s σ H xs us Q I rx ⟨a, vs, ds, nss, ex, hs, hp, ht, hn, q⟩
  subst ex
  rw [Vals.ref1 rx]
  obtain ⟨its, rv, hl, _⟩ := I.list hs
  have hlen : its.toArray.size = ds.length := by rw [List.size_toArray, ← rv.length, hp.length]
  have tups : TupsAt s.heap its.toArray nss := fun i u hu => by
    have hu2 : its[i]? = some u := by simpa using hu
    obtain ⟨v, hv, rr⟩ := vals_get rv hu2
    obtain ⟨d, hd, pd⟩ := hp.getV hv
    obtain ⟨es, rfl, ei⟩ := tupsOf_get ht hd
    cases pd with
    | tup h2 r2 =>
      rename_i b ys
      have e := pdAll_ints ei r2
      subst e
      obtain rfl : u = Value.ref b := rr
      obtain ⟨its2, r3, p3, _⟩ := I.tuple h2
      exact ⟨b, its2.toArray, rfl, p3, intsAre_of r3⟩
  refine min_tups hr.rm.hd (by have := hr.rm.units; omega) hl.isList tups (by rw [hlen]; exact hn) fun u h' tk hu hk => ?_
  rw [hlen] at hu
  obtain ⟨x, hx, rr⟩ := vals_get rv (show its[leastAt nss (ds.length - 1)]? = some u by simpa using hu)
  exact ⟨x, H, I.kept hk, rr, q x hx⟩
theorem c_min1 {k : Nat} (hr : RoomG k X.A) : CallF X F PR (.builtin "min") (one pMin1) := callF_one fun d => by
  cases d with
  | list ds =>
    cases ds with
    | nil => exact .inr fun _ => rfl
    | cons e ds =>
      cases ht : tupsOf (e :: ds) with
      | none => exact .inr fun _ => by simp only [pMin1, ht]
      | some nss =>
        cases hg : (e :: ds)[leastAt nss ds.length]? with
        | none => exact .inr fun _ => by simp only [pMin1, ht, hg]
        | some z => exact .inl ⟨_, cr_minT hr, fun S σ H x Q r hx p => by
            simp only [pMin1, ht, hg] at p
            obtain ⟨a, vs, rfl, h1, r1⟩ := hx.list
            refine ⟨a, vs, e :: ds, nss, rfl, h1, r1, ht, Nat.succ_pos _, fun x hx => ?_⟩
            obtain ⟨d, hd, pd⟩ := r1.getV hx
            rw [show (e :: ds).length - 1 = ds.length from rfl, hg] at hd
            cases hd
            exact p.ok r pd⟩
  | _ => exact .inr fun _ => rfl
end
end Fz
end

section
set_option Elab.async false
set_option linter.all false
set_option maxRecDepth 100000
set_option maxHeartbeats 4000000
/-! F17: the head's end, closed. -/
namespace Fz
open PySem PySem.Spec PyProof.Rows L2
theorem funD_eq {K : Fg} {x qual : Str} {params : Arguments} {body : List Stmt} {scope : Scope} {dvs dvs2 : List V} {kws kws2 : List (Str × V)} {f : Addr} {fd fd2 : FuncData} (a : FunD K x qual params body scope dvs kws f fd) (b : FunD K x qual params body scope dvs2 kws2 f fd2) : fd = fd2 := by
  obtain ⟨_, _, _, _, _, _, _, _, _, _, _, h1, _⟩ := a.ex
  obtain ⟨_, _, _, _, _, _, _, _, _, _, _, h2, _⟩ := b.ex
  rw [h1] at h2
  injection h2 with h2
  injection h2 with _ _ h2 _
  injection h2
theorem head_close {P : Program} {w : World} {fa : List He.Fa} {fn : List He.DefD} {ts : List DP} {K : Fg} {h : Heap} {mg : Str → Option Value} {k n i j : Nat} {d : He.DefD} {x y : Str} {den : Den} (KX : K.In h) (G : h.Ns mainGlobals mg) (c : He.SaysD fa fn K) (tb : ∀ p ∈ ts, TabS K h p)
    (hF : ∀ base : Heap, HeadC fa fn ts K mg base (ts.map (tabOf K)) → FnF P w K mg base (ts.map (tabOf K)) k d y [x] 1 den)
    (hspec : ∀ ns : List Int, ns.length ≤ n → (∀ z ∈ ns, Builtin.Int.intBits z ≤ 1048576) → ∃ l, den [.d (scriptD ns)] = .ok (.d (.bool true)) l)
    (ha : ∀ (kV doc pm : Value) (an : Option Addr) (cdv ct : Value) (us : List Value), us.length = [x].length → bindArgs (PySem.W.fnOf d.name d.qual d.params d.body d.scope .none kV doc pm an cdv ct) ⟨us, []⟩ = pure ([x].zip us))
    {f : Addr} (hf : mg y = some (.ref f)) (hi : fn[i]? = some d := by rfl) (hj : fa[j]? = some (.glo y) := by rfl) (hat : d.at_ = (y, none) := by rfl) (hd : d.dfl = [] := by rfl) :
    ∃ (K : PySem.W.Frag) (cs : List (Addr × Addr)) (fd : FuncData) (den : Den), K.In h ∧
      (∀ p ∈ cs, h.get? p.2 = some { cls := .none, data := .fields #[] }) ∧ (∀ p ∈ cs, K.lookup p.2 = none) ∧ (∀ p ∈ cs, PySem.W.CodeHd h p.1 p.2) ∧ (∀ (s : Shared) (u : Value), BindsTo s fd ⟨[u], []⟩ [(x, u)]) ∧
      (∀ ns : List Int, ns.length ≤ n → (∀ z ∈ ns, Builtin.Int.intBits z ≤ 1048576) → ∃ l, den [.d (scriptD ns)] = .ok (.d (.bool true)) l) ∧
      ∀ base : Heap, K.In base → base.Ns mainGlobals mg → (∀ p ∈ cs, GxR.TabB base mg p.1 p.2) → GOk P w K mg base k f fd [x] (spF K w (cs.map (·.2)) 1 den) := by
  obtain ⟨fd, FD⟩ := c.def_ i hi
  have e0 : d.dvs K = [] := by unfold He.DefD.dvs; rw [hd]; rfl
  rw [e0] at FD
  have hg := He.glo_ok KX G (c.fact j hj)
  have ef : f = He.fAd K d.at_ := by
    rw [hf] at hg
    cases hg
    rw [hat]; rfl
  have back : ∀ {p : Addr × Addr}, p ∈ ts.map (fun p => (codeA K p, tabOf K p)) → ∃ q ∈ ts, p = (codeA K q, tabOf K q) := fun hp => by
    obtain ⟨q, hq, e⟩ := List.mem_map.mp hp
    exact ⟨q, hq, e.symm⟩
  refine ⟨K, ts.map (fun p => (codeA K p, tabOf K p)), fd, den, KX, fun p hp => ?_, fun p hp => ?_, fun p hp => ?_, fun s u => FunD.bindsA (ps := [x]) FD ha s [u] rfl, hspec, fun base kb gb tbb => ?_⟩
  · obtain ⟨q, hq, rfl⟩ := back hp; exact (tb q hq).at_
  · obtain ⟨q, hq, rfl⟩ := back hp; exact (tb q hq).no
  · obtain ⟨q, hq, rfl⟩ := back hp; exact PySem.W.codeHd_of_K KX (tb q hq).hd
  · have eT : (ts.map (fun p => (codeA K p, tabOf K p))).map (·.2) = ts.map (tabOf K) := by rw [List.map_map]; rfl
    rw [eT, ef]
    obtain ⟨fd2, FD2, go, _⟩ := (hF base ⟨c, kb, gb, fun p hp => (tb p hp).ref, fun p hp => tbb (codeA K p, tabOf K p) (List.mem_map_of_mem hp), rfl⟩).ex
    rw [funD_eq FD FD2]
    exact go
end Fz
end

section
set_option Elab.async false
set_option linter.all false
set_option maxRecDepth 100000
set_option maxHeartbeats 4000000
/-! F18: what dens promise: weakest preconditions of dens, by simp. No program in sight. -/
namespace Fz
open PySem L2
def wE {α : Type} (r : Res α) (Q : α → FS → Prop) : Prop := match r with
  | .ok a S => Q a S
  | _ => False
def wS (r : SRes) (N : FS → Prop) (R : SV → FS → Prop) (B C : FS → Prop) : Prop := match r with
  | .nx S => N S
  | .rt v S => R v S
  | .bk S => B S
  | .ct S => C S
  | _ => False
def wC (r : CRes) (Q : SV → List SV → Prop) : Prop := match r with
  | .ok v svs => Q v svs
  | _ => False
def wO {α : Type} (o : Option α) (k : α → Prop) : Prop := match o with
  | some a => k a
  | none => False
def wFrz : SV → (D → Prop) → Prop
  | .d d, k => k d
  | .own (.lst ds), k => k (.list ds)
  | _, _ => False
def wInt : D → (Int → Prop) → Prop
  | .int i, k => k i
  | _, _ => False
def wBool : D → (Bool → Prop) → Prop
  | .bool i, k => k i
  | _, _ => False
def wItems : D → (List D → Prop) → Prop
  | .list ds, k => k ds
  | .tuple ds, k => k ds
  | _, _ => False
def wLs : Option (Option SV) → (List D → Prop) → Prop
  | some (some (.own (.lst ds))), k => k ds
  | some (some (.pin (.lst ds))), k => k ds
  | _, _ => False
section
variable {α β : Type} {Q : α → FS → Prop} {S : FS} {N : FS → Prop} {R : SV → FS → Prop} {B C : FS → Prop}
@[simp] theorem wE_ok {a : α} : wE (.ok a S) Q = Q a S := rfl
@[simp] theorem wE_bad : wE (.bad : Res α) Q = False := rfl
@[simp] theorem wE_exn {e : Exn} : wE (.exn e S : Res α) Q = False := rfl
@[simp] theorem wS_nx : wS (.nx S) N R B C = N S := rfl
@[simp] theorem wS_rt {v : SV} : wS (.rt v S) N R B C = R v S := rfl
@[simp] theorem wS_bk : wS (.bk S) N R B C = B S := rfl
@[simp] theorem wS_ct : wS (.ct S) N R B C = C S := rfl
@[simp] theorem wS_bad : wS .bad N R B C = False := rfl
@[simp] theorem wO_some {a : α} {k : α → Prop} : wO (some a) k = k a := rfl
@[simp] theorem wO_none {k : α → Prop} : wO none k = False := rfl
@[simp] theorem wFrz_d {d : D} {k : D → Prop} : wFrz (.d d) k = k d := rfl
@[simp] theorem wFrz_own {ds : List D} {k : D → Prop} : wFrz (.own (.lst ds)) k = k (.list ds) := rfl
@[simp] theorem wInt_int {i : Int} {k : Int → Prop} : wInt (.int i) k = k i := rfl
@[simp] theorem wBool_bool {i : Bool} {k : Bool → Prop} : wBool (.bool i) k = k i := rfl
@[simp] theorem wItems_list {ds : List D} {k : List D → Prop} : wItems (.list ds) k = k ds := rfl
@[simp] theorem wItems_tuple {ds : List D} {k : List D → Prop} : wItems (.tuple ds) k = k ds := rfl
@[simp] theorem wLs_own {ds : List D} {k : List D → Prop} : wLs (some (some (.own (.lst ds)))) k = k ds := rfl
@[simp] theorem wLs_pin {ds : List D} {k : List D → Prop} : wLs (some (some (.pin (.lst ds)))) k = k ds := rfl
theorem wE_bnd {f : FS → Res β} {k : β → FS → Res α} : wE (bnd f k S) Q = wE (f S) fun a S1 => wE (k a S1) Q := by
  unfold bnd; cases f S <;> rfl
@[simp] theorem wE_fC {a : α} : wE (fC a S) Q = Q a S := rfl
end
section
variable {Q : D → FS → Prop} {QV : SV → FS → Prop} {QB : Bool → FS → Prop} {QL : List D → FS → Prop} {QO : Option Int → FS → Prop} {S : FS} {f g fa fb : FS → Res D} {fv : FS → Res SV} {t u : FS → Res Bool} {gl : FS → Res (List D)} {d e : D}
def wVar (i : Nat) (o : Option (Option SV)) (S : FS) (Q : D → FS → Prop) : Prop := match o with
  | some (some (.d d)) => Q d S
  | some (some (.own (.lst ds))) => Q (.list ds) (S.set i (some (.d (.list ds))))
  | _ => False
def wPeek (o : Option (Option SV)) (Q : D → Prop) : Prop := match o with
  | some (some (.d d)) => Q d
  | some (some (.own (.lst ds))) => Q (.list ds)
  | some (some (.pin (.lst ds))) => Q (.list ds)
  | _ => False
@[simp] theorem wVar_d {i : Nat} : wVar i (some (some (.d d))) S Q = Q d S := rfl
@[simp] theorem wVar_own {i : Nat} {ds : List D} : wVar i (some (some (.own (.lst ds)))) S Q = Q (.list ds) (S.set i (some (.d (.list ds)))) := rfl
@[simp] theorem wPeek_d {Q : D → Prop} : wPeek (some (some (.d d))) Q = Q d := rfl
@[simp] theorem wPeek_own {Q : D → Prop} {ds : List D} : wPeek (some (some (.own (.lst ds)))) Q = Q (.list ds) := rfl
@[simp] theorem wPeek_pin {Q : D → Prop} {ds : List D} : wPeek (some (some (.pin (.lst ds)))) Q = Q (.list ds) := rfl
@[simp] theorem wE_fVar {i : Nat} : wE (fVar i S) Q = wVar i S[i]? S Q := by
  unfold fVar wVar
  split <;> simp_all
@[simp] theorem wE_fPeek {i : Nat} : wE (fPeek i S) Q = wPeek S[i]? fun d => Q d S := by
  unfold fPeek wPeek
  split <;> simp_all
@[simp] theorem wE_fV : wE (fV f S) QV = wE (f S) fun d S1 => QV (.d d) S1 := wE_bnd
@[simp] theorem wE_fFrz : wE (fFrz fv S) Q = wE (fv S) fun v S1 => wFrz v fun d => Q d S1 := by
  unfold fFrz; rw [wE_bnd]; congr; funext v S1
  cases v with
  | own o => cases o <;> rfl
  | _ => rfl
@[simp] theorem wE_fOp {α : Type} {Q : α → FS → Prop} {p : D → D → FS → Res α} : wE (fOp p fa fb S) Q = wE (fa S) fun d S1 => wE (fb S1) fun e S2 => wE (p d e S2) Q := by
  unfold fOp; rw [wE_bnd]; congr; funext d S1; rw [wE_bnd]
@[simp] theorem wE_fOpN {α : Type} {Q : α → FS → Prop} {p : D → D → FS → Res α} {i : Nat} : wE (fOpN p i fb S) Q = wPeek S[i]? fun _ => wE (fb S) fun e S2 => wPeek S2[i]? fun d => wE (p d e S2) Q := by
  unfold fOpN; rw [wE_bnd, wE_fPeek]; congr; funext d; rw [wE_bnd]; congr; funext e S2; rw [wE_bnd, wE_fPeek]
@[simp] theorem wE_fT : wE (fT f S) QB = wE (f S) fun d S1 => wBool d fun b => QB b S1 := by
  unfold fT; rw [wE_bnd]; congr; funext d S1; cases d <;> rfl
@[simp] theorem wE_fTru : wE (fTru f S) QB = wE (f S) fun d S1 => wO (dTru d) fun b => QB b S1 := by
  unfold fTru; rw [wE_bnd]; congr; funext d S1; cases h : dTru d <;> simp [h]
theorem ite_w {b : Bool} {α : Type} {x y : Res α} {Q : α → FS → Prop} : wE (if b = true then x else y) Q = ((b = true → wE x Q) ∧ (b = false → wE y Q)) := by cases b <;> simp
@[simp] theorem wE_fAndT : wE (fAndT t u S) QB = wE (t S) fun b S1 => (b = true → wE (u S1) QB) ∧ (b = false → QB false S1) := by
  unfold fAndT; rw [wE_bnd]; congr; funext b S1; cases b <;> simp
@[simp] theorem wE_fOrT : wE (fOrT t u S) QB = wE (t S) fun b S1 => (b = true → QB true S1) ∧ (b = false → wE (u S1) QB) := by
  unfold fOrT; rw [wE_bnd]; congr; funext b S1; cases b <;> simp
@[simp] theorem wE_fNotT : wE (fNotT t S) QB = wE (t S) fun b S1 => QB (!b) S1 := wE_bnd
@[simp] theorem wE_fIte {α : Type} {Q : α → FS → Prop} {x y : FS → Res α} : wE (fIte t x y S) Q = wE (t S) fun b S1 => (b = true → wE (x S1) Q) ∧ (b = false → wE (y S1) Q) := by
  unfold fIte; rw [wE_bnd]; congr; funext b S1; cases b <;> simp
@[simp] theorem wE_fAndV : wE (fAndV f g S) Q = wE (f S) fun d S1 => wBool d fun b => (b = true → wE (g S1) Q) ∧ (b = false → Q (.bool false) S1) := by
  unfold fAndV; rw [wE_bnd]; congr; funext d S1
  cases d with
  | bool b => cases b <;> simp
  | _ => rfl
@[simp] theorem wE_fOrV : wE (fOrV f g S) Q = wE (f S) fun d S1 => wBool d fun b => (b = true → Q (.bool true) S1) ∧ (b = false → wE (g S1) Q) := by
  unfold fOrV; rw [wE_bnd]; congr; funext d S1
  cases d with
  | bool b => cases b <;> simp
  | _ => rfl
@[simp] theorem wE_fNotV : wE (fNotV f S) Q = wE (f S) fun d S1 => wO (dTru d) fun b => Q (.bool (!b)) S1 := by
  unfold fNotV; rw [wE_bnd, wE_fTru]; rfl
@[simp] theorem wE_neg : wE (bnd f pNeg S) Q = wE (f S) fun d S1 => wInt d fun i => Q (.int (-i)) S1 := by
  rw [wE_bnd]; congr; funext d S1; cases d <;> rfl
@[simp] theorem wE_fCons : wE (fCons f gl S) QL = wE (f S) fun d S1 => wE (gl S1) fun ds S2 => QL (d :: ds) S2 := by
  unfold fCons; rw [wE_bnd]; congr; funext d S1; rw [wE_bnd]; rfl
@[simp] theorem wE_fTup : wE (fTup gl S) Q = wE (gl S) fun ds S1 => ds.length ≤ sizeLine ∧ Q (.tuple ds) S1 := by
  unfold fTup; rw [wE_bnd]; congr; funext d S1; split <;> simp [*]
@[simp] theorem wE_fLst : wE (fLst gl S) QV = wE (gl S) fun ds S1 => ds.length ≤ sizeLine ∧ QV (.own (.lst ds)) S1 := by
  unfold fLst; rw [wE_bnd]; congr; funext d S1; split <;> simp [*]
@[simp] theorem wE_fPart : wE (fPart f S) QO = wE (f S) fun d S1 => wInt d fun i => QO (some i) S1 := by
  unfold fPart; rw [wE_bnd]; congr; funext d S1; cases d <;> rfl
@[simp] theorem wE_fSl {lo hi : FS → Res (Option Int)} : wE (fSl f lo hi S) QV = wE (f S) fun d S1 => wE (lo S1) fun a S2 => wE (hi S2) fun b S3 => wE (pSl d a b S3) QV := by
  unfold fSl; rw [wE_bnd]; congr; funext d S1; rw [wE_bnd]; congr; funext a S2; rw [wE_bnd]
@[simp] theorem wE_fSlN {lo hi : FS → Res (Option Int)} {i : Nat} : wE (fSlN i lo hi S) QV = wPeek S[i]? fun _ => wE (lo S) fun a S2 => wE (hi S2) fun b S3 => wPeek S3[i]? fun d => wE (pSl d a b S3) QV := by
  unfold fSlN; rw [wE_bnd, wE_fPeek]; congr; funext d; rw [wE_bnd]; congr; funext a S2; rw [wE_bnd]; congr; funext b S3; rw [wE_bnd, wE_fPeek]
@[simp] theorem wE_pSl_t {ds : List D} {a b : Option Int} : wE (pSl (.tuple ds) a b S) QV = QV (.d (.tuple (cutL ds a b))) S := rfl
@[simp] theorem wE_pSl_l {ds : List D} {a b : Option Int} : wE (pSl (.list ds) a b S) QV = QV (.own (.lst (cutL ds a b))) S := rfl
@[simp] theorem wE_fCall {α : Type} {Q : α → FS → Prop} {p : List D → FS → Res α} : wE (fCall p gl S) Q = wE (gl S) fun ds S1 => wE (p ds S1) Q := wE_bnd
@[simp] theorem wE_one {α : Type} {Q : α → FS → Prop} {p : D → FS → Res α} : wE (one p [d] S) Q = wE (p d S) Q := rfl
@[simp] theorem wE_two {α : Type} {Q : α → FS → Prop} {p : D → D → FS → Res α} : wE (two p [d, e] S) Q = wE (p d e S) Q := rfl
@[simp] theorem wE_pLen_t {ds : List D} : wE (pLen (.tuple ds) S) Q = Q (.int ds.length) S := rfl
@[simp] theorem wE_pLen_l {ds : List D} : wE (pLen (.list ds) S) Q = Q (.int ds.length) S := rfl
@[simp] theorem wE_pToInt {i : Int} : wE (pToInt (.int i) S) Q = Q (.int i) S := rfl
@[simp] theorem wE_pAbs {i : Int} : wE (pAbs (.int i) S) Q = Q (.int (if i < 0 then -i else i)) S := rfl
@[simp] theorem wE_pMax2 {i j : Int} : wE (pMax2 (.int i) (.int j) S) Q = Q (.int (if j > i then j else i)) S := rfl
@[simp] theorem wE_pMin2 {i j : Int} : wE (pMin2 (.int i) (.int j) S) Q = Q (.int (if j < i then j else i)) S := rfl
@[simp] theorem wE_pTuple_t {ds : List D} : wE (pTuple (.tuple ds) S) Q = Q (.tuple ds) S := rfl
@[simp] theorem wE_pTuple_l {ds : List D} : wE (pTuple (.list ds) S) Q = Q (.tuple ds) S := rfl
@[simp] theorem wE_pList_t {ds : List D} : wE (pList (.tuple ds) S) QV = QV (.own (.lst ds)) S := rfl
@[simp] theorem wE_pList_l {ds : List D} : wE (pList (.list ds) S) QV = QV (.own (.lst ds)) S := rfl
@[simp] theorem wE_pAll {ds : List D} : wE (pAll (.list ds) S) Q = wO (bls ds) fun bs => Q (.bool (bs.all id)) S := by
  unfold pAll; cases h : bls ds <;> simp [h]
@[simp] theorem wE_pAny {ds : List D} : wE (pAny (.list ds) S) Q = wO (bls ds) fun bs => Q (.bool (bs.any id)) S := by
  unfold pAny; cases h : bls ds <;> simp [h]
@[simp] theorem wE_pRepr_l {ds : List D} : wE (pRepr (.list ds) S) Q = (showOk (.list ds) ∧ Q (.str (PyData.shown (.list ds))) S) := by
  unfold pRepr; simp only; split <;> simp [*]
@[simp] theorem wE_pRepr_t {ds : List D} : wE (pRepr (.tuple ds) S) Q = (showOk (.tuple ds) ∧ Q (.str (PyData.shown (.tuple ds))) S) := by
  unfold pRepr; simp only; split <;> simp [*]
@[simp] theorem wE_fIsi {T : String} : wE (fIsi T f S) Q = wE (f S) fun d S1 => Q (.bool (isT (dTyp d) T)) S1 := wE_bnd
-- operators
@[simp] theorem wE_pSub : wE (pSub d e S) Q = wInt d fun i => wInt e fun j => Q (.int (i - j)) S := by cases d <;> cases e <;> rfl
@[simp] theorem wE_pMul : wE (pMul d e S) Q = wInt d fun i => wInt e fun j => CMulW i j ∧ Q (.int (i * j)) S := by
  cases d <;> cases e <;> simp [pMul, pInt, wInt]
  split <;> simp_all
@[simp] theorem wE_pDiv : wE (pDiv d e S) Q = wInt d fun i => wInt e fun j => CDivW i j ∧ Q (.int (i / j)) S := by
  cases d <;> cases e <;> simp [pDiv, pInt, wInt]
  split <;> simp_all
@[simp] theorem wE_pMod : wE (pMod d e S) Q = wInt d fun i => wInt e fun j => 0 < j ∧ Q (.int (i % j)) S := by
  cases d <;> cases e <;> simp only [pMod, pInt, wInt, wE_bad]
  rename_i i j
  by_cases h : 0 < j
  · simp [h]
  · simp [h]
@[simp] theorem wE_pPow : wE (pPow d e S) Q = wInt d fun i => wInt e fun j => CPow i j ∧ Q (.int (i ^ j.toNat)) S := by
  cases d <;> cases e <;> simp [pPow, pInt, wInt]
  split <;> simp_all
@[simp] theorem wE_pAnd : wE (pAnd d e S) Q = wInt d fun i => wInt e fun j => Q (.int (Builtin.bitAnd i j)) S := by cases d <;> cases e <;> rfl
@[simp] theorem wE_pCmp {g : Int → Int → Bool} : wE (pCmp g d e S) Q = wInt d fun i => wInt e fun j => Q (.bool (g i j)) S := by cases d <;> cases e <;> rfl
@[simp] theorem wE_pEq : wE (pEq d e S) Q = (eqOk d e = true ∧ Q (.bool (PyData.eqv d e)) S) := by
  unfold pEq; split <;> simp [*]
@[simp] theorem wE_pNe : wE (pNe d e S) Q = (eqOk d e = true ∧ Q (.bool (!PyData.eqv d e)) S) := by
  unfold pNe; split <;> simp [*]
@[simp] theorem wE_pIsB_b {b : Bool} : wE (pIsB d (.bool b) S) Q = Q (.bool (dIsB b d)) S := rfl
@[simp] theorem wE_pIsB_n : wE (pIsB d .none S) Q = Q (.bool (dNone d)) S := rfl
@[simp] theorem wE_pIsNotB_b {b : Bool} : wE (pIsNotB d (.bool b) S) Q = Q (.bool (!dIsB b d)) S := rfl
@[simp] theorem wE_pIsNotB_n : wE (pIsNotB d .none S) Q = Q (.bool (!dNone d)) S := rfl
@[simp] theorem wE_pAdd_i {i j : Int} : wE (pAdd (.int i) (.int j) S) QV = QV (.d (.int (i + j))) S := rfl
@[simp] theorem wE_pAdd_t {xs ys : List D} : wE (pAdd (.tuple xs) (.tuple ys) S) QV = (xs.length + ys.length ≤ sizeLine ∧ QV (.d (.tuple (xs ++ ys))) S) := by
  unfold pAdd; simp only; split <;> simp [*]
@[simp] theorem wE_pAdd_l {xs ys : List D} : wE (pAdd (.list xs) (.list ys) S) QV = (xs.length + ys.length ≤ sizeLine ∧ QV (.own (.lst (xs ++ ys))) S) := by
  unfold pAdd; simp only; split <;> simp [*]
@[simp] theorem wE_pIx_t {xs : List D} {i : Int} : wE (pIx (.tuple xs) (.int i) S) Q = wO (atI xs i) fun d => Q d S := by
  unfold pIx; simp only; cases h : atI xs i <;> simp [h]
@[simp] theorem wE_pIx_l {xs : List D} {i : Int} : wE (pIx (.list xs) (.int i) S) Q = wO (atI xs i) fun d => Q d S := by
  unfold pIx; simp only; cases h : atI xs i <;> simp [h]
-- iterables
@[simp] theorem wE_fItems : wE (fItems f S) QL = wE (f S) fun d S1 => wItems d fun ds => QL ds S1 := by
  unfold fItems; rw [wE_bnd]; congr; funext d S1; cases d <;> rfl
@[simp] theorem wE_fRange1 : wE (fRange1 f S) QL = wE (f S) fun d S1 => wInt d fun j => inR j ∧ QL (rngD 0 j.toNat) S1 := by
  unfold fRange1; rw [wE_bnd]; congr; funext d S1
  cases d <;> simp [wInt]
  split <;> simp [*]
@[simp] theorem wE_fRange2 : wE (fRange2 f g S) QL = wE (f S) fun d S1 => wE (g S1) fun e S2 => wInt d fun i => wInt e fun j => (inR i ∧ inR j) ∧ QL (rngD i (j - i).toNat) S2 := by
  unfold fRange2; rw [wE_bnd]; congr; funext d S1; rw [wE_bnd]; congr; funext e S2
  cases d <;> cases e <;> simp [wInt]
  split <;> simp_all
-- chains
@[simp] theorem wE_fChain {p p' : D → D → FS → Res D} : wE (fChain p p' f fa fb S) Q = wE (f S) fun d S1 => wE (fa S1) fun e S2 => wE (p d e S2) fun z S3 => wBool z fun b => (b = true → wE (fb S3) fun h S4 => wE (p' e h S4) Q) ∧ (b = false → Q (.bool false) S3) := by
  unfold fChain; rw [wE_bnd]; congr; funext d S1; rw [wE_bnd]; congr; funext e S2; rw [wE_bnd]; congr; funext z S3
  cases z with
  | bool b => cases b <;> simp [wE_bnd]
  | _ => rfl
end

/-! statements, calls -/
section
variable {Q : D → FS → Prop} {QV : SV → FS → Prop} {QA : List AD → FS → Prop} {QS : List SV → FS → Prop} {S : FS} {f fk : FS → Res D} {fv : FS → Res SV} {t : FS → Res Bool} {N : FS → Prop} {R : SV → FS → Prop} {B C : FS → Prop} {x y : FS → SRes}
theorem wS_bndS {α : Type} {f : FS → Res α} {k : α → FS → SRes} : wS (bndS f k S) N R B C = wE (f S) fun a S1 => wS (k a S1) N R B C := by
  unfold bndS; cases f S <;> rfl
@[simp] theorem wS_fSeq : wS (fSeq x y S) N R B C = wS (x S) (fun S1 => wS (y S1) N R B C) R B C := by
  unfold fSeq; cases x S <;> rfl
@[simp] theorem wS_fRet : wS (fRet fv S) N R B C = wE (fv S) fun v S1 => R v S1 := wS_bndS
@[simp] theorem wS_fRetD : wS (fRetD f S) N R B C = wE (f S) fun v S1 => R (.d v) S1 := wS_bndS
@[simp] theorem wS_fDrop {α : Type} {f : FS → Res α} : wS (fDrop f S) N R B C = wE (f S) fun _ S1 => N S1 := wS_bndS
@[simp] theorem wS_fIf : wS (fIf t x y S) N R B C = wE (t S) fun b S1 => (b = true → wS (x S1) N R B C) ∧ (b = false → wS (y S1) N R B C) := by
  unfold fIf; rw [wS_bndS]; congr; funext b S1; cases b <;> simp
@[simp] theorem wS_fSet {i : Nat} : wS (fSet i fv S) N R B C = wE (fv S) fun v S1 => N (S1.set i (some v)) := wS_bndS
@[simp] theorem wS_fSetD {i : Nat} : wS (fSetD i f S) N R B C = wE (f S) fun v S1 => N (S1.set i (some (.d v))) := wS_bndS
@[simp] theorem wS_fAug {i : Nat} {g : Int → Int → Int} : wS (fAug .d i (pInt fun i j => some (g i j)) f S) N R B C = wPeek S[i]? fun _ => wE (f S) fun e S1 => wPeek S1[i]? fun d => wInt d fun a => wInt e fun b => N (S1.set i (some (.d (.int (g a b))))) := by
  unfold fAug; rw [wS_bndS, wE_fPeek]; congr; funext d; rw [wS_bndS]; congr; funext e S1; rw [wS_bndS, wE_fPeek]; congr; funext d2; rw [wS_bndS]
  cases d2 <;> cases e <;> rfl
@[simp] theorem wS_fAsg {g : D → FS → Option FS} : wS (fAsg g f S) N R B C = wE (f S) fun d S1 => wO (g d S1) N := by
  unfold fAsg; rw [wS_bndS]; congr; funext d S1; cases h : g d S1 <;> simp [h]
@[simp] theorem wS_fPars {is : List Nat} {fs : FS → Res (List SV)} : wS (fPars is fs S) N R B C = wE (fs S) fun vs S1 => wO (setsV is vs S1) N := by
  unfold fPars; rw [wS_bndS]; congr; funext d S1; cases h : setsV is d S1 <;> simp [h]
def wCons : SV → (SV → Prop) → Prop
  | .d d, k => k (.d d)
  | .own (.lst es), k => k (.own (.lst es))
  | _, _ => False
@[simp] theorem wCons_d {d : D} {k : SV → Prop} : wCons (.d d) k = k (.d d) := rfl
@[simp] theorem wCons_own {es : List D} {k : SV → Prop} : wCons (.own (.lst es)) k = k (.own (.lst es)) := rfl
@[simp] theorem wE_fConsV {g : FS → Res (List SV)} : wE (fConsV fv g S) QS = wE (fv S) fun v S1 => wCons v fun v => wE (g S1) fun vs S2 => QS (v :: vs) S2 := by
  unfold fConsV; rw [wE_bnd]; congr; funext v S1
  cases v with
  | d d => simp [wE_bnd]
  | own o => cases o <;> simp [wE_bnd, wCons]
  | pin o => rfl
theorem wLst_w {i : Nat} {k : List D → FS → SRes} : wS (wLst i k S) N R B C = wO (lstAt S i) fun ds => wS (k ds S) N R B C := by
  unfold wLst; cases h : lstAt S i <;> simp [h]
@[simp] theorem wS_fAppend {i : Nat} : wS (fAppend i f S) N R B C = wO (lstAt S i) fun _ => wE (f S) fun d S1 => wO (lstAt S1 i) fun ds => ds.length < sizeLine ∧ N (putLst S1 i (ds ++ [d])) := by
  unfold fAppend; rw [wLst_w]; congr; funext ds; rw [wS_bndS]; congr; funext d S1; rw [wLst_w]; congr; funext ds; split <;> simp [*]
def wLs' : SV → (List D → Prop) → Prop
  | .own (.lst es), k => k es
  | _, _ => False
@[simp] theorem wLs'_own {es : List D} {k : List D → Prop} : wLs' (.own (.lst es)) k = k es := rfl
@[simp] theorem wS_fExtend {i : Nat} : wS (fExtend i fv S) N R B C = wO (lstAt S i) fun _ => wE (fv S) fun v S1 => wLs' v fun es => wO (lstAt S1 i) fun ds => ds.length + es.length ≤ sizeLine ∧ N (putLst S1 i (ds ++ es)) := by
  unfold fExtend; rw [wLst_w]; congr; funext ds; rw [wS_bndS]; congr; funext v S1
  cases v with
  | own o =>
    cases o with
    | lst es => simp only [wLs'_own]; rw [wLst_w]; congr; funext ds; split <;> simp [*]
    | dic _ => rfl
  | _ => rfl
@[simp] theorem wS_fSetIx {i : Nat} : wS (fSetIx i f fk S) N R B C = wE (f S) fun d S1 => wPeek S1[i]? fun _ => wE (fk S1) fun k S2 => wO (lstAt S2 i) fun ds => wInt k fun j => wO (ixN ds.length j) fun m => N (putLst S2 i (ds.set m d)) := by
  unfold fSetIx; rw [wS_bndS]; congr; funext d S1; rw [wS_bndS, wE_fPeek]; congr; funext e; rw [wS_bndS]; congr; funext k S2; rw [wLst_w]; congr; funext ds
  cases k with
  | int j => cases h : ixN ds.length j <;> simp [h]
  | _ => rfl
@[simp] theorem wS_fFor {it : FS → Res (List D)} {g : D → FS → Option FS} {b : FS → SRes} : wS (fFor it g b S) N R B C = wE (it S) fun ds S1 => wS (forF g b ds S1) N R B C := wS_bndS
-- calls
@[simp] theorem wE_fAD {g : FS → Res (List AD)} : wE (fAD f g S) QA = wE (f S) fun d S1 => wE (g S1) fun as S2 => QA (.d d :: as) S2 := by
  unfold fAD; rw [wE_bnd]; congr; funext d S1; rw [wE_bnd]; rfl
def isSome2 : Option (Option SV) → Prop
  | some (some _) => True
  | _ => False
@[simp] theorem isSome2_some {v : SV} : isSome2 (some (some v)) = True := rfl
@[simp] theorem wE_fAS {i : Nat} {g : FS → Res (List AD)} : wE (fAS i g S) QA = (isSome2 S[i]? ∧ wE (g S) fun as S2 => QA (.s i :: as) S2) := by
  unfold fAS
  split
  · rename_i h; rw [h, wE_bnd]; simp
  · rename_i h
    cases e : S[i]? with
    | none => simp [isSome2]
    | some o =>
      cases o with
      | none => simp [isSome2]
      | some v => exact (h v e).elim
theorem wE_callD {den : Den} {as : List AD} : wE (callD den as S) QV = ((slotsOf as).Nodup ∧ wO (resolve S as) fun svs => wC (den svs) fun ret svs' => wO (back as svs' S) fun S' => QV ret S') := by
  unfold callD
  by_cases hn : (slotsOf as).Nodup
  · rw [if_pos hn]
    cases h : resolve S as with
    | none => simp [hn]
    | some svs =>
      cases h2 : den svs with
      | ok ret svs' =>
        cases h3 : back as svs' S with
        | none => simp [hn, h2, wC, h3]
        | some S' => simp [hn, h2, wC, h3]
      | exn e svs' =>
        cases h3 : back as svs' S <;> simp [hn, h2, wC, h3]
      | bad => simp [hn, h2, wC]
  · rw [if_neg hn]; simp [hn]
@[simp] theorem wE_fCallP {den : Den} {n : Nat} {f : FS → Res (List AD)} : wE (fCallP den n f S) QV = wE (f S) fun as S1 => as.length = n ∧ wE (callD den as S1) QV := by
  unfold fCallP; rw [wE_bnd]; congr; funext as S1; split <;> simp [*]
@[simp] theorem wE_fCallK {den : Den} {n m nk : Nat} {perm : List Nat} {f g : FS → Res (List AD)} : wE (fCallK den n m nk perm f g S) QV = wE (f S) fun as S1 => wE (g S1) fun bs S2 => (as.length = m ∧ bs.length = nk ∧ (permL perm (as ++ bs)).length = n) ∧ wE (callD den (permL perm (as ++ bs)) S2) QV := by
  unfold fCallK; rw [wE_bnd]; congr; funext as S1; rw [wE_bnd]; congr; funext bs S2; split <;> simp [*]
theorem wC_denOf {n : Nat} {b : FS → SRes} {svs : List SV} {Q : SV → List SV → Prop} : wC (denOf n b svs) Q = wS (b (startS n svs)) (fun S => wO (pinsAt svs S) fun l => Q (.d .none) l) (fun v S => wO (pinsAt svs S) fun l => Q v l) (fun _ => False) (fun _ => False) := by
  unfold denOf
  cases h : b (startS n svs) with
  | nx S1 => cases h2 : pinsAt svs S1 <;> simp [h2, wC]
  | rt v S1 => cases h2 : pinsAt svs S1 <;> simp [h2, wC]
  | exn e S1 => cases h2 : pinsAt svs S1 <;> simp [h2, wC, wS]
  | bk S1 => rfl
  | ct S1 => rfl
  | bad => rfl
theorem wC.ok {r : CRes} {Q : SV → List SV → Prop} (h : wC r Q) : ∃ v l, r = .ok v l ∧ Q v l := by
  cases r with
  | ok v l => exact ⟨v, l, rfl, h⟩
  | _ => exact h.elim
theorem wC.mono {r : CRes} {Q Q' : SV → List SV → Prop} (h : wC r Q) (k : ∀ v l, Q v l → Q' v l) : wC r Q' := by
  cases r with
  | ok v l => exact k v l h
  | _ => exact h.elim
theorem wC_of {r : CRes} {Q : SV → List SV → Prop} {v : SV} {l : List SV} (h : r = .ok v l) (q : Q v l) : wC r Q := by rw [h]; exact q
theorem wE.mono {α : Type} {r : Res α} {Q Q' : α → FS → Prop} (h : wE r Q) (k : ∀ v l, Q v l → Q' v l) : wE r Q' := by
  cases r with
  | ok v l => exact k v l h
  | _ => exact h.elim
theorem wS.imp {r : SRes} {N' : FS → Prop} {R' : SV → FS → Prop} {B' C' : FS → Prop} (h : wS r N R B C) (k : ∀ S, N S → N' S) (k2 : ∀ v S, R v S → R' v S) (k3 : ∀ S, B S → B' S) (k4 : ∀ S, C S → C' S) : wS r N' R' B' C' := by
  cases r with
  | nx S => exact k S h
  | rt v S => exact k2 v S h
  | bk S => exact k3 S h
  | ct S => exact k4 S h
  | _ => exact h.elim
theorem wS.mono {r : SRes} {N' : FS → Prop} {R' : SV → FS → Prop} (h : wS r N R B C) (k : ∀ S, N S → N' S) (k2 : ∀ v S, R v S → R' v S) : wS r N' R' B C := by
  cases r with
  | nx S => exact k S h
  | rt v S => exact k2 v S h
  | bk S => exact h
  | ct S => exact h
  | _ => exact h.elim
end
/-! loops -/
section
variable {S : FS} {N : FS → Prop} {R : SV → FS → Prop} {B C : FS → Prop}
theorem wS_forF {g : D → FS → Option FS} {b : FS → SRes} {ds : List D} (I : Nat → FS → Prop) (h0 : I 0 S) (step : ∀ i d S, ds[i]? = some d → I i S → wO (g d S) fun S1 => wS (b S1) (I (i + 1)) R N (I (i + 1))) (hN : ∀ S, I ds.length S → N S) : wS (forF g b ds S) N R B C := by
  have key : ∀ (es : List D) (i : Nat) (S : FS), ds.drop i = es → i ≤ ds.length → I i S → wS (forF g b es S) N R B C := by
    intro es
    induction es with
    | nil =>
      intro i S hd hi h
      have : i = ds.length := by
        have := congrArg List.length hd
        simp at this; omega
      subst this
      exact hN S h
    | cons d es ih =>
      intro i S hd hi h
      have hl : i < ds.length := by
        have := congrArg List.length hd
        simp at this; omega
      have hg : ds[i]? = some d := by
        have := congrArg (fun l => l[0]?) hd
        simpa using this
      have hd2 : ds.drop (i + 1) = es := by
        have := congrArg List.tail hd
        simpa using this
      have st := step i d S hg h
      cases e : g d S with
      | none => rw [e] at st; exact st.elim
      | some S1 =>
        rw [e] at st
        have st : wS (b S1) (I (i + 1)) R N (I (i + 1)) := st
        simp only [forF, e]
        cases e2 : b S1 with
        | nx S2 => rw [e2] at st; exact ih (i + 1) S2 hd2 hl st
        | ct S2 => rw [e2] at st; exact ih (i + 1) S2 hd2 hl st
        | bk S2 => rw [e2] at st; exact st
        | rt v S2 => rw [e2] at st; exact st
        | exn v S2 => rw [e2] at st; exact st.elim
        | bad => rw [e2] at st; exact st.elim
  exact key ds 0 S rfl (Nat.zero_le _) h0
theorem wS_while {c : FS → Res Bool} {b : FS → SRes} (I : Nat → FS → Prop) (m : Nat) (h0 : I m S) (step : ∀ m S, I m S → wE (c S) fun k S1 => (k = true → wS (b S1) (fun S2 => ∃ m', m' < m ∧ I m' S2) R N (fun S2 => ∃ m', m' < m ∧ I m' S2)) ∧ (k = false → N S1)) : wS (whileF c b S) N R B C := by
  have key : ∀ (m : Nat) (S : FS), I m S → wS (whileF c b S) N R B C := by
    intro m
    induction m using Nat.strongRecOn with
    | ind m ih =>
      intro S h
      have st := step m S h
      rw [whileF_eq]
      cases e : c S with
      | ok k S1 =>
        rw [e] at st
        cases k with
        | false => exact st.2 rfl
        | true =>
          have st := st.1 rfl
          simp only
          cases e2 : b S1 with
          | nx S2 => rw [e2] at st; obtain ⟨m', hm, h'⟩ := st; exact ih m' hm S2 h'
          | ct S2 => rw [e2] at st; obtain ⟨m', hm, h'⟩ := st; exact ih m' hm S2 h'
          | bk S2 => rw [e2] at st; exact st
          | rt v S2 => rw [e2] at st; exact st
          | exn v S2 => rw [e2] at st; exact st.elim
          | bad => rw [e2] at st; exact st.elim
      | exn e2 S1 => rw [e] at st; exact st.elim
      | bad => rw [e] at st; exact st.elim
  exact key m S h0
@[simp] theorem wE_fLc {it : FS → Res (List D)} {g : D → FS → Option FS} {t : FS → Res Bool} {fe : FS → Res D} {vs : List Nat} {Q : SV → FS → Prop} : wE (fLc it g t fe vs S) Q = wE (it S) fun ds S1 => wE (lcF g t fe vs ds S1 []) Q := wE_bnd
theorem wE_lcF {g : D → FS → Option FS} {t : FS → Res Bool} {fe : FS → Res D} {vs : List Nat} {ds : List D} {Q : SV → FS → Prop} (I : Nat → List D → FS → Prop) (h0 : I 0 [] S)
    (step : ∀ i d acc S, ds[i]? = some d → I i acc S → wO (g d (wipeS S vs)) fun S1 => wE (t S1) fun k S2 => (k = false → I (i + 1) acc (restS S S2 vs)) ∧ (k = true → wE (fe S2) fun y S3 => acc.length < sizeLine ∧ I (i + 1) (acc ++ [y]) (restS S S3 vs)))
    (hQ : ∀ acc S, I ds.length acc S → Q (.own (.lst acc)) S) : wE (lcF g t fe vs ds S []) Q := by
  have key : ∀ (es : List D) (i : Nat) (acc : List D) (S : FS), ds.drop i = es → i ≤ ds.length → I i acc S → wE (lcF g t fe vs es S acc) Q := by
    intro es
    induction es with
    | nil =>
      intro i acc S hd hi h
      have : i = ds.length := by
        have := congrArg List.length hd
        simp at this; omega
      subst this
      exact hQ acc S h
    | cons d es ih =>
      intro i acc S hd hi h
      have hl : i < ds.length := by
        have := congrArg List.length hd
        simp at this; omega
      have hg : ds[i]? = some d := by
        have := congrArg (fun l => l[0]?) hd
        simpa using this
      have hd2 : ds.drop (i + 1) = es := by
        have := congrArg List.tail hd
        simpa using this
      have st := step i d acc S hg h
      cases e : g d (wipeS S vs) with
      | none => rw [e] at st; exact st.elim
      | some S1 =>
        rw [e] at st
        have st : wE (t S1) _ := st
        simp only [lcF, e]
        cases e2 : t S1 with
        | exn v S2 => rw [e2] at st; exact st.elim
        | bad => rw [e2] at st; exact st.elim
        | ok k S2 =>
          rw [e2] at st
          cases k with
          | false => exact ih (i + 1) acc _ hd2 hl (st.1 rfl)
          | true =>
            have st := st.2 rfl
            simp only
            cases e3 : fe S2 with
            | exn v S3 => rw [e3] at st; exact st.elim
            | bad => rw [e3] at st; exact st.elim
            | ok y S3 =>
              rw [e3] at st
              obtain ⟨s1, s2⟩ := st
              simp only
              rw [if_pos s1]
              exact ih (i + 1) _ _ hd2 hl s2
  exact key ds 0 [] S rfl (Nat.zero_le _) h0
@[simp] theorem wE_fAny {stop : Bool} {it : FS → Res (List D)} {g : D → FS → Option FS} {t : FS → Res Bool} {fe : FS → Res D} {vs : List Nat} {Q : D → FS → Prop} : wE (fAny stop it g t fe vs S) Q = wE (it S) fun ds S1 => wE (anyF stop g t fe vs ds S1) fun b S2 => Q (.bool b) S2 := by
  unfold fAny; rw [wE_bnd]; congr; funext ds S1; cases h : anyF stop g t fe vs ds S1 <;> simp [h]
theorem wE_anyF {stop : Bool} {g : D → FS → Option FS} {t : FS → Res Bool} {fe : FS → Res D} {vs : List Nat} {ds : List D} {Q : Bool → FS → Prop} (I : Nat → FS → Prop) (h0 : I 0 S)
    (step : ∀ i d S, ds[i]? = some d → I i S → wO (g d (wipeS S vs)) fun S1 => wE (t S1) fun k S2 => (k = false → I (i + 1) (restS S S2 vs)) ∧ (k = true → wE (fe S2) fun y S3 => wBool y fun b => (b = stop → Q stop (restS S S3 vs)) ∧ (b ≠ stop → I (i + 1) (restS S S3 vs))))
    (hQ : ∀ S, I ds.length S → Q (!stop) S) : wE (anyF stop g t fe vs ds S) Q := by
  have key : ∀ (es : List D) (i : Nat) (S : FS), ds.drop i = es → i ≤ ds.length → I i S → wE (anyF stop g t fe vs es S) Q := by
    intro es
    induction es with
    | nil =>
      intro i S hd hi h
      have : i = ds.length := by
        have := congrArg List.length hd
        simp at this; omega
      subst this
      exact hQ S h
    | cons d es ih =>
      intro i S hd hi h
      have hl : i < ds.length := by
        have := congrArg List.length hd
        simp at this; omega
      have hg : ds[i]? = some d := by
        have := congrArg (fun l => l[0]?) hd
        simpa using this
      have hd2 : ds.drop (i + 1) = es := by
        have := congrArg List.tail hd
        simpa using this
      have st := step i d S hg h
      cases e : g d (wipeS S vs) with
      | none => rw [e] at st; exact st.elim
      | some S1 =>
        rw [e] at st
        have st : wE (t S1) _ := st
        simp only [anyF, e]
        cases e2 : t S1 with
        | exn v S2 => rw [e2] at st; exact st.elim
        | bad => rw [e2] at st; exact st.elim
        | ok k S2 =>
          rw [e2] at st
          cases k with
          | false => exact ih (i + 1) _ hd2 hl (st.1 rfl)
          | true =>
            have st := st.2 rfl
            simp only
            cases e3 : fe S2 with
            | exn v S3 => rw [e3] at st; exact st.elim
            | bad => rw [e3] at st; exact st.elim
            | ok y S3 =>
              rw [e3] at st
              cases y with
              | bool k =>
                obtain ⟨s1, s2⟩ := st
                simp only
                by_cases hk : k = stop
                · rw [if_pos hk]; exact s1 hk
                · rw [if_neg hk]; exact ih (i + 1) _ hd2 hl (s2 hk)
              | _ => exact st.elim
  exact key ds 0 S rfl (Nat.zero_le _) h0
end

def lsO : Option (Option SV) → Option (List D)
  | some (some (.own (.lst ds))) => some ds
  | some (some (.pin (.lst ds))) => some ds
  | _ => none
@[simp] theorem lsO_own {ds : List D} : lsO (some (some (.own (.lst ds)))) = some ds := rfl
@[simp] theorem lsO_pin {ds : List D} : lsO (some (some (.pin (.lst ds)))) = some ds := rfl
@[simp] theorem lstAt_eq {S : FS} {i : Nat} : lstAt S i = lsO S[i]? := by
  unfold lstAt lsO; split <;> simp_all
def mkO : Option (Option SV) → Ob → SV
  | some (some (.pin _)), o => .pin o
  | _, o => .own o
@[simp] theorem mkO_own {o o' : Ob} : mkO (some (some (.own o))) o' = .own o' := rfl
@[simp] theorem mkO_pin {o o' : Ob} : mkO (some (some (.pin o))) o' = .pin o' := rfl
@[simp] theorem putLst_eq {S : FS} {i : Nat} {ds : List D} : putLst S i ds = S.set i (some (mkO S[i]? (.lst ds))) := by
  unfold putLst mkO; split <;> simp_all
@[simp] theorem setOb_eq {S : FS} {i : Nat} {o : Ob} : setOb S i o = S.set i (some (mkO S[i]? o)) := by
  unfold setOb mkO; split <;> simp_all
@[simp] theorem isT_e {a T : String} : isT a T = (a == T || (a == "bool" && T == "int")) := rfl
@[simp] theorem bls_e1 : bls [] = some [] := rfl
@[simp] theorem bls_e2 {b : Bool} {r : List D} : bls (.bool b :: r) = (bls r).map (b :: ·) := rfl
@[simp] theorem gN_e {i : Nat} {d : D} {S : FS} : gN i d S = some (S.set i (some (.d d))) := rfl
@[simp] theorem gNl_e {S : FS} : gNl [] S = some S := rfl
@[simp] theorem gCs_e1 {g : D → FS → Option FS} {h : List D → FS → Option FS} {d : D} {ds : List D} {S : FS} : gCs g h (d :: ds) S = (g d S).bind (h ds) := rfl
@[simp] theorem gCs_e2 {g : D → FS → Option FS} {h : List D → FS → Option FS} {S : FS} : gCs g h [] S = none := rfl
@[simp] theorem gTp_e {n : Nat} {g : List D → FS → Option FS} {ds : List D} {S : FS} : gTp n g (.tuple ds) S = if ds.length = n then g ds S else none := rfl
@[simp] theorem inR_e {j : Int} : inR j = (-4611686018427387904 ≤ j ∧ j < 4611686018427387904) := by
  unfold inR
  rw [show (2 : Int) ^ 62 = 4611686018427387904 from by decide]
@[simp] theorem keepD_e1 {d : D} : keepD (some (.d d)) = some (.d d) := rfl
@[simp] theorem keepD_e2 : keepD none = none := rfl
@[simp] theorem keepD_e3 {o : Ob} : keepD (some (.own o)) = none := rfl
@[simp] theorem keepD_e4 {o : Ob} : keepD (some (.pin o)) = none := rfl
@[simp] theorem wipeS_e {S : FS} {vs : List Nat} : wipeS S vs = setAll S vs fun _ => none := rfl
@[simp] theorem restS_e {S S2 : FS} {vs : List Nat} : restS S S2 vs = setAll S2 vs fun v => keepD (S.getD v none) := rfl
@[simp] theorem setAll_e1 {β : Type} {S : List β} {f : Nat → β} : setAll S [] f = S := rfl
@[simp] theorem setAll_e2 {β : Type} {S : List β} {f : Nat → β} {v : Nat} {vs : List Nat} : setAll S (v :: vs) f = (setAll S vs f).set v (f v) := rfl
@[simp] theorem resolve_e1 {S : FS} : resolve S [] = some [] := rfl
@[simp] theorem resolve_e2 {S : FS} {d : D} {r : List AD} : resolve S (.d d :: r) = (resolve S r).map (.d d :: ·) := rfl
@[simp] theorem resolve_e3 {S : FS} {i : Nat} {r : List AD} : resolve S (.s i :: r) = match S[i]? with
    | some (some (.own ob)) => (resolve S r).map (.pin ob :: ·)
    | some (some (.pin ob)) => (resolve S r).map (.pin ob :: ·)
    | _ => none := rfl
@[simp] theorem back_e1 {S : FS} {l : List SV} : back [] l S = some S := rfl
@[simp] theorem back_e2 {S : FS} {l : List SV} {d : D} {v : SV} {r : List AD} : back (.d d :: r) (v :: l) S = back r l S := rfl
@[simp] theorem back_e3 {S : FS} {l : List SV} {i : Nat} {ob : Ob} {r : List AD} : back (.s i :: r) (.pin ob :: l) S = back r l (setOb S i ob) := rfl
@[simp] theorem slotsOf_e1 : slotsOf [] = [] := rfl
@[simp] theorem slotsOf_e2 {d : D} {r : List AD} : slotsOf (.d d :: r) = slotsOf r := rfl
@[simp] theorem slotsOf_e3 {i : Nat} {r : List AD} : slotsOf (.s i :: r) = i :: slotsOf r := rfl
@[simp] theorem pinsAt_e1 {S : FS} : Fz.pinsAt [] S = some [] := rfl
@[simp] theorem pinsAt_e2 {S : FS} {ob ob' : Ob} {r : List SV} : Fz.pinsAt (.pin ob :: r) (some (.pin ob') :: S) = (Fz.pinsAt r S).map (.pin ob' :: ·) := rfl
@[simp] theorem pinsAt_e3 {S : FS} {d : D} {c : Option SV} {r : List SV} : Fz.pinsAt (.d d :: r) (c :: S) = (Fz.pinsAt r S).map (.d d :: ·) := rfl
@[simp] theorem pinsAt_e4 {S : FS} {o : Ob} {c : Option SV} {r : List SV} : Fz.pinsAt (.own o :: r) (c :: S) = (Fz.pinsAt r S).map (.own o :: ·) := rfl
@[simp] theorem startS_e {n : Nat} {svs : List SV} : startS n svs = svs.map some ++ List.replicate (n - svs.length) none := rfl
@[simp] theorem setsV_e1 {S : FS} : setsV [] [] S = some S := rfl
@[simp] theorem setsV_e2 {S : FS} {i : Nat} {is : List Nat} {v : SV} {vs : List SV} : setsV (i :: is) (v :: vs) S = setsV is vs (S.set i (some v)) := rfl
@[simp] theorem permL_e {α : Type} {p : List Nat} {l : List α} : permL p l = p.filterMap fun i => l[i]? := rfl
@[simp] theorem dTyp_none : dTyp .none = "NoneType" := rfl
@[simp] theorem dTyp_bool {b : Bool} : dTyp (.bool b) = "bool" := rfl
@[simp] theorem dTyp_int {i : Int} : dTyp (.int i) = "int" := rfl
@[simp] theorem dTyp_str {x : Str} : dTyp (.str x) = "str" := rfl
@[simp] theorem dTyp_tuple {ds : List D} : dTyp (.tuple ds) = "tuple" := rfl
@[simp] theorem dTyp_list {ds : List D} : dTyp (.list ds) = "list" := rfl
@[simp] theorem dIsB_bool {b c : Bool} : dIsB b (.bool c) = (c == b) := rfl
@[simp] theorem dIsB_none {b : Bool} : dIsB b .none = false := rfl
@[simp] theorem dIsB_int {b : Bool} {i : Int} : dIsB b (.int i) = false := rfl
@[simp] theorem dNone_none : dNone .none = true := rfl
@[simp] theorem dNone_bool {b : Bool} : dNone (.bool b) = false := rfl
@[simp] theorem dNone_int {i : Int} : dNone (.int i) = false := rfl
@[simp] theorem dNone_str {x : Str} : dNone (.str x) = false := rfl
@[simp] theorem dNone_tuple {ds : List D} : dNone (.tuple ds) = false := rfl
@[simp] theorem dNone_list {ds : List D} : dNone (.list ds) = false := rfl
@[simp] theorem dTru_none : dTru .none = some false := rfl
@[simp] theorem dTru_bool {b : Bool} : dTru (.bool b) = some b := rfl
@[simp] theorem dTru_int {i : Int} : dTru (.int i) = some (i != 0) := rfl
@[simp] theorem dTru_tuple {ds : List D} : dTru (.tuple ds) = some (!ds.isEmpty) := rfl
@[simp] theorem dTru_list {ds : List D} : dTru (.list ds) = some (!ds.isEmpty) := rfl
section
variable {α : Type} {xs : List α}
theorem atI_nat (xs : List α) (k : Nat) : atI xs (k : Int) = xs[k]? := by
  unfold atI ixN
  by_cases h : k < xs.length
  · simp [h]
  · simp [h]
@[simp] theorem atI_cast {k : Nat} : atI xs (k : Int) = xs[k]? := atI_nat xs k
@[simp] theorem atI_0 : atI xs 0 = xs[0]? := atI_nat xs 0
@[simp] theorem atI_1 : atI xs 1 = xs[1]? := atI_nat xs 1
@[simp] theorem atI_2 : atI xs 2 = xs[2]? := atI_nat xs 2
@[simp] theorem atI_3 : atI xs 3 = xs[3]? := atI_nat xs 3
@[simp] theorem atI_4 : atI xs 4 = xs[4]? := atI_nat xs 4
@[simp] theorem atI_5 : atI xs 5 = xs[5]? := atI_nat xs 5
@[simp] theorem atI_6 : atI xs 6 = xs[6]? := atI_nat xs 6
@[simp] theorem atI_7 : atI xs 7 = xs[7]? := atI_nat xs 7
@[simp] theorem atI_8 : atI xs 8 = xs[8]? := atI_nat xs 8
@[simp] theorem atI_9 : atI xs 9 = xs[9]? := atI_nat xs 9
theorem atI_int {i : Int} (h : 0 ≤ i) : atI xs i = xs[i.toNat]? := by
  have e := atI_nat xs i.toNat
  rw [Int.toNat_of_nonneg h] at e
  exact e
theorem atI_last (h : xs ≠ []) : atI xs (-1) = some (xs.getLast h) := by
  unfold atI ixN
  have hl : 0 < xs.length := List.length_pos_iff.mpr h
  have e1 : (-(xs.length : Int) ≤ -1) := by omega
  have e2 : ((-1 : Int) + (xs.length : Int)).toNat = xs.length - 1 := by omega
  simp [e1, e2, List.getLast_eq_getElem]
theorem ixN_nat {n k : Nat} (h : k < n) : ixN n (k : Int) = some k := by unfold ixN; simp [h]
@[simp] theorem ixN_0 {n : Nat} : ixN (n + 1) 0 = some 0 := ixN_nat (k := 0) (Nat.succ_pos n)
@[simp] theorem ixN_1 {n : Nat} : ixN (n + 2) 1 = some 1 := ixN_nat (k := 1) (Nat.lt_add_left n (by decide))
end
theorem szL {n : Nat} (h : n ≤ 16000000) : n ≤ sizeLine := Nat.le_trans h (by decide)
theorem szS {n : Nat} (h : n ≤ 16000000) : n < sizeLine := Nat.lt_of_le_of_lt h (by decide)
end Fz
end

section
set_option Elab.async false
set_option linter.all false
set_option maxRecDepth 100000
set_option maxHeartbeats 4000000
/-! F19: small data; words; arithmetic of the laws' wells. -/
namespace Fz
open PySem L2
theorem log2_small {n k : Nat} (h : n < 2 ^ k) (hk : 0 < k) : n.log2 < k := by
  by_cases h0 : n = 0
  · subst h0; simpa using hk
  · exact (Nat.log2_lt h0).mpr h
theorem mulW {i j : Int} (hi : i.natAbs < 2 ^ 200) (hj : j.natAbs < 2 ^ 200) : CMulW i j := by
  have a := log2_small hi (by decide)
  have b := log2_small hj (by decide)
  unfold CMulW; omega
theorem mulWp {i j : Int} (h0 : 0 ≤ i) (hi : i < 2 ^ 200) (g0 : 0 ≤ j) (hj : j < 2 ^ 200) : CMulW i j := mulW (by omega) (by omega)
theorem divW {i j : Int} (h0 : 0 < j) (hj : j < 2 ^ 200) : CDivW i j := by
  have b := log2_small (n := j.natAbs) (k := 200) (by omega) (by decide)
  exact ⟨h0, by omega⟩
theorem powW {i : Int} {k : Int} (h : 0 ≤ k := by decide) (h2 : k ≤ 1000000 := by decide) (h3 : i.natAbs < 2 ^ 64 := by decide) : CPow i k := ⟨h, h2, h3⟩
theorem emodW {x m : Int} (h : 0 < m) : 0 ≤ x % m ∧ x % m < m := ⟨Int.emod_nonneg _ (by omega), Int.emod_lt_of_pos _ h⟩
theorem cutL_take {α : Type} (xs : List α) (k : Nat) : cutL xs none (some (k : Int)) = xs.take k := by
  unfold cutL
  rw [HT.sIx_none, HT.sIx_nat, List.drop_zero, Nat.sub_zero]
  by_cases h : k ≤ xs.length
  · rw [Nat.min_eq_left h]
  · rw [Nat.min_eq_right (by omega), List.take_of_length_le (Nat.le_refl _), List.take_of_length_le (by omega)]
theorem cutL_drop {α : Type} (xs : List α) (k : Nat) : cutL xs (some (k : Int)) none = xs.drop k := by
  unfold cutL
  rw [HT.sIx_none, HT.sIx_nat]
  by_cases h : k ≤ xs.length
  · rw [Nat.min_eq_left h, List.take_of_length_le (by simp)]
  · rw [Nat.min_eq_right (by omega), List.drop_of_length_le (Nat.le_refl _), List.drop_of_length_le (by omega)]; simp
abbrev WM : Int := 10000000000000000000000000331
/-- a well -/
def Wl (o : Ob) : Prop := ∃ a b : Int, o = .lst [.int a, .int b] ∧ 0 ≤ a ∧ 0 ≤ b ∧ b < WM
mutual
/-- small data without dicts, nested at most k deep -/
inductive Smal : Nat → D → Prop
  | non {k : Nat} : Smal k .none
  | bl {k : Nat} {b : Bool} : Smal k (.bool b)
  | int {k : Nat} {i : Int} : Smal k (.int i)
  | str {k : Nat} {x : Str} (h : PyData.strOk x = true) : Smal k (.str x)
  | tup {k : Nat} {ds : List D} (l : ds.length ≤ 10000000) (h : SmalL k ds) : Smal (k + 1) (.tuple ds)
  | lst {k : Nat} {ds : List D} (l : ds.length ≤ 10000000) (h : SmalL k ds) : Smal (k + 1) (.list ds)
inductive SmalL : Nat → List D → Prop
  | nil {k : Nat} : SmalL k []
  | cons {k : Nat} {d : D} {ds : List D} (h : Smal k d) (r : SmalL k ds) : SmalL k (d :: ds)
end
theorem SmalL.mem {k : Nat} : ∀ {ds : List D}, SmalL k ds → ∀ d ∈ ds, Smal k d
  | _, .cons h r, d, hm => by
    rcases List.mem_cons.mp hm with e | hm
    · rw [e]; exact h
    · exact SmalL.mem r d hm
theorem SmalL.of {k : Nat} : ∀ {ds : List D}, (∀ d ∈ ds, Smal k d) → SmalL k ds
  | [], _ => .nil
  | d :: ds, h => .cons (h d (List.mem_cons_self ..)) (SmalL.of fun e he => h e (List.mem_cons_of_mem _ he))
mutual
theorem Smal.up {k j : Nat} (hj : k ≤ j) : ∀ {d : D}, Smal k d → Smal j d
  | _, .non => .non
  | _, .bl => .bl
  | _, .int => .int
  | _, .str h => .str h
  | _, .tup l h => by
    obtain ⟨j, rfl⟩ : ∃ i, j = i + 1 := ⟨j - 1, by omega⟩
    exact .tup l (SmalL.up (by omega) h)
  | _, .lst l h => by
    obtain ⟨j, rfl⟩ : ∃ i, j = i + 1 := ⟨j - 1, by omega⟩
    exact .lst l (SmalL.up (by omega) h)
theorem SmalL.up {k j : Nat} (hj : k ≤ j) : ∀ {ds : List D}, SmalL k ds → SmalL j ds
  | _, .nil => .nil
  | _, .cons h r => .cons (Smal.up hj h) (SmalL.up hj r)
end
mutual
theorem Smal.lay {k : Nat} : ∀ {d : D}, Smal k d → d.canLay0 = true ∧ d.depth ≤ k
  | _, .non => ⟨rfl, by simp [PyData.depth]⟩
  | _, .bl => ⟨rfl, by simp [PyData.depth]⟩
  | _, .int => ⟨rfl, by simp [PyData.depth]⟩
  | _, .str h => ⟨by simpa [PyData.canLay0] using h, by simp [PyData.depth]⟩
  | _, .tup _ h => by
    obtain ⟨a, b⟩ := SmalL.lay h
    exact ⟨by simpa [PyData.canLay0] using a, by simp only [PyData.depth]; omega⟩
  | _, .lst _ h => by
    obtain ⟨a, b⟩ := SmalL.lay h
    exact ⟨by simpa [PyData.canLay0] using a, by simp only [PyData.depth]; omega⟩
theorem SmalL.lay {k : Nat} : ∀ {ds : List D}, SmalL k ds → PyData.canLayAll0 ds = true ∧ PyData.depthAll ds ≤ k
  | _, .nil => ⟨by simp [PyData.canLayAll0], by simp [PyData.depthAll]⟩
  | _, .cons h r => by
    obtain ⟨a, b⟩ := Smal.lay h
    obtain ⟨a2, b2⟩ := SmalL.lay r
    exact ⟨by simp [PyData.canLayAll0, a, a2], by simp only [PyData.depthAll]; omega⟩
end
theorem Smal.shaped {k : Nat} {d : D} (h : Smal k d) (hk : k ≤ 60) : SeqAt.shaped d = true := by
  obtain ⟨a, b⟩ := h.lay
  unfold SeqAt.shaped
  rw [a, Bool.true_and]
  exact decide_eq_true (by omega)
@[simp] theorem shaped_none : SeqAt.shaped .none = true := Smal.shaped (k := 0) .non (by decide)
@[simp] theorem shaped_bool {b : Bool} : SeqAt.shaped (.bool b) = true := Smal.shaped (k := 0) .bl (by decide)
@[simp] theorem shaped_int {b : Int} : SeqAt.shaped (.int b) = true := Smal.shaped (k := 0) .int (by decide)
theorem Smal.eqv {k : Nat} {d : D} (h : Smal k d) : PyData.eqv d d = true := SeqAt.eqv_refl d h.lay.1
@[simp] theorem eqv_none : PyData.eqv .none .none = true := rfl
@[simp] theorem eqv_int {i j : Int} : PyData.eqv (.int i) (.int j) = decide (i = j) := by
  simp only [PyData.eqv]; by_cases h : i = j <;> simp [h]
@[simp] theorem eqv_bool {i j : Bool} : PyData.eqv (.bool i) (.bool j) = (i == j) := by simp only [PyData.eqv]
@[simp] theorem eqv_str {i j : Str} : PyData.eqv (.str i) (.str j) = (i == j) := by simp only [PyData.eqv]
@[simp] theorem eqOk_str {a b : Str} : eqOk (.str a) (.str b) = true := rfl
theorem eqOk_of {d e : D} (h : SeqAt.shaped d = true) (g : SeqAt.shaped e = true) : eqOk d e = true := by unfold eqOk; rw [h, g]; simp
@[simp] theorem eqOk_int {i j : Int} : eqOk (.int i) (.int j) = true := eqOk_of shaped_int shaped_int
@[simp] theorem eqOk_bool {i j : Bool} : eqOk (.bool i) (.bool j) = true := eqOk_of shaped_bool shaped_bool
theorem Smal.eqOk {k : Nat} {d e : D} (h : Smal k d) (g : Smal k e) (hk : k ≤ 60) : eqOk d e = true := eqOk_of (h.shaped hk) (g.shaped hk)
/-- a word -/
def W (xs : List Int) : D := .tuple (xs.map .int)
/-- a list of ints -/
def LI (xs : List Int) : D := .list (xs.map .int)
theorem eqvAll_ints : ∀ {xs ys : List Int}, PyData.eqvAll (xs.map .int) (ys.map .int) = decide (xs = ys)
  | [], [] => by simp [PyData.eqvAll]
  | [], _ :: _ => by simp [PyData.eqvAll]
  | _ :: _, [] => by simp [PyData.eqvAll]
  | x :: xs, y :: ys => by
    simp only [List.map_cons, PyData.eqvAll, eqv_int, eqvAll_ints (xs := xs) (ys := ys), List.cons.injEq]
    by_cases h : x = y <;> by_cases g : xs = ys <;> simp [h, g]
@[simp] theorem eqv_W {xs ys : List Int} : PyData.eqv (W xs) (W ys) = decide (xs = ys) := by
  unfold W; simp only [PyData.eqv]; exact eqvAll_ints
@[simp] theorem eqv_LI {xs ys : List Int} : PyData.eqv (LI xs) (LI ys) = decide (xs = ys) := by
  unfold LI; simp only [PyData.eqv]; exact eqvAll_ints
theorem smalInts {k : Nat} {xs : List Int} : SmalL k (xs.map .int) := SmalL.of fun d hd => by
  obtain ⟨i, _, rfl⟩ := List.mem_map.mp hd
  exact .int
theorem smalW {k : Nat} {xs : List Int} (h : xs.length ≤ 10000000) : Smal (k + 1) (W xs) := .tup (by simpa using h) smalInts
theorem smalLI {k : Nat} {xs : List Int} (h : xs.length ≤ 10000000) : Smal (k + 1) (LI xs) := .lst (by simpa using h) smalInts
theorem shaped_of_tup {k : Nat} {ds : List D} (h : SmalL k ds) (hk : k ≤ 59) : SeqAt.shaped (.tuple ds) = true := by
  obtain ⟨a, b⟩ := h.lay
  unfold SeqAt.shaped
  have : (PyData.tuple ds).canLay0 = true := by simpa [PyData.canLay0] using a
  rw [this, Bool.true_and]
  exact decide_eq_true (by simp only [PyData.depth]; omega)
theorem shaped_of_lst {k : Nat} {ds : List D} (h : SmalL k ds) (hk : k ≤ 59) : SeqAt.shaped (.list ds) = true := by
  obtain ⟨a, b⟩ := h.lay
  unfold SeqAt.shaped
  have : (PyData.list ds).canLay0 = true := by simpa [PyData.canLay0] using a
  rw [this, Bool.true_and]
  exact decide_eq_true (by simp only [PyData.depth]; omega)
@[simp] theorem shapedW {xs : List Int} : SeqAt.shaped (W xs) = true := shaped_of_tup (smalInts (k := 0)) (by decide)
@[simp] theorem shapedLI {xs : List Int} : SeqAt.shaped (LI xs) = true := shaped_of_lst (smalInts (k := 0)) (by decide)
@[simp] theorem shapedL {xs : List Int} : SeqAt.shaped (.list (xs.map .int)) = true := shapedLI
@[simp] theorem shapedL0 : SeqAt.shaped (.list []) = true := shapedLI (xs := [])
@[simp] theorem shapedW0 : SeqAt.shaped (.tuple []) = true := shapedW (xs := [])
@[simp] theorem eqOk_WW {xs ys : List Int} : eqOk (W xs) (W ys) = true := eqOk_of shapedW shapedW
@[simp] theorem eqOk_W0 {xs : List Int} : eqOk (W xs) (.tuple []) = true := eqOk_of shapedW shapedW0
@[simp] theorem eqOk_LL {xs ys : List Int} : eqOk (.list (xs.map .int)) (.list (ys.map .int)) = true := eqOk_of shapedL shapedL
@[simp] theorem eqOk_L0 {xs : List Int} : eqOk (.list (xs.map .int)) (.list []) = true := eqOk_of shapedL shapedL0
@[simp] theorem eqv_list0 {ds : List D} : PyData.eqv (.list ds) (.list []) = ds.isEmpty := by
  simp only [PyData.eqv]; cases ds <;> simp [PyData.eqvAll]
@[simp] theorem eqv_W0 {xs : List Int} : PyData.eqv (W xs) (.tuple []) = xs.isEmpty := by
  unfold W; simp only [PyData.eqv]; cases xs <;> simp [PyData.eqvAll]
theorem rngD_get {lo : Int} {n i : Nat} {d : D} (h : (rngD lo n)[i]? = some d) : i < n ∧ d = .int (lo + (i : Nat)) := by
  unfold rngD at h
  rw [List.getElem?_map, Option.map_eq_some_iff] at h
  obtain ⟨j, h1, rfl⟩ := h
  obtain ⟨h2, h3⟩ := List.getElem?_eq_some_iff.mp h1
  simp at h2 h3
  subst h3
  exact ⟨h2, rfl⟩
@[simp] theorem rngD_len {lo : Int} {n : Nat} : (rngD lo n).length = n := by simp [rngD]
theorem bls_rep {n : Nat} : Fz.bls (List.replicate n (.bool true)) = some (List.replicate n true) := by
  induction n with
  | zero => rfl
  | succ n ih => simp [List.replicate_succ, Fz.bls, ih]

section
variable {Q : D → FS → Prop} {QV : SV → FS → Prop} {S : FS} {xs ys : List Int} {i : Int}
@[simp] theorem tuple_W : PyData.tuple (List.map PyData.int xs) = W xs := rfl
@[simp] theorem wItems_W {k : List D → Prop} : wItems (W xs) k = k (xs.map .int) := rfl
@[simp] theorem dTyp_W : dTyp (W xs) = "tuple" := rfl
@[simp] theorem dTru_W : dTru (W xs) = some (!xs.isEmpty) := by unfold W; cases xs <;> rfl
@[simp] theorem dNone_W : dNone (W xs) = false := rfl
@[simp] theorem wE_pLen_W : wE (pLen (W xs) S) Q = Q (.int xs.length) S := by unfold W; rw [wE_pLen_t, List.length_map]
@[simp] theorem wE_pTuple_W : wE (pTuple (W xs) S) Q = Q (W xs) S := rfl
@[simp] theorem wE_pList_W : wE (pList (W xs) S) QV = QV (.own (.lst (xs.map .int))) S := rfl
theorem atI_map : atI (xs.map PyData.int) i = (atI xs i).map .int := by
  unfold atI
  rw [List.length_map]
  cases ixN xs.length i <;> simp
@[simp] theorem wE_pIx_W : wE (pIx (W xs) (.int i) S) Q = wO (atI xs i) fun d => Q (.int d) S := by
  unfold W
  rw [wE_pIx_t, atI_map]
  cases atI xs i <;> rfl
theorem cutL_map {α β : Type} (f : α → β) (xs : List α) (a b : Option Int) : cutL (xs.map f) a b = (cutL xs a b).map f := by
  unfold cutL; simp
@[simp] theorem wE_pSl_W {a b : Option Int} : wE (pSl (W xs) a b S) QV = QV (.d (W (cutL xs a b))) S := by
  unfold W; rw [wE_pSl_t, cutL_map]
@[simp] theorem wE_pAdd_W : wE (pAdd (W xs) (W ys) S) QV = (xs.length + ys.length ≤ sizeLine ∧ QV (.d (W (xs ++ ys))) S) := by
  unfold W; rw [wE_pAdd_t]; simp only [List.length_map, List.length_cons, List.length_nil, W, List.map_append, List.map_cons, List.map_nil]
@[simp] theorem wE_pAdd_W1 : wE (pAdd (W xs) (.tuple [.int i]) S) QV = (xs.length + 1 ≤ sizeLine ∧ QV (.d (W (xs ++ [i]))) S) := by
  unfold W; rw [wE_pAdd_t]; simp only [List.length_map, List.length_cons, List.length_nil, W, List.map_append, List.map_cons, List.map_nil]
end
end Fz
end

section
set_option Elab.async false
set_option linter.all false
set_option maxRecDepth 100000
set_option maxHeartbeats 4000000
/-! F20: in, not in; zip. -/
namespace Fz
open PySem PySem.Spec PyProof.Rows L2 RZ
section
variable {X : Cx} {F : Fx} {pos : Pos}
theorem room65 {k : Nat} {A : Around} (r : Room k A) : A.units + 65 < cLine := by have := r.un; omega
def rInT (K : Fg) : R2 := fun x y H Q => ∃ d ds, Dp K H x d ∧ Dp K H y (.tuple ds) ∧ SeqAt.shaped d = true ∧ SeqAt.shaped (.tuple ds) = true ∧ Q (.bl (ds.any fun z => PyData.eqv z d)) H
def rNotInT (K : Fg) : R2 := fun x y H Q => ∃ d ds, Dp K H x d ∧ Dp K H y (.tuple ds) ∧ SeqAt.shaped d = true ∧ SeqAt.shaped (.tuple ds) = true ∧ Q (.bl (!ds.any fun z => PyData.eqv z d)) H
theorem op_inT (hu : X.A.units + 65 < cLine) : OpR X (compareOp .In) (rInT X.K) := by
  intro pins s σ H x y v u Q I rx ry h
  obtain ⟨d, ds, hd, he, sd, se, q⟩ := h
  obtain ⟨as, r1⟩ := Dp.reads I d x v hd rx
  obtain ⟨bs, r2⟩ := Dp.reads I (.tuple ds) y u he ry
  exact SeqAt.in_tuple_reads r2 r1 (SeqAt.canLay_of_shaped se) (SeqAt.canLay_of_shaped sd) (room_in_shaped sd hu) ⟨.bl _, H, I, rfl, q⟩
theorem op_notInT (hu : X.A.units + 65 < cLine) : OpR X (compareOp .NotIn) (rNotInT X.K) := by
  intro pins s σ H x y v u Q I rx ry h
  obtain ⟨d, ds, hd, he, sd, se, q⟩ := h
  obtain ⟨as, r1⟩ := Dp.reads I d x v hd rx
  obtain ⟨bs, r2⟩ := Dp.reads I (.tuple ds) y u he ry
  exact SeqAt.notIn_tuple_reads r2 r1 (SeqAt.canLay_of_shaped se) (SeqAt.canLay_of_shaped sd) (room_in_shaped sd hu) ⟨.bl _, H, I, rfl, q⟩
def inOk (d : D) : D → Option (List D)
  | .list ds => if SeqAt.shaped d && SeqAt.shaped (.list ds) then some ds else none
  | .tuple ds => if SeqAt.shaped d && SeqAt.shaped (.tuple ds) then some ds else none
  | _ => none
def hasD (d : D) (ds : List D) : Bool := ds.any fun z => PyData.eqv z d
def pIn (d e : D) : FS → Res D := fun S => match inOk d e with
  | some ds => .ok (.bool (hasD d ds)) S
  | none => .bad
def pNotIn (d e : D) : FS → Res D := fun S => match inOk d e with
  | some ds => .ok (.bool (!hasD d ds)) S
  | none => .bad
theorem inOk_some {d e : D} {ds : List D} (h : inOk d e = some ds) : (e = .list ds ∨ e = .tuple ds) ∧ SeqAt.shaped d = true ∧ SeqAt.shaped e = true := by
  cases e with
  | list es =>
    simp only [inOk] at h
    split at h
    · rename_i hc
      cases h
      have h2 := Bool.and_eq_true_iff.mp hc
      exact ⟨.inl rfl, h2.1, h2.2⟩
    · cases h
  | tuple es =>
    simp only [inOk] at h
    split at h
    · rename_i hc
      cases h
      have h2 := Bool.and_eq_true_iff.mp hc
      exact ⟨.inr rfl, h2.1, h2.2⟩
    · cases h
  | _ => cases h
theorem op_inF (hu : X.A.units + 65 < cLine) : OpF X F PR (compareOp .In) pIn := opF_by fun S σ d e H => by
  cases hc : inOk d e with
  | none => exact .inr (by unfold pIn; rw [hc])
  | some ds =>
    obtain ⟨h1, h2, h3⟩ := inOk_some hc
    rcases h1 with rfl | rfl
    · refine .inl ⟨_, op_inD hu, fun x y Q r hx hy p => ⟨d, ds, hx.dp, hy.dp, h2, h3, ?_⟩⟩
      unfold pIn at p; rw [hc] at p
      exact p.ok r (Pd.bl _)
    · refine .inl ⟨_, op_inT hu, fun x y Q r hx hy p => ⟨d, ds, hx.dp, hy.dp, h2, h3, ?_⟩⟩
      unfold pIn at p; rw [hc] at p
      exact p.ok r (Pd.bl _)
theorem op_notInF (hu : X.A.units + 65 < cLine) : OpF X F PR (compareOp .NotIn) pNotIn := opF_by fun S σ d e H => by
  cases hc : inOk d e with
  | none => exact .inr (by unfold pNotIn; rw [hc])
  | some ds =>
    obtain ⟨h1, h2, h3⟩ := inOk_some hc
    rcases h1 with rfl | rfl
    · refine .inl ⟨_, op_notInD hu, fun x y Q r hx hy p => ⟨d, ds, hx.dp, hy.dp, h2, h3, ?_⟩⟩
      unfold pNotIn at p; rw [hc] at p
      exact p.ok r (Pd.bl _)
    · refine .inl ⟨_, op_notInT hu, fun x y Q r hx hy p => ⟨d, ds, hx.dp, hy.dp, h2, h3, ?_⟩⟩
      unfold pNotIn at p; rw [hc] at p
      exact p.ok r (Pd.bl _)
/-! ### zip -/
def zipD (ds es : List D) : List D := (ds.zip es).map fun p => .tuple [p.1, p.2]
theorem zipD_get {ds es : List D} {i : Nat} {d : D} (h : (zipD ds es)[i]? = some d) : ∃ x y, d = .tuple [x, y] ∧ ds[i]? = some x ∧ es[i]? = some y := by
  unfold zipD at h
  rw [List.getElem?_map] at h
  obtain ⟨p, h1, rfl⟩ := Option.map_eq_some_iff.mp h
  have h2 := List.getElem?_zip_eq_some.mp h1
  exact ⟨_, _, rfl, h2.1, h2.2⟩
theorem yields_zip {K : Fg} {H1 : Hp} {a b : Addr} {vs us : List V} {ds es : List D} (h : FrzL K H1 a vs) (r : PdAll K H1 vs ds) (h' : FrzL K H1 b us) (r' : PdAll K H1 us es) : Yields K (Itz K a b) H1 (zipD ds es) where
  go := fun i H p hi => by
    simp [zipD] at hi
    obtain ⟨x, h1, _⟩ := r.get (List.getElem?_eq_getElem (show i < ds.length by omega))
    obtain ⟨y, h2, _⟩ := r'.get (List.getElem?_eq_getElem (show i < es.length by omega))
    exact ⟨vs, us, x, y, (h.mono p).sq, (h'.mono p).sq, h1, h2⟩
  stop := fun H p => ⟨vs, us, (h.mono p).sq, (h'.mono p).sq, by rw [r.length, r'.length]; simp [zipD]; omega⟩
  yld := fun i H x H' d p hd ⟨T, u, v, e1, e2, e3, q1, q2⟩ => by
    subst e1 e3
    obtain ⟨dx, dy, rfl, g1, g2⟩ := zipD_get hd
    have k1 := q1 vs (h.mono p).sq
    have k2 := q2 us (h'.mono p).sq
    obtain ⟨x', m1, n1⟩ := r.get g1
    obtain ⟨y', m2, n2⟩ := r'.get g2
    rw [k1] at m1; cases m1
    rw [k2] at m2; cases m2
    have p1 : Pers H (upd H T (.tup [u, v])) := Pers.new e2
    exact ⟨p1, fun F S σ r => r.new e2, .tup (.inl (.inl upd_same)) (.cons (n1.mono (p.trans p1)) (.cons (n2.mono (p.trans p1)) .nil))⟩
theorem yields_zipT {K : Fg} {H1 : Hp} {a b : Addr} {vs us : List V} {ds es : List D} (h : SqT K H1 a vs) (r : PdAll K H1 vs ds) (h' : SqT K H1 b us) (r' : PdAll K H1 us es) : Yields K (ItzT K a b) H1 (zipD ds es) where
  go := fun i H p hi => by
    simp [zipD] at hi
    obtain ⟨x, h1, _⟩ := r.get (List.getElem?_eq_getElem (show i < ds.length by omega))
    obtain ⟨y, h2, _⟩ := r'.get (List.getElem?_eq_getElem (show i < es.length by omega))
    exact ⟨vs, us, x, y, sqT_mono p h, sqT_mono p h', h1, h2⟩
  stop := fun H p => ⟨vs, us, sqT_mono p h, sqT_mono p h', by rw [r.length, r'.length]; simp [zipD]; omega⟩
  yld := fun i H x H' d p hd ⟨T, u, v, e1, e2, e3, q1, q2⟩ => by
    subst e1 e3
    obtain ⟨dx, dy, rfl, g1, g2⟩ := zipD_get hd
    have k1 := q1 vs (sqT_mono p h)
    have k2 := q2 us (sqT_mono p h')
    obtain ⟨x', m1, n1⟩ := r.get g1
    obtain ⟨y', m2, n2⟩ := r'.get g2
    rw [k1] at m1; cases m1
    rw [k2] at m2; cases m2
    have p1 : Pers H (upd H T (.tup [u, v])) := Pers.new e2
    exact ⟨p1, fun F S σ r => r.new e2, .tup (.inl (.inl upd_same)) (.cons (n1.mono (p.trans p1)) (.cons (n2.mono (p.trans p1)) .nil))⟩
def fZip (f g : FS → Res D) : FS → Res (List D) := bnd f fun d => bnd g fun e S => match d, e with
  | .list ds, .list es => .ok (zipD ds es) S
  | .tuple ds, .tuple es => .ok (zipD ds es) S
  | _, _ => .bad
theorem i_zip {elts : List Expr} {kk : Nat} {tpos p : Pos} {a b : Expr} {f g : FS → Res D} (hg : Gl X "zip") (hm : X.mg "zip" = none) (ha : ED X F a f) (hb : ED X F b g) (hsa : starEach [a, b] X.env = (false, eval a X.env) :: starEach [b] X.env := by rfl) (hsb : starEach [b] X.env = (false, eval b X.env) :: starEach [] X.env := by rfl)
    (hpl : (backTo pos (starEach [b] X.env)).any (·.1) = false := by rfl) : EI X F (.Tuple elts kk tpos) (.Call (.Name "zip" p) [a, b] [] pos) (fZip f g) := by
  refine ⟨fun pins s σ H R I ⟨S, r, q⟩ => ?_⟩
  refine (pi_zipA hg hm (pa_cons ha (pa_cons hb pa_nil hsb) hsa) hsa hpl).run pins s σ H R I ⟨S, r, ?_⟩
  unfold fZip bnd at q
  cases e : f S with
  | exn e2 S1 => rw [e] at q; exact q
  | bad => rw [e] at q; exact q
  | ok d S1 =>
    rw [e] at q
    intro x H1 p1 r1 v
    refine ⟨S1, r1, ?_⟩
    simp only [Res.bind_ok] at q
    cases e2 : g S1 with
    | exn e3 S2 => rw [e2] at q; exact fun c dx H2 p2 r2 w => q c dx H2 (p1.trans p2) r2 w
    | bad => rw [e2] at q; exact q
    | ok d2 S2 =>
      rw [e2] at q
      intro y H2 p2 r2 v2
      have v := v.mono p2
      simp only [Res.bind_ok] at q
      cases d with
      | list ds =>
        cases d2 with
        | list es =>
          cases v with
          | lst h1 q1 =>
            cases v2 with
            | lst h2 q2 => exact ⟨_, _, _, _, rfl, .inl ⟨h1.sq, h2.sq, q _ H2 (p1.trans p2) r2 (yields_zip h1 q1 h2 q2)⟩⟩
        | _ => exact q.elim
      | tuple ds =>
        cases d2 with
        | tuple es =>
          cases v with
          | tup h1 q1 =>
            cases v2 with
            | tup h2 q2 => exact ⟨_, _, _, _, rfl, .inr ⟨h1, h2, q _ H2 (p1.trans p2) r2 (yields_zipT h1 q1 h2 q2)⟩⟩
        | _ => exact q.elim
      | _ => cases d2 <;> exact q.elim
end
end Fz
end

section
set_option Elab.async false
set_option linter.all false
set_option maxRecDepth 100000
set_option maxHeartbeats 4000000
/-! F21: weakest preconditions of in, zip. -/
namespace Fz
open PySem PySem.Spec PyProof.Rows L2
section
variable {S : FS} {d e : D} {Q : D → FS → Prop} {QL : List D → FS → Prop} {f g : FS → Res D}
@[simp] theorem wE_pIn : wE (pIn d e S) Q = wO (inOk d e) fun ds => Q (.bool (hasD d ds)) S := by
  unfold pIn; cases inOk d e <;> rfl
@[simp] theorem wE_pNotIn : wE (pNotIn d e S) Q = wO (inOk d e) fun ds => Q (.bool (!hasD d ds)) S := by
  unfold pNotIn; cases inOk d e <;> rfl
def wZip (d e : D) (k : List D → Prop) : Prop := match d, e with
  | .list ds, .list es => k (zipD ds es)
  | .tuple ds, .tuple es => k (zipD ds es)
  | _, _ => False
@[simp] theorem wZip_t {ds es : List D} {k : List D → Prop} : wZip (.tuple ds) (.tuple es) k = k (zipD ds es) := rfl
@[simp] theorem wZip_l {ds es : List D} {k : List D → Prop} : wZip (.list ds) (.list es) k = k (zipD ds es) := rfl
@[simp] theorem wE_fZip : wE (fZip f g S) QL = wE (f S) fun d S1 => wE (g S1) fun e S2 => wZip d e fun ds => QL ds S2 := by
  unfold fZip; rw [wE_bnd]; congr; funext d S1; rw [wE_bnd]; congr; funext e S2
  cases d <;> cases e <;> rfl
theorem inOk_t {d : D} {ds : List D} (h : SeqAt.shaped d = true) (g : SeqAt.shaped (.tuple ds) = true) : inOk d (.tuple ds) = some ds := by
  show (if (SeqAt.shaped d && SeqAt.shaped (.tuple ds)) = true then some ds else none) = some ds
  rw [h, g]; rfl
theorem inOk_l {d : D} {ds : List D} (h : SeqAt.shaped d = true) (g : SeqAt.shaped (.list ds) = true) : inOk d (.list ds) = some ds := by
  show (if (SeqAt.shaped d && SeqAt.shaped (.list ds)) = true then some ds else none) = some ds
  rw [h, g]; rfl
@[simp] theorem inOk_W {i : Int} {xs : List Int} : inOk (.int i) (W xs) = some (xs.map .int) := inOk_t shaped_int shapedW
@[simp] theorem inOk_LI {i : Int} {xs : List Int} : inOk (.int i) (LI xs) = some (xs.map .int) := inOk_l shaped_int shapedLI
@[simp] theorem inOk_LI' {i : Int} {xs : List Int} : inOk (.int i) (.list (xs.map .int)) = some (xs.map .int) := inOk_LI
@[simp] theorem inOk_L1 {i j : Int} : inOk (.int i) (.list [.int j]) = some [.int j] := inOk_LI (xs := [j])
@[simp] theorem hasD_ints {i : Int} : ∀ {xs : List Int}, hasD (.int i) (xs.map .int) = decide (i ∈ xs)
  | [] => rfl
  | x :: xs => by
    have ih := hasD_ints (i := i) (xs := xs)
    unfold hasD at ih ⊢
    rw [List.map_cons, List.any_cons, ih, eqv_int]
    by_cases h : x = i
    · subst h; simp
    · have h2 : ¬ i = x := fun q => h q.symm
      simp [h, h2]
end
end Fz
end

section
set_option Elab.async false
set_option linter.all false
set_option maxRecDepth 100000
set_option maxHeartbeats 4000000
/-! F22: list * int. -/
namespace Fz
open PySem PySem.Spec PyProof.Rows L2
theorem int_rmul_listW (a : Int) (t : Tok) (l : Addr) (items : Array Value) (n : Nat) (dd : Option Addr) (sl : Array (Option Value)) :
    Meets (Builtin.«int.__rmul__» ⟨[.int a t, .ref l], []⟩) (fun _ R s => s.heap.get? l = some { cls := .type "list", dict := dd, data := .seq items n, slots := sl } ∧ R (.ok (.ret Value.notImplemented)) s) :=
  .of_wp fun prog w A R s h => by obtain ⟨hp, g, d, tk, os⟩ := s; obtain ⟨hl, h⟩ := h; wp_walk using wpAny_loadPart' hl; exact ⟨_, rfl, h⟩
theorem list_mulW (l : Addr) (items : Array Value) (n : Nat) (dd : Option Addr) (sl : Array (Option Value)) (x : Int) (u : Tok) (hc0 : ¬(!Builtin.List.listFitsIndex x) = true) (hc1 : ¬items.size * x.toNat > (2 ^ 63 - 1) / 8) (hc2 : ¬Builtin.List.listTooLong (items.size * x.toNat) = true) :
    Meets (Builtin.«list.__mul__» ⟨[.ref l, .int x u], []⟩) (fun _ R s => s.heap.get? l = some { cls := .type "list", dict := dd, data := .seq items n, slots := sl } ∧ R (.ok (.ret (Value.ref s.heap.objs.size))) { s with heap := s.heap.push { cls := Value.type "list", data := Data.seq (List.foldl (fun x1 x2 => x1 ++ x2) #[] (List.replicate (if items.isEmpty = true then 0 else x.toNat) items)) }, toks := s.toks }) :=
  .of_wp fun prog w A R s h => by
    obtain ⟨hp, g, d, tk, os⟩ := s; obtain ⟨hl, h⟩ := h
    have hsz := AutoListH.joined_fits hc2
    wp_walk using wpAny_loadPart' hl; refine wpAny_ite_false (decide_eq_false (Nat.not_lt.mpr hsz)) ?_; wp_walk using wpAny_loadPart' hl; exact ⟨_, rfl, h⟩
section
variable {X : Cx} {F : Fx}
def rRepQ (K : Fg) : R2 := fun x y H Q => ∃ l k xs, x = .ref l ∧ y = .int k ∧ SqL K H l xs ∧ -(2 ^ 63) ≤ k ∧ k < 2 ^ 63 ∧ xs.length * k.toNat ≤ sizeLine ∧
  ∀ p, H p = none → Q (.ref p) (upd H p (.lst (List.replicate k.toNat xs).flatten))
theorem op_repQ : OpR X (binaryOp .Mult) (rRepQ X.K) := by
  intro pins s σ H x y v u Q I rx ry h
  obtain ⟨l, k, xs, rfl, rfl, hH, h1, h2, hz, q⟩ := h
  cases rx
  obtain ⟨t, rfl⟩ := ry
  obtain ⟨its, r, ⟨⟨c1, dd1, dt1, sl1⟩, n, e, k1, k2, k3⟩, _⟩ := I.list hH
  simp only at k1 k2 k3
  subst k1 k2 k3
  have hl := r.length
  have hlen : its.toArray.size * k.toNat ≤ sizeLine := by rw [List.size_toArray, ← hl]; exact hz
  have hcap : ¬ its.toArray.size * k.toNat > (2 ^ 63 - 1) / 8 := by
    have : (sizeLine : Nat) ≤ (2 ^ 63 - 1) / 8 := by decide
    omega
  have hfit : ¬ (!Builtin.List.listFitsIndex k) = true := by
    rw [fitsIndex_both h1 h2]
    exact Bool.false_ne_true
  have hlong : ¬ Builtin.List.listTooLong (its.toArray.size * k.toNat) = true := by
    rw [notLongL hlen]
    exact Bool.false_ne_true
  have hnew : List.foldl (fun x1 x2 => x1 ++ x2) #[] (List.replicate (if its.toArray.isEmpty = true then 0 else k.toNat) its.toArray) = (List.replicate k.toNat its).flatten.toArray := by
    have f0 : ∀ m : Nat, List.foldl (fun x1 x2 => x1 ++ x2) #[] (List.replicate m its.toArray) = (List.replicate m its).flatten.toArray := fun m => by
      have := foldl_rep its m []
      rw [List.nil_append] at this
      exact this
    rw [f0]
    cases its with
    | nil => simp
    | cons a r' => rw [if_neg (by simp)]
  refine wpAny_binaryOp_repeat_ref (T := "list") (U := "int") (by decide) ⟨_, e, rfl⟩ (fun s' => typeIs_int s' k t) noFill_list_mul F.fills_int_mul F.slot_int_rmul repeat_list F.slot_int_index.lookup
    (call_meets F.slot_int_rmul (typeIs_int s k t) F.entry_int_rmul (F.args_int_rmul_2 _ _) (int_rmul_listW k t l its.toArray n _ _)
      ⟨e, rfl, ⟨_, e, rfl⟩, call_meets F.slot_list_mul ⟨_, e, rfl⟩ F.entry_list_mul (F.args_list_mul_2 _ _) (list_mulW l its.toArray n _ _ k t hfit hcap hlong) ⟨e, ?_⟩⟩)
  rw [hnew]
  exact ⟨.ref _, _, I.lnew (t' := s.toks) (r.rep k.toNat) (by rw [PyProof.Rows.lm_len_rep_flat, Nat.mul_comm]; exact hz), rfl, q _ I.fresh⟩
/-- products of a list -/
noncomputable def pMulS (d e : D) : FS → Res SV := fun S => match d, e with
  | .list xs, .int k => @ite _ (inR k ∧ xs.length * k.toNat ≤ sizeLine) (Classical.propDecidable _) (.ok (.own (.lst (List.replicate k.toNat xs).flatten)) S) .bad
  | _, _ => .bad
theorem op_mulS : OpF X F VR (binaryOp .Mult) pMulS := opF_by fun S σ d e H => by
  cases d with
  | list ds =>
    cases e with
    | int k =>
      by_cases hc : inR k ∧ ds.length * k.toNat ≤ sizeLine
      · refine .inl ⟨_, op_repQ, fun x y Q r hx hy p => ?_⟩
        obtain ⟨a, vs, rfl, hl, hv⟩ := hx.list
        have p : postG X.K F VR (@ite _ (inR k ∧ ds.length * k.toNat ≤ sizeLine) (Classical.propDecidable _) (.ok (.own (.lst (List.replicate k.toNat ds).flatten)) S) .bad) σ H Q := p
        rw [if_pos hc] at p
        exact ⟨a, k, vs, rfl, hy.int, hl, by have := hc.1.1; omega, by have := hc.1.2; omega, by rw [hv.length]; exact hc.2, fun q hq => newList r (hv.rep k.toNat) hq p⟩
      · exact .inr (by
          show @ite _ (inR k ∧ ds.length * k.toNat ≤ sizeLine) (Classical.propDecidable _) (Res.ok (SV.own (.lst (List.replicate k.toNat ds).flatten)) S) .bad = .bad
          rw [if_neg hc])
    | _ => exact .inr rfl
  | _ => exact .inr rfl
end
end Fz
end

section
set_option Elab.async false
set_option linter.all false
set_option maxRecDepth 100000
set_option maxHeartbeats 4000000
/-! F24: * of any two of int, list, tuple; += of data. -/
namespace Fz
open PySem PySem.Spec PyProof.Rows L2
theorem tuple_mul1 (l : Addr) (items : Array Value) (n : Nat) (dd : Option Addr) (sl : Array (Option Value)) (x : Int) (u : Tok) (c0 : (decide (x < -(2 ^ 63)) || decide (x ≥ 2 ^ 63)) = false) (c1 : (items.isEmpty || x == 1) = true) :
    Meets (Builtin.«tuple.__mul__» ⟨[.ref l, .int x u], []⟩) (fun _ R s => s.heap.get? l = some { cls := .type "tuple", dict := dd, data := .seq items n, slots := sl } ∧ R (.ok (.ret (Value.ref l))) s) :=
  .of_wp fun prog w A R s h => by
    obtain ⟨hp, g, d, tk, os⟩ := s
    obtain ⟨hl, h⟩ := h
    have f1 := AutoSeq1.idx_int
    wp_walk using wpAny_loadPart' hl
    repeat (first
      | (refine wpAny_ite_false (decide_eq_false (by rw [c0]; exact Bool.false_ne_true)) ?_; wp_walk using wpAny_loadPart' hl)
      | (refine wpAny_ite_true (decide_eq_true (by rw [c1])) ?_; wp_walk using wpAny_loadPart' hl))
    exact ⟨_, rfl, h⟩
theorem tuple_mul0 (l : Addr) (items : Array Value) (n : Nat) (dd : Option Addr) (sl : Array (Option Value)) (x : Int) (u : Tok) (c0 : (decide (x < -(2 ^ 63)) || decide (x ≥ 2 ^ 63)) = false) (c1 : (items.isEmpty || x == 1) = false) (c2 : (decide (x ≤ 0) || items.isEmpty) = true) :
    Meets (Builtin.«tuple.__mul__» ⟨[.ref l, .int x u], []⟩) (fun _ R s => s.heap.get? l = some { cls := .type "tuple", dict := dd, data := .seq items n, slots := sl } ∧
      R (.ok (.ret (Value.ref s.heap.objs.size))) { s with heap := s.heap.push { cls := Value.type "tuple", data := Data.seq #[] }, toks := s.toks }) :=
  .of_wp fun prog w A R s h => by
    obtain ⟨hp, g, d, tk, os⟩ := s
    obtain ⟨hl, h⟩ := h
    have f1 := AutoSeq1.idx_int
    wp_walk using wpAny_loadPart' hl
    repeat (first
      | (refine wpAny_ite_false (decide_eq_false (by rw [c0]; exact Bool.false_ne_true)) ?_; wp_walk using wpAny_loadPart' hl)
      | (refine wpAny_ite_false (decide_eq_false (by rw [c1]; exact Bool.false_ne_true)) ?_; wp_walk using wpAny_loadPart' hl)
      | (refine wpAny_ite_true (decide_eq_true (by rw [c2])) ?_; wp_walk using wpAny_loadPart' hl))
    exact ⟨_, rfl, h⟩
theorem noI_tuple_add : typeLookup (.type "tuple") (dunderI "add") = pure none := by rw [typeLookup_type, builtinLookup_eq_fast]; kernel_rfl
section
variable {X : Cx} {F : Fx}
theorem iop_catA : OpR X (inplaceOp .Add) (rCatA X.K) := by
  intro pins s σ H x y v u Q I rx ry h
  obtain ⟨a, b, xs, ys, rfl, rfl, ha, hb, hz, q0, q1, q2⟩ := h
  cases rx
  cases ry
  obtain ⟨its, r1, p1, _⟩ := I.tuple ha
  obtain ⟨its2, r2, p2, _⟩ := I.tuple hb
  obtain ⟨⟨cls, dd, data, sl⟩, ho, hc, n, hd⟩ := id p1
  obtain ⟨⟨cls2, dd2, data2, sl2⟩, ho2, hc2, n2, hd2⟩ := id p2
  simp only at hc hd hc2 hd2
  subst hc hd hc2 hd2
  have go : ∀ {S : PySem.Spec}, Meets (Builtin.«tuple.__add__» ⟨[.ref a, .ref b], []⟩) S → S X.A (wants (EP X pins σ Q) X.xe) s → wpAny (model X.prog X.w) X.A (inplaceOp .Add (.ref a) (.ref b)) (EP X pins σ Q) X.xe s := fun g h =>
    wpAny_inplaceOp_concat ⟨_, ho, rfl⟩ ⟨_, ho2, rfl⟩ noI_tuple_add noFill_tuple_add seq_tuple_add (call_meets PySem.F.slot_tuple_add ⟨_, ho, rfl⟩ PySem.F.entry_tuple_add (PySem.F.args_tuple_add_2 _ _) g h)
  by_cases hx : xs = []
  · subst hx
    cases r1
    exact go (tuple_addW0 a b ([] : List Value).toArray its2.toArray n n2 dd dd2 sl sl2 (by simp)) ⟨ho, ho2, ⟨.ref b, H, I, rfl, q0 rfl⟩⟩
  · have hi : its ≠ [] := fun z => hx (r1.nil_iff.mp z)
    by_cases hy : ys = []
    · have hw : its2 = [] := r2.nil_iff.mpr hy
      exact go (tuple_addW1 a b its.toArray its2.toArray n n2 dd dd2 sl sl2 (by simpa using hi) (by simp [hw])) ⟨ho, ho2, ⟨.ref a, H, I, rfl, q1 hx hy⟩⟩
    · have hw : its2 ≠ [] := fun z => hy (r2.nil_iff.mp z)
      have e : its.toArray ++ its2.toArray = (its ++ its2).toArray := by simp
      refine go (tuple_addW2 a b its.toArray its2.toArray n n2 dd dd2 sl sl2 (by simpa using hi) (by simpa using hw) (by rw [List.size_toArray, List.size_toArray, ← r1.length, ← r2.length]; exact hz)) ⟨ho, ho2, ?_⟩
      rw [e]
      refine ⟨.ref s.heap.objs.size, _, I.laid (t' := s.toks) (o := .tup (xs ++ ys)) (fun b ob q => Heap.get?_push_of_some _ q) (Nat.le_refl _) ?_, rfl, q2 hx hy _ (I.hok.fresh (Nat.le_refl _))⟩
      exact ⟨by rw [List.length_append]; exact hz, _, r1.append r2, IsTup.new _ _⟩
/-- sums in place, of data -/
def pAug (d e : D) : FS → Res D := fun S => match d, e with
  | .int i, .int j => .ok (.int (i + j)) S
  | .str a, .str b => if a.length + b.length ≤ sizeLine then .ok (.str (a ++ b)) S else .bad
  | .tuple xs, .tuple ys => if xs.length + ys.length ≤ sizeLine then .ok (.tuple (xs ++ ys)) S else .bad
  | _, _ => .bad
theorem ip_augF : PIp X .Add (rOp X.K F PR pAug) := by
  intro pins s σ0 H x y v u Q I rx ry ⟨S, σ, d, e, r, hx, hy, p⟩
  cases d with
  | int i =>
    cases e with
    | int j => exact ip_add pins s σ0 H x y v u Q I rx ry ⟨i, j, hx.int, hy.int, p.ok r (Pd.int _)⟩
    | _ => exact p.elim
  | str a =>
    cases e with
    | str b =>
      unfold pAug at p
      by_cases hl : a.length + b.length ≤ sizeLine
      · simp only [if_pos hl] at p
        exact iop_add_str pins s σ0 H x y v u Q I rx ry ⟨a, b, hx.str, hy.str, hl, p.ok r (Pd.str _)⟩
      · simp only [if_neg hl] at p; exact p.elim
    | _ => exact p.elim
  | tuple xs =>
    cases e with
    | tuple ys =>
      unfold pAug at p
      by_cases hl : xs.length + ys.length ≤ sizeLine
      · simp only [if_pos hl] at p
        obtain ⟨a, vs, rfl, h1, r1⟩ := hx.tuple
        obtain ⟨b, ws, rfl, h2, r2⟩ := hy.tuple
        refine iop_catA pins s σ0 H _ _ v u Q I rx ry ⟨a, b, vs, ws, rfl, rfl, h1, h2, by rw [r1.length, r2.length]; exact hl, fun e0 => ?_, fun _ e0 => ?_, fun _ _ q hq => ?_⟩
        · subst e0
          cases r1
          exact p.ok r (Pd.tup h2 r2)
        · subst e0
          cases r2
          rw [List.append_nil] at p
          exact p.ok r (Pd.tup h1 r1)
        · obtain ⟨p1, r3, v⟩ := newTup r (r1.append r2) hq
          exact p _ _ p1 r3 v
      · simp only [if_neg hl] at p; exact p.elim
    | _ => exact p.elim
  | _ => exact p.elim
/-! ### tuple * int -/
def rRepA (K : Fg) : R2 := fun x y H Q => ∃ l k xs, x = .ref l ∧ y = .int k ∧ SqT K H l xs ∧ -(2 ^ 63) ≤ k ∧ k < 2 ^ 63 ∧ xs.length * k.toNat ≤ sizeLine ∧
  (xs = [] ∨ k = 1 → Q (.ref l) H) ∧ (xs ≠ [] → k ≠ 1 → ∀ p, H p = none → Q (.ref p) (upd H p (.tup (List.replicate k.toNat xs).flatten)))
theorem op_repA : OpR X (binaryOp .Mult) (rRepA X.K) := by
  intro pins s σ H x y v u Q I rx ry h
  obtain ⟨l, k, xs, rfl, rfl, hT, h1, h2, hz, q1, q2⟩ := h
  cases rx
  obtain ⟨t, rfl⟩ := ry
  obtain ⟨its, r, ⟨⟨cls, dd, data, sl⟩, ho, hc, n, hd⟩, hs⟩ := I.tuple hT
  simp only at hc hd
  subst hc hd
  have hle : its.length = xs.length := r.length.symm
  have hnil : its = [] ↔ xs = [] := r.nil_iff
  have hemp : its.toArray.isEmpty = true ↔ xs = [] := by
    rw [← hnil]; cases its <;> simp
  have hsz0 : its.toArray.size = xs.length := by rw [List.size_toArray, hle]
  have flen : (List.replicate k.toNat its).flatten.length ≤ sizeLine := by
    rw [PyProof.Rows.lm_len_rep_flat, hle, Nat.mul_comm]; exact hz
  have c0 : (decide (k < -(2 ^ 63)) || decide (k ≥ 2 ^ 63)) = false := by
    rw [decide_eq_false (by omega), decide_eq_false (by omega)] <;> rfl
  have go : ∀ {S : PySem.Spec}, Meets (Builtin.«tuple.__mul__» ⟨[.ref l, .int k t], []⟩) S → S X.A (wants (EP X pins σ Q) X.xe) s → wpAny (model X.prog X.w) X.A (binaryOp .Mult (.ref l) (.int k t)) (EP X pins σ Q) X.xe s := fun g h =>
    wpAny_binaryOp_repeat_ref (T := "tuple") (U := "int") (by decide) ⟨_, ho, rfl⟩ (fun s' => typeIs_int s' k t) noFill_tuple_mul F.fills_int_mul F.slot_int_rmul repeat_tuple F.slot_int_index.lookup
      (call_meets F.slot_int_rmul (typeIs_int s k t) F.entry_int_rmul (F.args_int_rmul_2 _ _) (int_rmul_tuple k t l its.toArray n dd sl)
        ⟨ho, rfl, ⟨_, ho, rfl⟩, call_meets F.slot_tuple_mul ⟨_, ho, rfl⟩ F.entry_tuple_mul (F.args_tuple_mul_2 _ _) g h⟩)
  by_cases hw : xs = [] ∨ k = 1
  · have c1 : (its.toArray.isEmpty || k == 1) = true := by
      rcases hw with hw | hw
      · rw [hemp.mpr hw]; rfl
      · rw [hw]; simp
    exact go (tuple_mul1 l its.toArray n dd sl k t c0 c1) ⟨ho, ⟨.ref l, H, I, rfl, q1 hw⟩⟩
  · have hx : xs ≠ [] := fun e => hw (.inl e)
    have hk : k ≠ 1 := fun e => hw (.inr e)
    have hi : its.toArray.isEmpty = false := by
      cases e : its.toArray.isEmpty with
      | false => rfl
      | true => exact absurd (hemp.mp e) hx
    have c1 : (its.toArray.isEmpty || k == 1) = false := by
      rw [hi, Bool.false_or]
      exact beq_eq_false_iff_ne.mpr hk
    by_cases h0 : k ≤ 0
    · have c2 : (decide (k ≤ 0) || its.toArray.isEmpty) = true := by rw [decide_eq_true h0]; rfl
      refine go (tuple_mul0 l its.toArray n dd sl k t c0 c1 c2) ⟨ho, ?_⟩
      have ek : k.toNat = 0 := by omega
      have q := q2 hx hk _ (I.hok.fresh (Nat.le_refl _))
      rw [ek] at q
      refine ⟨.ref s.heap.objs.size, _, I.laid (t' := s.toks) (o := .tup (List.replicate 0 xs).flatten) (fun b ob q => Heap.get?_push_of_some _ q) (Nat.le_refl _) ?_, rfl, q⟩
      exact ⟨by simp, _, .nil, IsTup.new _ _⟩
    · have c2 : (decide (k ≤ 0) || its.toArray.isEmpty) = false := by
        rw [hi, Bool.or_false]
        exact decide_eq_false h0
      have hzz : ((its.toArray.size : Nat) : Int) * k ≤ (sizeLine : Nat) := by
        rw [hsz0]
        have e : k = (k.toNat : Int) := by omega
        rw [e, ← Int.natCast_mul]
        exact_mod_cast hz
      have hs2 : (sizeLine : Int) ≤ (2 ^ 63 - 1) / 8 := by decide
      have c4 : Builtin.Tuple.tupleTooMany (((its.toArray.size : Nat) : Int) * k) = false := by
        unfold Builtin.Tuple.tupleTooMany
        exact decide_eq_false (by omega)
      refine go (tuple_mulW l its.toArray n dd sl k t c0 c1 c2 (by omega) c4 (by rw [size_rep, List.size_toArray]; exact flen)) ⟨ho, ?_⟩
      rw [size_rep]
      refine ⟨.ref s.heap.objs.size, _, I.laid (t' := s.toks) (o := .tup (List.replicate k.toNat xs).flatten) (fun b ob q => Heap.get?_push_of_some _ q) (Nat.le_refl _) ?_, rfl, q2 hx hk _ (I.hok.fresh (Nat.le_refl _))⟩
      exact ⟨by rw [PyProof.Rows.lm_len_rep_flat, Nat.mul_comm]; exact hz, _, r.rep k.toNat, IsTup.new _ _⟩
/-- products of ints, lists, tuples -/
noncomputable def pMulG (d e : D) : FS → Res SV := fun S => match d, e with
  | .int i, .int j => @ite _ (CMulW i j) (Classical.propDecidable _) (.ok (.d (.int (i * j))) S) .bad
  | .list xs, .int k => @ite _ (inR k ∧ xs.length * k.toNat ≤ sizeLine) (Classical.propDecidable _) (.ok (.own (.lst (List.replicate k.toNat xs).flatten)) S) .bad
  | .tuple xs, .int k => @ite _ (inR k ∧ xs.length * k.toNat ≤ sizeLine) (Classical.propDecidable _) (.ok (.d (.tuple (List.replicate k.toNat xs).flatten)) S) .bad
  | _, _ => .bad
theorem op_mulG : OpF X F VR (binaryOp .Mult) pMulG := opF_by fun S σ d e H => by
  cases d with
  | int i =>
    cases e with
    | int j =>
      by_cases hc : CMulW i j
      · refine .inl ⟨_, op_mulW, fun x y Q r hx hy p => ⟨i, j, hx.int, hy.int, hc, ?_⟩⟩
        unfold pMulG at p
        simp only [if_pos hc] at p
        exact p.ok r (Pd.int _)
      · refine .inr ?_
        unfold pMulG
        simp only [if_neg hc]
    | _ => exact .inr rfl
  | list ds =>
    cases e with
    | int k =>
      by_cases hc : inR k ∧ ds.length * k.toNat ≤ sizeLine
      · refine .inl ⟨_, op_repQ, fun x y Q r hx hy p => ?_⟩
        obtain ⟨a, vs, rfl, hl, hv⟩ := hx.list
        unfold pMulG at p
        simp only [if_pos hc] at p
        exact ⟨a, k, vs, rfl, hy.int, hl, by have := hc.1.1; omega, by have := hc.1.2; omega, by rw [hv.length]; exact hc.2, fun q hq => newList r (hv.rep k.toNat) hq p⟩
      · refine .inr ?_
        unfold pMulG
        simp only [if_neg hc]
    | _ => exact .inr rfl
  | tuple ds =>
    cases e with
    | int k =>
      by_cases hc : inR k ∧ ds.length * k.toNat ≤ sizeLine
      · refine .inl ⟨_, op_repA, fun x y Q r hx hy p => ?_⟩
        obtain ⟨a, vs, rfl, hl, hv⟩ := hx.tuple
        unfold pMulG at p
        simp only [if_pos hc] at p
        refine ⟨a, k, vs, rfl, hy.int, hl, by have := hc.1.1; omega, by have := hc.1.2; omega, by rw [hv.length]; exact hc.2, fun hw => ?_, fun _ _ q hq => ?_⟩
        · rcases hw with hw | hw
          · subst hw
            cases hv
            have e0 : (List.replicate k.toNat ([] : List D)).flatten = [] := by simp
            rw [e0] at p
            exact p.ok r (Pd.tup hl .nil)
          · subst hw
            have e0 : (List.replicate (1 : Int).toNat ds).flatten = ds := by simp
            rw [e0] at p
            exact p.ok r (Pd.tup hl hv)
        · obtain ⟨p1, r3, v⟩ := newTup r (hv.rep k.toNat) hq
          exact p _ _ p1 r3 v
      · refine .inr ?_
        unfold pMulG
        simp only [if_neg hc]
    | _ => exact .inr rfl
  | _ => exact .inr rfl
end
end Fz
end

section
set_option Elab.async false
set_option linter.all false
set_option maxRecDepth 100000
set_option maxHeartbeats 4000000
/-! dens, new with k01 -/
namespace DL
open PySem L2 Fz
/-- slots: 0 told, 1 due, 2 at -/
noncomputable def b__law_same (r : Den) : FS → SRes :=
 fSeq (fIf (fT (fOpN pIsB 1 (fC .none))) (fRetD (fOpN pIsB 0 (fC .none))) (fun S => .nx S))
        (fSeq (fIf (fTru (fIsi "bool" (fPeek 1))) (fRetD (fIte (fTru (fPeek 1)) (fOpN pIsB 0 (fC (.bool true))) (fOpN pIsB 0 (fC (.bool false))))) (fun S => .nx S))
        (fSeq (fIf (fTru (fIsi "int" (fPeek 1))) (fRetD (fAndV (fIsi "int" (fPeek 0)) (fAndV (fNotV (fIsi "bool" (fPeek 0))) (fOpN pEq 0 (fPeek 1))))) (fun S => .nx S))
        (fSeq (fIf (fTru (fIsi "str" (fPeek 1))) (fRetD (fAndV (fIsi "str" (fPeek 0)) (fOpN pEq 0 (fPeek 1)))) (fun S => .nx S))
        (fSeq (fIf (fOrT (fT (fOp pNe (fIsi "tuple" (fPeek 1)) (fIsi "tuple" (fPeek 0)))) (fT (fOp pNe (fIsi "list" (fPeek 1)) (fIsi "list" (fPeek 0))))) (fRetD (fC (.bool false))) (fun S => .nx S))
        (fRetD (fAndV (fOp pEq (fCall (one pLen) (fCons (fPeek 0) (fC []))) (fCall (one pLen) (fCons (fPeek 1) (fC [])))) (fCall (one pAll) (fCons (fFrz (fLc (fRange1 (fCall (one pLen) (fCons (fPeek 1) (fC [])))) (gN 2) (fC true) (fFrz (fCallP (r) 2 (fAD (fOpN pIx 0 (fVar 2)) (fAD (fOpN pIx 1 (fVar 2)) (fC []))))) [2])) (fC [])))))))))
noncomputable def r__law_same : Nat → Den
  | 0 => fun _ => .bad
  | k + 1 => denOf 3 (b__law_same (r__law_same k))
@[irreducible] noncomputable def d__law_same (k : Nat) : Den := r__law_same k
theorem d__law_same_0 : d__law_same 0 = fun _ => .bad := by unfold d__law_same; rfl
theorem d__law_same_s (k : Nat) : d__law_same (k + 1) = denOf 3 (b__law_same (d__law_same k)) := by unfold d__law_same; rfl
/-- slots: 0 well, 1 many, 2 found, 3 mixed -/
noncomputable def b__law_take : FS → SRes :=
 fSeq (fIf (fT (fOp pGt (fOpN pIx 0 (fC (.int 0))) (fC (.int 0)))) (fSeq (fSetD 2 (fOp pMod (fCall (one pToInt) (fCons (fOpN pIx 0 (fC (.int 0))) (fC []))) (fPeek 1)))
        (fSeq (fSetIx 0 (fOp pDiv (fOpN pIx 0 (fC (.int 0))) (fPeek 1)) (fC (.int 0)))
        (fRetD (fVar 2)))) (fun S => .nx S))
        (fSeq (fSetIx 0 (fOp pMod (fCall (one pToInt) (fCons (fFrz (fOp pAdd (fOp pMul (fOpN pIx 0 (fC (.int 1))) (fC (.int 6364136223846793005))) (fC (.int 1442695040888963407)))) (fC []))) (fFrz (fOp pAdd (fOp pPow (fC (.int 10)) (fC (.int 28))) (fC (.int 331))))) (fC (.int 1)))
        (fSeq (fSetD 3 (fOp pMod (fCall (one pToInt) (fCons (fFrz (fOp pAdd (fOp pDiv (fOp pMul (fOpN pIx 0 (fC (.int 1))) (fOpN pIx 0 (fC (.int 1)))) (fC (.int 1000003))) (fOpN pIx 0 (fC (.int 1))))) (fC []))) (fC (.int 9007199254740881))))
        (fRetD (fOp pMod (fCall (one pToInt) (fCons (fOpN pDiv 3 (fC (.int 13))) (fC []))) (fPeek 1)))))
@[irreducible] noncomputable def d__law_take : Den := denOf 4 b__law_take
/-- slots: 0 value -/
noncomputable def b_is_integer : FS → SRes :=
 fRetD (fAndV (fIsi "int" (fPeek 0)) (fNotV (fIsi "bool" (fPeek 0))))
@[irreducible] noncomputable def d_is_integer : Den := denOf 1 b_is_integer
/-- slots: 0 value -/
noncomputable def b_is_natural : FS → SRes :=
 fRetD (fAndV (fFrz (fCallP d_is_integer 1 (fAD (fVar 0) (fC [])))) (fOpN pGe 0 (fC (.int 0))))
@[irreducible] noncomputable def d_is_natural : Den := denOf 1 b_is_natural
/-- slots: 0 value, 1 many -/
noncomputable def b_is_below : FS → SRes :=
 fRetD (fAndV (fFrz (fCallP d_is_natural 1 (fAD (fVar 0) (fC [])))) (fOpN pLt 0 (fPeek 1)))
@[irreducible] noncomputable def d_is_below : Den := denOf 2 b_is_below
/-- slots: 0 k, 1 value, 2 letter -/
noncomputable def b_is_letters : FS → SRes :=
 fRetD (fAndV (fIsi "tuple" (fPeek 1)) (fAny false (fItems (fVar 1)) (gN 2) (fC true) (fFrz (fCallP d_is_below 2 (fAD (fVar 2) (fAD (fVar 0) (fC []))))) [2]))
@[irreducible] noncomputable def d_is_letters : Den := denOf 3 b_is_letters
/-- slots: 0 k, 1 told -/
noncomputable def b_is_word_of : FS → SRes :=
 fRet (fCallP d_is_letters 2 (fAD (fVar 0) (fAD (fVar 1) (fC []))))
@[irreducible] noncomputable def d_is_word_of : Den := denOf 2 b_is_word_of
/-- slots: 0 k, 1 word -/
noncomputable def b_check_word : FS → SRes :=
 fIf (fNotT (fTru (fFrz (fCallP d_is_word_of 2 (fAD (fVar 0) (fAD (fVar 1) (fC []))))))) (fun _ => .bad) (fun S => .nx S)
@[irreducible] noncomputable def d_check_word : Den := denOf 2 b_check_word
/-- slots: 0 one, 1 other, 2 found, 3 at, 4 letter -/
noncomputable def b_found_in : FS → SRes :=
 fSeq (fPars [2, 3] (fConsV (fLst (fC [])) (fConsV (fV (fC (.int 0))) (fC []))))
        (fSeq (fFor (fItems (fVar 0)) (gN 4) (fSeq (whileF (fAndT (fT (fOpN pLt 3 (fCall (one pLen) (fCons (fPeek 1) (fC []))))) (fT (fOp pNe (fOpN pIx 1 (fVar 3)) (fPeek 4)))) (fAug .d 3 (pInt fun i j => some (i + j)) (fC (.int 1))))
        (fSeq (fIf (fT (fOpN pEq 3 (fCall (one pLen) (fCons (fPeek 1) (fC []))))) (fRetD (fC .none)) (fun S => .nx S))
        (fSeq (fAppend 2 (fVar 3))
        (fAug .d 3 (pInt fun i j => some (i + j)) (fC (.int 1)))))))
        (fRetD (fCall (one pTuple) (fCons (fPeek 2) (fC [])))))
@[irreducible] noncomputable def d_found_in : Den := denOf 5 b_found_in
/-- slots: 0 one, 1 other -/
noncomputable def b_strewn_in : FS → SRes :=
 fRetD (fOp pIsNotB (fFrz (fCallP d_found_in 2 (fAD (fVar 0) (fAD (fVar 1) (fC []))))) (fC .none))
@[irreducible] noncomputable def d_strewn_in : Den := denOf 2 b_strewn_in
/-- slots: 0 one, 1 other -/
noncomputable def b_is_strewn : FS → SRes :=
 fSeq (fDrop (fCallP d_check_word 2 (fAD (fC (.int 3)) (fAD (fVar 0) (fC [])))))
        (fSeq (fDrop (fCallP d_check_word 2 (fAD (fC (.int 3)) (fAD (fVar 1) (fC [])))))
        (fRet (fCallP d_strewn_in 2 (fAD (fVar 0) (fAD (fVar 1) (fC []))))))
@[irreducible] noncomputable def d_is_strewn : Den := denOf 2 b_is_strewn
/-- slots: 0 one, 1 other -/
noncomputable def b_places_in : FS → SRes :=
 fSeq (fDrop (fCallP d_check_word 2 (fAD (fC (.int 3)) (fAD (fVar 0) (fC [])))))
        (fSeq (fDrop (fCallP d_check_word 2 (fAD (fC (.int 3)) (fAD (fVar 1) (fC [])))))
        (fRet (fCallP d_found_in 2 (fAD (fVar 0) (fAD (fVar 1) (fC []))))))
@[irreducible] noncomputable def d_places_in : Den := denOf 2 b_places_in
/-- slots: 0 well, 1 k, 2 other, 3 one, 4 begin, 5 sort, 6 step, 7 letter, 8 told, 9 due, 10 ahead, 11 at -/
noncomputable def b__law_is_long_right : FS → SRes :=
 fSeq (fPars [1, 2, 3, 4] (fConsV (fOp pAdd (fC (.int 1)) (fFrz (fCallP d__law_take 2 (fAS 0 (fAD (fC (.int 3)) (fC [])))))) (fConsV (fLst (fC [])) (fConsV (fLst (fC [])) (fConsV (fV (fC (.int 0))) (fC []))))))
        (fSeq (fSet 5 (fCallP d__law_take 2 (fAS 0 (fAD (fC (.int 3)) (fC [])))))
        (fSeq (fFor (fRange1 (fFrz (fOp pAdd (fC (.int 10)) (fFrz (fCallP d__law_take 2 (fAS 0 (fAD (fC (.int 30)) (fC [])))))))) (gN 6) (fAppend 2 (fIte (fOrT (fT (fOpN pGt 5 (fC (.int 0)))) (fT (fOp pEq (fFrz (fCallP d__law_take 2 (fAS 0 (fAD (fC (.int 6)) (fC []))))) (fC (.int 0))))) (fFrz (fCallP d__law_take 2 (fAS 0 (fAD (fVar 1) (fC []))))) (fC (.int 0)))))
        (fSeq (fFor (fItems (fVar 2)) (gN 7) (fIf (fT (fOp pEq (fFrz (fCallP d__law_take 2 (fAS 0 (fAD (fC (.int 2)) (fC []))))) (fC (.int 0)))) (fAppend 3 (fVar 7)) (fun S => .nx S)))
        (fSeq (fIf (fAndT (fT (fOpN pEq 5 (fC (.int 2)))) (fT (fOpN pNe 3 (fFrz (fLst (fC [])))))) (fSetIx 3 (fFrz (fCallP d__law_take 2 (fAS 0 (fAD (fVar 1) (fC []))))) (fOp pSub (fCall (one pLen) (fCons (fPeek 3) (fC []))) (fC (.int 1)))) (fun S => .nx S))
        (fSeq (fPars [8, 9] (fConsV (fCallP d_places_in 2 (fAD (fCall (one pTuple) (fCons (fPeek 3) (fC []))) (fAD (fCall (one pTuple) (fCons (fPeek 2) (fC []))) (fC [])))) (fConsV (fLst (fC [])) (fC []))))
        (fSeq (fFor (fItems (fVar 3)) (gN 7) (fIf (fT (fOpN pIsNotB 4 (fC .none))) (fSeq (fSet 10 (fLc (fRange2 (fVar 4) (fCall (one pLen) (fCons (fPeek 2) (fC [])))) (gN 11) (fT (fOp pEq (fOpN pIx 2 (fVar 11)) (fPeek 7))) (fVar 11) [11]))
        (fPars [9, 4] (fConsV (fOpN pAdd 9 (fFrz (fSlN 10 (fC none) (fPart (fC (.int 1)))))) (fConsV (fIte (fT (fOpN pNe 10 (fFrz (fLst (fC []))))) (fOp pAdd (fOpN pIx 10 (fC (.int 0))) (fC (.int 1))) (fV (fC .none))) (fC []))))) (fun S => .nx S)))
        (fSeq (fIf (fNotT (fTru (fFrz (fCallP (d__law_same 24) 2 (fAD (fVar 8) (fAD (fIte (fT (fOpN pIsB 4 (fC .none))) (fC .none) (fCall (one pTuple) (fCons (fPeek 9) (fC [])))) (fC []))))))) (fRetD (fC (.bool false))) (fun S => .nx S))
        (fRet (fCallP (d__law_same 24) 2 (fAD (fFrz (fLst (fCons (fFrz (fCallP d_is_strewn 2 (fAD (fCall (one pTuple) (fCons (fPeek 3) (fC []))) (fAD (fCall (one pTuple) (fCons (fPeek 2) (fC []))) (fC []))))) (fCons (fFrz (fCallP d_is_strewn 2 (fAD (fFrz (fOp pAdd (fCall (one pTuple) (fCons (fPeek 2) (fC []))) (fTup (fCons (fC (.int 0)) (fC []))))) (fAD (fCall (one pTuple) (fCons (fPeek 2) (fC []))) (fC []))))) (fC []))))) (fAD (fFrz (fLst (fCons (fOpN pIsNotB 4 (fC .none)) (fCons (fC (.bool false)) (fC []))))) (fC []))))))))))))
@[irreducible] noncomputable def d__law_is_long_right : Den := denOf 12 b__law_is_long_right
/-- slots: 0 well, 1 word, 2 found, 3 letter -/
noncomputable def b__law_left : FS → SRes :=
 fSeq (fSet 2 (fLst (fC [])))
        (fSeq (fFor (fItems (fVar 1)) (gN 3) (fIf (fT (fOp pGt (fFrz (fCallP d__law_take 2 (fAS 0 (fAD (fC (.int 3)) (fC []))))) (fC (.int 0)))) (fAppend 2 (fVar 3)) (fun S => .nx S)))
        (fSeq (fIf (fAndT (fT (fOpN pNe 2 (fFrz (fLst (fC []))))) (fT (fOp pEq (fFrz (fCallP d__law_take 2 (fAS 0 (fAD (fC (.int 4)) (fC []))))) (fC (.int 0))))) (fSetIx 2 (fC (.int 0)) (fFrz (fCallP d__law_take 2 (fAS 0 (fAD (fCall (one pLen) (fCons (fPeek 2) (fC []))) (fC [])))))) (fun S => .nx S))
        (fRetD (fCall (one pTuple) (fCons (fPeek 2) (fC []))))))
@[irreducible] noncomputable def d__law_left : Den := denOf 4 b__law_left
/-- slots: 0 one, 1 other, 2 rows, 3 letter, 4 longer, 5 row, 6 begin, 7 at -/
noncomputable def b__law_first : FS → SRes :=
 fSeq (fSet 2 (fLst (fCons (fTup (fC [])) (fC []))))
        (fSeq (fFor (fItems (fVar 0)) (gN 3) (fSeq (fSet 4 (fLst (fC [])))
        (fSeq (fFor (fItems (fVar 2)) (gN 5) (fSeq (fSet 6 (fIte (fT (fOpN pNe 5 (fTup (fC [])))) (fOp pAdd (fOpN pIx 5 (bnd (fC (.int 1)) pNeg)) (fC (.int 1))) (fV (fC (.int 0)))))
        (fExtend 4 (fLc (fRange2 (fVar 6) (fCall (one pLen) (fCons (fPeek 1) (fC [])))) (gN 7) (fT (fOp pEq (fOpN pIx 1 (fVar 7)) (fPeek 3))) (fFrz (fOpN pAdd 5 (fTup (fCons (fVar 7) (fC []))))) [7]))))
        (fSetD 2 (fVar 4)))))
        (fRetD (fIte (fT (fOpN pNe 2 (fFrz (fLst (fC []))))) (fCall (one pMin1) (fCons (fPeek 2) (fC []))) (fC .none))))
@[irreducible] noncomputable def d__law_first : Den := denOf 8 b__law_first
/-- slots: 0 one, 1 other, 2 due, 3 told -/
noncomputable def b__law_right : FS → SRes :=
 fSeq (fSet 2 (fCallP d__law_first 2 (fAD (fVar 0) (fAD (fVar 1) (fC [])))))
        (fSeq (fSet 3 (fLst (fCons (fFrz (fCallP d_is_strewn 2 (fAD (fVar 0) (fAD (fVar 1) (fC []))))) (fCons (fFrz (fCallK d_is_strewn 2 0 2 [1, 0] (fC []) (fAD (fVar 1) (fAD (fVar 0) (fC []))))) (fCons (fFrz (fCallP d_places_in 2 (fAD (fVar 0) (fAD (fVar 1) (fC []))))) (fCons (fFrz (fCallK d_places_in 2 0 2 [1, 0] (fC []) (fAD (fVar 1) (fAD (fVar 0) (fC []))))) (fC [])))))))
        (fSeq (fIf (fNotT (fTru (fFrz (fCallP (d__law_same 24) 2 (fAD (fVar 3) (fAD (fFrz (fLst (fCons (fOpN pIsNotB 2 (fC .none)) (fCons (fOpN pIsNotB 2 (fC .none)) (fCons (fVar 2) (fCons (fVar 2) (fC []))))))) (fC []))))))) (fRetD (fC (.bool false))) (fun S => .nx S))
        (fRetD (fOrV (fOpN pEq 0 (fPeek 1)) (fOrV (fOpN pIsB 2 (fC .none)) (fOp pIsB (fFrz (fCallP d_is_strewn 2 (fAD (fVar 1) (fAD (fVar 0) (fC []))))) (fC (.bool false))))))))
@[irreducible] noncomputable def d__law_right : Den := denOf 4 b__law_right
/-- slots: 0 script, 1 at, 2 mixed, 3 cell, 4 digits -/
noncomputable def b__law_well : FS → SRes :=
 fSeq (fSet 2 (fOp pAdd (fC (.int 7)) (fCall (one pLen) (fCons (fFrz (fSlN 0 (fC none) (fPart (fC (.int 63))))) (fC [])))))
        (fSeq (fFor (fItems (fFrz (fSlN 0 (fC none) (fPart (fC (.int 63)))))) (gN 3) (fSetD 2 (fOp pMod (fCall (one pToInt) (fCons (fFrz (fOp pAdd (fFrz (fOp pAdd (fOpN pMul 2 (fC (.int 1103515245))) (fOp pMod (fCall (one pToInt) (fCons (fPeek 3) (fC []))) (fFrz (fOp pAdd (fOp pPow (fC (.int 10)) (fC (.int 24))) (fC (.int 7))))))) (fC (.int 5)))) (fC []))) (fFrz (fOp pAdd (fOp pPow (fC (.int 10)) (fC (.int 28))) (fC (.int 331)))))))
        (fSeq (fSetD 2 (fOp pMod (fCall (one pToInt) (fCons (fFrz (fOp pAdd (fFrz (fOp pAdd (fOpN pMul 2 (fC (.int 131))) (fOpN pMul 1 (fC (.int 104729))))) (fC (.int 29)))) (fC []))) (fFrz (fOp pAdd (fOp pPow (fC (.int 10)) (fC (.int 28))) (fC (.int 331))))))
        (fSeq (fSetD 4 (fC (.int 0)))
        (fSeq (fIf (fT (fOpN pLt 1 (fCall (one pLen) (fCons (fPeek 0) (fC []))))) (fSetD 4 (fCall (two pMax2) (fCons (fC (.int 0)) (fCons (fOp pSub (fCall (one pAbs) (fCons (fCall (one pToInt) (fCons (fOpN pIx 0 (fVar 1)) (fC []))) (fC []))) (fOp pPow (fC (.int 10)) (fC (.int 18)))) (fC []))))) (fun S => .nx S))
        (fRet (fLst (fCons (fVar 4) (fCons (fVar 2) (fC [])))))))))
@[irreducible] noncomputable def d__law_well : Den := denOf 5 b__law_well
/-- slots: 0 well, 1 k, 2 most, 3 at -/
noncomputable def b__law_word : FS → SRes :=
 fRetD (fCall (one pTuple) (fCons (fFrz (fLc (fRange1 (fFrz (fCallP d__law_take 2 (fAS 0 (fAD (fFrz (fOpN pAdd 2 (fC (.int 1)))) (fC [])))))) (gN 3) (fC true) (fFrz (fCallP d__law_take 2 (fAS 0 (fAD (fVar 1) (fC []))))) [3])) (fC [])))
@[irreducible] noncomputable def d__law_word : Den := denOf 4 b__law_word
/-- slots: 0 script, 1 at, 2 well, 3 turn, 4 k, 5 other, 6 one, 7 kept -/
noncomputable def b_law01 : FS → SRes :=
 fSeq (fFor (fRange1 (fCall (two pMax2) (fCons (fC (.int 1)) (fCons (fCall (two pMin2) (fCons (fC (.int 2)) (fCons (fCall (one pLen) (fCons (fPeek 0) (fC []))) (fC [])))) (fC []))))) (gN 1) (fSeq (fSet 2 (fCallP d__law_well 2 (fAD (fVar 0) (fAD (fVar 1) (fC [])))))
        (fSeq (fFor (fRange1 (fC (.int 8))) (gN 3) (fSeq (fSet 4 (fOp pAdd (fC (.int 1)) (fFrz (fCallP d__law_take 2 (fAS 2 (fAD (fC (.int 3)) (fC [])))))))
        (fSeq (fSet 5 (fCallP d__law_word 3 (fAS 2 (fAD (fVar 4) (fAD (fC (.int 9)) (fC []))))))
        (fSeq (fSet 6 (fIte (fT (fOp pGt (fFrz (fCallP d__law_take 2 (fAS 2 (fAD (fC (.int 3)) (fC []))))) (fC (.int 0)))) (fCallP d__law_left 2 (fAS 2 (fAD (fVar 5) (fC [])))) (fCallP d__law_word 3 (fAS 2 (fAD (fVar 4) (fAD (fC (.int 6)) (fC [])))))))
        (fSeq (fSetD 7 (fCall (one pRepr) (fCons (fFrz (fLst (fCons (fVar 6) (fCons (fVar 5) (fC []))))) (fC []))))
        (fSeq (fIf (fOrT (fNotT (fTru (fFrz (fCallP d__law_right 2 (fAD (fVar 6) (fAD (fVar 5) (fC []))))))) (fOrT (fNotT (fTru (fFrz (fCallP d__law_right 2 (fAD (fVar 5) (fAD (fVar 6) (fC []))))))) (fOrT (fNotT (fTru (fFrz (fCallP d__law_right 2 (fAD (fVar 6) (fAD (fVar 6) (fC []))))))) (fNotT (fTru (fFrz (fCallP d__law_right 2 (fAD (fTup (fC [])) (fAD (fVar 5) (fC [])))))))))) (fRetD (fC (.bool false))) (fun S => .nx S))
        (fIf (fOrT (fT (fOp pIsNotB (fFrz (fCallP d_is_strewn 2 (fAD (fVar 6) (fAD (fFrz (fOpN pAdd 5 (fPeek 6))) (fC []))))) (fC (.bool true)))) (fOrT (fT (fOp pIsNotB (fFrz (fCallP d_is_strewn 2 (fAD (fVar 6) (fAD (fFrz (fOpN pAdd 6 (fPeek 5))) (fC []))))) (fC (.bool true)))) (fT (fOp pNe (fCall (one pRepr) (fCons (fFrz (fLst (fCons (fVar 6) (fCons (fVar 5) (fC []))))) (fC []))) (fPeek 7))))) (fRetD (fC (.bool false))) (fun S => .nx S))))))))
        (fIf (fNotT (fTru (fFrz (fCallP d__law_is_long_right 1 (fAS 2 (fC [])))))) (fRetD (fC (.bool false))) (fun S => .nx S)))))
        (fRetD (fC (.bool true)))
@[irreducible] noncomputable def d_law01 : Den := denOf 8 b_law01
end DL
end

section
set_option Elab.async false
set_option linter.all false
set_option maxRecDepth 100000
set_option maxHeartbeats 4000000
/-! S0: wells, same, words, strewn. -/
namespace DL
open PySem L2 Fz
theorem take_w {o : Ob} {m : Int} (ho : Wl o) (hm : 0 < m) (hm2 : m ≤ 1000000) {Q : SV → List SV → Prop} (h : ∀ o' r, Wl o' → 0 ≤ r → r < m → Q (.d (.int r)) [.pin o', .d (.int m)]) : wC (d__law_take [.pin o, .d (.int m)]) Q := by
  obtain ⟨a, b, rfl, ha, hb, hb2⟩ := ho
  unfold d__law_take
  rw [wC_denOf]
  simp [b__law_take]
  have hc' := emodW (x := b * 6364136223846793005 + 1442695040888963407) (m := 10000000000000000000000000331) (by decide)
  generalize hc : (b * 6364136223846793005 + 1442695040888963407) % 10000000000000000000000000331 = c
  rw [hc] at hc'
  refine ⟨fun h1 => ⟨hm, divW hm (by omega), h _ _ ⟨a / m, b, rfl, Int.ediv_nonneg ha (by omega), hb, hb2⟩ (Int.emod_nonneg _ (by omega)) (Int.emod_lt_of_pos _ hm)⟩, fun h1 => ?_⟩
  refine ⟨mulWp hb (by unfold WM at hb2; omega) (by decide) (by decide), powW, mulWp hc'.1 (by omega) hc'.1 (by omega), divW (by decide) (by decide), divW (by decide) (by decide), hm, h _ _ ⟨a, c, rfl, ha, hc'.1, hc'.2⟩ (Int.emod_nonneg _ (by omega)) (Int.emod_lt_of_pos _ hm)⟩
theorem well_w {ns : List Int} {at_ : Int} (h0 : 0 ≤ at_) (h1 : at_ < 1000) (hl : ns.length ≤ 63) {Q : SV → List SV → Prop} (h : ∀ o, Wl o → Q (.own o) [.d (scriptD ns), .d (.int at_)]) : wC (d__law_well [.d (scriptD ns), .d (.int at_)]) Q := by
  unfold d__law_well
  rw [wC_denOf]
  simp [b__law_well, scriptD]
  have hcut : ∀ {α : Type} (xs : List α), xs.length ≤ 63 → cutL xs none (some 63) = xs := fun xs hx => by
    rw [show (63 : Int) = ((63 : Nat) : Int) from rfl, cutL_take, List.take_of_length_le hx]
  rw [hcut _ (by simpa using hl)]
  refine wS_forF (fun _ S => ∃ (v : Int) (c : Option SV), 0 ≤ v ∧ v < WM ∧ S = [some (.d (.list (ns.map .int))), some (.d (.int at_)), some (.d (.int v)), c, none]) ?_ ?_ ?_
  · exact ⟨7 + ns.length, none, by omega, by unfold WM; omega, by simp⟩
  · rintro i d S hd ⟨v, c, hv, hv2, rfl⟩
    obtain ⟨z, hz, rfl⟩ := List.mem_map.mp (List.mem_of_getElem? hd)
    simp
    refine ⟨mulWp hv (by unfold WM at hv2; omega) (by decide) (by decide), powW, powW, ?_⟩
    exact emodW (by decide)
  · rintro S ⟨v, c, hv, hv2, rfl⟩
    simp
    have hM := emodW (x := v * 131 + at_ * 104729 + 29) (m := WM) (by decide)
    refine ⟨mulWp hv (by unfold WM at hv2; omega) (by decide) (by decide), mulWp h0 (by omega) (by decide) (by decide), powW, fun hlt => ?_, fun hge => ?_⟩
    · have e : ns[at_.toNat]? = some ns[at_.toNat] := List.getElem?_eq_getElem (by omega)
      rw [atI_int h0]
      simp [e]
      refine ⟨powW, szL (by decide), h _ ⟨_, _, rfl, ?_, hM.1, hM.2⟩⟩
      split <;> omega
    · exact ⟨szL (by decide), h _ ⟨_, _, rfl, by decide, hM.1, hM.2⟩⟩
theorem same_seq {k : Nat} {ds : List D} {x : D} {Q : D → FS → Prop} (hx : x = .list ds ∨ x = .tuple ds) (hl : ds.length ≤ 10000000) (hs : SmalL k ds)
    (ih : ∀ (d : D), Smal k d → ∀ {Q : SV → List SV → Prop}, Q (.d (.bool true)) [.d d, .d d] → wC (d__law_same (k + 1) [.d d, .d d]) Q)
    (h : Q (.list (List.replicate ds.length (.bool true))) [some (.d x), some (.d x), none]) :
    Fz.wE (lcF (gN 2) (fC true) (fFrz (fCallP (d__law_same (k + 1)) 2 (fAD (fOpN pIx 0 (fVar 2)) (fAD (fOpN pIx 1 (fVar 2)) (fC []))))) [2] (rngD 0 ds.length) [some (.d x), some (.d x), none] []) (fun v S1 => wFrz v fun d => Q d S1) := by
  refine wE_lcF (fun i acc S => acc = List.replicate i (.bool true) ∧ i ≤ ds.length ∧ S = [some (.d x), some (.d x), none]) ⟨rfl, Nat.zero_le _, rfl⟩ ?_ ?_
  · rintro i d acc S hd ⟨rfl, hi, rfl⟩
    obtain ⟨h1, rfl⟩ := rngD_get hd
    have e : ds[i]? = some ds[i] := List.getElem?_eq_getElem h1
    have go : wC (d__law_same (k + 1) [.d ds[i], .d ds[i]]) fun v l => v = .d (.bool true) ∧ l = [.d ds[i], .d ds[i]] := ih _ (hs.mem _ (List.getElem_mem h1)) ⟨rfl, rfl⟩
    rcases hx with rfl | rfl
    · simp [e, wE_callD]
      refine go.mono ?_
      rintro v l ⟨rfl, rfl⟩
      simp
      exact ⟨szS (by omega), by rw [List.replicate_succ'], by omega⟩
    · simp [e, wE_callD]
      refine go.mono ?_
      rintro v l ⟨rfl, rfl⟩
      simp
      exact ⟨szS (by omega), by rw [List.replicate_succ'], by omega⟩
  · rintro acc S ⟨rfl, hi, rfl⟩
    simpa using h
theorem same_refl : ∀ (k : Nat) (d : D), Smal k d → ∀ {Q : SV → List SV → Prop}, Q (.d (.bool true)) [.d d, .d d] → wC (d__law_same (k + 1) [.d d, .d d]) Q := by
  intro k
  induction k with
  | zero =>
    intro d hd Q h
    rw [d__law_same_s, wC_denOf]
    cases hd <;> simp [b__law_same]
    all_goals first | simpa using h | (rename_i b; cases b <;> simpa using h)
  | succ k ih =>
    intro d hd Q h
    rw [d__law_same_s, wC_denOf]
    cases hd
    case tup ds hl hs =>
      simp [b__law_same]
      refine ⟨by omega, same_seq (.inr rfl) hl hs ih ?_⟩
      simpa [bls_rep] using h
    case lst ds hl hs =>
      simp [b__law_same]
      refine ⟨by omega, same_seq (.inl rfl) hl hs ih ?_⟩
      simpa [bls_rep] using h
    all_goals (simp [b__law_same]; first | simpa using h | (rename_i b; cases b <;> simpa using h))
theorem same_w {k : Nat} {d : D} (hd : Smal k d) (hk : k ≤ 23) {Q : SV → List SV → Prop} (h : Q (.d (.bool true)) [.d d, .d d]) : wC (d__law_same 24 [.d d, .d d]) Q := same_refl 23 d (hd.up hk) h
def IsW (k : Int) (xs : List Int) : Prop := ∀ x ∈ xs, 0 ≤ x ∧ x < k
theorem is_integer_w {x : Int} {Q : SV → List SV → Prop} (h : Q (.d (.bool true)) [.d (.int x)]) : wC (d_is_integer [.d (.int x)]) Q := by
  unfold d_is_integer
  rw [wC_denOf]
  simp [b_is_integer]
  simpa using h
theorem is_natural_w {x : Int} (h0 : 0 ≤ x) {Q : SV → List SV → Prop} (h : Q (.d (.bool true)) [.d (.int x)]) : wC (d_is_natural [.d (.int x)]) Q := by
  unfold d_is_natural
  rw [wC_denOf]
  simp [b_is_natural, wE_callD]
  refine is_integer_w ?_
  simpa [h0] using h
theorem is_below_w {x k : Int} (h0 : 0 ≤ x) (h1 : x < k) {Q : SV → List SV → Prop} (h : Q (.d (.bool true)) [.d (.int x), .d (.int k)]) : wC (d_is_below [.d (.int x), .d (.int k)]) Q := by
  unfold d_is_below
  rw [wC_denOf]
  simp [b_is_below, wE_callD]
  refine is_natural_w h0 ?_
  simpa [h1] using h
theorem is_letters_w {k : Int} {xs : List Int} (hx : IsW k xs) {Q : SV → List SV → Prop} (h : Q (.d (.bool true)) [.d (.int k), .d (W xs)]) : wC (d_is_letters [.d (.int k), .d (W xs)]) Q := by
  unfold d_is_letters
  rw [wC_denOf]
  simp [b_is_letters]
  refine wE_anyF (fun i S => S = [some (.d (.int k)), some (.d (W xs)), none]) rfl ?_ ?_
  · rintro i d S hd rfl
    obtain ⟨z, hz, rfl⟩ := List.mem_map.mp (List.mem_of_getElem? hd)
    obtain ⟨a, b⟩ := hx z hz
    simp [wE_callD]
    refine is_below_w a b ?_
    simp
  · rintro S rfl
    simpa using h
theorem check_word_w {k : Int} {xs : List Int} (hx : IsW k xs) {Q : SV → List SV → Prop} (h : Q (.d .none) [.d (.int k), .d (W xs)]) : wC (d_check_word [.d (.int k), .d (W xs)]) Q := by
  unfold d_check_word
  rw [wC_denOf]
  simp [b_check_word, wE_callD]
  unfold d_is_word_of
  rw [wC_denOf]
  simp [b_is_word_of, wE_callD]
  refine is_letters_w hx ?_
  simpa using h

/-! found_in -/
/-- the first place from a on at which y stands (the length where there is none) -/
def nextAt (y : Int) (ys : List Int) (a : Nat) : Nat := a + ((ys.drop a).takeWhile (· != y)).length
theorem nextAt_hit {y : Int} {ys : List Int} {a : Nat} (h : ys[a]? = some y) : nextAt y ys a = a := by
  obtain ⟨h1, h2⟩ := List.getElem?_eq_some_iff.mp h
  unfold nextAt
  rw [List.drop_eq_getElem_cons h1, h2, List.takeWhile_cons]
  simp
theorem nextAt_step {y z : Int} {ys : List Int} {a : Nat} (h : ys[a]? = some z) (n : z ≠ y) : nextAt y ys a = nextAt y ys (a + 1) := by
  obtain ⟨h1, h2⟩ := List.getElem?_eq_some_iff.mp h
  unfold nextAt
  rw [List.drop_eq_getElem_cons h1, h2, List.takeWhile_cons]
  have : (z != y) = true := by simpa using n
  simp [this]
  omega
theorem nextAt_end {y : Int} {ys : List Int} {a : Nat} (h : ys.length ≤ a) : nextAt y ys a = a := by
  unfold nextAt
  rw [List.drop_of_length_le h]
  simp
/-- one's letters one after another in other, each as early as may be -/
def greedy : List Int → List Int → Nat → Option (List Nat)
  | [], _, _ => some []
  | x :: xs, ys, a => if nextAt x ys a < ys.length then (greedy xs ys (nextAt x ys a + 1)).map (nextAt x ys a :: ·) else none
def NL (ps : List Nat) : List Int := ps.map fun p : Nat => (p : Int)
def optW : Option (List Nat) → D
  | some ps => W (NL ps)
  | none => .none
theorem found_in_w {xs ys : List Int} (hx : xs.length ≤ 1000) (hy : ys.length ≤ 1000) {Q : SV → List SV → Prop} (h : Q (.d (optW (greedy xs ys 0))) [.d (W xs), .d (W ys)]) : wC (d_found_in [.d (W xs), .d (W ys)]) Q := by
  unfold d_found_in
  rw [wC_denOf]
  simp [b_found_in]
  refine wS_forF (fun i S => ∃ (ps : List Nat) (a : Nat) (c : Option SV), S = [some (.d (W xs)), some (.d (W ys)), some (.own (.lst ((NL ps).map .int))), some (.d (.int (a : Int))), c] ∧ a ≤ ys.length ∧ ps.length ≤ i ∧ i ≤ 1000 ∧ greedy xs ys 0 = (greedy (xs.drop i) ys a).map (ps ++ ·)) ?_ ?_ ?_
  · exact ⟨[], 0, none, by simp [NL], by omega, by simp, by omega, by simp⟩
  · rintro i d S hd ⟨ps, a, c, rfl, ha, hps, hi, hg⟩
    obtain ⟨z, hz, rfl⟩ := Option.map_eq_some_iff.mp (by rw [List.getElem?_map] at hd; exact hd)
    obtain ⟨h1, h2⟩ := List.getElem?_eq_some_iff.mp hz
    simp
    refine wS_while (fun m S => ∃ a' : Nat, S = [some (.d (W xs)), some (.d (W ys)), some (.own (.lst ((NL ps).map .int))), some (.d (.int (a' : Int))), some (.d (.int z))] ∧ a' ≤ ys.length ∧ m = ys.length - a' ∧ nextAt z ys a' = nextAt z ys a) _ ⟨a, rfl, ha, rfl, rfl⟩ ?_
    rintro m S ⟨a', rfl, ha', rfl, hn⟩
    simp
    have hgd : ∀ {b : Nat}, nextAt z ys a = b → greedy xs ys 0 = (if b < ys.length then (greedy (xs.drop (i + 1)) ys (b + 1)).map (b :: ·) else none).map (ps ++ ·) := fun {b} e => by
      rw [hg, List.drop_eq_getElem_cons h1, h2]
      simp only [greedy, e]
    refine ⟨fun hlt => ?_, fun hge => ?_⟩
    · have e : ys[a']? = some ys[a'] := List.getElem?_eq_getElem hlt
      rw [e]
      simp only [wO_some]
      refine ⟨fun hne => ⟨ys.length - (a' + 1), by omega, a' + 1, by simp, by omega, rfl, by rw [← hn, nextAt_step e hne]⟩, fun heq => ⟨fun z => by omega, fun _ => ?_⟩⟩
      rw [heq] at e
      have hb := nextAt_hit e
      have hg2 := hgd (b := a') (by rw [← hn]; exact hb)
      rw [if_pos hlt] at hg2
      refine ⟨szS (by simp [NL]; omega), ps ++ [a'], a' + 1, ⟨by simp [NL], by simp⟩, by omega, by simp; omega, by omega, ?_⟩
      rw [hg2, Option.map_map]
      congr 1
      funext l
      simp
    · have ee : a' = ys.length := by omega
      have hb := nextAt_end (y := z) hge
      have hg2 := hgd (b := a') (by rw [← hn]; exact hb)
      rw [if_neg (by omega)] at hg2
      refine ⟨fun _ => ?_, fun z => absurd (by exact_mod_cast ee) z⟩
      rw [hg2] at h
      exact h
  · rintro S ⟨ps, a, c, rfl, ha, hps, hi, hg⟩
    rw [List.length_map, List.drop_length] at hg
    simp only [greedy, Option.map_some, List.append_nil] at hg
    rw [hg] at h
    simpa [optW] using h
theorem sub_split {x : Int} {xs : List Int} : ∀ l : List Int, (x :: xs).Sublist l ↔ (l.takeWhile (· != x)).length < l.length ∧ xs.Sublist (l.drop ((l.takeWhile (· != x)).length + 1))
  | [] => by simp
  | y :: l => by
    by_cases h : y = x
    · subst h; simp
    · have e : (y != x) = true := by simpa using h
      have ih := sub_split (x := x) (xs := xs) l
      rw [List.takeWhile_cons, e, List.sublist_cons_iff]
      simp only [if_true, List.length_cons, List.drop_succ_cons, Nat.add_lt_add_iff_right]
      rw [ih]
      constructor
      · rintro (h1 | ⟨r, h1, _⟩)
        · exact h1
        · cases h1; exact absurd rfl h
      · exact .inl
theorem greedy_sub {ys : List Int} : ∀ {xs : List Int} {a : Nat}, a ≤ ys.length → ((greedy xs ys a).isSome = true ↔ xs.Sublist (ys.drop a))
  | [], a, _ => by simp [greedy]
  | x :: xs, a, ha => by
    rw [sub_split, List.length_drop, List.drop_drop]
    unfold greedy
    have e : nextAt x ys a = a + ((ys.drop a).takeWhile (· != x)).length := rfl
    by_cases h : nextAt x ys a < ys.length
    · rw [if_pos h]
      simp only [Option.isSome_map]
      rw [greedy_sub (xs := xs) (by omega), e, show a + ((ys.drop a).takeWhile (· != x)).length + 1 = a + (((ys.drop a).takeWhile (· != x)).length + 1) by omega]
      constructor
      · intro z; exact ⟨by omega, z⟩
      · exact fun z => z.2
    · rw [if_neg h]
      constructor
      · intro z; cases z
      · intro z; exact absurd z.1 (by omega)
def strewn (xs ys : List Int) : Bool := (greedy xs ys 0).isSome
theorem strewn_iff {xs ys : List Int} : strewn xs ys = true ↔ xs.Sublist ys := by
  have := greedy_sub (xs := xs) (ys := ys) (a := 0) (Nat.zero_le _)
  unfold strewn
  simpa using this
theorem strewn_anti {xs ys : List Int} (h : strewn xs ys = true) (g : xs ≠ ys) : strewn ys xs = false := by
  cases e : strewn ys xs with
  | false => rfl
  | true =>
    have a := strewn_iff.mp h
    have b := strewn_iff.mp e
    exact absurd (a.eq_of_length (Nat.le_antisymm a.length_le b.length_le)) g
/-! the texts' defs -/
theorem dNone_opt {o : Option (List Nat)} : dNone (optW o) = !o.isSome := by cases o <;> rfl
theorem strewn_in_w {xs ys : List Int} (hx : xs.length ≤ 1000) (hy : ys.length ≤ 1000) {Q : SV → List SV → Prop} (h : Q (.d (.bool (strewn xs ys))) [.d (W xs), .d (W ys)]) : wC (d_strewn_in [.d (W xs), .d (W ys)]) Q := by
  unfold d_strewn_in
  rw [wC_denOf]
  simp [b_strewn_in, wE_callD]
  refine found_in_w hx hy ?_
  simpa [dNone_opt, strewn] using h
theorem is_strewn_w {xs ys : List Int} (h3 : IsW 3 xs) (g3 : IsW 3 ys) (hx : xs.length ≤ 1000) (hy : ys.length ≤ 1000) {Q : SV → List SV → Prop} (h : Q (.d (.bool (strewn xs ys))) [.d (W xs), .d (W ys)]) : wC (d_is_strewn [.d (W xs), .d (W ys)]) Q := by
  unfold d_is_strewn
  rw [wC_denOf]
  simp [b_is_strewn, wE_callD]
  refine check_word_w h3 ?_
  simp
  refine check_word_w g3 ?_
  simp
  refine strewn_in_w hx hy ?_
  simpa using h
theorem places_in_w {xs ys : List Int} (h3 : IsW 3 xs) (g3 : IsW 3 ys) (hx : xs.length ≤ 1000) (hy : ys.length ≤ 1000) {Q : SV → List SV → Prop} (h : Q (.d (optW (greedy xs ys 0))) [.d (W xs), .d (W ys)]) : wC (d_places_in [.d (W xs), .d (W ys)]) Q := by
  unfold d_places_in
  rw [wC_denOf]
  simp [b_places_in, wE_callD]
  refine check_word_w h3 ?_
  simp
  refine check_word_w g3 ?_
  simp
  refine found_in_w hx hy ?_
  simpa using h

/-! words drawn -/
theorem law_word_w {o : Ob} {k most : Int} (ho : Wl o) (hk : 1 ≤ k) (hk2 : k ≤ 3) (hm : 0 ≤ most) (hm2 : most ≤ 100) {Q : SV → List SV → Prop} (h : ∀ o' xs, Wl o' → IsW k xs → xs.length ≤ most.toNat → Q (.d (W xs)) [.pin o', .d (.int k), .d (.int most)]) : wC (d__law_word [.pin o, .d (.int k), .d (.int most)]) Q := by
  unfold d__law_word
  rw [wC_denOf]
  simp [b__law_word, wE_callD]
  refine take_w ho (by omega) (by omega) ?_
  intro o1 n ho1 hn0 hn1
  simp
  refine ⟨by omega, ?_⟩
  refine wE_lcF (fun i acc S => ∃ o' xs, Wl o' ∧ acc = xs.map .int ∧ IsW k xs ∧ xs.length = i ∧ i ≤ n.toNat ∧ S = [some (.pin o'), some (.d (.int k)), some (.d (.int most)), none]) ⟨o1, [], ho1, rfl, fun _ h => absurd h (by simp), rfl, Nat.zero_le _, rfl⟩ ?_ ?_
  · rintro i d acc S hd ⟨o', xs, ho', rfl, hx, hxl, hi, rfl⟩
    obtain ⟨h1, rfl⟩ := rngD_get hd
    simp [wE_callD]
    refine take_w ho' (by omega) (by omega) ?_
    intro o2 r ho2 hr0 hr1
    simp
    refine ⟨szS (by omega), o2, ho2, xs ++ [r], by simp, ?_, by simp [hxl], ?_⟩
    rotate_left
    · exact ⟨by omega, rfl⟩
    intro x hx2
    rcases List.mem_append.mp hx2 with z | z
    · exact hx x z
    · rw [List.mem_singleton.mp z]; exact ⟨hr0, hr1⟩
  · rintro acc S ⟨o', xs, ho', rfl, hx, hxl, hi, rfl⟩
    simp
    exact h o' xs ho' hx (by simp at hxl; omega)
theorem law_left_w {o : Ob} {k : Int} {ws : List Int} (ho : Wl o) (hk : 1 ≤ k) (hw : IsW k ws) (hl : ws.length ≤ 100) {Q : SV → List SV → Prop} (h : ∀ o' xs, Wl o' → IsW k xs → xs.length ≤ ws.length → Q (.d (W xs)) [.pin o', .d (W ws)]) : wC (d__law_left [.pin o, .d (W ws)]) Q := by
  unfold d__law_left
  rw [wC_denOf]
  simp [b__law_left]
  refine wS_forF (fun i S => ∃ o' xs c, Wl o' ∧ IsW k xs ∧ xs.length ≤ i ∧ i ≤ ws.length ∧ S = [some (.pin o'), some (.d (W ws)), some (.own (.lst (xs.map .int))), c]) ⟨o, [], none, ho, fun _ h => absurd h (by simp), by simp, by omega, by simp⟩ ?_ ?_
  · rintro i d S hd ⟨o', xs, c, ho', hx, hxl, hi, rfl⟩
    obtain ⟨z, hz, rfl⟩ := Option.map_eq_some_iff.mp (by rw [List.getElem?_map] at hd; exact hd)
    obtain ⟨h1, h2⟩ := List.getElem?_eq_some_iff.mp hz
    simp [wE_callD]
    refine take_w ho' (by omega) (by omega) ?_
    intro o2 r ho2 hr0 hr1
    simp
    refine ⟨fun _ => ⟨szS (by omega), o2, ho2, xs ++ [z], ?_, by simp; omega, by omega, by simp⟩, fun _ => ⟨o2, ho2, xs, hx, by omega, by omega, by simp⟩⟩
    intro x hx2
    rcases List.mem_append.mp hx2 with q | q
    · exact hx x q
    · rw [List.mem_singleton.mp q, ← h2]; exact hw _ (List.getElem_mem h1)
  · rintro S ⟨o', xs, c, ho', hx, hxl, hi, rfl⟩
    simp [wE_callD]
    have hl1 : xs.length ≤ ws.length := by simpa using hxl
    refine ⟨fun hne => ?_, fun he => h o' xs ho' hx hl1⟩
    refine take_w ho' (by omega) (by omega) ?_
    intro o2 r ho2 hr0 hr1
    simp
    refine ⟨fun _ => ?_, fun _ => h o2 xs ho2 hx hl1⟩
    have hpos : 0 < xs.length := List.length_pos_iff.mpr hne
    refine take_w ho2 (by omega) (by omega) ?_
    intro o3 j ho3 hj0 hj1
    simp
    have ej : ixN xs.length j = some j.toNat := by
      have := ixN_nat (n := xs.length) (k := j.toNat) (by omega)
      rwa [Int.toNat_of_nonneg hj0] at this
    rw [ej]
    simp
    rw [show PyData.tuple ((List.map PyData.int xs).set j.toNat (.int 0)) = W (xs.set j.toNat 0) from by unfold W; rw [List.map_set]]
    refine h o3 _ ho3 ?_ (by simpa using hl1)
    intro x hx2
    rcases List.mem_or_eq_of_mem_set hx2 with q | q
    · exact hx x q
    · rw [q]; omega
end DL
end

section
set_option Elab.async false
set_option linter.all false
set_option maxRecDepth 100000
set_option maxHeartbeats 4000000
/-! F25: xs[::-1] of lists and tuples. -/
namespace Fz
open PySem PySem.Spec PyProof.Rows L2 HT
section
variable {prog : Program} {w : World} {A : Around} {E : Value → Shared → Prop} {s : Shared}
theorem pick_rev (xs : List Value) : ((List.range xs.length).filterMap fun (k : Nat) => xs.toArray[(((xs.length : Int) - 1) + (k : Int) * (-1)).toNat]?) = xs.reverse := by
  have e : ∀ n, n ≤ xs.length → ((List.range n).filterMap fun (k : Nat) => xs.toArray[(((xs.length : Int) - 1) + (k : Int) * (-1)).toNat]?) = xs.reverse.take n := by
    intro n
    induction n with
    | zero => intro _; rfl
    | succ n ih =>
      intro h
      rw [List.range_succ, List.filterMap_append, ih (by omega)]
      have e1 : (((xs.length : Int) - 1) + (n : Int) * (-1)).toNat = xs.length - 1 - n := by omega
      have hl : xs.length - 1 - n < xs.length := by omega
      have hr : n < xs.reverse.length := by rw [List.length_reverse]; omega
      simp only [List.filterMap_cons, List.filterMap_nil, e1]
      rw [List.getElem?_toArray, List.getElem?_eq_getElem hl, List.take_add_one, List.getElem?_eq_getElem hr, List.getElem_reverse]
      rfl
  rw [e _ (Nat.le_refl _), ← List.length_reverse, List.take_length]
theorem sliceApplied_rev {sl : Addr} {vs : Value} {n : Nat} {Q : Int × Int × Nat → Shared → Prop} (hs : s.heap.IsSliceOf sl .none .none vs) (ps : IsPart vs (some (-1)))
    (h : Q ((n : Int) - 1, -1, n) s) : wpAny (model prog w) A (Builtin.Slice.sliceApplied (.ref sl) (pure (n : Int))) Q E s := by
  obtain ⟨os, hos, hcs, hds⟩ := id hs
  unfold Builtin.Slice.sliceApplied Builtin.Slice.sliceFields
  refine wpAny_bind (wpAny_bind (wpAny_field hos hds (x := .none) rfl (wpAny_bind (wpAny_field hos hds (x := .none) rfl (wpAny_bind (wpAny_field hos hds (x := vs) rfl (wpAny_pure ?_)))))))
  refine wpAny_bind (slicePart_ ps ?_)
  show wpAny _ _ (if ((-1 : Int) == 0) = true then _ else _) _ _ s
  rw [if_neg (by decide)]
  refine wpAny_bind (slicePart_ .none (wpAny_bind (slicePart_ .none (wpAny_bind (wpAny_pure ?_)))))
  show wpAny _ _ (pure ((n : Int) - 1, (-1 : Int), Builtin.Slice.slicePlaces ((n : Int) - 1) (-1) (-1))) _ _ s
  have : Builtin.Slice.slicePlaces ((n : Int) - 1) (-1) (-1) = n := by
    unfold Builtin.Slice.slicePlaces
    have h1 : ¬ (-1 : Int) > 0 := by omega
    simp only [h1, if_false, Int.neg_neg, Int.ediv_one]
    split <;> omega
  rw [this]
  exact wpAny_pure h
theorem getItem_tuple_rev {t sl : Addr} {its : List Value} {vs : Value} {Q : Value → Shared → Prop} (ht : IsTup s.heap t its.toArray) (hs : s.heap.IsSliceOf sl .none .none vs) (ps : IsPart vs (some (-1)))
    (h : Q (.ref s.heap.objs.size) { s with heap := s.heap.push { cls := .type "tuple", data := .seq its.reverse.toArray } }) (hsz : its.length ≤ sizeLine) : wpAny (model prog w) A (getItem (.ref t) (.ref sl)) Q E s := by
  obtain ⟨os, hos, hcs, hds⟩ := id hs
  have hTs : s.TypeIs (.ref sl) "slice" := ⟨os, hos, hcs⟩
  unfold getItem
  try with_reducible refine wpAny_holding ?_
  first | refine wpAny_bind (wpAny_pure ?_) | skip
  refine wpAny_bind (wpAny_sequenceKey ht.typeIs (by decide) ?_)
  refine wpAny_bind (wpAny_callSpecial?_slot (name := Str.ofString "__getitem__") ht.typeIs PyProof.Rows.slot_tuple_getitem
    (wpAny_call_entry PyProof.Rows.slot_tuple_getitem ht.typeIs entry_tuple_getitem ?_ (args_tuple_getitem _ _)))
  show wpAny _ _ (Builtin.Tuple.tupleItemsOf (.ref t) >>= _) _ _ s
  refine wpAny_bind (tupleItemsOf_ ht ?_)
  refine wpAny_bind (wpAny_typeOf hTs ?_)
  rw [if_pos (by decide)]
  refine wpAny_bind (sliceApplied_rev (n := its.toArray.size) hs ps ?_)
  have hno : ((((its.toArray.size : Nat) : Int) - 1) == 0 && (-1 : Int) == 1 && its.toArray.size == its.toArray.size) = false := by simp
  show wpAny _ _ (if ((((its.toArray.size : Nat) : Int) - 1) == 0 && (-1 : Int) == 1 && its.toArray.size == its.toArray.size) = true then _ else _) _ _ s
  rw [hno, if_neg Bool.false_ne_true]
  have e := pick_rev its
  rw [List.size_toArray, e]
  have htake : sizeOk (.seq its.reverse.toArray) := by
    show its.reverse.toArray.size ≤ sizeLine
    rw [List.size_toArray, List.length_reverse]; exact hsz
  first
    | exact wpAny_bind (m := Builtin.Tuple.tupleExact _) (wpAny_newObj_type (wpAny_pure ⟨_, rfl, wpAny_pure h⟩) htake)
    | exact wpAny_bind (m := Builtin.Tuple.tupleExact _) (wpAny_newObj_type (wpAny_bind (wpAny_pure (wpAny_pure ⟨_, rfl, wpAny_pure h⟩))) htake)
    | exact wpAny_bind (wpAny_bind (m := Builtin.Tuple.tupleExact _) (wpAny_newObj_type (wpAny_pure (wpAny_pure ⟨_, rfl, wpAny_pure h⟩)) htake))
    | exact wpAny_bind (wpAny_bind (m := Builtin.Tuple.tupleExact _) (wpAny_newObj_type (wpAny_pure ⟨_, rfl, wpAny_pure h⟩) htake))
end
def tRevD (K : Fg) (te : TE) : TE := fun σ H Q => te σ H fun x H1 => (∃ a xs, x = .ref a ∧ SqL K H1 a xs ∧ ∀ p, H1 p = none → Q (.ref p) (upd H1 p (.lst xs.reverse))) ∨ (∃ a xs, x = .ref a ∧ SqT K H1 a xs ∧ ∀ p, H1 p = none → Q (.ref p) (upd H1 p (.tup xs.reverse)))
section
variable {X : Cx} {F : Fx} {pos : Pos}
theorem pe_revD {e : Expr} {te : TE} {k : Nat} {p1 p2 p3 pos : Pos} (he : PE X e te) : PE X (.Subscript e (.Slice none none (some (.UnaryOp .USub (.Constant (.int 1) k p1) p2)) p3) pos) (tRevD X.K te) := by
  refine ⟨fun pins s σ H Q I h => ?_⟩
  refine Subscript_ (thn (he.run pins s σ H _ I h) fun v s1 ⟨x, H1, I1, r1, q1⟩ => ?_)
  obtain ⟨a, ex⟩ : ∃ a, x = .ref a := by
    rcases q1 with ⟨a, _, ex, _⟩ | ⟨a, _, ex, _⟩ <;> exact ⟨a, ex⟩
  subst ex
  cases r1
  have hst : PO X (some (.UnaryOp .USub (.Constant (.int 1) k p1) p2)) (tPart (tUn (rU fun i => .int (-i)) (tC (.int 1)))) := po_some (pe_un un_neg pe_int)
  refine wpAny_Slice (thn (po_none.run pins s1 σ H1 (fun o H2 => o = none ∧ H2 = H1) I1 ⟨rfl, rfl⟩) fun vl s2 ⟨l, H2, I2, pl, el, e2⟩ => ?_)
  subst el e2
  refine thn (po_none.run pins s2 σ H2 (fun o H3 => o = none ∧ H3 = H2) I2 ⟨rfl, rfl⟩) fun vu s3 ⟨u, H3, I3, pu, eu, e3⟩ => ?_
  subst eu e3
  refine thn (hst.run pins s3 σ H3 (fun o H4 => o = some (-1) ∧ H4 = H3) I3 ⟨1, rfl, -1, rfl, rfl, rfl⟩) fun vs s4 ⟨o, H4, I4, ps, eo, e4⟩ => ?_
  subst eo e4
  have I5 : Inv X pins σ H4 { s4 with heap := s4.heap.push { cls := .type "slice", data := .fields #[vl, vu, vs] } } := I4.kept (t' := s4.toks) fun b ob q => Heap.get?_push_of_some _ q
  rcases q1 with ⟨a', xs, ea, hx, q⟩ | ⟨a', xs, ea, hx, q⟩ <;> cases ea
  · obtain ⟨its, r, ht, hz⟩ := I5.list hx
    have hlen := r.length
    show wpAny (model X.prog X.w) X.A (subscriptTail e (.Slice none none (some (.UnaryOp .USub (.Constant (.int 1) k p1) p2)) p3) (.ref a) (.ref s4.heap.objs.size)) (EP X pins σ Q) X.xe { s4 with heap := s4.heap.push { cls := .type "slice", data := .fields #[vl, vu, vs] } }
    refine tail_any (ops := [.ref a, .ref s4.heap.objs.size]) ht.isList.typeIs (PySem.slot_list_getitem.lookup) ?_ (by with_unfolding_all rfl)
    refine wpAny_getItem_list_slice ht.isList (Heap.IsSliceOf.new _ vl vu vs) pl pu ps (by decide) ?_ (by rw [List.size_toArray]; omega)
    rw [PySem.W.krv_pick]
    refine ⟨.ref _, _, I5.laid (t' := s4.toks) (o := .lst xs.reverse) (fun b ob q => Heap.get?_push_of_some _ q) (Nat.le_refl _) ?_, rfl, q _ (I5.hok.fresh (Nat.le_refl _))⟩
    exact ⟨by rw [List.length_reverse]; exact hz, _, 0, r.reverse, Heap.get?_push_size _ rfl⟩
  · obtain ⟨its, r, ht, hz⟩ := I5.tuple hx
    have hlen := r.length
    cases pl
    cases pu
    show wpAny (model X.prog X.w) X.A (subscriptTail e (.Slice none none (some (.UnaryOp .USub (.Constant (.int 1) k p1) p2)) p3) (.ref a) (.ref s4.heap.objs.size)) (EP X pins σ Q) X.xe _
    refine tail_any (ops := [.ref a, .ref s4.heap.objs.size]) ht.typeIs (PyProof.Rows.slot_tuple_getitem.lookup) ?_ (by with_unfolding_all rfl)
    refine getItem_tuple_rev ht (Heap.IsSliceOf.new _ .none .none vs) ps ?_ (by omega)
    refine ⟨.ref _, _, I5.laid (t' := s4.toks) (o := .tup xs.reverse) (fun b ob q => Heap.get?_push_of_some _ q) (Nat.le_refl _) ?_, rfl, q _ (I5.hok.fresh (Nat.le_refl _))⟩
    exact ⟨by rw [List.length_reverse]; exact hz, _, r.reverse, IsTup.new _ _⟩
def pRev (d : D) : FS → Res SV := fun S => match d with
  | .list ds => .ok (.own (.lst ds.reverse)) S
  | .tuple ds => .ok (.d (.tuple ds.reverse)) S
  | _ => .bad
def fRev (fa : FS → Res D) : FS → Res SV := bnd fa pRev
theorem e_rev {a : Expr} {fa : FS → Res D} {k : Nat} {p1 p2 p3 : Pos} (ha : EQ X F a fa) : EV X F (.Subscript a (.Slice none none (some (.UnaryOp .USub (.Constant (.int 1) k p1) p2)) p3) pos) (fRev fa) :=
  (pe_revD ha).via fun σ H Q h => (rdG.bind h).imp fun x H1 ⟨d, S1, r1, v1, p1, q1⟩ => by
    cases d with
    | list ds =>
      obtain ⟨a, vs, rfl, hl, hv⟩ := v1.list
      exact .inl ⟨a, vs, rfl, hl, fun p hp => newList r1 hv.reverse hp q1⟩
    | tuple ds =>
      obtain ⟨a, vs, rfl, hl, hv⟩ := v1.tuple
      refine .inr ⟨a, vs, rfl, hl, fun p hp => ?_⟩
      obtain ⟨p1, r3, v⟩ := newTup r1 hv.reverse hp
      exact q1 _ _ p1 r3 v
    | _ => exact q1.elim
end
end Fz
end

section
set_option Elab.async false
set_option linter.all false
set_option maxRecDepth 100000
set_option maxHeartbeats 4000000
/-! F26: the order of data: ints, texts, tuples of such at any depth. -/
namespace Fz
open PySem PySem.Spec PyProof.Rows L2
/-- x < y: told or not -/
def LtAt (A : Around) (s : Shared) (y x : Value) (b : Bool) : Prop :=
  ∀ (prog : Program) (w : World) (E : Value → Shared → Prop) (Q : Value → Shared → Prop), Q (.bool b) s → wpAny (model prog w) A (richCompare .Lt y x) Q E s
mutual
/-- the order of data, where it is told -/
def ltD : PyData → PyData → Option Bool
  | .int a, .int b => some (decide (a < b))
  | .str a, .str b => some (decide (a.cps.toList < b.cps.toList))
  | .tuple xs, .tuple ys => ltL xs ys
  | _, _ => none
def ltL : List PyData → List PyData → Option Bool
  | [], [] => some false
  | [], _ :: _ => some true
  | _ :: _, [] => some false
  | x :: xs, y :: ys => if PyData.eqv x y then ltL xs ys else ltD x y
end
def LexOk (A : Around) (s : Shared) (fin r : Bool) : List (Value × Value) → Prop
  | [] => r = fin
  | (y, x) :: rest => ∃ e, SeqAt.EqAt A s y x e ∧ (e = true → LexOk A s fin r rest) ∧ (e = false → LtAt A s y x r)
section
open PySem.SeqAt
open PySem.AutoSeq1 (wpAny_loadPart')
open PySem.MeetsSeq PySem.MeetsSeq2 PySem.MeetsSeq3
theorem tuple_lt_gen (l b : Addr) (items items2 : Array Value) (n n2 : Nat) (dd dd2 : Option Addr) (sl sl2 : Array (Option Value)) (r : Bool) :
    Meets (Builtin.«tuple.__lt__» ⟨[.ref l, .ref b], []⟩)
      (fun A R s => s.heap.get? l = some { cls := .type "tuple", dict := dd, data := .seq items n, slots := sl } ∧ s.heap.get? b = some { cls := .type "tuple", dict := dd2, data := .seq items2 n2, slots := sl2 } ∧
        LexOk A.in1 s (decide (items.size < items2.size)) r (items.toList.zip items2.toList) ∧ R (.ok (.ret (.bool r))) s) :=
  .of_wp fun prog w A R s h => by
    obtain ⟨hp, g, d, tk, os⟩ := s; obtain ⟨hl, hb, hx, h⟩ := h
    have f2 := AutoSeq1.sub_tuple_tuple
    wp_walk using wpAny_loadPart' hl, wpAny_loadPart' hb, wpAny_forIn_list _ (fun rest b s' => b.1 = none ∧ s' = ⟨hp, g, d, tk, os⟩ ∧ LexOk A.in1 ⟨hp, g, d, tk, os⟩ (decide (items.size < items2.size)) r rest) _
    case turn =>
      rintro ⟨y, x⟩ rest b s' ⟨hb', rfl, e, he, h1, h2⟩
      refine wpAny_bind (he prog w _ _ ?_)
      cases e with
      | true =>
        wp_walk
        exact ⟨rfl, rfl, h1 rfl⟩
      | false =>
        have hri := h2 rfl prog w
        wp_walk using hri
        exact ⟨_, rfl, by simpa using h⟩
    case fin =>
      rintro ⟨b1, b2⟩ s' ⟨hb', rfl, hz⟩
      simp only at hb'
      subst hb'
      have hz : r = decide (items.size < items2.size) := hz
      wp_walk
      subst hz
      exact ⟨_, rfl, by simpa [Builtin.Tuple.tupleCompareSizes] using h⟩
    case h =>
      exact ⟨rfl, rfl, hx⟩
end
section
open PySem.SeqAt
theorem room_here {A : Around} {n m : Nat} (h : A.units + min (n + 1) (m + 1) < cLine) : A.units < cLine := by omega
theorem room_in1 {A : Around} {n m : Nat} (h : A.units + min (n + 1) (m + 1) < cLine) : A.in1.units + min n m < cLine := by
  have : A.in1.units = A.units + 1 := rfl
  omega
theorem lt_tuple {A : Around} {s : Shared} {l b : Addr} {items items2 : Array Value} {r : Bool} (hl : IsTup s.heap l items) (hb : IsTup s.heap b items2) (hu : A.units < cLine)
    (hx : LexOk A.in1 s (decide (items.size < items2.size)) r (items.toList.zip items2.toList)) : LtAt A s (.ref l) (.ref b) r := fun prog w E Q h => by
  obtain ⟨⟨cls, dd, data, sl⟩, ho, hc, n, hd⟩ := id hl
  obtain ⟨⟨cls2, dd2, data2, sl2⟩, ho2, hc2, n2, hd2⟩ := id hb
  simp only at hc hd hc2 hd2
  subst hc hd hc2 hd2
  exact richCompare_meets_room (op := .Lt) ⟨_, ho, rfl⟩ ⟨_, ho2, rfl⟩ PySem.F.slot_tuple_lt PySem.F.entry_tuple_lt (PySem.F.args_tuple_lt_2 _ _) (tuple_lt_gen l b items items2 n n2 dd dd2 sl sl2 r)
    ⟨ho, ho2, hx, show Value.bool r ≠ Value.notImplemented ∧ Q (.bool r) s from ⟨(fun x => nomatch x), h⟩⟩ hu
theorem reads_len {h : Heap} : ∀ {vs : List Value} {ds : List PyData} {as : List Addr}, ReadsAll h vs ds as → vs.length = ds.length
  | _, _, _, .nil => rfl
  | _, _, _, .cons _ r => by rw [List.length_cons, List.length_cons, reads_len r]
mutual
theorem ltAt_reads : ∀ (da db : PyData) (A : Around) (s : Shared) (a b : Value) (as bs : List Addr) (r : Bool), Reads s.heap a da as → Reads s.heap b db bs → da.canLay0 = true → db.canLay0 = true →
    A.units + min da.depth db.depth < cLine → ltD da db = some r → LtAt A s a b r
  | .int x, .int y, A, s, _, _, _, _, r, ra, rb, _, _, _, h => by
    cases ra
    cases rb
    simp only [ltD, Option.some.injEq] at h
    subst h
    exact fun prog w E Q q => HT.rcLt_int A s _ _ _ _ prog w E Q q
  | .str x, .str y, A, s, _, _, _, _, r, ra, rb, _, _, _, h => by
    cases ra
    cases rb
    simp only [ltD, Option.some.injEq] at h
    subst h
    exact fun prog w E Q q => DT.rcLt_str A s _ _ _ _ prog w E Q q
  | .tuple xs, .tuple ys, A, s, _, _, _, _, r, ra, rb, ha, hb, hu, h => by
    simp only [PyData.canLay0] at ha hb
    simp only [PyData.depth] at hu
    cases ra with
    | tuple h1 h2 h3 h4 =>
      cases rb with
      | tuple k1 k2 k3 k4 =>
        refine lt_tuple ⟨_, h1, h2, _, h3⟩ ⟨_, k1, k2, _, k3⟩ (room_here hu) ?_
        simp only [ltD] at h
        exact lexOk_reads xs ys A.in1 s _ _ _ _ _ _ r h4 k4 ha hb (room_in1 hu) (by have a1 := reads_len h4; have a2 := reads_len k4; simp at a1 a2; omega) h
  | .none, _, _, _, _, _, _, _, _, _, _, _, _, _, h => by simp [ltD] at h
  | .bool _, _, _, _, _, _, _, _, _, _, _, _, _, _, h => by simp [ltD] at h
  | .list _, _, _, _, _, _, _, _, _, _, _, _, _, _, h => by simp [ltD] at h
  | .dict _, _, _, _, _, _, _, _, _, _, _, _, _, _, h => by simp [ltD] at h
  | .int _, .none, _, _, _, _, _, _, _, _, _, _, _, _, h => by simp [ltD] at h
  | .int _, .bool _, _, _, _, _, _, _, _, _, _, _, _, _, h => by simp [ltD] at h
  | .int _, .str _, _, _, _, _, _, _, _, _, _, _, _, _, h => by simp [ltD] at h
  | .int _, .list _, _, _, _, _, _, _, _, _, _, _, _, _, h => by simp [ltD] at h
  | .int _, .tuple _, _, _, _, _, _, _, _, _, _, _, _, _, h => by simp [ltD] at h
  | .int _, .dict _, _, _, _, _, _, _, _, _, _, _, _, _, h => by simp [ltD] at h
  | .str _, .none, _, _, _, _, _, _, _, _, _, _, _, _, h => by simp [ltD] at h
  | .str _, .bool _, _, _, _, _, _, _, _, _, _, _, _, _, h => by simp [ltD] at h
  | .str _, .int _, _, _, _, _, _, _, _, _, _, _, _, _, h => by simp [ltD] at h
  | .str _, .list _, _, _, _, _, _, _, _, _, _, _, _, _, h => by simp [ltD] at h
  | .str _, .tuple _, _, _, _, _, _, _, _, _, _, _, _, _, h => by simp [ltD] at h
  | .str _, .dict _, _, _, _, _, _, _, _, _, _, _, _, _, h => by simp [ltD] at h
  | .tuple _, .none, _, _, _, _, _, _, _, _, _, _, _, _, h => by simp [ltD] at h
  | .tuple _, .bool _, _, _, _, _, _, _, _, _, _, _, _, _, h => by simp [ltD] at h
  | .tuple _, .int _, _, _, _, _, _, _, _, _, _, _, _, _, h => by simp [ltD] at h
  | .tuple _, .str _, _, _, _, _, _, _, _, _, _, _, _, _, h => by simp [ltD] at h
  | .tuple _, .list _, _, _, _, _, _, _, _, _, _, _, _, _, h => by simp [ltD] at h
  | .tuple _, .dict _, _, _, _, _, _, _, _, _, _, _, _, _, h => by simp [ltD] at h
theorem lexOk_reads : ∀ (xs ys : List PyData) (A : Around) (s : Shared) (vs ws : List Value) (n m : Nat) (as bs : List Addr) (r : Bool), ReadsAll s.heap vs xs as → ReadsAll s.heap ws ys bs → PyData.canLayAll0 xs = true → PyData.canLayAll0 ys = true →
    A.units + min (PyData.depthAll xs) (PyData.depthAll ys) < cLine → n + ys.length = m + xs.length → ltL xs ys = some r → LexOk A s (decide (n < m)) r (vs.zip ws)
  | [], [], A, s, _, _, n, m, _, _, r, ra, rb, _, _, _, hn, h => by
    cases ra; cases rb
    simp only [ltL, Option.some.injEq] at h
    simp only [List.length_nil] at hn
    show r = decide (n < m)
    rw [← h]
    exact (decide_eq_false (by omega)).symm
  | [], y :: ys, A, s, _, _, n, m, _, _, r, ra, rb, _, _, _, hn, h => by
    cases ra; cases rb
    simp only [ltL, Option.some.injEq] at h
    simp only [List.length_nil, List.length_cons] at hn
    show r = decide (n < m)
    rw [← h]
    exact (decide_eq_true (by omega)).symm
  | x :: xs, [], A, s, _, _, n, m, _, _, r, ra, rb, _, _, _, hn, h => by
    cases ra; cases rb
    simp only [ltL, Option.some.injEq] at h
    simp only [List.length_nil, List.length_cons] at hn
    show r = decide (n < m)
    rw [← h]
    exact (decide_eq_false (by omega)).symm
  | x :: xs, y :: ys, A, s, _, _, n, m, _, _, r, ra, rb, ha, hb, hu, hn, h => by
    have ha' : x.canLay0 = true ∧ PyData.canLayAll0 xs = true := by simpa [PyData.canLayAll0] using ha
    have hb' : y.canLay0 = true ∧ PyData.canLayAll0 ys = true := by simpa [PyData.canLayAll0] using hb
    simp only [PyData.depthAll] at hu
    cases ra with
    | cons r1 rs1 =>
      cases rb with
      | cons r2 rs2 =>
        refine ⟨PyData.eqv x y, eqAt_reads x y A s _ _ _ _ r1 r2 ha'.1 hb'.1 (by omega), fun e => ?_, fun e => ?_⟩
        · simp only [ltL, e, if_true] at h
          exact lexOk_reads xs ys A s _ _ n m _ _ r rs1 rs2 ha'.2 hb'.2 (by omega) (by simp only [List.length_cons] at hn; omega) h
        · simp only [ltL, e, Bool.false_eq_true, if_false] at h
          exact ltAt_reads x y A s _ _ _ _ r r1 r2 ha'.1 hb'.1 (by omega) h
end
end
end Fz
end

section
set_option Elab.async false
set_option linter.all false
set_option maxRecDepth 100000
set_option maxHeartbeats 4000000
/-! F27: the order of plain data as an order of codes; sorting as a function. -/
namespace Fz
open PySem L2
mutual
/-- a code of data: the order of codes is the order of data -/
def enc : PyData → List Int
  | .int i => [1, i]
  | .str x => 2 :: ((x.cps.toList.map fun c => ((c : Nat) : Int) + 1) ++ [0])
  | .tuple ds => 3 :: encL ds
  | .none => [0]
  | .bool _ => [4]
  | .list _ => [5]
  | .dict _ => [6]
def encL : List PyData → List Int
  | [] => [0]
  | d :: ds => 1 :: (enc d ++ encL ds)
end
mutual
/-- ints, texts, tuples of such -/
def plainD : PyData → Bool
  | .int _ => true
  | .str _ => true
  | .tuple ds => plainL ds
  | _ => false
def plainL : List PyData → Bool
  | [] => true
  | d :: ds => plainD d && plainL ds
end
abbrev lx := HT.lexLt
theorem lx_irr : ∀ {l : List Int}, lx l l = false
  | [] => rfl
  | x :: l => by rw [lx, HT.lexLt_cons, if_pos rfl]; exact lx_irr
theorem lx_pre {u v : List Int} : ∀ l : List Int, lx (l ++ u) (l ++ v) = lx u v
  | [] => rfl
  | x :: l => by rw [List.cons_append, List.cons_append, lx, HT.lexLt_cons, if_pos rfl]; exact lx_pre l
theorem lx_asym : ∀ {l m : List Int}, lx l m = true → lx m l = false
  | [], [], h => by cases h
  | [], y :: m, _ => rfl
  | x :: l, [], h => by cases h
  | x :: l, y :: m, h => by
    rw [lx, HT.lexLt_cons] at h ⊢
    by_cases e : x = y
    · subst e; rw [if_pos rfl] at h ⊢; exact lx_asym h
    · rw [if_neg e] at h
      rw [if_neg (fun z => e z.symm)]
      simp at h ⊢; omega
theorem lx_tr : ∀ {l m n : List Int}, lx m l = false → lx n m = false → lx n l = false
  | [], m, [], _, _ => rfl
  | [], [], z :: n, _, h => h
  | [], y :: m, z :: n, _, _ => rfl
  | x :: l, [], n, h, _ => by cases h
  | x :: l, y :: m, [], _, h => by cases h
  | x :: l, y :: m, z :: n, h, g => by
    rw [lx, HT.lexLt_cons] at h g ⊢
    by_cases e : y = x
    · subst e
      rw [if_pos rfl] at h
      by_cases e2 : z = y
      · subst e2
        rw [if_pos rfl] at g ⊢
        exact lx_tr h g
      · rw [if_neg e2] at g ⊢; exact g
    · rw [if_neg e] at h
      by_cases e2 : z = y
      · subst e2
        rw [if_neg e]; exact h
      · rw [if_neg e2] at g
        have : ¬ z = x := fun w => by subst w; simp at h g; omega
        rw [if_neg this]
        simp at h g ⊢; omega
theorem lx_tri : ∀ {l m : List Int}, lx l m = false → lx m l = false → l = m
  | [], [], _, _ => rfl
  | [], y :: m, h, _ => by cases h
  | x :: l, [], _, h => by cases h
  | x :: l, y :: m, h, g => by
    rw [lx, HT.lexLt_cons] at h g
    by_cases e : x = y
    · subst e
      rw [if_pos rfl] at h g
      rw [lx_tri h g]
    · rw [if_neg e] at h
      rw [if_neg (fun z => e z.symm)] at g
      simp at h g; omega
theorem lx_swo {α : Type} (f : α → List Int) : SrtO.Swo fun x y => lx (f x) (f y) := ⟨fun _ _ h => lx_asym h, fun _ _ _ h g => lx_tr h g⟩
/-! codes and equality -/
mutual
theorem enc_eqv : ∀ {d e : PyData}, plainD d = true → plainD e = true → PyData.eqv d e = true → d = e
  | .int a, .int b, _, _, h => by simp only [PyData.eqv] at h; rw [eq_of_beq h]
  | .str a, .str b, _, _, h => by simp only [PyData.eqv] at h; rw [eq_of_beq h]
  | .tuple xs, .tuple ys, h1, h2, h => by
    simp only [plainD] at h1 h2
    simp only [PyData.eqv] at h
    rw [encL_eqv h1 h2 h]
  | .int _, .str _, _, _, h => by simp [PyData.eqv] at h
  | .int _, .tuple _, _, _, h => by simp [PyData.eqv] at h
  | .str _, .int _, _, _, h => by simp [PyData.eqv] at h
  | .str _, .tuple _, _, _, h => by simp [PyData.eqv] at h
  | .tuple _, .int _, _, _, h => by simp [PyData.eqv] at h
  | .tuple _, .str _, _, _, h => by simp [PyData.eqv] at h
  | .none, _, h, _, _ => by cases h
  | .bool _, _, h, _, _ => by cases h
  | .list _, _, h, _, _ => by cases h
  | .dict _, _, h, _, _ => by cases h
  | .int _, .none, _, h, _ => by cases h
  | .int _, .bool _, _, h, _ => by cases h
  | .int _, .list _, _, h, _ => by cases h
  | .int _, .dict _, _, h, _ => by cases h
  | .str _, .none, _, h, _ => by cases h
  | .str _, .bool _, _, h, _ => by cases h
  | .str _, .list _, _, h, _ => by cases h
  | .str _, .dict _, _, h, _ => by cases h
  | .tuple _, .none, _, h, _ => by cases h
  | .tuple _, .bool _, _, h, _ => by cases h
  | .tuple _, .list _, _, h, _ => by cases h
  | .tuple _, .dict _, _, h, _ => by cases h
theorem encL_eqv : ∀ {ds es : List PyData}, plainL ds = true → plainL es = true → PyData.eqvAll ds es = true → ds = es
  | [], [], _, _, _ => rfl
  | [], _ :: _, _, _, h => by simp [PyData.eqvAll] at h
  | _ :: _, [], _, _, h => by simp [PyData.eqvAll] at h
  | x :: xs, y :: ys, h1, h2, h => by
    simp only [plainL, Bool.and_eq_true] at h1 h2
    simp only [PyData.eqvAll, Bool.and_eq_true] at h
    rw [enc_eqv h1.1 h2.1 h.1, encL_eqv h1.2 h2.2 h.2]
end
theorem lx_cps : ∀ (xs ys : List Nat) (u v : List Int), lx (((xs.map fun c => ((c : Nat) : Int) + 1) ++ [0]) ++ u) (((ys.map fun c => ((c : Nat) : Int) + 1) ++ [0]) ++ v) = if xs = ys then lx u v else decide (xs < ys)
  | [], [], u, v => by simp [HT.lexLt_cons]
  | [], y :: ys, u, v => by
    have : ¬ (0 : Int) = (y : Int) + 1 := by omega
    have h2 : (0 : Int) < (y : Int) + 1 := by omega
    simp [HT.lexLt_cons, this, h2]
  | x :: xs, [], u, v => by
    have : ¬ (x : Int) + 1 = 0 := by omega
    have h2 : ¬ (x : Int) + 1 < 0 := by omega
    simp [HT.lexLt_cons, this, h2]
  | x :: xs, y :: ys, u, v => by
    have ih := lx_cps xs ys u v
    simp only [List.map_cons, List.cons_append, HT.lexLt_cons]
    by_cases e : x = y
    · subst e
      rw [if_pos rfl]
      refine Eq.trans ih ?_
      simp [List.cons_lt_cons_iff]
    · rw [if_neg (by omega)]
      have : ¬ x :: xs = y :: ys := fun z => e (List.cons.inj z).1
      rw [if_neg this]
      rw [Bool.eq_iff_iff, decide_eq_true_eq, decide_eq_true_eq, List.cons_lt_cons_iff]
      constructor
      · intro h; exact .inl (by omega)
      · rintro (h | ⟨h, _⟩)
        · omega
        · exact absurd h e
mutual
theorem lt_enc : ∀ {d e : PyData} {r : Bool}, plainD d = true → plainD e = true → ltD d e = some r → ∀ u v, lx (enc d ++ u) (enc e ++ v) = if PyData.eqv d e = true then lx u v else r
  | .int a, .int b, r, _, _, h, u, v => by
    simp only [ltD, Option.some.injEq] at h
    subst h
    have e : PyData.eqv (.int a) (.int b) = decide (a = b) := by simp only [PyData.eqv]; by_cases h : a = b <;> simp [h]
    simp only [enc, List.cons_append, List.nil_append, lx, HT.lexLt_cons, e, decide_eq_true_eq, if_true]
  | .str a, .str b, r, _, _, h, u, v => by
    simp only [ltD, Option.some.injEq] at h
    subst h
    have e : PyData.eqv (.str a) (.str b) = decide (a.cps.toList = b.cps.toList) := by
      simp only [PyData.eqv]
      rw [Bool.eq_iff_iff, decide_eq_true_eq, beq_iff_eq]
      constructor
      · intro h; rw [h]
      · intro h
        cases a; cases b
        simp only at h
        rw [Array.toList_inj.mp h]
    have := lx_cps a.cps.toList b.cps.toList u v
    simp only [enc, List.cons_append, HT.lexLt_cons, lx, if_true, e, decide_eq_true_eq] at this ⊢
    exact this
  | .tuple xs, .tuple ys, r, h1, h2, h, u, v => by
    simp only [plainD] at h1 h2
    simp only [ltD] at h
    have := lt_encL h1 h2 h u v
    simp only [enc, List.cons_append, HT.lexLt_cons, lx, if_true, PyData.eqv] at this ⊢
    exact this
  | .none, _, _, h, _, _, _, _ => by cases h
  | .bool _, _, _, h, _, _, _, _ => by cases h
  | .list _, _, _, h, _, _, _, _ => by cases h
  | .dict _, _, _, h, _, _, _, _ => by cases h
  | .int _, .none, _, _, h, _, _, _ => by cases h
  | .int _, .bool _, _, _, h, _, _, _ => by cases h
  | .int _, .list _, _, _, h, _, _, _ => by cases h
  | .int _, .dict _, _, _, h, _, _, _ => by cases h
  | .int _, .str _, _, _, _, h, _, _ => by simp [ltD] at h
  | .int _, .tuple _, _, _, _, h, _, _ => by simp [ltD] at h
  | .str _, .none, _, _, h, _, _, _ => by cases h
  | .str _, .bool _, _, _, h, _, _, _ => by cases h
  | .str _, .list _, _, _, h, _, _, _ => by cases h
  | .str _, .dict _, _, _, h, _, _, _ => by cases h
  | .str _, .int _, _, _, _, h, _, _ => by simp [ltD] at h
  | .str _, .tuple _, _, _, _, h, _, _ => by simp [ltD] at h
  | .tuple _, .none, _, _, h, _, _, _ => by cases h
  | .tuple _, .bool _, _, _, h, _, _, _ => by cases h
  | .tuple _, .list _, _, _, h, _, _, _ => by cases h
  | .tuple _, .dict _, _, _, h, _, _, _ => by cases h
  | .tuple _, .int _, _, _, _, h, _, _ => by simp [ltD] at h
  | .tuple _, .str _, _, _, _, h, _, _ => by simp [ltD] at h
theorem lt_encL : ∀ {ds es : List PyData} {r : Bool}, plainL ds = true → plainL es = true → ltL ds es = some r → ∀ u v, lx (encL ds ++ u) (encL es ++ v) = if PyData.eqvAll ds es = true then lx u v else r
  | [], [], r, _, _, h, u, v => by
    simp only [encL, List.cons_append, List.nil_append, lx, HT.lexLt_cons, PyData.eqvAll, if_true]
  | [], y :: ys, r, _, _, h, u, v => by
    simp only [ltL, Option.some.injEq] at h
    subst h
    simp only [encL, List.cons_append, List.nil_append, lx, HT.lexLt_cons, PyData.eqvAll]
    rfl
  | x :: xs, [], r, _, _, h, u, v => by
    simp only [ltL, Option.some.injEq] at h
    subst h
    simp only [encL, List.cons_append, List.nil_append, lx, HT.lexLt_cons, PyData.eqvAll]
    rfl
  | x :: xs, y :: ys, r, h1, h2, h, u, v => by
    simp only [plainL, Bool.and_eq_true] at h1 h2
    simp only [encL, List.cons_append, List.append_assoc, lx, HT.lexLt_cons, if_true]
    by_cases e : PyData.eqv x y = true
    · simp only [ltL, e, if_true] at h
      have ex := enc_eqv h1.1 h2.1 e
      subst ex
      have ea : PyData.eqvAll (x :: xs) (x :: ys) = PyData.eqvAll xs ys := by rw [PyData.eqvAll, e, Bool.true_and]
      simp only [ea]
      exact (lx_pre _).trans (lt_encL h1.2 h2.2 h u v)
    · have e := Bool.eq_false_iff.mpr e
      simp only [ltL, e, Bool.false_eq_true, if_false] at h
      have := lt_enc h1.1 h2.1 h (encL xs ++ u) (encL ys ++ v)
      have ea : PyData.eqvAll (x :: xs) (y :: ys) = false := by rw [PyData.eqvAll, e, Bool.false_and]
      simp only [ea, e, Bool.false_eq_true, if_false] at this ⊢
      exact this
end
mutual
theorem ltD_self : ∀ {d : PyData} {r : Bool}, ltD d d = some r → r = false
  | .int a, r, h => by simp only [ltD, Option.some.injEq] at h; subst h; simp
  | .str a, r, h => by simp only [ltD, Option.some.injEq] at h; subst h; simp
  | .tuple xs, r, h => by simp only [ltD] at h; exact ltL_self h
  | .none, _, h => by simp [ltD] at h
  | .bool _, _, h => by simp [ltD] at h
  | .list _, _, h => by simp [ltD] at h
  | .dict _, _, h => by simp [ltD] at h
theorem ltL_self : ∀ {ds : List PyData} {r : Bool}, ltL ds ds = some r → r = false
  | [], r, h => by simp only [ltL, Option.some.injEq] at h; exact h.symm
  | x :: xs, r, h => by
    simp only [ltL] at h
    split at h
    · exact ltL_self h
    · exact ltD_self h
end
/-- the order of plain data by codes -/
theorem ltD_lx {d e : PyData} {r : Bool} (h1 : plainD d = true) (h2 : plainD e = true) (h : ltD d e = some r) : r = lx (enc d) (enc e) := by
  have := lt_enc h1 h2 h [] []
  rw [List.append_nil, List.append_nil] at this
  rw [this]
  split
  · rename_i e
    have ex := enc_eqv h1 h2 e
    subst ex
    exact ltD_self h
  · rfl
/-! ### sorting as a function -/
def insD (x : PyData) : List PyData → List PyData
  | [] => [x]
  | y :: l => if lx (enc y) (enc x) = true then y :: insD x l else x :: y :: l
def sortD : List PyData → List PyData
  | [] => []
  | x :: l => insD x (sortD l)
abbrev ltE (x y : PyData) : Bool := lx (enc x) (enc y)
theorem ltE_swo : SrtO.Swo ltE := lx_swo enc
theorem insD_split (x : PyData) : ∀ l : List PyData, ∃ M N, l = M ++ N ∧ insD x l = M ++ x :: N ∧ (∀ y ∈ M, ltE y x = true) ∧ (∀ y, N.head? = some y → ltE y x = false)
  | [] => ⟨[], [], rfl, rfl, fun _ h => absurd h (by simp), fun _ h => by simp at h⟩
  | y :: l => by
    unfold insD
    by_cases e : lx (enc y) (enc x) = true
    · rw [if_pos e]
      obtain ⟨M, N, rfl, e2, h1, h2⟩ := insD_split x l
      refine ⟨y :: M, N, rfl, by rw [e2]; rfl, fun z hz => ?_, h2⟩
      rcases List.mem_cons.mp hz with rfl | hz
      · exact e
      · exact h1 z hz
    · rw [if_neg e]
      refine ⟨[], y :: l, rfl, rfl, fun _ h => absurd h (by simp), fun z hz => ?_⟩
      simp at hz
      subst hz
      exact Bool.eq_false_iff.mpr e
theorem sortD_ok : ∀ l : List PyData, SrtO.Srtd ltE (sortD l) ∧ SrtO.Stb ltE (sortD l) l
  | [] => ⟨List.Pairwise.nil, SrtO.Stb.refl _⟩
  | x :: l => by
    obtain ⟨s1, s2⟩ := sortD_ok l
    obtain ⟨M, N, e1, e2, h1, h2⟩ := insD_split x (sortD l)
    have O := ltE_swo
    rw [e1] at s1
    obtain ⟨m, n, c⟩ := SrtO.srtd_app.mp s1
    have hN : ∀ y ∈ N, ltE y x = false := fun y hy => by
      cases N with
      | nil => cases hy
      | cons z N =>
        have hz := h2 z rfl
        rcases List.mem_cons.mp hy with rfl | hy
        · exact hz
        · exact O.tr x z y hz (SrtO.srtd_head n y hy)
    show SrtO.Srtd ltE (insD x (sortD l)) ∧ SrtO.Stb ltE (insD x (sortD l)) (x :: l)
    rw [e2]
    refine ⟨SrtO.srtd_app.mpr ⟨m, List.pairwise_cons.mpr ⟨hN, n⟩, fun a ha b hb => ?_⟩, ?_⟩
    · rcases List.mem_cons.mp hb with rfl | hb
      · exact O.asym a b (h1 a ha)
      · exact c a ha b hb
    · have q : SrtO.Stb ltE (M ++ ([x] ++ N)) ([x] ++ (M ++ N)) := by
        have := (SrtO.Stb.swap O (A := M) (B := [x]) fun a ha b hb => by rw [List.mem_singleton.mp hb]; exact h1 a ha).app (SrtO.Stb.refl N)
        simpa using this
      have q2 : SrtO.Stb ltE ([x] ++ (M ++ N)) ([x] ++ l) := by
        rw [← e1]
        exact (SrtO.Stb.refl [x]).app s2
      exact q.trans q2
theorem sortD_uniq {l m : List PyData} (h : SrtO.Srtd ltE l) (s : SrtO.Stb ltE l m) : l = sortD m := by
  obtain ⟨a, b⟩ := sortD_ok m
  refine SrtO.stb_uniq ltE_swo h a ?_
  exact ⟨s.perm.trans b.perm.symm, fun x => (s.cls x).trans (b.cls x).symm⟩
theorem sortD_perm (l : List PyData) : (sortD l).Perm l := (sortD_ok l).2.perm
theorem sortD_len (l : List PyData) : (sortD l).length = l.length := (sortD_perm l).length_eq
end Fz
end

section
set_option Elab.async false
set_option linter.all false
set_option maxRecDepth 100000
set_option maxHeartbeats 4000000
/-! F28: sorted(list of plain data). -/
namespace Fz
open PySem PySem.Spec PyProof.Rows L2 SrtO Srt
section
variable {prog : Program} {w : World} {A : Around} {E : Value → Shared → Prop} {s : Shared}
theorem mapM_wp {α : Type} {m : Value → Sem α} {f : Value → α} : ∀ {vs : List Value} {Q : List α → Shared → Prop}, (∀ v ∈ vs, ∀ Q : α → Shared → Prop, Q (f v) s → wpAny (model prog w) A (m v) Q E s) → Q (vs.map f) s → wpAny (model prog w) A (vs.mapM m) Q E s
  | [], Q, _, h => by rw [List.mapM_nil]; exact wpAny_pure h
  | v :: vs, Q, hm, h => by
    rw [List.mapM_cons]
    refine wpAny_bind (hm v (by simp) _ ?_)
    exact wpAny_bind (mapM_wp (Q := fun bs s' => wpAny (model prog w) A (pure (f v :: bs)) Q E s') (fun u hu => hm u (List.mem_cons_of_mem _ hu)) (wpAny_pure h))
/-- v reads as plain data -/
def RdP (h : Heap) (v : Value) (d : PyData) : Prop := plainD d = true ∧ ∃ as, Reads h v d as
def tyV : PyData → Value
  | .int _ => .type "int"
  | .str _ => .type "str"
  | _ => .type "tuple"
theorem RdP.typeIs {v : Value} {d : PyData} (r : RdP s.heap v d) : ∃ T : String, s.TypeIs v T ∧ tyV d = .type T := by
  obtain ⟨hp, as, r⟩ := r
  cases r with
  | int i t => exact ⟨_, typeIs_int s i t, rfl⟩
  | str x t => exact ⟨_, typeIs_str s x t, rfl⟩
  | tuple h1 h2 h3 h4 => exact ⟨_, ⟨_, h1, h2⟩, rfl⟩
  | none => cases hp
  | bool b => cases hp
  | list _ _ _ _ => cases hp
  | dict _ _ _ _ _ => cases hp
theorem typeOf_wp {v : Value} {d : PyData} (r : RdP s.heap v d) {Q : Value → Shared → Prop} (h : Q (tyV d) s) : wpAny (model prog w) A (typeOf v) Q E s := by
  obtain ⟨T, hT, e⟩ := r.typeIs
  rw [e] at h
  exact wpAny_typeOf hT h
theorem first_wp {v : Value} {d : PyData} (r : RdP s.heap v d) : ∃ f : Option Value, (∀ (E : Value → Shared → Prop) (Q : Option Value → Shared → Prop), Q f s → wpAny (model prog w) A (firstOfTuple' v) Q E s) ∧ (∀ u, f = some u → (∃ xs, d = .tuple xs) ∧ ∃ e, RdP s.heap u e) := by
  obtain ⟨hp, as, r⟩ := r
  cases r with
  | int i t => exact ⟨none, fun E Q h => by rw [firstOfTuple'_int]; exact wpAny_pure h, fun u e => by cases e⟩
  | str x t => exact ⟨none, fun E Q h => by rw [PyProof.Rows.firstOfTuple'_str]; exact wpAny_pure h, fun u e => by cases e⟩
  | @tuple a o vs n xs as h1 h2 h3 h4 =>
    refine ⟨vs[0]?, fun E Q h => ?_, fun u e => ⟨⟨_, rfl⟩, ?_⟩⟩
    · rw [PySem.W.kas_first_eq]
      refine wpAny_bind (wpAny_typeOf ⟨_, h1, h2⟩ ?_)
      rw [if_neg (by first | decide | simp)]
      exact wpAny_bind (listItems_at h1 h3 (wpAny_pure h))
    · simp only [plainD] at hp
      cases xs with
      | nil => 
        have := reads_len h4
        simp at this
        rw [this] at e
        simp at e
      | cons x xs =>
        simp only [plainL, Bool.and_eq_true] at hp
        generalize hl : vs.toList = l at h4
        cases h4 with
        | cons r rs =>
          rw [← Array.getElem?_toList, hl] at e
          simp at e
          subst e
          exact ⟨x, hp.1, _, r⟩
  | none => cases hp
  | bool b => cases hp
  | list _ _ _ _ => cases hp
  | dict _ _ _ _ _ => cases hp
theorem oneType_wp {us : List Value} (h : ∀ u ∈ us, ∃ e, RdP s.heap u e) : ∃ o : Option Value, ∀ (E : Value → Shared → Prop) (Q : Option Value → Shared → Prop), Q o s → wpAny (model prog w) A (oneTypeOnly' us.toArray) Q E s := by
  let f : Value → Value := fun u => open Classical in if h : ∃ e, RdP s.heap u e then tyV h.choose else .none
  refine ⟨match (us.map f).toArray[0]? with
    | some t => if (us.map f).toArray.all (· == t) then some t else none
    | none => none, fun E Q hq => ?_⟩
  rw [oneTypeOnly'_eq, List.mapM_toArray, map_eq_pure_bind]
  refine wpAny_bind (wpAny_bind (mapM_wp (f := f) (fun v hv Q' hq' => ?_) (wpAny_pure ?_)))
  · have hv := h v hv
    refine typeOf_wp hv.choose_spec ?_
    have : f v = tyV hv.choose := dif_pos hv
    rw [← this]; exact hq'
  · cases e : (us.map f).toArray[0]? with
    | none => rw [e] at hq; exact wpAny_pure hq
    | some t =>
      rw [e] at hq
      exact wpAny_pure hq
/-- which kind of keys: one of the three, .tuples for tuples alone -/
theorem kind_wp {vs : List Value} {ds : List PyData} (h : ∀ v ∈ vs, ∃ d ∈ ds, RdP s.heap v d) : ∃ κ : SortKind, (∀ (E : Value → Shared → Prop) (Q : SortKind → Shared → Prop), Q κ s → wpAny (model prog w) A (keyKind' vs.toArray) Q E s) ∧ (κ = general' ∨ κ = oneType' ∨ (∃ b, κ = tuples' b) ∧ ∀ v ∈ vs, ∃ d ∈ ds, RdP s.heap v d ∧ ∃ xs, d = .tuple xs) := by
  have hf : ∀ v ∈ vs, ∃ f : Option Value, (∀ (E : Value → Shared → Prop) (Q : Option Value → Shared → Prop), Q f s → wpAny (model prog w) A (firstOfTuple' v) Q E s) ∧ (∀ u, f = some u → (∃ d ∈ ds, RdP s.heap v d ∧ ∃ xs, d = .tuple xs) ∧ ∃ e, RdP s.heap u e) := fun v hv => by
    obtain ⟨d, hd, r⟩ := h v hv
    obtain ⟨f, h1, h2⟩ := first_wp (prog := prog) (w := w) (A := A) r
    exact ⟨f, h1, fun u e => ⟨⟨d, hd, r, (h2 u e).1⟩, (h2 u e).2⟩⟩
  let F : Value → Option Value := fun u => open Classical in if h : u ∈ vs then (hf u h).choose else none
  have hF : ∀ v ∈ vs, (∀ (E : Value → Shared → Prop) (Q : Option Value → Shared → Prop), Q (F v) s → wpAny (model prog w) A (firstOfTuple' v) Q E s) ∧ (∀ u, F v = some u → (∃ d ∈ ds, RdP s.heap v d ∧ ∃ xs, d = .tuple xs) ∧ ∃ e, RdP s.heap u e) := fun v hv => by
    have : F v = (hf v hv).choose := dif_pos hv
    rw [this]; exact (hf v hv).choose_spec
  have start : ∀ (E : Value → Shared → Prop) (Q : SortKind → Shared → Prop), wpAny (model prog w) A (do
      if (vs.map F).toArray.all (·.isSome) then
        rule "list.sort.keys-are-tuples"
        return tuples' ((← oneTypeOnly' ((vs.map F).toArray.filterMap id)).any (· != .type "tuple"))
      if ((vs.map F).toArray[0]?.bind id).isSome then return general'
      return if (← oneTypeOnly' vs.toArray).isSome then oneType' else general') Q E s → wpAny (model prog w) A (keyKind' vs.toArray) Q E s := fun E Q hq => by
    rw [PyProof.Rows.kat_kind_eq, List.mapM_toArray, map_eq_pure_bind]
    exact wpAny_bind (wpAny_bind (mapM_wp (f := F) (fun v hv Q' hq' => (hF v hv).1 _ Q' hq') (wpAny_pure hq)))
  by_cases hall : (vs.map F).toArray.all (·.isSome) = true
  · have hall2 : ∀ v ∈ vs, (F v).isSome = true := by simpa using hall
    have hfm : ((vs.map F).toArray.filterMap id) = (vs.filterMap F).toArray := by simp [List.filterMap_map]
    obtain ⟨o, ho⟩ := oneType_wp (prog := prog) (w := w) (A := A) (s := s) (us := vs.filterMap F) fun u hu => by
      obtain ⟨v, hv, e⟩ := List.mem_filterMap.mp hu
      exact ((hF v hv).2 u e).2
    refine ⟨tuples' (o.any (· != .type "tuple")), fun E Q hq => start E Q ?_, .inr (.inr ⟨⟨_, rfl⟩, fun v hv => ?_⟩)⟩
    · rw [if_pos hall]
      refine wpAny_bind (wpAny_rule ?_)
      rw [hfm]
      exact wpAny_bind (ho _ _ (wpAny_pure hq))
    · obtain ⟨u, e⟩ := Option.isSome_iff_exists.mp (hall2 v hv)
      exact ((hF v hv).2 u e).1
  · by_cases h0 : ((vs.map F).toArray[0]?.bind id).isSome = true
    · refine ⟨general', fun E Q hq => start E Q ?_, .inl rfl⟩
      rw [if_neg hall, if_pos h0]
      exact wpAny_pure hq
    · obtain ⟨o, ho⟩ := oneType_wp (prog := prog) (w := w) (A := A) (s := s) (us := vs) fun u hu => by
        obtain ⟨d, _, r⟩ := h u hu
        exact ⟨d, r⟩
      refine ⟨if o.isSome then oneType' else general', fun E Q hq => start E Q ?_, ?_⟩
      · rw [if_neg hall, if_neg h0]
        exact wpAny_bind (ho _ _ (wpAny_pure hq))
      · cases o.isSome with
        | true => exact .inr (.inl rfl)
        | false => exact .inl rfl
end
section
variable {prog : Program} {w : World} {A : Around} {E : Value → Shared → Prop} {s : Shared}
/-- what is asked of two data that are compared in a sort -/
def CmpD (A : Around) (d e : PyData) : Prop := (ltD d e).isSome = true ∧ plainD d = true ∧ plainD e = true ∧ d.canLay0 = true ∧ e.canLay0 = true ∧ A.units + 1 + min d.depth e.depth < cLine
theorem lt_cmp {v u : Value} {d e : PyData} (c : CmpD A d e) (r : RdP s.heap v d) (r' : RdP s.heap u e) : LtAt A s v u (lx (enc d) (enc e)) := by
  obtain ⟨c1, c2, c3, c4, c5, c6⟩ := c
  obtain ⟨b, hb⟩ := Option.isSome_iff_exists.mp c1
  obtain ⟨_, as, r⟩ := r
  obtain ⟨_, bs, r'⟩ := r'
  rw [← ltD_lx c2 c3 hb]
  exact ltAt_reads d e A s v u as bs b r r' c4 c5 (by omega) hb
theorem oneLt_false {v u : Value} {b : Bool} (h : LtAt A s v u b) {Q : Bool → Shared → Prop} (q : Q b s) : wpAny (model prog w) A (oneLt' false v u) Q E s := by
  rw [oneLt'_eq]
  simp only [Bool.false_eq_true, if_false]
  exact wpAny_bind (h prog w E _ (wpAny_truthy_bool q))
theorem oneLt_true {v u : Value} {d e : PyData} (c : CmpD A d e) (r : RdP s.heap v d) (r' : RdP s.heap u e) {Q : Bool → Shared → Prop} (q : Q (lx (enc d) (enc e)) s) : wpAny (model prog w) A (oneLt' true v u) Q E s := by
  obtain ⟨c1, c2, c3, c4, c5, c6⟩ := c
  obtain ⟨b, hb⟩ := Option.isSome_iff_exists.mp c1
  rw [← ltD_lx c2 c3 hb] at q
  obtain ⟨_, as, r⟩ := r
  obtain ⟨_, bs, r'⟩ := r'
  cases r with
  | int i t =>
    cases r' with
    | int j t' =>
      simp only [ltD, Option.some.injEq] at hb
      subst hb
      exact oneLt_int q
    | _ => simp [ltD] at hb
  | str i t =>
    cases r' with
    | str j t' =>
      simp only [ltD, Option.some.injEq] at hb
      subst hb
      exact PyProof.Rows.oneLt_str q
    | _ => simp [ltD] at hb
  | @tuple a o vs n xs as h1 h2 h3 h4 =>
    cases r' with
    | @tuple a' o' vs' n' ys as' k1 k2 k3 k4 =>
      simp only [ltD] at hb
      simp only [PyData.canLay0] at c4 c5
      simp only [PyData.depth] at c6
      rw [oneLt'_eq]
      simp only [if_true]
      refine wpAny_bind (wpAny_cRoomFor (by omega) ?_)
      refine wpAny_bind (wpAny_callSpecialIfBound?_slot ⟨_, h1, h2⟩ PySem.F.slot_tuple_lt ?_)
      obtain ⟨cls, dd, data, sl⟩ := o
      obtain ⟨cls', dd', data', sl'⟩ := o'
      simp only at h2 h3 k2 k3
      subst h2 h3 k2 k3
      have hx : LexOk A.in1 s (decide (vs.size < vs'.size)) b (vs.toList.zip vs'.toList) := lexOk_reads xs ys A.in1 s _ _ _ _ _ _ b h4 k4 c4 c5 (by have : A.in1.units = A.units + 1 := rfl; omega) (by have a1 := reads_len h4; have a2 := reads_len k4; simp at a1 a2; omega) hb
      refine call_meets PySem.F.slot_tuple_lt ⟨_, h1, rfl⟩ PySem.F.entry_tuple_lt (PySem.F.args_tuple_lt_2 _ _) (tuple_lt_gen a a' vs vs' n n' dd dd' sl sl' b) ⟨h1, k1, hx, ?_⟩
      exact wpAny_truthy_bool q
    | _ => simp [ltD] at hb
  | _ => simp [ltD] at hb
theorem cmp_data {κ : SortKind} {vs : List Value} (k : Value → PyData) (hk : ∀ v ∈ vs, RdP s.heap v (k v)) (hc : ∀ v ∈ vs, ∀ u ∈ vs, CmpD A (k v) (k u))
    (hκ : κ = general' ∨ κ = oneType' ∨ (∃ b, κ = tuples' b) ∧ ∀ v ∈ vs, ∃ xs, k v = .tuple xs) : Cmp prog w A s κ (fun p => p.1 ∈ vs) (lt2 fun v u => lx (enc (k v)) (enc (k u))) := by
  intro p q hp hq
  have r1 := hk _ hp
  have r2 := hk _ hq
  have c := hc _ hp _ hq
  show wpAny (model prog w) A (keyLt' κ p.1 q.1) (fun r s' => s' = s ∧ r = lx (enc (k p.1)) (enc (k q.1))) (fun _ _ => False) s
  rcases hκ with rfl | rfl | ⟨⟨b, rfl⟩, ht⟩
  · exact oneLt_false (lt_cmp c r1 r2) ⟨rfl, rfl⟩
  · rw [keyLt'_oneType]
    exact oneLt_true c r1 r2 ⟨rfl, rfl⟩
  · obtain ⟨xs, ex⟩ := ht _ hp
    obtain ⟨ys, ey⟩ := ht _ hq
    rw [ex] at r1 c ⊢
    rw [ey] at r2 c ⊢
    obtain ⟨c1, c2, c3, c4, c5, c6⟩ := c
    obtain ⟨rb, hb⟩ := Option.isSome_iff_exists.mp c1
    rw [← ltD_lx c2 c3 hb]
    obtain ⟨_, as, r1⟩ := r1
    obtain ⟨_, bs, r2⟩ := r2
    simp only [ltD] at hb
    simp only [PyData.canLay0] at c4 c5
    simp only [PyData.depth] at c6
    simp only [plainD] at c2 c3
    generalize p.1 = v at r1 ⊢
    generalize q.1 = u at r2 ⊢
    cases r1 with
    | @tuple a o vs n _ as h1 h2 h3 h4 =>
      cases r2 with
      | @tuple a' o' vs' n' _ as' k1 k2 k3 k4 =>
        refine PySem.W.kat_lt h1 h3 k1 k3 ?_
        have go : ∀ (xs ys : List PyData) (l l' : List Value) (i n m : Nat) (as bs : List Addr), ReadsAll s.heap l xs as → ReadsAll s.heap l' ys bs → plainL xs = true → plainL ys = true → PyData.canLayAll0 xs = true → PyData.canLayAll0 ys = true →
            A.units + 1 + min (PyData.depthAll xs) (PyData.depthAll ys) < cLine → n + ys.length = m + xs.length → ltL xs ys = some rb →
            PySem.W.KatLex prog w A b (decide (n < m)) (fun r s' => s' = s ∧ r = rb) (l.zip l') i s := by
          intro xs
          induction xs with
          | nil =>
            intro ys l l' i n m as bs r1 r2 _ _ _ _ _ hn hl
            cases r1
            cases ys with
            | nil =>
              simp only [ltL, Option.some.injEq] at hl
              refine PySem.W.kat_nil ⟨rfl, ?_⟩
              simp only [List.length_nil] at hn
              rw [← hl]; exact decide_eq_false (by omega)
            | cons y ys =>
              simp only [ltL, Option.some.injEq] at hl
              refine PySem.W.kat_nil ⟨rfl, ?_⟩
              simp only [List.length_nil, List.length_cons] at hn
              rw [← hl]; exact decide_eq_true (by omega)
          | cons x xs ih =>
            intro ys l l' i n m as bs r1 r2 p1 p2 l1 l2 hu hn hl
            cases r1 with
            | cons q1 q2 =>
              cases ys with
              | nil =>
                cases r2
                simp only [ltL, Option.some.injEq] at hl
                refine PySem.W.kat_nil ⟨rfl, ?_⟩
                simp only [List.length_nil, List.length_cons] at hn
                rw [← hl]; exact decide_eq_false (by omega)
              | cons y ys =>
                cases r2 with
                | cons t1 t2 =>
                  simp only [plainL, Bool.and_eq_true] at p1 p2
                  have l1' : x.canLay0 = true ∧ PyData.canLayAll0 xs = true := by simpa [PyData.canLayAll0] using l1
                  have l2' : y.canLay0 = true ∧ PyData.canLayAll0 ys = true := by simpa [PyData.canLayAll0] using l2
                  simp only [PyData.depthAll] at hu
                  refine PySem.W.kat_cons (SeqAt.eqAt_reads x y A s _ _ _ _ q1 t1 l1'.1 l2'.1 (by omega) prog w _ _ ?_)
                  refine PySem.W.kat_go (fun e => ?_) (fun e => ?_)
                  · simp only [ltL, e, if_true] at hl
                    exact PySem.W.kat_yes (ih ys _ _ _ n m _ _ q2 t2 p1.2 p2.2 l1'.2 l2'.2 (by omega) (by simp only [List.length_cons] at hn; omega) hl)
                  · simp only [ltL, e, Bool.false_eq_true, if_false] at hl
                    refine PySem.W.kat_no ?_
                    have cc : CmpD A x y := ⟨by rw [hl]; rfl, p1.1, p2.1, l1'.1, l2'.1, by omega⟩
                    have er := ltD_lx p1.1 p2.1 hl
                    cases (b && i == 0) with
                    | true => exact oneLt_true cc ⟨p1.1, _, q1⟩ ⟨p2.1, _, t1⟩ ⟨rfl, er.symm⟩
                    | false => exact oneLt_false (lt_cmp cc ⟨p1.1, _, q1⟩ ⟨p2.1, _, t1⟩) ⟨rfl, er.symm⟩
        exact go xs ys _ _ 0 vs.size vs'.size _ _ h4 k4 c2 c3 c4 c5 (by omega) (by have a1 := reads_len h4; have a2 := reads_len k4; simp at a1 a2; omega) hb
end
end Fz
end

section
set_option Elab.async false
set_option linter.all false
set_option maxRecDepth 100000
set_option maxHeartbeats 4000000
/-! F29: sorted(list): the rule. -/
namespace Fz
open PySem PySem.Spec PyProof.Rows L2 SrtO Srt
mutual
theorem reads_keep {h h' : Heap} (k : ∀ b o, h.get? b = some o → h'.get? b = some o) : ∀ {v : Value} {d : PyData} {as : List Addr}, plainD d = true → Reads h v d as → Reads h' v d as
  | _, _, _, _, .int i t => .int i t
  | _, _, _, _, .str i t => .str i t
  | _, _, _, hp, .tuple h1 h2 h3 h4 => .tuple (k _ _ h1) h2 h3 (readsAll_keep k (by simpa only [plainD] using hp) h4)
  | _, .none, _, hp, _ => nomatch hp
  | _, .bool _, _, hp, _ => nomatch hp
  | _, .list _, _, hp, _ => nomatch hp
  | _, .dict _, _, hp, _ => nomatch hp
theorem readsAll_keep {h h' : Heap} (k : ∀ b o, h.get? b = some o → h'.get? b = some o) : ∀ {vs : List Value} {ds : List PyData} {as : List Addr}, plainL ds = true → ReadsAll h vs ds as → ReadsAll h' vs ds as
  | _, _, _, _, .nil => .nil
  | _, _, _, hp, .cons r rs => by
    simp only [plainL, Bool.and_eq_true] at hp
    exact .cons (reads_keep k hp.1 r) (readsAll_keep k hp.2 rs)
end
/-- what sorted asks of its items -/
def SortOk (ds : List PyData) : Prop := (∀ d ∈ ds, plainD d = true ∧ SeqAt.shaped d = true) ∧ ∀ d ∈ ds, ∀ e ∈ ds, (ltD d e).isSome = true
theorem shaped_depth {d : PyData} (h : SeqAt.shaped d = true) : d.canLay0 = true ∧ d.depth ≤ 64 := by
  unfold SeqAt.shaped at h
  obtain ⟨a, b⟩ := Bool.and_eq_true_iff.mp h
  exact ⟨a, of_decide_eq_true b⟩
theorem readsAll_mem {h : Heap} : ∀ {vs : List Value} {ds : List PyData} {as : List Addr}, ReadsAll h vs ds as → ∀ v ∈ vs, ∃ d ∈ ds, ∃ as, Reads h v d as
  | _, _, _, .cons r rs, v, hv => by
    rcases List.mem_cons.mp hv with rfl | hv
    · exact ⟨_, List.mem_cons_self .., _, r⟩
    · obtain ⟨d, hd, q⟩ := readsAll_mem rs v hv
      exact ⟨d, List.mem_cons_of_mem _ hd, q⟩
theorem readsAll_map {h : Heap} {k : Value → PyData} (hk : ∀ v d as, Reads h v d as → plainD d = true → d.canLay0 = true → k v = d) : ∀ {vs : List Value} {ds : List PyData} {as : List Addr}, ReadsAll h vs ds as → (∀ d ∈ ds, plainD d = true ∧ d.canLay0 = true) → vs.map k = ds
  | _, _, _, .nil, _ => rfl
  | _, _, _, .cons r rs, hp => by
    rw [List.map_cons, hk _ _ _ r (hp _ (List.mem_cons_self ..)).1 (hp _ (List.mem_cons_self ..)).2, readsAll_map hk rs fun d hd => hp d (List.mem_cons_of_mem _ hd)]
section
variable {prog : Program} {w : World} {A : Around} {E : Value → Shared → Prop} {s : Shared}
theorem sorted_data {l : Addr} {vs : List Value} {ds : List PyData} {as : List Addr} {Q : Value → Shared → Prop} (hl : s.heap.IsList l vs.toArray) (hz : vs.length ≤ sizeLine) (hr : ReadsAll s.heap vs ds as) (ok : SortOk ds) (hu : A.units + 70 < cLine)
    (h : ∀ (k : Value → PyData), (∀ v d as, Reads s.heap v d as → plainD d = true → d.canLay0 = true → k v = d) → ∀ (h' : Heap) (d : Addr) (out : List Value), out.Perm vs → out.map k = sortD ds → (∀ b o, s.heap.get? b = some o → h'.get? b = some o) → s.heap.objs.size ≤ d → (∃ n, h'.get? d = some (seqObj "list" out.toArray n)) → Q (.ref d) { s with heap := h' }) :
    wpAny (model prog w) A (call (.builtin "sorted") [.ref l]) Q E s := by
  let k : Value → PyData := fun v => open Classical in if h : ∃ d as, Reads s.heap v d as ∧ plainD d = true ∧ d.canLay0 = true then h.choose else .none
  have hk : ∀ v d as, Reads s.heap v d as → plainD d = true → d.canLay0 = true → k v = d := fun v d as r hp hc => by
    have hx : ∃ d as, Reads s.heap v d as ∧ plainD d = true ∧ d.canLay0 = true := ⟨d, as, r, hp, hc⟩
    have e : k v = hx.choose := dif_pos hx
    rw [e]
    obtain ⟨as', r', _, hc'⟩ := hx.choose_spec
    exact SeqAt.Reads.unique _ _ v as' as hc' r' r
  have hds : ∀ d ∈ ds, plainD d = true ∧ d.canLay0 = true := fun d hd => ⟨(ok.1 d hd).1, (shaped_depth (ok.1 d hd).2).1⟩
  have hm : ∀ v ∈ vs, k v ∈ ds ∧ ∃ as, Reads s.heap v (k v) as := fun v hv => by
    obtain ⟨d, hd, as, r⟩ := readsAll_mem hr v hv
    have e := hk v d as r (hds d hd).1 (hds d hd).2
    rw [e]
    exact ⟨hd, as, r⟩
  have O : Swo (fun v u => lx (enc (k v)) (enc (k u))) := lx_swo fun v => enc (k v)
  refine sorted_ord O hl hz (fun h2 h₁ a ha kk => ?_) fun out hs hb => ?_
  · intro h' keep
    have kp : ∀ b o, s.heap.get? b = some o → h'.get? b = some o := fun b o e => keep b o (kk b o e).1 (kk b o e).2
    have hR : ∀ v ∈ vs, RdP h' v (k v) := fun v hv => by
      obtain ⟨hd, as, r⟩ := hm v hv
      exact ⟨(hds _ hd).1, as, reads_keep kp (hds _ hd).1 r⟩
    obtain ⟨κ, h1, h2⟩ := kind_wp (prog := prog) (w := w) (A := A.in1.in1) (s := { s with heap := h' }) (vs := vs) (ds := ds) fun v hv => ⟨k v, (hm v hv).1, hR v hv⟩
    refine ⟨κ, fun Q' E' q => h1 E' Q' q, cmp_data k hR (fun v hv u hu' => ?_) ?_⟩
    · have hv' := (hm v hv).1
      have hu'' := (hm u hu').1
      have dv := shaped_depth (ok.1 _ hv').2
      have du := shaped_depth (ok.1 _ hu'').2
      have un : A.in1.in1.units = A.units + 2 := rfl
      exact ⟨ok.2 _ hv' _ hu'', (ok.1 _ hv').1, (ok.1 _ hu'').1, dv.1, du.1, by omega⟩
    · rcases h2 with h2 | h2 | ⟨h2, h3⟩
      · exact .inl h2
      · exact .inr (.inl h2)
      · refine .inr (.inr ⟨h2, fun v hv => ?_⟩)
        obtain ⟨d, hd, ⟨hp, as, r⟩, xs, rfl⟩ := h3 v hv
        obtain ⟨hp', as', r'⟩ := hR v hv
        exact ⟨xs, SeqAt.Reads.unique _ _ v as' as (hds _ (hm v hv).1).2 r' r⟩
  · refine h k hk _ _ out hb.perm ?_ (fun b o e => sortedAll_old e) (Nat.le_succ _) (sortedAll_at s.heap vs out.toArray)
    have e1 := readsAll_map hk hr hds
    rw [← e1]
    exact sortD_uniq (srtd_map hs) (Stb.map ltE_swo k hb)
end
/-! as a rule of the layer -/
def rSortD (K : Fg) : List V → Hp → VK → Prop := fun vs H Q => ∃ (a : Addr) (xs : List V) (ds : List D), vs = [.ref a] ∧ SqL K H a xs ∧ PdAll K H xs ds ∧ SortOk ds ∧ ∀ ys p, PdAll K H ys (sortD ds) → H p = none → Q (.ref p) (upd H p (.lst ys))
theorem vals_mem {xs : List V} {us : List Value} (r : Vals xs us) : ∀ u ∈ us, ∃ x ∈ xs, RelV x u := by
  induction r with
  | nil => intro u h; cases h
  | cons h r ih =>
    intro u hu
    rcases List.mem_cons.mp hu with rfl | hu
    · exact ⟨_, List.mem_cons_self .., h⟩
    · obtain ⟨x, hx, q⟩ := ih u hu
      exact ⟨x, List.mem_cons_of_mem _ hx, q⟩
theorem pdAll_mem {K : Fg} {H : Hp} {xs : List V} {ds : List D} (h : PdAll K H xs ds) : ∀ x ∈ xs, ∃ d ∈ ds, Pd K H x d := by
  induction xs generalizing ds with
  | nil => intro x hx; cases hx
  | cons y xs ih =>
    cases h with
    | cons h r =>
      intro x hx
      rcases List.mem_cons.mp hx with rfl | hx
      · exact ⟨_, List.mem_cons_self .., h⟩
      · obtain ⟨d, hd, q⟩ := ih r x hx
        exact ⟨d, List.mem_cons_of_mem _ hd, q⟩
section
variable {X : Cx} {F : Fx}
theorem PdAll.dpAll {K : Fg} {H : Hp} : ∀ {xs : List V} {ds : List D}, PdAll K H xs ds → DpAll K H xs ds := fun h => PdAll.dp h
theorem cr_sortD (hu : X.A.units + 70 < cLine) : CallR X (.builtin "sorted") (rSortD X.K) := by
  intro pins s σ H vs us Q I r h
  obtain ⟨a, xs, ds, rfl, hs, hx, ok, q⟩ := h
  obtain ⟨its, rv, hl, hz⟩ := I.list hs
  obtain ⟨u, rfl, ru⟩ := vals1 r
  obtain rfl : u = Value.ref a := ru
  obtain ⟨as, hr⟩ := Dp.readsAll I ds xs its (PdAll.dp hx) rv
  refine sorted_data hl.isList (by rw [← rv.length]; exact hz) hr ok hu fun k hk h' d out hp ho kp hd hn => ?_
  have hds : ∀ d ∈ ds, plainD d = true ∧ d.canLay0 = true := fun d hd => ⟨(ok.1 d hd).1, (shaped_depth (ok.1 d hd).2).1⟩
  have ex : ∀ v ∈ its, ∃ x, RelV x v ∧ Pd X.K H x (k v) := fun v hv => by
    obtain ⟨x, hxm, rx⟩ := vals_mem rv v hv
    obtain ⟨d, hdm, pd⟩ := pdAll_mem hx x hxm
    obtain ⟨as', r'⟩ := Dp.reads I d x v pd.dp rx
    rw [hk v d as' r' (hds d hdm).1 (hds d hdm).2]
    exact ⟨x, rx, pd⟩
  let g : Value → V := fun v => open Classical in if h : ∃ x, RelV x v ∧ Pd X.K H x (k v) then h.choose else .non
  have hg : ∀ v ∈ its, RelV (g v) v ∧ Pd X.K H (g v) (k v) := fun v hv => by
    have hx := ex v hv
    have e : g v = hx.choose := dif_pos hx
    rw [e]; exact hx.choose_spec
  have hmem : ∀ v ∈ out, v ∈ its := fun v hv => hp.mem_iff.mp hv
  have hv : ∀ l : List Value, (∀ v ∈ l, v ∈ its) → Vals (l.map g) l ∧ PdAll X.K H (l.map g) (l.map k) := fun l => by
    induction l with
    | nil => intro _; exact ⟨.nil, .nil⟩
    | cons v l ih =>
      intro hm
      obtain ⟨a1, a2⟩ := hg v (hm v (by simp))
      obtain ⟨b1, b2⟩ := ih fun u hu => hm u (List.mem_cons_of_mem _ hu)
      exact ⟨.cons a1 b1, .cons a2 b2⟩
  obtain ⟨v1, v2⟩ := hv out hmem
  obtain ⟨n, hn⟩ := hn
  rw [ho] at v2
  refine ⟨.ref d, upd H d (.lst (out.map g)), I.laid (t' := s.toks) kp hd ⟨?_, out, n, v1, hn⟩, rfl, q _ d v2 (I.hok.fresh hd)⟩
  rw [List.length_map, hp.length_eq, ← rv.length]
  exact hz
noncomputable def pSorted (d : D) : FS → Res SV := fun S => match d with
  | .list ds => @ite _ (SortOk ds) (Classical.propDecidable _) (.ok (.own (.lst (sortD ds))) S) .bad
  | _ => .bad
theorem c_sorted (hu : X.A.units + 70 < cLine) : CallF X F VR (.builtin "sorted") (one pSorted) := callF_one fun d => by
  cases d with
  | list ds =>
    by_cases hc : SortOk ds
    · refine .inl ⟨_, cr_sortD hu, fun S σ H x Q r hx p => ?_⟩
      obtain ⟨a, vs, rfl, hl, hv⟩ := hx.list
      unfold pSorted at p
      simp only [if_pos hc] at p
      exact ⟨a, vs, ds, rfl, hl, hv, hc, fun ys q hy hq => newList r hy hq p⟩
    · exact .inr fun S => by unfold pSorted; simp only [if_neg hc]
  | _ => exact .inr fun _ => rfl
end
theorem room70 {k : Nat} {A : Around} (r : Room k A) : A.units + 70 < cLine := by have := r.un; omega
theorem bt_sorted : bootBuiltins "sorted" = some (.builtin "sorted") := by decide +kernel
end Fz
end

section
set_option Elab.async false
set_option linter.all false
set_option maxRecDepth 100000
set_option maxHeartbeats 4000000
/-! F30: dicts: their reading, their writing, at the machine. -/
namespace Fz
open PySem PySem.Spec PyProof.Rows L2
/-! ### plain -/
def dAt (kvs : List (D × D)) (k : D) : Option D := (kvs.find? fun p => decide (nk p.1 = nk k)).map (·.2)
def dHas (kvs : List (D × D)) (k : D) : Bool := (dAt kvs k).isSome
def dPutF (k v : D) (p : D × D) : D × D := if nk p.1 = nk k then (p.1, v) else p
def dPut (kvs : List (D × D)) (k v : D) : List (D × D) := if dHas kvs k then kvs.map (dPutF k v) else kvs ++ [(k, v)]
/-- k may be asked for in kvs: all keys flat, or all tuples -/
def kOk (kvs : List (D × D)) (k : D) : Bool := ((fk k).isSome && kvs.all fun p => (fk p.1).isSome) || ((tk k).isSome && kvs.all fun p => (tk p.1).isSome)
theorem fk_nk {d : D} {k : Key} (h : fk d = some k) : (∃ i, d = .int i ∧ k = .inl i) ∨ ∃ x, d = .str x ∧ k = .inr x := by
  cases d with
  | int i => cases h; exact .inl ⟨i, rfl, rfl⟩
  | str x => cases h; exact .inr ⟨x, rfl, rfl⟩
  | _ => cases h
theorem fk_eq {d e : D} {k j : Key} (h : fk d = some k) (g : fk e = some j) : nk d = nk e ↔ k = j := by
  rcases fk_nk h with ⟨i, rfl, rfl⟩ | ⟨x, rfl, rfl⟩ <;> rcases fk_nk g with ⟨l, rfl, rfl⟩ | ⟨y, rfl, rfl⟩ <;> simp [nk]
theorem tk_eq {d e : D} {k j : NestedKey} (h : tk d = some k) (g : tk e = some j) : nk d = nk e ↔ k = j := by
  rw [(tk_nk h).1, (tk_nk g).1, Option.some.injEq]
theorem fk_tk {d : D} {k : Key} {j : NestedKey} (h : fk d = some k) (g : tk d = some j) : False := by
  rcases fk_nk h with ⟨i, rfl, rfl⟩ | ⟨x, rfl, rfl⟩ <;> cases g
theorem fk_pd {K : Fg} {H : Hp} {y : V} {d : D} {k : Key} (p : Pd K H y d) (h : fk d = some k) : y = kV k := by
  rcases fk_nk h with ⟨i, rfl, rfl⟩ | ⟨x, rfl, rfl⟩ <;> cases p <;> rfl
section
variable {X : Cx} {pins : List (Addr × Obj)} {σ : L2.St} {H : Hp} {s : Shared}
mutual
theorem nested_is (I : Inv X pins σ H s) : ∀ {y : V} {d : D} {k : NestedKey} {u : Value}, Pd X.K H y d → nk d = some k → RelV y u → NestedIs s.heap k u
  | _, _, _, _, .non, h, r => by cases h; cases r; exact .none
  | _, _, _, _, .int i, h, r => by cases h; obtain ⟨t, rfl⟩ := r; exact .int _ _
  | _, _, _, _, .str x, h, r => by cases h; obtain ⟨t, rfl⟩ := r; exact .text _ _
  | _, _, _, _, .bl b, h, _ => by simp [nk] at h
  | _, _, _, _, .lst _ _, h, _ => by simp [nk] at h
  | _, _, _, u, .tup (a := a) h2 r, h, ru => by
    simp only [nk, Option.map_eq_some_iff] at h
    obtain ⟨ks, h1, rfl⟩ := h
    obtain rfl : u = Value.ref a := ru
    obtain ⟨its, rv, ⟨o, e, hc, n, hd⟩, _⟩ := I.tuple h2
    exact .tup e hc hd (by simpa using nested_all I r h1 rv)
theorem nested_all (I : Inv X pins σ H s) : ∀ {ys : List V} {ds : List D} {ks : List NestedKey} {us : List Value}, PdAll X.K H ys ds → nks ds = some ks → Vals ys us → NestedAll s.heap ks us
  | _, _, _, _, .nil, h, r => by cases h; cases r; exact .nil
  | _, d :: ds, ks, _, .cons p q, h, r => by
    cases r with
    | cons r1 r2 =>
      simp only [nks] at h
      cases e1 : nk d with
      | none => simp [e1] at h
      | some k1 =>
        cases e2 : nks ds with
        | none => simp [e1, e2] at h
        | some k2 =>
          simp only [e1, e2, Option.some.injEq] at h
          subst h
          exact .cons (nested_is I p e1 r1) (nested_all I q e2 r2)
end
theorem nested_key (I : Inv X pins σ H s) {b : Addr} {d : D} {k : NestedKey} (p : Pd X.K H (.ref b) d) (h : tk d = some k) : (nestedKind X.prog X.w).is s.heap k b :=
  ⟨nested_is I p (tk_nk h).1 rfl, (tk_nk h).2.1⟩
theorem tk_ref {y : V} {d : D} {k : NestedKey} (p : Pd X.K H y d) (h : tk d = some k) : ∃ b, y = .ref b := by
  obtain ⟨_, _, ds, rfl⟩ := tk_nk h
  cases p with
  | tup _ _ => exact ⟨_, rfl⟩
end
/-- the entries of a dict with tuples as keys: the data, what stands in the heap -/
def E3 (K : Fg) (H : Hp) (q : D × D) (x : NestedKey × Addr × Value) : Prop := tk q.1 = some x.1 ∧ Pd K H (.ref x.2.1) q.1 ∧ ∃ v, Pd K H v q.2 ∧ RelV v x.2.2
theorem e3_split {K : Fg} {H : Hp} : ∀ {kvs : List (D × D)} {xs : List (NestedKey × Addr × Value)}, Paired (E3 K H) kvs xs → ∃ raw : List (NestedKey × Addr × V),
    Paired (fun (p : NestedKey × Addr × V) (q : D × D) => tk q.1 = some p.1 ∧ Pd K H (.ref p.2.1) q.1 ∧ Pd K H p.2.2 q.2) raw kvs ∧ Paired (fun (p : NestedKey × Addr × V) (q : NestedKey × Addr × Value) => p.1 = q.1 ∧ p.2.1 = q.2.1 ∧ RelV p.2.2 q.2.2) raw xs
  | _, _, .nil => ⟨[], .nil, .nil⟩
  | _, _, .cons (b := x) ⟨h1, h2, v, h3, h4⟩ r =>
    let ⟨raw, a, b⟩ := e3_split r
    ⟨(x.1, x.2.1, v) :: raw, .cons ⟨h1, h2, h3⟩ a, .cons ⟨rfl, rfl, h4⟩ b⟩
theorem e3_join {K : Fg} {H : Hp} : ∀ {raw : List (NestedKey × Addr × V)} {kvs : List (D × D)} {xs : List (NestedKey × Addr × Value)},
    Paired (fun (p : NestedKey × Addr × V) (q : D × D) => tk q.1 = some p.1 ∧ Pd K H (.ref p.2.1) q.1 ∧ Pd K H p.2.2 q.2) raw kvs → Paired (fun (p : NestedKey × Addr × V) (q : NestedKey × Addr × Value) => p.1 = q.1 ∧ p.2.1 = q.2.1 ∧ RelV p.2.2 q.2.2) raw xs → Paired (E3 K H) kvs xs
  | _, _, _, .nil, .nil => .nil
  | _, _, _, .cons h r, .cons g t => .cons ⟨h.1.trans (congrArg some g.1), g.2.1 ▸ h.2.1, _, h.2.2, g.2.2⟩ (e3_join r t)
theorem e3_mono {K : Fg} {H H' : Hp} (p : Pers H H') {kvs : List (D × D)} {xs : List (NestedKey × Addr × Value)} (h : Paired (E3 K H) kvs xs) : Paired (E3 K H') kvs xs :=
  Paired.mapP h fun _ _ ⟨a, b, v, c, d⟩ => ⟨a, b.mono p, v, c.mono p, d⟩
/-- a value looked up -/
theorem e3_at {K : Fg} {H : Hp} {k : D} {j : NestedKey} (hk : tk k = some j) : ∀ {kvs : List (D × D)} {xs : List (NestedKey × Addr × Value)}, Paired (E3 K H) kvs xs →
    (dAt kvs k = none ∧ atKey xs j = none) ∨ ∃ d p v, dAt kvs k = some d ∧ atKey xs j = some p ∧ Pd K H v d ∧ RelV v p.2
  | _, _, .nil => .inl ⟨rfl, rfl⟩
  | q :: kvs, x :: xs, .cons ⟨h1, h2, v, h3, h4⟩ r => by
    by_cases e : x.1 = j
    · refine .inr ⟨q.2, x.2, v, ?_, ?_, h3, h4⟩
      · simp [dAt, List.find?_cons, (tk_eq h1 hk).mpr e]
      · simp [atKey, List.find?_cons, e]
    · have e2 : ¬ nk q.1 = nk k := fun z => e ((tk_eq h1 hk).mp z)
      have a1 : dAt (q :: kvs) k = dAt kvs k := by simp [dAt, List.find?_cons, e2]
      have a2 : atKey (x :: xs) j = atKey xs j := by simp [atKey, List.find?_cons, e]
      rw [a1, a2]
      exact e3_at hk r
theorem e3_put {K : Fg} {H : Hp} {k v : D} {j : NestedKey} {b : Addr} {y : V} {u : Value} (hk : tk k = some j) (hb : Pd K H (.ref b) k) (hv : Pd K H y v) (hu : RelV y u) {kvs : List (D × D)} {xs : List (NestedKey × Addr × Value)} (h : Paired (E3 K H) kvs xs) :
    Paired (E3 K H) (dPut kvs k v) (storedH xs j b u) := by
  have mp : ∀ {kvs : List (D × D)} {xs : List (NestedKey × Addr × Value)}, Paired (E3 K H) kvs xs → Paired (E3 K H) (kvs.map (dPutF k v)) (xs.map (putAt j u)) := by
    intro kvs xs h
    induction h with
    | nil => exact .nil
    | @cons q x _ _ h1 _ ih =>
      refine .cons ?_ ih
      obtain ⟨h1, h2, v2, h3, h4⟩ := h1
      unfold dPutF putAt
      by_cases e : x.1 = j
      · rw [if_pos e, if_pos ((tk_eq h1 hk).mpr e)]; exact ⟨h1, h2, y, hv, hu⟩
      · rw [if_neg e, if_neg fun z => e ((tk_eq h1 hk).mp z)]; exact ⟨h1, h2, v2, h3, h4⟩
  unfold dPut storedH dHas
  rcases e3_at hk h with ⟨e1, e2⟩ | ⟨d, p, v2, e1, e2, _⟩
  · rw [e1, e2]
    simp only [Option.isSome_none, Bool.false_eq_true, if_false]
    have app : ∀ {kvs : List (D × D)} {xs : List (NestedKey × Addr × Value)}, Paired (E3 K H) kvs xs → Paired (E3 K H) (kvs ++ [(k, v)]) (xs ++ [(j, b, u)]) := by
      intro kvs xs h
      induction h with
      | nil => exact .cons ⟨hk, hb, y, hv, hu⟩ .nil
      | cons h _ ih => exact .cons h ih
    exact app h
  · rw [e1, e2]
    simp only [Option.isSome_some, if_true]
    exact mp h
theorem dPut_length (kvs : List (D × D)) (k v : D) : (dPut kvs k v).length ≤ kvs.length + 1 := by
  unfold dPut; split <;> simp
theorem dPut_ne (kvs : List (D × D)) (k v : D) : dPut kvs k v ≠ [] := by
  unfold dPut
  split
  · rename_i h
    intro z
    rw [List.map_eq_nil_iff] at z
    rw [z] at h
    cases h
  · simp
/-! ### the flat ones -/
abbrev F2 (K : Fg) (H : Hp) : List (Key × V) → List (D × D) → Prop := Paired fun (p : Key × V) (q : D × D) => fk q.1 = some p.1 ∧ Pd K H p.2 q.2
theorem f2_at {K : Fg} {H : Hp} {k : D} {j : Key} (hk : fk k = some j) : ∀ {raw : List (Key × V)} {kvs : List (D × D)}, F2 K H raw kvs →
    (dAt kvs k = none ∧ valV raw j = none) ∨ ∃ d v, dAt kvs k = some d ∧ valV raw j = some v ∧ Pd K H v d
  | _, _, .nil => .inl ⟨rfl, rfl⟩
  | p :: raw, q :: kvs, .cons ⟨h1, h2⟩ r => by
    by_cases e : p.1 = j
    · refine .inr ⟨q.2, p.2, ?_, valV_pos e, h2⟩
      simp [dAt, List.find?_cons, (fk_eq h1 hk).mpr e]
    · have e2 : ¬ nk q.1 = nk k := fun z => e ((fk_eq h1 hk).mp z)
      have a1 : dAt (q :: kvs) k = dAt kvs k := by simp [dAt, List.find?_cons, e2]
      rw [a1, valV_neg e]
      exact f2_at hk r
theorem f2_put {K : Fg} {H : Hp} {k v : D} {j : Key} {y : V} (hk : fk k = some j) (hv : Pd K H y v) {raw : List (Key × V)} {kvs : List (D × D)} (h : F2 K H raw kvs) : F2 K H (putK raw j y) (dPut kvs k v) := by
  have mp : ∀ {raw : List (Key × V)} {kvs : List (D × D)}, F2 K H raw kvs → F2 K H (raw.map fun kv => if kv.1 = j then (kv.1, y) else kv) (kvs.map (dPutF k v)) := by
    intro raw kvs h
    induction h with
    | nil => exact .nil
    | @cons p q _ _ h1 _ ih =>
      refine .cons ?_ ih
      unfold dPutF
      dsimp only
      by_cases e : p.1 = j
      · rw [if_pos e, if_pos ((fk_eq h1.1 hk).mpr e)]; exact ⟨h1.1, hv⟩
      · rw [if_neg e, if_neg fun z => e ((fk_eq h1.1 hk).mp z)]; exact h1
  unfold dPut dHas
  rcases f2_at hk h with ⟨e1, e2⟩ | ⟨d, v2, e1, e2, _⟩
  · rw [e1, putK_new y e2]
    simp only [Option.isSome_none, Bool.false_eq_true, if_false]
    have app : ∀ {raw : List (Key × V)} {kvs : List (D × D)}, F2 K H raw kvs → F2 K H (raw ++ [(j, y)]) (kvs ++ [(k, v)]) := by
      intro raw kvs h
      induction h with
      | nil => exact .cons ⟨hk, hv⟩ .nil
      | cons h _ ih => exact .cons h ih
    exact app h
  · rw [e1]
    simp only [Option.isSome_some, if_true]
    have q : putK raw j y = raw.map fun kv => if kv.1 = j then (kv.1, y) else kv := by
      unfold putK
      rw [valV_any, e2]
      rfl
    rw [q]
    exact mp h
end Fz
end

section
set_option Elab.async false
set_option linter.all false
set_option maxRecDepth 100000
set_option maxHeartbeats 4000000
/-! F31: dicts at the machine: d[k], in, d[k] = v, get, len, setdefault. -/
namespace Fz
open PySem PySem.Spec PyProof.Rows L2
section
variable {X : Cx} {pins : List (Addr × Obj)} {σ : L2.St} {H : Hp} {s : Shared} {a : Addr} {kvs : List (D × D)} {k v : D} {y z : V} {u r : Value} {A : Around} {E : Value → Shared → Prop}
theorem ext_get {raw : List (NestedKey × Addr × V)} (I : Inv X pins σ H s) (e : H a = some (DicT X.w a raw)) : DicP X.w a raw s.heap := (show ObjOk X.prog X.w H s.heap a (DicT X.w a raw) from I.hok a _ e).1
/-- what stands there -/
theorem dic_raw (I : Inv X pins σ H s) (g : DicR X.K X.w H a kvs) : kvs.length ≤ sizeLine ∧ (a == sysModules) = false ∧ ∃ o es ep, s.heap.get? a = some o ∧ o.ExactDict ∧ o.data = .dict es ep ∧ es.size = kvs.length := by
  rcases g with ⟨raw, e, f⟩ | ⟨raw, n, e, f⟩
  · obtain ⟨z, hd, vs, rel, o, es, ep, h1, h2, h3, h4, h5, h6⟩ := dk_of I.hok e
    refine ⟨by rw [← paired_len f]; exact z, hd, o, es, ep, h1, h2, h3, ?_⟩
    have l1 : es.toList.length = vs.length := by
      first | exact (List.Forall₂.length_eq h5) | exact Paired.length h5 | exact h5.length | (have := congrArg List.length h5; simpa using this)
    rw [← paired_len f, rel.length, ← l1, Array.length_toList]
  · obtain ⟨z, hd, xs, f2, o, es, ep, h1, h2, h3, h4, _⟩ := ext_get I e
    refine ⟨by rw [← paired_len f]; exact z, hd, o, es, ep, h1, h2, h3, ?_⟩
    rw [← paired_len f, paired_len f2, ← Array.length_toList, h4, List.length_map]
/-- the two sorts of dicts at a look with a key -/
theorem dic_cases (I : Inv X pins σ H s) (g : DicR X.K X.w H a kvs) (ok : kOk kvs k = true) (pk : Pd X.K H y k) (ry : RelV y u) :
    (∃ raw j, H a = some (.dK raw) ∧ F2 X.K H raw kvs ∧ fk k = some j ∧ y = kV j) ∨
    (∃ xs j b, s.heap.DictOfH (nestedKind X.prog X.w) a xs ∧ Paired (E3 X.K H) kvs xs ∧ xs.length ≤ sizeLine ∧ (a == sysModules) = false ∧ Mut (H a) ∧ tk k = some j ∧ y = .ref b ∧ u = .ref b ∧ (nestedKind X.prog X.w).is s.heap j b) := by
  unfold kOk at ok
  rw [Bool.or_eq_true, Bool.and_eq_true, Bool.and_eq_true] at ok
  rcases ok with ⟨h1, h2⟩ | ⟨h1, h2⟩
  · obtain ⟨j, hj⟩ := Option.isSome_iff_exists.mp h1
    rcases g with ⟨raw, e, f⟩ | ⟨raw, n, e, f⟩
    · exact .inl ⟨raw, j, e, f, hj, fk_pd pk hj⟩
    · exfalso
      cases f with
      | nil => exact n rfl
      | cons h _ =>
        rw [List.all_cons, Bool.and_eq_true] at h2
        obtain ⟨j2, hj2⟩ := Option.isSome_iff_exists.mp h2.1
        exact fk_tk hj2 h.1
  · obtain ⟨j, hj⟩ := Option.isSome_iff_exists.mp h1
    obtain ⟨b, rfl⟩ := tk_ref pk hj
    have hu : u = Value.ref b := ry
    have hkey := nested_key I pk hj
    rcases g with ⟨raw, e, f⟩ | ⟨raw, n, e, f⟩
    · cases f with
      | cons h _ =>
        exfalso
        rw [List.all_cons, Bool.and_eq_true] at h2
        obtain ⟨j2, hj2⟩ := Option.isSome_iff_exists.mp h2.1
        exact fk_tk h.1 hj2
      | nil =>
        obtain ⟨z, hd, vs, rel, o, es, ep, h1, h2, h3, h4, h5, h6⟩ := dk_of I.hok e
        cases rel
        have l1 : es.toList = [] := by
          generalize es.toList = l at h5
          cases h5
          rfl
        refine .inr ⟨[], j, b, ⟨o, es, ep, h1, h2, h3, by rw [l1]; rfl, fun _ hx => (nomatch hx), List.nodup_nil⟩, .nil, Nat.zero_le _, hd, by rw [e]; trivial, hj, rfl, hu, hkey⟩
    · obtain ⟨z, hd, xs, f2, o, es, ep, h1, h2, h3, h4, h5⟩ := ext_get I e
      have e3 := e3_join f f2
      refine .inr ⟨xs, j, b, ⟨o, es, ep, h1, h2, h3, h4, fun x hx => ?_, h5⟩, e3, by rw [← paired_len f2]; exact z, hd, by rw [e]; trivial, hj, rfl, hu, hkey⟩
      obtain ⟨i, hi⟩ := List.getElem?_of_mem hx
      obtain ⟨q, _, q1, q2, _⟩ := paired_get e3 hi
      exact nested_key I q2 q1
/-- d[k], there -/
theorem dr_getItem {Q : Value → Shared → Prop} (hu : A.units + 70 < cLine) (I : Inv X pins σ H s) (g : DicR X.K X.w H a kvs) (ok : kOk kvs k = true) (pk : Pd X.K H y k) (ry : RelV y u) (l : dAt kvs k = some v)
    (h : ∀ x w' s', Inv X pins σ H s' → Pd X.K H x v → RelV x w' → Q w' s') : wpAny (model X.prog X.w) A (getItem (.ref a) u) Q E s := by
  rcases dic_cases I g ok pk ry with ⟨raw, j, e, f, hj, rfl⟩ | ⟨xs, j, b, dd, f, z, hd, mu, hj, rfl, rfl, hkey⟩
  · rcases f2_at hj f with ⟨q1, _⟩ | ⟨d, x, q1, q2, q3⟩
    · rw [l] at q1; cases q1
    · rw [l] at q1; cases q1
      exact d_getItem (by omega) I (q2 ▸ DGet.k e) ry fun w' s' I' r => h x w' s' I' q3 r
  · rcases e3_at hj f with ⟨q1, _⟩ | ⟨d, p, x, q1, q2, q3, q4⟩
    · rw [l] at q1; cases q1
    · rw [l] at q1; cases q1
      exact wpAny_getItem_heap (by show _ + 8 < _; simp only [Around.in1]; omega) hkey dd q2 (h x p.2 _ (I.tok _) q3 q4)
theorem dr_has_f {raw : List (Key × V)} {j : Key} (hj : fk k = some j) (f : F2 X.K H raw kvs) : (valV raw j).isSome = dHas kvs k := by
  unfold dHas
  rcases f2_at hj f with ⟨q1, q2⟩ | ⟨d, x, q1, q2, q3⟩ <;> rw [q1, q2] <;> rfl
theorem dr_has_t {xs : List (NestedKey × Addr × Value)} {j : NestedKey} (hj : tk k = some j) (f : Paired (E3 X.K H) kvs xs) : (atKey xs j).isSome = dHas kvs k := by
  unfold dHas
  rcases e3_at hj f with ⟨q1, q2⟩ | ⟨d, x, v, q1, q2, q3⟩ <;> rw [q1, q2] <;> rfl
/-- k in d -/
theorem dr_in {Q : Value → Shared → Prop} (hu : A.units + 70 < cLine) (I : Inv X pins σ H s) (g : DicR X.K X.w H a kvs) (ok : kOk kvs k = true) (pk : Pd X.K H y k) (ry : RelV y u)
    (h : ∀ s', Inv X pins σ H s' → Q (.bool (dHas kvs k)) s') : wpAny (model X.prog X.w) A (compareOp .In u (.ref a)) Q E s := by
  rcases dic_cases I g ok pk ry with ⟨raw, j, e, f, hj, rfl⟩ | ⟨xs, j, b, dd, f, z, hd, mu, hj, rfl, rfl, hkey⟩
  · refine d_in (by omega) I (DGet.k e) ry fun s' I' => ?_
    rw [dr_has_f hj f]; exact h s' I'
  · refine wpAny_in_heap (by show _ + 8 < _; simp only [Around.in1]; omega) hkey hd dd ?_
    rw [dr_has_t hj f]; exact h _ (I.tok _)
theorem dr_notIn {Q : Value → Shared → Prop} (hu : A.units + 70 < cLine) (I : Inv X pins σ H s) (g : DicR X.K X.w H a kvs) (ok : kOk kvs k = true) (pk : Pd X.K H y k) (ry : RelV y u)
    (h : ∀ s', Inv X pins σ H s' → Q (.bool (!dHas kvs k)) s') : wpAny (model X.prog X.w) A (compareOp .NotIn u (.ref a)) Q E s := by
  rcases dic_cases I g ok pk ry with ⟨raw, j, e, f, hj, rfl⟩ | ⟨xs, j, b, dd, f, z, hd, mu, hj, rfl, rfl, hkey⟩
  · refine d_notIn (by omega) I (DGet.k e) ry fun s' I' => ?_
    rw [dr_has_f hj f]; exact h s' I'
  · refine notIn_keyed (by show _ + 8 < _; simp only [Around.in1]; omega) hkey hd ⟨xs, dd, rfl⟩ ?_
    rw [valueAt_pairsH, Option.isSome_map, dr_has_t hj f]; exact h _ (I.tok _)
/-- d[k] = v -/
theorem dr_setItem {Q : Unit → Shared → Prop} (hu : A.units + 70 < cLine) (I : Inv X pins σ H s) (g : DicR X.K X.w H a kvs) (ok : kOk kvs k = true) (hl : kvs.length < sizeLine) (pk : Pd X.K H y k) (ry : RelV y u) (pv : Pd X.K H z v) (rz : RelV z r)
    (h : ∀ ob s', Mut (H a) → Inv X pins σ (upd H a ob) s' → DicR X.K X.w (upd H a ob) a (dPut kvs k v) → Q () s') : wpAny (model X.prog X.w) A (setItem (.ref a) u r) Q E s := by
  rcases dic_cases I g ok pk ry with ⟨raw, j, e, f, hj, rfl⟩ | ⟨xs, j, b, dd, f, zl, hd, mu, hj, rfl, rfl, hkey⟩
  · have mu : Mut (H a) := by rw [e]; trivial
    refine d_setItem (by omega) I (DPut.k e (by rw [paired_len f]; exact hl)) ry rz fun s' I' => h _ s' mu I' (.inl ⟨_, upd_same, ?_⟩)
    exact Paired.mapP (f2_put hj pv f) fun _ _ z => ⟨z.1, z.2.mono (Pers.put (.inl mu))⟩
  · refine wpAny_setItem_heap (hsz := zl) (by show _ + 8 < _; simp only [Around.in1]; omega) hkey dd fun h' dd' hs => ?_
    have f' : Paired (E3 X.K H) (dPut kvs k v) (storedH xs j b r) := e3_put hj pk pv rz f
    obtain ⟨raw, r1, r2⟩ := e3_split f'
    obtain ⟨o, es, ep, q1, q2, q3, q4, _, q5⟩ := dd'
    have hz : raw.length ≤ sizeLine := by
      have := dPut_length kvs k v
      rw [paired_len r1]; omega
    have new : DicP X.w a raw h' := ⟨hz, hd, storedH xs j b r, r2, o, es, ep, q1, q2, q3, q4, q5⟩
    refine h (DicT X.w a raw) _ mu (d_write I mu hs ⟨o, q1⟩ (DicT.ok new)) (.inr ⟨raw, dPut_ne kvs k v, upd_same, ?_⟩)
    exact Paired.mapP r1 fun _ _ z => ⟨z.1, z.2.1.mono (Pers.put (.inl mu)), z.2.2.mono (Pers.put (.inl mu))⟩
/-- d.get(k, x) -/
theorem dr_get2 {d : D} {Q : Value → Shared → Prop} (hu : A.units + 70 < cLine) (I : Inv X pins σ H s) (g : DicR X.K X.w H a kvs) (ok : kOk kvs k = true) (pk : Pd X.K H y k) (ry : RelV y u) (pz : Pd X.K H z d) (rz : RelV z r)
    (h : ∀ x w' s', Inv X pins σ H s' → Pd X.K H x ((dAt kvs k).getD d) → RelV x w' → Q w' s') : wpAny (model X.prog X.w) A (call (.builtin "dict.get") [.ref a, u, r]) Q E s := by
  rcases dic_cases I g ok pk ry with ⟨raw, j, e, f, hj, rfl⟩ | ⟨xs, j, b, dd, f, zl, hd, mu, hj, rfl, rfl, hkey⟩
  · refine d_get2 (by omega) I (DGet.k e) ry rz fun w' s' I' rr => ?_
    rcases f2_at hj f with ⟨q1, q2⟩ | ⟨d2, x, q1, q2, q3⟩
    · rw [q2] at rr; exact h z w' s' I' (by rw [q1]; exact pz) rr
    · rw [q2] at rr; exact h x w' s' I' (by rw [q1]; exact q3) rr
  · refine call_meetsIn PySem.F.slot_dict_get dd.typeIs PySem.F.entry_dict_get (PySem.F.args_dict_get_3 _ _ _) (meetsH_dict_get_default (nestedKind X.prog X.w) a b hd r) ⟨(by show _ + 8 < _; simp only [Around.in1]; omega), j, xs, hkey, dd, ?_⟩
    rcases e3_at hj f with ⟨q1, q2⟩ | ⟨d2, p, x, q1, q2, q3, q4⟩
    · rw [q2]; exact h z r _ (I.tok _) (by rw [q1]; exact pz) rz
    · rw [q2]; exact h x p.2 _ (I.tok _) (by rw [q1]; exact q3) q4
end
end Fz
end

section
set_option Elab.async false
set_option linter.all false
set_option maxRecDepth 100000
set_option maxHeartbeats 4000000
/-! F32: dicts of slots: d[k], in, d[k] = v, {}, moved out. -/
namespace Fz
open PySem PySem.Spec PyProof.Rows L2
def dicAt (S : FS) (i : Nat) : Option (List (D × D)) := match S[i]? with
  | some (some (.own (.dic kvs))) => some kvs
  | some (some (.pin (.dic kvs))) => some kvs
  | _ => none
theorem Rel.dic {K : Fg} {F : Fx} {S : FS} {σ : Sl} {H : Hp} {i : Nat} {kvs : List (D × D)} (r : Rel K F S σ H) (h : dicAt S i = some kvs) : ∃ a, σ[i]? = some (some (.ref a)) ∧ DicR K F.w H a kvs ∧
    ∀ ob kvs', Mut (H a) → DicR K F.w (upd H a ob) a kvs' → Rel K F (setOb S i (.dic kvs')) σ (upd H a ob) ∧ Pers H (upd H a ob) := by
  have main : ∀ (mk : Ob → SV), (∀ z, setOb S i z = S.set i (some (mk z))) → S[i]? = some (some (mk (.dic kvs))) → (∀ z, mk z = .own z) ∨ (∀ z, mk z = .pin z) → ∃ a, σ[i]? = some (some (.ref a)) ∧ DicR K F.w H a kvs ∧
      ∀ ob kvs', Mut (H a) → DicR K F.w (upd H a ob) a kvs' → Rel K F (setOb S i (.dic kvs')) σ (upd H a ob) ∧ Pers H (upd H a ob) := by
    intro mk ep hs hm
    have ow : S[i]? = some (some (.own (.dic kvs))) ∨ S[i]? = some (some (.pin (.dic kvs))) := by
      rcases hm with hm | hm
      · exact .inl (by rw [hs, hm])
      · exact .inr (by rw [hs, hm])
    obtain ⟨a, ea, hv, h0⟩ := r.obj ow
    refine ⟨a, ea, hv, fun ob kvs' hmu hv' => ?_⟩
    have pp : Pers H (upd H a ob) := Pers.put (.inl hmu)
    have hl : i < S.length := (List.getElem?_eq_some_iff.mp hs).1
    have oi : Owned S i := ⟨_, ow⟩
    refine ⟨?_, pp⟩
    rw [ep (.dic kvs')]
    refine r.put (.inl hmu) h0 (fun p hp e' => (r.held p hp).2.2 i oi (e' ▸ ea)) (List.length_set ..) (fun j sv2 ej => ?_) fun j ⟨ob, hj⟩ => ?_
    · by_cases hj : j = i
      · subst hj
        rw [List.getElem?_set_self hl] at ej
        cases ej
        refine .inr ⟨_, ea, ?_⟩
        obtain ⟨x, ex, sr⟩ := r.slot j _ hs
        rw [ea] at ex; cases ex
        rcases hm with hm | hm
        · rw [hm] at sr
          rw [hm]
          obtain ⟨b, eb, _, n⟩ := sr
          cases eb
          exact ⟨a, rfl, hv', n⟩
        · rw [hm] at sr
          rw [hm]
          obtain ⟨b, eb, _, n⟩ := sr
          cases eb
          exact ⟨a, rfl, hv', n⟩
      · rw [List.getElem?_set_ne (Ne.symm hj)] at ej
        exact .inl ⟨ej, fun oj => r.apart i j a (Ne.symm hj) oi oj ea⟩
    · by_cases hj2 : j = i
      · subst hj2; exact oi
      · rw [List.getElem?_set_ne (Ne.symm hj2)] at hj; exact ⟨ob, hj⟩
  unfold dicAt at h
  split at h
  · rename_i d hd
    cases h
    exact main (fun z => .own z) (fun z => by unfold setOb; rw [hd]) hd (.inl fun _ => rfl)
  · rename_i d hd
    cases h
    exact main (fun z => .pin z) (fun z => by unfold setOb; rw [hd]) hd (.inr fun _ => rfl)
  · cases h
def wDic {α : Type} (i : Nat) (k : List (D × D) → FS → Res α) : FS → Res α := fun S => match dicAt S i with
  | some kvs => k kvs S
  | none => .bad
def wDicS (i : Nat) (k : List (D × D) → FS → SRes) : FS → SRes := fun S => match dicAt S i with
  | some kvs => k kvs S
  | none => .bad
section
variable {K : Fg} {F : Fx} {S : FS} {σ : Sl} {H : Hp} {i : Nat}
theorem wDic_in {α β : Type} {R : GRel β α} {k : List (D × D) → FS → Res α} {Q : β → Hp → Prop} (p : postG K F R (wDic i k S) σ H Q) : ∃ kvs, dicAt S i = some kvs ∧ postG K F R (k kvs S) σ H Q := by
  unfold wDic at p
  cases e : dicAt S i with
  | none => rw [e] at p; exact p.elim
  | some ds => rw [e] at p; exact ⟨ds, rfl, p⟩
theorem wDicS_in {k : List (D × D) → FS → SRes} {D' : Ends} (p : postS K F (wDicS i k S) D' H) : ∃ kvs, dicAt S i = some kvs ∧ postS K F (k kvs S) D' H := by
  unfold wDicS at p
  cases e : dicAt S i with
  | none => rw [e] at p; exact p.elim
  | some ds => rw [e] at p; exact ⟨ds, rfl, p⟩
end
/-- d[k] -/
def fDIx (i : Nat) (f : FS → Res D) : FS → Res D := wDic i fun _ => bnd f fun k => wDic i fun kvs S => match kOk kvs k, dAt kvs k with
  | true, some v => .ok v S
  | _, _ => .bad
/-- k in d, k not in d -/
def fDIn (b : Bool) (i : Nat) (f : FS → Res D) : FS → Res D := bnd f fun k => wDic i fun kvs S => match kOk kvs k with
  | true => .ok (.bool (xor (!b) (dHas kvs k))) S
  | false => .bad
/-- d[k] = v -/
def fDPut (i : Nat) (fe fk : FS → Res D) : FS → SRes := bndS fe fun v => wDicS i fun _ => bndS fk fun k => wDicS i fun kvs S => match kOk kvs k, decide (kvs.length < sizeLine) with
  | true, true => .nx (setOb S i (.dic (dPut kvs k v)))
  | _, _ => .bad
/-- d.get(k, x) -/
def fDGet2 (i : Nat) (fk fx : FS → Res D) : FS → Res D := wDic i fun _ => bnd fk fun k => bnd fx fun x => wDic i fun kvs S => match kOk kvs k with
  | true => .ok ((dAt kvs k).getD x) S
  | false => .bad
/-- {} -/
def fDNew : FS → Res SV := fun S => .ok (.own (.dic [])) S
section
variable {X : Cx} {F : Fx} {o e ke : Expr} {i : Nat} {pos apos cpos p1 : Pos} {f fe fk fx : FS → Res D}
theorem e_dix (hu : X.A.units + 70 < cLine) (ho : PE X o (tVar i)) (hk : ED X F ke f) (hw : F.w = X.w := by rfl) (hs : NoSl ke := by intro _ _; rfl) : ED X F (.Subscript o ke pos) (fDIx i f) := by
  refine ⟨fun pins s σ H Q I ⟨S, r, p⟩ => ?_⟩
  obtain ⟨kvs0, e0, p⟩ := wDic_in p
  obtain ⟨a, ea, _, _⟩ := r.dic e0
  refine subD_of PySem.F.slot_dict_getitem.lookup hs (thn (ho.run pins s σ H (fun x H' => x = .ref a ∧ H' = H) I ⟨_, ea, rfl, rfl⟩) fun u s1 ⟨x, H1, I1, rx, ex, eH⟩ => ?_)
  subst ex eH
  obtain rfl : u = Value.ref a := rx
  refine thn (hk.run pins s1 σ H1 _ I1 (rdG.bind (R' := PR) ⟨S, r, p⟩)) fun iv s2 ⟨y, H2, I2, ry, k, S2, r2, v2, p2, q2⟩ => ?_
  obtain ⟨kvs, e2, q2⟩ := wDic_in q2
  obtain ⟨a2, ea2, g, _⟩ := r2.dic e2
  rw [ea] at ea2; cases ea2
  rw [hw] at g
  have hty : s2.TypeIs (.ref a) "dict" := by
    obtain ⟨_, _, o, es, ep, h1, h2, _⟩ := dic_raw I2 g
    exact ⟨o, h1, h2.1⟩
  refine ⟨hty, ?_⟩
  cases ok : kOk kvs k with
  | false => rw [ok] at q2; exact q2.elim
  | true =>
    cases l : dAt kvs k with
    | none => rw [ok, l] at q2; exact q2.elim
    | some v =>
      rw [ok, l] at q2
      exact dr_getItem hu I2 g ok v2 ry l fun x w' s3 I3 px rx => ⟨x, H2, I3, rx, q2.ok r2 px⟩
theorem pc_dinF {b : Bool} {op : CmpOp} (hb : op = if b then CmpOp.In else CmpOp.NotIn) (hu : X.A.units + 70 < cLine) (hk : ED X F ke f) (ho : PE X o (tVar i)) (hw : F.w = X.w) : PC X op ke o (rdG X.K F PR (fDIn b i f)) := by
  refine ⟨fun pins s σ H Q I h => ?_⟩
  refine thn (hk.run pins s σ H _ I (rdG.bind h)) fun iv s1 ⟨y, H1, I1, ry, k, S1, r1, v1, p1, q1⟩ => ?_
  obtain ⟨kvs, e1, q1⟩ := wDic_in q1
  obtain ⟨a, ea, g, _⟩ := r1.dic e1
  rw [hw] at g
  refine thn (ho.run pins s1 σ H1 (fun x H' => x = .ref a ∧ H' = H1) I1 ⟨_, ea, rfl, rfl⟩) fun u s2 ⟨x, H2, I2, rx, ex, eH⟩ => ?_
  subst ex eH
  obtain rfl : u = Value.ref a := rx
  cases ok : kOk kvs k with
  | false => rw [ok] at q1; exact q1.elim
  | true =>
    rw [ok] at q1
    cases b with
    | true => subst hb; exact dr_in hu I2 g ok v1 ry fun s3 I3 => ⟨.bl (dHas kvs k), H2, I3, rfl, q1.ok r1 (by cases dHas kvs k <;> exact .bl _)⟩
    | false => subst hb; exact dr_notIn hu I2 g ok v1 ry fun s3 I3 => ⟨.bl (!dHas kvs k), H2, I3, rfl, q1.ok r1 (by cases dHas kvs k <;> exact .bl _)⟩
theorem e_din (hu : X.A.units + 70 < cLine) (hk : ED X F ke f) (ho : PE X o (tVar i)) (hw : F.w = X.w := by rfl) (h1 : behindInMarks .In o = false := by rfl) : ED X F (.Compare ke [.In] [o] pos) (fDIn true i f) := pe_cmp (pc_dinF (b := true) rfl hu hk ho hw) h1
theorem e_dnin (hu : X.A.units + 70 < cLine) (hk : ED X F ke f) (ho : PE X o (tVar i)) (hw : F.w = X.w := by rfl) (h1 : behindInMarks .NotIn o = false := by rfl) : ED X F (.Compare ke [.NotIn] [o] pos) (fDIn false i f) := pe_cmp (pc_dinF (b := false) rfl hu hk ho hw) h1
theorem t_din (hu : X.A.units + 70 < cLine) (hk : ED X F ke f) (ho : PE X o (tVar i)) (hw : F.w = X.w := by rfl) (h1 : behindInMarks .In o = false := by rfl) : ET X F (.Compare ke [.In] [o] pos) (fT (fDIn true i f)) :=
  (pt_cmp (pc_dinF (b := true) rfl hu hk ho hw) h1).via fun σ H Q h => (rdG.bindT h).imp fun x H1 ⟨d, S1, r, v, p, q⟩ => by
    cases d with
    | bool b => cases v; exact ⟨b, rfl, q.ok r⟩
    | _ => exact q.elim
theorem t_dnin (hu : X.A.units + 70 < cLine) (hk : ED X F ke f) (ho : PE X o (tVar i)) (hw : F.w = X.w := by rfl) (h1 : behindInMarks .NotIn o = false := by rfl) : ET X F (.Compare ke [.NotIn] [o] pos) (fT (fDIn false i f)) :=
  (pt_cmp (pc_dinF (b := false) rfl hu hk ho hw) h1).via fun σ H Q h => (rdG.bindT h).imp fun x H1 ⟨d, S1, r, v, p, q⟩ => by
    cases d with
    | bool b => cases v; exact ⟨b, rfl, q.ok r⟩
    | _ => exact q.elim
theorem s_dput (hu : X.A.units + 70 < cLine) (ho : PE X o (tVar i)) (he : ED X F e fe) (hk : ED X F ke fk) (hw : F.w = X.w := by rfl) (hs : swapsWith e (some (.Subscript o ke p1)) pos.line X.env = pure false := by rfl) :
    ES X F (.Assign [.Subscript o ke p1] e pos) (fDPut i fe fk) := by
  refine ⟨fun pins s σ H D I ⟨S, r, p⟩ => ?_⟩
  refine wpAny_Assign_Subscript (thn (he.run pins s σ H _ I (rdG.bindS (R := PR) ⟨S, r, p⟩)) fun rv s1 ⟨z, H1, I1, rz, v, S1, r1, v1, p1, q1⟩ => ?_) hs
  obtain ⟨kvs0, e1, q1⟩ := wDicS_in q1
  obtain ⟨a, ea, _, _⟩ := r1.dic e1
  refine thn (ho.run pins s1 σ H1 (fun x H' => x = .ref a ∧ H' = H1) I1 ⟨_, ea, rfl, rfl⟩) fun u s2 ⟨x, H2, I2, rx, ex, eH⟩ => ?_
  subst ex eH
  obtain rfl : u = Value.ref a := rx
  refine thn (hk.run pins s2 σ H2 _ I2 (rdG.bindS (R := PR) ⟨S1, r1, q1⟩)) fun iv s3 ⟨y, H3, I3, ry, k, S3, r3, v3, p3, q3⟩ => ?_
  obtain ⟨kvs, e3, q3⟩ := wDicS_in q3
  obtain ⟨a2, ea2, g, put⟩ := r3.dic e3
  rw [ea] at ea2; cases ea2
  rw [hw] at g put
  cases ok : kOk kvs k with
  | false => rw [ok] at q3; exact q3.elim
  | true =>
    cases hl : decide (kvs.length < sizeLine) with
    | false => rw [ok, hl] at q3; exact q3.elim
    | true =>
      rw [ok, hl] at q3
      refine dr_setItem hu I3 g ok (of_decide_eq_true hl) v3 ry (Pd.mono p3 v1) rz fun ob s4 mu I4 g4 => ?_
      obtain ⟨r4, p4⟩ := put ob _ mu g4
      exact ⟨σ, _, I4, q3 σ _ p4 r4⟩
theorem e_dnew : EV X F (.Dict [] [] pos) fDNew := pe_dnewK.via fun σ H Q ⟨S, r, p⟩ q hq =>
  p _ _ (Pers.new hq) (r.new hq) ⟨q, rfl, .inl ⟨[], upd_same, .nil⟩, r.none0 hq, fun j hj => r.unslot hq hj, fun z hz e => by obtain ⟨h1, _⟩ := r.held z hz; rw [e, hq] at h1; cases h1⟩
theorem e_dget2 (hu : X.A.units + 70 < cLine) (ho : PE X o (tVar i)) (hk : ED X F ke fk) (hx : ED X F e fx) (m : M2 X o "get" apos ke e cpos) (hw : F.w = X.w := by rfl) : ED X F (.Call (.Attribute o "get" apos) [ke, e] [] cpos) (fDGet2 i fk fx) := by
  refine ⟨fun pins s σ H Q I ⟨S, r, p⟩ => ?_⟩
  obtain ⟨kvs0, e0, p⟩ := wDic_in p
  obtain ⟨a, ea, g0, _⟩ := r.dic e0
  rw [hw] at g0
  refine wpAny_Call_method m.base m.few m.line PySem.F.plainAttrs_dict PySem.F.slot_dict_get PySem.F.type_dict_get (thn (ho.run pins s σ H (fun x H' => x = .ref a ∧ H' = H) I ⟨_, ea, rfl, rfl⟩) fun u s1 ⟨x, H1, I1, rx, ex, eH⟩ => ?_)
  subst ex eH
  obtain rfl : u = Value.ref a := rx
  obtain ⟨_, _, ob, es, ep, h1, h2, _⟩ := dic_raw I1 g0
  refine ⟨⟨ob, h1, h2.1⟩, fun b q => by cases q; exact ⟨ob, h1, h2.2.1⟩, ?_⟩
  rw [m.trees]
  refine Calls.callWith_builtin rfl (Calls.evalArgs_plain (Calls.spliced_cons (thn (hk.run pins s1 σ H1 _ I1 (rdG.bind (R' := PR) ⟨S, r, p⟩)) fun iv s2 ⟨y, H2, I2, ry, k, S2, r2, v2, p2, q2⟩ => ?_)))
  refine Calls.spliced_cons (thn (hx.run pins s2 σ H2 _ I2 (rdG.bind (R' := PR) ⟨S2, r2, q2⟩)) fun fv s3 ⟨z, H3, I3, rz, x, S3, r3, v3, p3, q3⟩ => Calls.spliced_nil ?_)
  obtain ⟨kvs, e3, q3⟩ := wDic_in q3
  obtain ⟨a2, ea2, g, _⟩ := r3.dic e3
  rw [ea] at ea2; cases ea2
  rw [hw] at g
  cases ok : kOk kvs k with
  | false => rw [ok] at q3; exact q3.elim
  | true =>
    rw [ok] at q3
    exact dr_get2 hu I3 g ok (Pd.mono p3 v2) ry v3 rz fun w w' s4 I4 pw rw' => ⟨w, H3, I4, rw', q3.ok r3 pw⟩
end
end Fz
end

section
set_option Elab.async false
set_option linter.all false
set_option maxRecDepth 100000
set_option maxHeartbeats 4000000
/-! F33: a dict's keys: list(d), sorted(d). -/
namespace Fz
open PySem PySem.Spec PyProof.Rows L2
section
theorem keys_flat {K : Fg} {H : Hp} {P : Program} {w : World} {es : List DictEntry} {vs : List (Key × Value)} (hp : Pairs (mixKind P w) es vs) : ∀ {raw : List (Key × V)} {kvs : List (D × D)}, KV raw vs → F2 K H raw kvs →
    PdAll K H (raw.map fun p => kV p.1) (kvs.map (·.1)) ∧ Vals (raw.map fun p => kV p.1) (es.map (·.key)) := by
  induction hp with
  | nil => intro raw kvs kv f; cases kv; cases f; exact ⟨.nil, .nil⟩
  | @cons e kv0 es vs h1 h2 _ ih =>
    intro raw kvs kv f
    cases kv with
    | cons g1 g2 =>
      cases f with
      | cons f1 f2 =>
        obtain ⟨i1, i2⟩ := ih g2 f2
        have e1 := g1.1
        refine ⟨.cons ?_ i1, .cons ?_ i2⟩
        · dsimp only
          rcases fk_nk f1.1 with ⟨i, e1, e2⟩ | ⟨x, e1, e2⟩
          · rw [e1, e2]; exact .int i
          · rw [e1, e2]; exact .str x
        · have h3 : keyIs kv0.1 e.key = true := h1
          dsimp only
          rw [e1]
          rcases keyIs_shape h3 with ⟨i, t, q1, q2⟩ | ⟨x, t, q1, q2⟩
          · rw [q1, q2]; exact ⟨t, rfl⟩
          · rw [q1, q2]; exact ⟨t, rfl⟩
theorem keys_tup {K : Fg} {H : Hp} {w : World} : ∀ {raw : List (NestedKey × Addr × V)} {kvs : List (D × D)} {xs : List (NestedKey × Addr × Value)},
    Paired (fun (p : NestedKey × Addr × V) (q : D × D) => tk q.1 = some p.1 ∧ Pd K H (.ref p.2.1) q.1 ∧ Pd K H p.2.2 q.2) raw kvs → Paired (fun (p : NestedKey × Addr × V) (q : NestedKey × Addr × Value) => p.1 = q.1 ∧ p.2.1 = q.2.1 ∧ RelV p.2.2 q.2.2) raw xs →
    PdAll K H (raw.map fun p => .ref p.2.1) (kvs.map (·.1)) ∧ Vals (raw.map fun p => .ref p.2.1) ((xs.map (fun x => (⟨x.1.hash w, .ref x.2.1, x.2.2⟩ : DictEntry))).map (·.key))
  | _, _, _, .nil, .nil => ⟨.nil, .nil⟩
  | _, _, _, .cons h r, .cons g t => by
    obtain ⟨i1, i2⟩ := keys_tup (w := w) r t
    exact ⟨.cons h.2.1 i1, .cons (by dsimp only; rw [g.2.1]; rfl) i2⟩
variable {X : Cx} {pins : List (Addr × Obj)} {σ : L2.St} {H : Hp} {s : Shared} {a : Addr} {kvs : List (D × D)} {A : Around} {E : Value → Shared → Prop}
/-- the keys, as they stand -/
theorem dic_keys (I : Inv X pins σ H s) (g : DicR X.K X.w H a kvs) : kvs.length ≤ sizeLine ∧ (a == sysModules) = false ∧ ∃ es ep ks, s.heap.DictRaw a es ep ∧ es.size = kvs.length ∧ PdAll X.K H ks (kvs.map (·.1)) ∧ Vals ks (es.toList.map (·.key)) := by
  rcases g with ⟨raw, e, f⟩ | ⟨raw, n, e, f⟩
  · obtain ⟨z, hd, vs, rel, o, es, ep, h1, h2, h3, h4, h5, h6⟩ := dk_of I.hok e
    obtain ⟨k1, k2⟩ := keys_flat h5 rel f
    refine ⟨by rw [← paired_len f]; exact z, hd, es, ep, _, ⟨o, h1, h2, h3⟩, ?_, k1, k2⟩
    have l1 : (es.toList.map (·.key)).length = kvs.length := by rw [← k2.length, List.length_map, paired_len f]
    rwa [List.length_map, Array.length_toList] at l1
  · obtain ⟨z, hd, xs, f2, o, es, ep, h1, h2, h3, h4, _⟩ := ext_get I e
    obtain ⟨k1, k2⟩ := keys_tup (w := X.w) f f2
    rw [← h4] at k2
    refine ⟨by rw [← paired_len f]; exact z, hd, es, ep, _, ⟨o, h1, h2, h3⟩, ?_, k1, k2⟩
    have l1 : (es.toList.map (·.key)).length = kvs.length := by rw [← k2.length, List.length_map, paired_len f]
    rwa [List.length_map, Array.length_toList] at l1
theorem src_raw {prog : Program} {w : World} {d : Addr} {es : Array DictEntry} {ep : Nat} (lo : (d == sysModules) = false) : PySem.W.KdlSrc prog w "dict" d d es.size (fun i v => ∃ hi : i < es.size, v = es[i].key) (fun h => h.DictRaw d es ep) where
  type := fun _ hm => hm.typeIs
  there := fun h hm => ⟨let ⟨_, ho, _⟩ := hm; Heap.lt_size ho, let ⟨_, ho, _⟩ := hm; Heap.lt_size ho⟩
  keep := fun _ _ hm hk => hm.at fun o e => hk d (.inl rfl) o e
  notList := by decide
  notTuple := by decide
  hint := fun _ _ _ _ hm hq => PySem.W.kdl_hint_dict hm.typeIs hq
  iter := fun _ s hh hm => by
    have hlt : d < s.heap.objs.size := by obtain ⟨_, ho, _⟩ := hm; exact Heap.lt_size ho
    exact ⟨_, _, (fun _ _ hq => wpAny_pyIter_dict_raw lo hm hq), Walks.rawKeys hh _ d (Nat.ne_of_lt hlt) es ep, ⟨⟨_, Heap.get?_push_size _ rfl, rfl, rfl⟩, hm.at fun o e => Heap.get?_push_of_some _ e⟩⟩
theorem items_keys {es : Array DictEntry} {acc : Array Value} (h : ItemsOf (fun i v => ∃ hi : i < es.size, v = es[i].key) acc es.size) : acc.toList = es.toList.map (·.key) := by
  apply List.ext_getElem?
  intro j
  rw [List.getElem?_map, Array.getElem?_toList, Array.getElem?_toList]
  by_cases hj : j < es.size
  · have h1 : j < acc.size := by rw [h.1]; exact hj
    obtain ⟨_, e⟩ := h.2 j acc[j] (Array.getElem?_eq_getElem h1)
    rw [Array.getElem?_eq_getElem h1, Array.getElem?_eq_getElem hj, e]
    rfl
  · rw [Array.getElem?_eq_none (by rw [h.1]; omega), Array.getElem?_eq_none (by omega)]
    rfl
/-- list(d) -/
def rListD (X : Cx) : List V → Hp → VK → Prop := fun vs H Q => ∃ (a : Addr) (kvs : List (D × D)), vs = [.ref a] ∧ DicR X.K X.w H a kvs ∧ ∀ ks p, PdAll X.K H ks (kvs.map (·.1)) → H p = none → Q (.ref p) (upd H p (.lst ks))
theorem cr_listD (hc : X.calm = true) : CallR X (.type "list") (rListD X) := by
  intro pins s σ H vs us Q I r h
  obtain ⟨a, kvs, rfl, g, q⟩ := h
  obtain ⟨u, rfl, ru⟩ := vals1 r
  obtain rfl : u = Value.ref a := ru
  obtain ⟨hz, hd, es, ep, ks, raw, hn, k1, k2⟩ := dic_keys I g
  refine PySem.W.kdl_call (src_raw hd) (I.ok.hd hc) raw (by rw [hn]; exact hz) fun h' tk acc c kp ho it => ?_
  have e := items_keys it
  refine ⟨.ref s.heap.objs.size, upd H s.heap.objs.size (.lst ks), I.laid (t' := tk) kp (Nat.le_refl _) ⟨?_, acc.toList, c, by rw [e]; exact k2, by simpa using ho⟩, rfl, q ks _ k1 (I.hok.fresh (Nat.le_refl _))⟩
  rw [k1.length, List.length_map]; exact hz
end
def fKeys (i : Nat) : FS → Res SV := wDic i fun kvs S => .ok (.own (.lst (kvs.map (·.1)))) S
section
variable {X : Cx} {F : Fx} {o : Expr} {i : Nat} {pos p : Pos} {x : Str}
theorem e_listD (hc : X.calm = true) (hg : Gl X "list") (hm : X.mg "list" = none) (ho : PE X o (tVar i)) (hw : F.w = X.w := by rfl)
    (he : starEach [o] X.env = (false, eval o X.env) :: starEach [] X.env := by rfl) : EV X F (.Call (.Name "list" p) [o] [] pos) (fKeys i) :=
  (pe_callTy (cr_listD hc) hg hm (by decide +kernel) (pa_cons ho pa_nil he) (by decide) (by decide) he rfl).via fun σ H Q ⟨S, r, q⟩ => by
    obtain ⟨kvs, e, q⟩ := wDic_in q
    obtain ⟨a, ea, g, _⟩ := r.dic e
    rw [hw] at g
    exact ⟨_, ea, a, kvs, rfl, g, fun ks p h1 h2 => newList r h1 h2 q⟩
end
end Fz
end

section
set_option Elab.async false
set_option linter.all false
set_option maxRecDepth 100000
set_option maxHeartbeats 4000000
/-! F34: sorted(d), d a dict: the sorted list of its keys. -/
namespace Fz
open PySem PySem.Spec PyProof.Rows L2 SrtO Srt
section
variable {prog : Program} {w : World} {A : Around} {E : Value → Shared → Prop} {s : Shared}
/-- a dict's keys collected, with what is new above -/
theorem collect_src {T : String} {r d : Addr} {n : Nat} {P : Nat → Value → Prop} {OK : Heap → Prop} {R : List Value → Shared → Prop} (K : PySem.W.KdlSrc prog w T r d n P OK) (hh : A.handled = none) (hok : OK s.heap) (hn : n ≤ sizeLine)
    (h : ∀ (h' : Heap) (tk : Nat) (acc : Array Value), (∀ b o, s.heap.get? b = some o → h'.get? b = some o) → s.heap.objs.size ≤ h'.objs.size → ItemsOf P acc n → R acc.toList { s with heap := h', toks := tk }) :
    wpAny (model prog w) A (collect (.ref r)) R E s := by
  have hlt := K.there _ hok
  unfold collect
  refine wpAny_bind (wpAny_runValue (codeAny_builtin entry_proto_collect' ?_))
  rw [Around.under_plainId PySem.F.plain_proto_collect _]
  show wpAny _ A.in1 (PySem.newList [] >>= fun l => again (.builtin "list.__iadd__" ⟨[l, .ref r], []⟩)) _ _ s
  refine wpAny_bind (wpAny_newObj_type ?_)
  refine wpAny_pure ⟨plainId_quiet PySem.F.plain_list_iadd _, codeAny_builtin entry_list_iadd' ?_⟩
  rw [Around.under_plainId PySem.F.plain_list_iadd _]
  have hS₁ : (s.heap.push { cls := .type "list", data := .seq ([] : List Value).toArray }).get? s.heap.objs.size = some { cls := .type "list", data := .seq #[] } := Heap.get?_push_size _ rfl
  show wpAny _ A.in1 (Builtin.List.listExtendWith (.ref s.heap.objs.size) (.ref r) (.ref s.heap.objs.size)) _ _ _
  have key := PySem.W.kdl_extend (A := A) (s := { s with heap := s.heap.push { cls := .type "list", data := .seq ([] : List Value).toArray } })
    (R := fun (q : Result) (s' : Shared) => ∃ (h' : Heap) (tk : Nat) (acc' : Array Value) (c' : Nat), q = .ok (.ret (.ref s.heap.objs.size)) ∧ s' = { s with heap := h', toks := tk } ∧
      (∀ b o, s.heap.get? b = some o → h'.get? b = some o) ∧ h'.get? s.heap.objs.size = some { cls := .type "list", dict := none, data := .seq acc' c', slots := #[] } ∧ ItemsOf P acc' n)
    K hh (K.keep _ _ hok fun b _ o e => Heap.get?_push_of_some _ e) s.heap.objs.size (Nat.ne_of_gt hlt.1) (Nat.ne_of_gt hlt.2) (.ref s.heap.objs.size) 0 hS₁
    (fun h' tk acc' c' hk hS' hacc => ⟨h', tk, acc', c', rfl, rfl, fun b o e => hk b o (Nat.ne_of_lt (Heap.lt_size e)) (Heap.get?_push_of_some _ e), hS', hacc⟩) hn
  refine wpAny_mono key (fun fin s' x => ?_) fun e s' x => ?_
  · cases fin with
    | done f =>
      obtain ⟨h', tk, acc', c', e, rfl, hk, hS', hacc⟩ := x
      cases e
      show wpAny _ A (load s.heap.objs.size >>= _) _ _ _
      refine wpAny_bind (wpAny_load hS' ?_)
      exact wpAny_pure (h h' tk acc' hk (Nat.le_of_lt (Heap.lt_size hS')) hacc)
    | again c₁ =>
      refine ⟨x.1, codeAny_mono x.2 fun q s₂ y => ?_⟩
      obtain ⟨h', tk, acc', c', rfl, rfl, hk, hS', hacc⟩ := y
      show wpAny _ A (load s.heap.objs.size >>= _) _ _ _
      refine wpAny_bind (wpAny_load hS' ?_)
      exact wpAny_pure (h h' tk acc' hk (Nat.le_of_lt (Heap.lt_size hS')) hacc)
  · obtain ⟨_, _, _, _, e', _⟩ := x
    cases e'
/-- sorted of anything that is collected -/
theorem sorted_ordC {r : Value} {vs : List Value} {ltv : Value → Value → Bool} {Q : Value → Shared → Prop} (O : Swo ltv) (hz : vs.length ≤ sizeLine)
    (hcol : ∀ R : List Value → Shared → Prop, (∀ (h' : Heap) (tk : Nat), (∀ b o, s.heap.get? b = some o → h'.get? b = some o) → s.heap.objs.size ≤ h'.objs.size → R vs { s with heap := h', toks := tk }) → wpAny (model prog w) A.in1 (collect r) R E s)
    (hS : 2 ≤ vs.length → ∀ (h₁ : Heap) (tk : Nat) (a : Addr), (∀ b o, s.heap.get? b = some o → b ≠ a ∧ h₁.get? b = some o) → SortableO prog w A.in1.in1 { s with heap := h₁, toks := tk } a vs ltv)
    (h : ∀ (h' : Heap) (tk : Nat) (d : Addr) (out : List Value), Srtd ltv out → Stb ltv out vs → (∀ b o, s.heap.get? b = some o → h'.get? b = some o) → s.heap.objs.size ≤ d → (∃ n, h'.get? d = some (seqObj "list" out.toArray n)) → Q (.ref d) { s with heap := h', toks := tk }) :
    wpAny (model prog w) A (call (.builtin "sorted") [r]) Q E s := by
  refine Calls.call_function_entry kind_sorted plain_sorted entry_sorted (args_sorted1 _) ?_
  unfold Builtin.«sorted»
  refine wpAny_bind (m := checkCount "sorted" 1 1 _) (wpAny_pure ?_)
  refine wpAny_bind (hcol _ fun h' tk kp hle => ?_)
  refine wpAny_bind (wpAny_newList ?_ hz)
  have hoL : (h'.push (seqObj "list" vs.toArray 0)).get? h'.objs.size = some (seqObj "list" vs.toArray 0) := Heap.get?_push_size _ rfl
  have keep : ∀ b o, s.heap.get? b = some o → b ≠ h'.objs.size ∧ (h'.push (seqObj "list" vs.toArray 0)).get? b = some o := fun b o q =>
    ⟨Nat.ne_of_lt (Heap.lt_size (kp b o q)), Heap.get?_push_of_some _ (kp b o q)⟩
  refine wpAny_bind (wpAny_holding (wpAny_call_entry (s := { s with heap := h'.push (seqObj "list" vs.toArray 0), toks := tk }) slot_list_sort ⟨_, hoL, rfl⟩ entry_list_sort (list_sort_ord O hoL hz (fun h2 => hS h2 _ _ _ keep) fun out hs hb => ⟨_, rfl, ?_⟩) (args_list_sort _)))
  refine wpAny_pure ⟨_, rfl, h _ tk _ out hs hb (fun b o e => ?_) hle (sortedHeap_at hoL)⟩
  obtain ⟨k1, k2⟩ := keep b o e
  exact (sortedHeap_old k1 (Heap.lt_size k2)).trans k2
theorem sorted_dataC {r : Value} {vs : List Value} {ds : List PyData} {as : List Addr} {Q : Value → Shared → Prop} (hz : vs.length ≤ sizeLine) (hr : ReadsAll s.heap vs ds as) (ok : SortOk ds) (hu : A.units + 70 < cLine)
    (hcol : ∀ R : List Value → Shared → Prop, (∀ (h' : Heap) (tk : Nat), (∀ b o, s.heap.get? b = some o → h'.get? b = some o) → s.heap.objs.size ≤ h'.objs.size → R vs { s with heap := h', toks := tk }) → wpAny (model prog w) A.in1 (collect r) R E s)
    (h : ∀ (k : Value → PyData), (∀ v d as, Reads s.heap v d as → plainD d = true → d.canLay0 = true → k v = d) → ∀ (h' : Heap) (tk : Nat) (d : Addr) (out : List Value), out.Perm vs → out.map k = sortD ds → (∀ b o, s.heap.get? b = some o → h'.get? b = some o) → s.heap.objs.size ≤ d → (∃ n, h'.get? d = some (seqObj "list" out.toArray n)) → Q (.ref d) { s with heap := h', toks := tk }) :
    wpAny (model prog w) A (call (.builtin "sorted") [r]) Q E s := by
  let k : Value → PyData := fun v => open Classical in if h : ∃ d as, Reads s.heap v d as ∧ plainD d = true ∧ d.canLay0 = true then h.choose else .none
  have hk : ∀ v d as, Reads s.heap v d as → plainD d = true → d.canLay0 = true → k v = d := fun v d as r hp hc => by
    have hx : ∃ d as, Reads s.heap v d as ∧ plainD d = true ∧ d.canLay0 = true := ⟨d, as, r, hp, hc⟩
    have e : k v = hx.choose := dif_pos hx
    rw [e]
    obtain ⟨as', r', _, hc'⟩ := hx.choose_spec
    exact SeqAt.Reads.unique _ _ v as' as hc' r' r
  have hds : ∀ d ∈ ds, plainD d = true ∧ d.canLay0 = true := fun d hd => ⟨(ok.1 d hd).1, (shaped_depth (ok.1 d hd).2).1⟩
  have hm : ∀ v ∈ vs, k v ∈ ds ∧ ∃ as, Reads s.heap v (k v) as := fun v hv => by
    obtain ⟨d, hd, as, r⟩ := readsAll_mem hr v hv
    have e := hk v d as r (hds d hd).1 (hds d hd).2
    rw [e]
    exact ⟨hd, as, r⟩
  have O : Swo (fun v u => lx (enc (k v)) (enc (k u))) := lx_swo fun v => enc (k v)
  refine sorted_ordC O hz hcol (fun h2 h₁ tk a kk => ?_) fun h' tk d out hs hb kp hd hn => ?_
  · intro h' keep
    have kp : ∀ b o, s.heap.get? b = some o → h'.get? b = some o := fun b o e => keep b o (kk b o e).1 (kk b o e).2
    have hR : ∀ v ∈ vs, RdP h' v (k v) := fun v hv => by
      obtain ⟨hd, as, r⟩ := hm v hv
      exact ⟨(hds _ hd).1, as, reads_keep kp (hds _ hd).1 r⟩
    obtain ⟨κ, h1, h2⟩ := kind_wp (prog := prog) (w := w) (A := A.in1.in1) (s := { s with heap := h', toks := tk }) (vs := vs) (ds := ds) fun v hv => ⟨k v, (hm v hv).1, hR v hv⟩
    refine ⟨κ, fun Q' E' q => h1 E' Q' q, cmp_data k hR (fun v hv u hu' => ?_) ?_⟩
    · have hv' := (hm v hv).1
      have hu'' := (hm u hu').1
      have dv := shaped_depth (ok.1 _ hv').2
      have du := shaped_depth (ok.1 _ hu'').2
      have un : A.in1.in1.units = A.units + 2 := rfl
      exact ⟨ok.2 _ hv' _ hu'', (ok.1 _ hv').1, (ok.1 _ hu'').1, dv.1, du.1, by omega⟩
    · rcases h2 with h2 | h2 | ⟨h2, h3⟩
      · exact .inl h2
      · exact .inr (.inl h2)
      · refine .inr (.inr ⟨h2, fun v hv => ?_⟩)
        obtain ⟨d, hd, ⟨hp, as, r⟩, xs, rfl⟩ := h3 v hv
        obtain ⟨hp', as', r'⟩ := hR v hv
        exact ⟨xs, SeqAt.Reads.unique _ _ v as' as (hds _ (hm v hv).1).2 r' r⟩
  · refine h k hk _ tk _ out hb.perm ?_ kp hd hn
    have e1 := readsAll_map hk hr hds
    rw [← e1]
    exact sortD_uniq (srtd_map hs) (Stb.map ltE_swo k hb)
end
section
variable {X : Cx} {F : Fx}
def rSortDic (X : Cx) : List V → Hp → VK → Prop := fun vs H Q => ∃ (a : Addr) (kvs : List (D × D)), vs = [.ref a] ∧ DicR X.K X.w H a kvs ∧ SortOk (kvs.map (·.1)) ∧ ∀ ys p, PdAll X.K H ys (sortD (kvs.map (·.1))) → H p = none → Q (.ref p) (upd H p (.lst ys))
theorem cr_sortDic (hc : X.calm = true) (hu : X.A.units + 70 < cLine) : CallR X (.builtin "sorted") (rSortDic X) := by
  intro pins s σ H vs us Q I r h
  obtain ⟨a, kvs, rfl, g, ok, q⟩ := h
  obtain ⟨u, rfl, ru⟩ := vals1 r
  obtain rfl : u = Value.ref a := ru
  obtain ⟨hz, hd, es, ep, xs, raw, hsz, hx, rv⟩ := dic_keys I g
  obtain ⟨as, hr⟩ := Dp.readsAll I (kvs.map (·.1)) xs (es.toList.map (·.key)) (PdAll.dp hx) rv
  have hln : (es.toList.map (·.key)).length = kvs.length := by rw [List.length_map, Array.length_toList, hsz]
  refine sorted_dataC (by rw [hln]; exact hz) hr ok hu (fun R hR => ?_) fun k hk h' tk d out hp ho kp hd hn => ?_
  · refine collect_src (A := X.A.in1) (src_raw hd) (I.ok.hd hc) raw (by rw [hsz]; exact hz) fun h' tk acc kp hle it => ?_
    rw [items_keys it]
    exact hR h' tk kp hle
  have hds : ∀ d ∈ kvs.map (·.1), plainD d = true ∧ d.canLay0 = true := fun d hd => ⟨(ok.1 d hd).1, (shaped_depth (ok.1 d hd).2).1⟩
  have ex : ∀ v ∈ es.toList.map (·.key), ∃ x, RelV x v ∧ Pd X.K H x (k v) := fun v hv => by
    obtain ⟨x, hxm, rx⟩ := vals_mem rv v hv
    obtain ⟨d, hdm, pd⟩ := pdAll_mem hx x hxm
    obtain ⟨as', r'⟩ := Dp.reads I d x v pd.dp rx
    rw [hk v d as' r' (hds d hdm).1 (hds d hdm).2]
    exact ⟨x, rx, pd⟩
  let g : Value → V := fun v => open Classical in if h : ∃ x, RelV x v ∧ Pd X.K H x (k v) then h.choose else .non
  have hg : ∀ v ∈ es.toList.map (·.key), RelV (g v) v ∧ Pd X.K H (g v) (k v) := fun v hv => by
    have hx := ex v hv
    have e : g v = hx.choose := dif_pos hx
    rw [e]; exact hx.choose_spec
  have hmem : ∀ v ∈ out, v ∈ es.toList.map (·.key) := fun v hv => hp.mem_iff.mp hv
  have hv : ∀ l : List Value, (∀ v ∈ l, v ∈ es.toList.map (·.key)) → Vals (l.map g) l ∧ PdAll X.K H (l.map g) (l.map k) := fun l => by
    induction l with
    | nil => intro _; exact ⟨.nil, .nil⟩
    | cons v l ih =>
      intro hm
      obtain ⟨a1, a2⟩ := hg v (hm v (by simp))
      obtain ⟨b1, b2⟩ := ih fun u hu => hm u (List.mem_cons_of_mem _ hu)
      exact ⟨.cons a1 b1, .cons a2 b2⟩
  obtain ⟨v1, v2⟩ := hv out hmem
  obtain ⟨n, hn⟩ := hn
  rw [ho] at v2
  refine ⟨.ref d, upd H d (.lst (out.map g)), I.laid (t' := tk) kp hd ⟨?_, out, n, v1, hn⟩, rfl, q _ d v2 (I.hok.fresh hd)⟩
  rw [List.length_map, hp.length_eq, hln]
  exact hz
noncomputable def fSortDic (i : Nat) : FS → Res SV := wDic i fun kvs S => @ite _ (SortOk (kvs.map (·.1))) (Classical.propDecidable _) (.ok (.own (.lst (sortD (kvs.map (·.1))))) S) .bad
theorem e_sortDic {o : Expr} {i : Nat} {pos p : Pos} (hc : X.calm = true) (hu : X.A.units + 70 < cLine) (hg : Gl X "sorted") (hm : X.mg "sorted" = none) (ho : PE X o (tVar i)) (hw : F.w = X.w := by rfl)
    (he : starEach [o] X.env = (false, eval o X.env) :: starEach [] X.env := by rfl) : EV X F (.Call (.Name "sorted" p) [o] [] pos) (fSortDic i) :=
  (pe_callB (cr_sortDic hc hu) hg hm bt_sorted (pa_cons ho pa_nil he) (by decide) (by decide) he rfl).via fun σ H Q ⟨S, r, q⟩ => by
    obtain ⟨kvs, e, q⟩ := wDic_in q
    obtain ⟨a, ea, g, _⟩ := r.dic e
    rw [hw] at g
    by_cases ok : SortOk (kvs.map (·.1))
    · rw [if_pos ok] at q
      exact ⟨_, ea, a, kvs, rfl, g, ok, fun ks p h1 h2 => newList r h1 h2 q⟩
    · rw [if_neg ok] at q; exact q.elim
end
end Fz
end

section
set_option Elab.async false
set_option linter.all false
set_option maxRecDepth 100000
set_option maxHeartbeats 4000000
/-! F35: sorted(xs, key=f), f a def of the text. -/
namespace Fz
open PySem PySem.Spec PyProof.Rows L2 SrtO Srt
/-! ### sorting by keys, as a function -/
section
variable {α : Type} (lt : α → α → Bool)
def insG (x : α) : List α → List α
  | [] => [x]
  | y :: l => if lt y x = true then y :: insG x l else x :: y :: l
def sortG : List α → List α
  | [] => []
  | x :: l => insG lt x (sortG l)
variable {lt}
theorem insG_split (x : α) : ∀ l : List α, ∃ M N, l = M ++ N ∧ insG lt x l = M ++ x :: N ∧ (∀ y ∈ M, lt y x = true) ∧ (∀ y, N.head? = some y → lt y x = false)
  | [] => ⟨[], [], rfl, rfl, fun _ h => absurd h (by simp), fun _ h => by simp at h⟩
  | y :: l => by
    unfold insG
    by_cases e : lt y x = true
    · rw [if_pos e]
      obtain ⟨M, N, rfl, e2, h1, h2⟩ := insG_split x l
      refine ⟨y :: M, N, rfl, by rw [e2]; rfl, fun z hz => ?_, h2⟩
      rcases List.mem_cons.mp hz with rfl | hz
      · exact e
      · exact h1 z hz
    · rw [if_neg e]
      refine ⟨[], y :: l, rfl, rfl, fun _ h => absurd h (by simp), fun z hz => ?_⟩
      simp at hz
      subst hz
      exact Bool.eq_false_iff.mpr e
theorem sortG_ok (O : Swo lt) : ∀ l : List α, Srtd lt (sortG lt l) ∧ Stb lt (sortG lt l) l
  | [] => ⟨List.Pairwise.nil, Stb.refl _⟩
  | x :: l => by
    obtain ⟨s1, s2⟩ := sortG_ok O l
    obtain ⟨M, N, e1, e2, h1, h2⟩ := insG_split (lt := lt) x (sortG lt l)
    rw [e1] at s1
    obtain ⟨m, n, c⟩ := srtd_app.mp s1
    have hN : ∀ y ∈ N, lt y x = false := fun y hy => by
      cases N with
      | nil => cases hy
      | cons z N =>
        have hz := h2 z rfl
        rcases List.mem_cons.mp hy with rfl | hy
        · exact hz
        · exact O.tr x z y hz (srtd_head n y hy)
    show Srtd lt (insG lt x (sortG lt l)) ∧ Stb lt (insG lt x (sortG lt l)) (x :: l)
    rw [e2]
    refine ⟨srtd_app.mpr ⟨m, List.pairwise_cons.mpr ⟨hN, n⟩, fun a ha b hb => ?_⟩, ?_⟩
    · rcases List.mem_cons.mp hb with rfl | hb
      · exact O.asym a b (h1 a ha)
      · exact c a ha b hb
    · have q : Stb lt (M ++ ([x] ++ N)) ([x] ++ (M ++ N)) := by
        have := (Stb.swap O (A := M) (B := [x]) fun a ha b hb => by rw [List.mem_singleton.mp hb]; exact h1 a ha).app (Stb.refl N)
        simpa using this
      have q2 : Stb lt ([x] ++ (M ++ N)) ([x] ++ l) := by
        rw [← e1]
        exact (Stb.refl [x]).app s2
      exact q.trans q2
theorem sortG_uniq (O : Swo lt) {l m : List α} (h : Srtd lt l) (s : Stb lt l m) : l = sortG lt m := by
  obtain ⟨a, b⟩ := sortG_ok O m
  refine stb_uniq O h a ?_
  exact ⟨s.perm.trans b.perm.symm, fun x => (s.cls x).trans (b.cls x).symm⟩
end
abbrev ltP (p q : D × D) : Bool := ltE p.1 q.1
theorem ltP_swo : Swo ltP := lx_swo fun p : D × D => enc p.1
/-- the items by their keys -/
def sortK (ks ds : List D) : List D := (sortG ltP (ks.zip ds)).map (·.2)
/-- the keys that a def tells -/
def keysF (den : Den) : List D → Option (List D)
  | [] => some []
  | d :: r => match den [.d d] with
    | .ok (.d k) _ => (keysF den r).map (k :: ·)
    | _ => none
theorem keysF_len {den : Den} : ∀ {ds ks : List D}, keysF den ds = some ks → ks.length = ds.length
  | [], ks, h => by cases h; rfl
  | d :: r, ks, h => by
    unfold keysF at h
    split at h
    · obtain ⟨ks2, h1, rfl⟩ := Option.map_eq_some_iff.mp h
      rw [List.length_cons, List.length_cons, keysF_len h1]
    · cases h
theorem keysF_get {den : Den} : ∀ {ds ks : List D} {i : Nat} {d k : D}, keysF den ds = some ks → ds[i]? = some d → ks[i]? = some k → ∃ l, den [.d d] = .ok (.d k) l
  | [], ks, i, d, k, h, e, _ => by simp at e
  | d0 :: r, ks, i, d, k, h, e, g => by
    unfold keysF at h
    split at h
    · rename_i k0 l hd
      obtain ⟨ks2, h1, rfl⟩ := Option.map_eq_some_iff.mp h
      cases i with
      | zero => simp at e g; subst e; subst g; exact ⟨l, hd⟩
      | succ i => exact keysF_get h1 (by simpa using e) (by simpa using g)
    · cases h
/-! ### a call of the key def, from within -/
theorem RoomG.in1 {k : Nat} {A : Around} (r : RoomG (k + 1) A) : RoomG k A.in1 := ⟨r.rm.in1, r.gd⟩
section
variable {X : Cx} {pins : List (Addr × Obj)} {σ : L2.St} {H : Hp} {s : Shared} {T : List Addr} {den : Den} {fa : Addr} {fd : FuncData} {ps : List Str} {k : Nat}
theorem key_call {x : V} {u : Value} {d kd : D} {l : List SV} {Q : VK} (G : GOk X.prog X.w X.K X.mg X.base k fa fd ps (spF X.K X.w T 1 den)) (hr : RoomG (k + 2) X.A) (hb : Binds X.K fd ps []) (I : Inv X pins σ H s) (rx : RelV x u) (hx : Pd X.K H x d)
    (hT : ∀ P ∈ T, TabOk H P) (hd : den [.d d] = .ok (.d kd) l) (q : ∀ y H', Pers H H' → (∀ a o, H a = some o → isTbl o = false → H' a = some o) → (∀ a o, H a = some o → ∃ u, H' a = some u) → (∀ P ∈ T, TabOk H' P) → Pd X.K H' y kd → Q y H') :
    wpAny (model X.prog X.w) X.A.in1.in1 (call (.ref fa) [u]) (EP X pins σ Q) (fun _ _ => False) s := by
  have sp : spF X.K X.w T 1 den [x] H Q (fun _ _ _ => False) := by
    refine ⟨[.d d], rfl, ⟨rfl, fun i sv e => ?_, fun i j b ne ⟨ob, hi⟩ => ?_⟩, hT, ?_⟩
    · cases i with
      | zero => simp at e; subst e; exact ⟨_, rfl, hx⟩
      | succ i => simp at e
    · cases i with
      | zero => simp at hi
      | succ i => simp at hi
    · rw [hd]
      intro y H' lf rr
      refine q y H' lf.pers (fun a o e n => lf.keep a o e (fun ⟨i, ⟨ob, hi⟩, _⟩ => ?_) n) lf.there lf.tabs rr
      cases i with
      | zero => simp at hi
      | succ i => simp at hi
  have hn : [u].length = ps.length := G.many _ _ _ _ sp
  have bd := hb s [u] I.kIn (by rw [List.append_nil]; exact hn)
  rw [List.append_nil] at bd
  refine wpAny_call (codeAny_mono (G.go X.A.in1.in1 X.stack s H ⟨[u], []⟩ [u] [x] Q (fun _ _ _ => False) hr.in1.in1 I.env0.in1.in1 bd (.cons rx .nil) sp) fun r s' q => ?_)
  cases r with
  | ok v =>
    cases v with
    | ret v => exact I.after q
    | _ => exact q.elim
  | error e => exact q.elim
/-- the loop that asks the keys -/
theorem key_loop {a kS : Addr} {oa : Obj} {its : List Value} {xs : List V} {ds ks : List D} {R : Unit → Shared → Prop} {E : Value → Shared → Prop} (G : GOk X.prog X.w X.K X.mg X.base k fa fd ps (spF X.K X.w T 1 den)) (hr : RoomG (k + 2) X.A) (hb : Binds X.K fd ps [])
    (items : Array Value) (I : Inv X ((a, oa) :: pins) σ H s) (hk : H kS = some (.lst [])) (rv : Vals xs its) (hx : PdAll X.K H xs ds) (hz : its.length ≤ sizeLine) (hT : ∀ P ∈ T, TabOk H P) (hks : keysF den ds = some ks)
    (h : ∀ s' H' kvs, Inv X ((a, oa) :: pins) σ H' s' → H' kS = some (.lst kvs) → PdAll X.K H' kvs ks → Pers H H' → (∀ b o, b ≠ kS → H b = some o → isTbl o = false → H' b = some o) → (∀ b o, H b = some o → ∃ u, H' b = some u) → (∀ P ∈ T, TabOk H' P) → R () s') :
    wpAny (model X.prog X.w) X.A.in1.in1 (forIn its PUnit.unit fun x _ => do
      match ← (call (.ref fa) [x]).attempt with
      | .ok k => do Builtin.List.listUpdate (.ref kS) (·.push k); pure (ForInStep.yield PUnit.unit)
      | .error e => do
        rule "list.sort.key-raised"
        let made ← Builtin.List.listItems (.ref kS)
        Builtin.List.listUpdate (.ref kS) fun _ => #[]
        letGo made.toList.reverse [e]
        Builtin.List.listUpdate (.ref a) fun _ => items; throw e) R E s := by
  have lx := rv.length
  have ld := hx.length
  have lk := keysF_len hks
  refine ksk_fold (fun i s' => ∃ H' kvs, Inv X ((a, oa) :: pins) σ H' s' ∧ H' kS = some (.lst kvs) ∧ PdAll X.K H' kvs (ks.take i) ∧ Pers H H' ∧ (∀ b o, b ≠ kS → H b = some o → isTbl o = false → H' b = some o) ∧ (∀ b o, H b = some o → ∃ u, H' b = some u) ∧ (∀ P ∈ T, TabOk H' P)) its 0 s
    ⟨H, [], I, hk, .nil, .refl H, fun _ _ _ e _ => e, fun _ o e => ⟨o, e⟩, hT⟩ ?_ ?_
  · rintro j u s' hj ⟨H1, kvs, I1, hk1, hp1, per, kp, th, ht⟩
    simp only [Nat.zero_add] at hp1 ⊢
    have hjl : j < its.length := (List.getElem?_eq_some_iff.mp hj).1
    obtain ⟨x, hxj, rx⟩ : ∃ x, xs[j]? = some x ∧ RelV x u := by
      have hl : j < xs.length := by omega
      obtain ⟨u2, h1, h2⟩ := rv.get (List.getElem?_eq_getElem hl)
      rw [hj] at h1; cases h1
      exact ⟨_, List.getElem?_eq_getElem hl, h2⟩
    obtain ⟨d, hdj, pd⟩ := hx.getV hxj
    have hkl : j < ks.length := by omega
    obtain ⟨l, hd⟩ := keysF_get hks hdj (List.getElem?_eq_getElem hkl)
    refine wpAny_bind (wpAny_attempt (wpAny_mono (key_call G hr hb I1 rx (pd.mono per) ht hd (Q := fun y H2 => Pers H1 H2 ∧ (∀ a o, H1 a = some o → isTbl o = false → H2 a = some o) ∧ (∀ a o, H1 a = some o → ∃ u, H2 a = some u) ∧ (∀ P ∈ T, TabOk H2 P) ∧ Pd X.K H2 y ks[j])
      (fun y H2 h1 h2 h3 h4 h5 => ⟨h1, h2, h3, h4, h5⟩)) (fun v s2 ⟨y, H2, I2, ry, p2, kp2, th2, ht2, py⟩ => ?_) fun _ _ hF => hF.elim))
    try dsimp only
    have hk2 : H2 kS = some (.lst kvs) := kp2 _ _ hk1 rfl
    obtain ⟨hzk, kits, n, rk, hkg⟩ := (show ObjOk X.prog X.w H2 s2.heap kS (.lst kvs) from I2.hok kS _ hk2)
    have lkv : kvs.length = j := by rw [hp1.length, List.length_take]; omega
    have hs2 := Heap.SameBut.update s2.heap kS (Obj.mapSeq (·.push v))
    obtain ⟨c2, hc2⟩ : ∃ c2, (s2.heap.update kS (Obj.mapSeq (·.push v))).get? kS = some (seqObj "list" (kits.toArray.push v) c2) := ⟨_, get?_update_seq hkg (·.push v)⟩
    have mu : Mut (H2 kS) := by rw [hk2]; trivial
    have p3 : Pers H2 (upd H2 kS (.lst (kvs ++ [y]))) := Pers.put (.inl mu)
    have hkz : kits.length ≤ sizeLine := by rw [← rk.length]; exact hzk
    refine wpAny_bind (listUpdate_at (o := { cls := .type "list", data := .seq kits.toArray n }) hkg rfl (wpAny_pure ⟨rfl, upd H2 kS (.lst (kvs ++ [y])), kvs ++ [y], ?_, upd_same, ?_, (per.trans p2).trans p3, fun b o hb e nt => ?_, fun b o e => ?_, fun P hP => ?_⟩) (by simpa using hkz) (by rw [Array.size_push]; simpa using hkz))
    · refine d_write (t' := s2.toks) I2 mu hs2 ⟨_, hc2⟩ ⟨by rw [List.length_append, List.length_singleton]; omega, kits ++ [v], c2, rk.append (.cons ry .nil), ?_⟩
      rw [hc2]
      simp [seqObj]
    · rw [List.take_add_one, List.getElem?_eq_getElem hkl]
      exact ((hp1.mono (p2.trans p3)).append (.cons (py.mono p3) .nil))
    · rw [upd_ne hb]; exact kp2 _ _ (kp b o hb e nt) nt
    · obtain ⟨u1, e1⟩ := th b o e
      obtain ⟨u2, e2⟩ := th2 b u1 e1
      by_cases hb : b = kS
      · subst hb; exact ⟨_, upd_same⟩
      · exact ⟨u2, by rw [upd_ne hb]; exact e2⟩
    · obtain ⟨pz, e, t⟩ := ht2 P hP
      refine ⟨pz, ?_, t⟩
      rw [upd_ne]; exact e
      intro z; rw [z, hk2] at e; cases e
  · rintro s' ⟨H1, kvs, I1, hk1, hp1, per, kp, th, ht⟩
    rw [List.take_of_length_le (by omega)] at hp1
    exact h s' H1 kvs I1 hk1 hp1 per kp th ht
end
/-! ### sorting of pairs, values beside data -/
section
variable {α β : Type} {lt : α → α → Bool} {lt' : β → β → Bool} {R : α → β → Prop}
theorem paired_insG (hl : ∀ x y x' y', R x x' → R y y' → lt x y = lt' x' y') {x : α} {x' : β} (hx : R x x') : ∀ {l : List α} {m : List β}, Paired R l m → Paired R (insG lt x l) (insG lt' x' m)
  | _, _, .nil => .cons hx .nil
  | y :: l, y' :: m, .cons h r => by
    unfold insG
    rw [hl y x y' x' h hx]
    by_cases e : lt' y' x' = true
    · rw [if_pos e, if_pos e]; exact .cons h (paired_insG hl hx r)
    · rw [if_neg e, if_neg e]; exact .cons hx (.cons h r)
theorem paired_sortG (hl : ∀ x y x' y', R x x' → R y y' → lt x y = lt' x' y') : ∀ {l : List α} {m : List β}, Paired R l m → Paired R (sortG lt l) (sortG lt' m)
  | _, _, .nil => .nil
  | _, _, .cons h r => paired_insG hl h (paired_sortG hl r)
end
theorem paired_choose {K : Fg} {H : Hp} : ∀ {us : List Value} {ds : List D}, Paired (fun u d => ∃ x, RelV x u ∧ Pd K H x d) us ds → ∃ ys, Vals ys us ∧ PdAll K H ys ds
  | _, _, .nil => ⟨[], .nil, .nil⟩
  | _, _, .cons ⟨x, h1, h2⟩ r => let ⟨ys, a, b⟩ := paired_choose r; ⟨x :: ys, .cons h1 a, .cons h2 b⟩
theorem paired_map2 {α β γ δ : Type} {R : α → β → Prop} {S : γ → δ → Prop} {f : α → γ} {g : β → δ} (h : ∀ x y, R x y → S (f x) (g y)) : ∀ {l : List α} {m : List β}, Paired R l m → Paired S (l.map f) (m.map g)
  | _, _, .nil => .nil
  | _, _, .cons a r => .cons (h _ _ a) (paired_map2 h r)
theorem paired_zip {K : Fg} {H : Hp} {k : Value → PyData} : ∀ {kus us : List Value} {xs : List V} {ks ds : List D}, kus.map k = ks → Vals xs us → PdAll K H xs ds → kus.length = us.length →
    Paired (fun (p : Value × Value) (q : D × D) => k p.1 = q.1 ∧ ∃ x, RelV x p.2 ∧ Pd K H x q.2) (kus.zip us) (ks.zip ds)
  | [], [], _, _, _, e, .nil, .nil, _ => by subst e; exact .nil
  | ku :: kus, u :: us, _, _, _, e, .cons r rs, .cons h hs, hl => by
    subst e
    exact .cons ⟨rfl, _, r, h⟩ (paired_zip rfl rs hs (by simpa using hl))
  | [], _ :: _, _, _, _, _, _, _, hl => by simp at hl
  | _ :: _, [], _, _, _, _, _, _, hl => by simp at hl
/-- the same slots behind a call that pins nothing -/
theorem Rel.stay {K : Fg} {F : Fx} {S : FS} {σ : Sl} {H H' : Hp} (r : Rel K F S σ H) (p : Pers H H') (kp : ∀ b o, H b = some o → isTbl o = false → H' b = some o) (th : ∀ b o, H b = some o → ∃ u, H' b = some u) (ht : ∀ P ∈ F.tabs, TabOk H' P) : Rel K F S σ H' := by
  have same : ∀ {ob b}, ObR K F.w H b ob → H' b = H b := fun q => by
    obtain ⟨u, e, _, n⟩ := q.there
    rw [e]; exact kp _ _ e n
  refine ⟨r.len, fun i sv e => ?_, r.apart, fun a o e n t => kp a o (r.keep a o e n t) t, fun a o e => ?_, ht, fun q hq => ?_⟩
  · obtain ⟨x, ex, v⟩ := r.slot i sv e
    refine ⟨x, ex, ?_⟩
    cases sv with
    | d d => exact Pd.mono p v
    | own ob => obtain ⟨a, e, q, z⟩ := v; exact ⟨a, e, q.later p (same q), z⟩
    | pin ob => obtain ⟨a, e, q, z⟩ := v; exact ⟨a, e, q.later p (same q), z⟩
  · obtain ⟨u, q⟩ := r.there a o e; exact th a u q
  · obtain ⟨e, n, z⟩ := r.held q hq
    exact ⟨kp _ _ e rfl, n, z⟩
end Fz
end

section
set_option Elab.async false
set_option linter.all false
set_option maxRecDepth 100000
set_option maxHeartbeats 4000000
/-! F36: sorted(xs, key=f): the whole call. -/
namespace Fz
open PySem PySem.Spec PyProof.Rows L2 SrtO Srt
section
variable {X : Cx} {pins : List (Addr × Obj)} {σ : L2.St} {H : Hp} {s : Shared} {T : List Addr} {den : Den} {fa : Addr} {fd : FuncData} {ps : List Str} {k : Nat}
/-- behind the keys: the pairs are sorted -/
theorem key_sort {a kS : Addr} {its : List Value} {xs kvs : List V} {ds ks : List D} {e1 : Nat} {P : PySem.Fin → Shared → Prop} {E : Value → Shared → Prop} {H' : Hp} (hu : X.A.units + 70 < cLine) (f : FpOk X pins H' a) (I : Inv X ((a, seqObj "list" #[] e1) :: pins) σ H' s) (hk : H' kS = some (.lst kvs))
    (hp : PdAll X.K H' kvs ks) (rv : Vals xs its) (hx : PdAll X.K H' xs ds) (hz : its.length ≤ sizeLine) (hl : ks.length = ds.length) (ok : SortOk ks)
    (h : ∀ h2 tk ys, PdAll X.K H' ys (sortK ks ds) → Inv X pins σ (upd (upd H' kS (.lst [])) a (.lst ys)) { s with heap := h2, toks := tk } → P (.done (.ret .none)) { s with heap := h2, toks := tk }) :
    wpAny (model X.prog X.w) X.A.in1.in1 (do
      let keys ← Builtin.List.listItems (.ref kS)
      ksk_end a false its.toArray e1 (.ref kS) keys) P E s := by
  obtain ⟨hzk, kits, n, rk, hkg⟩ := (show ObjOk X.prog X.w H' s.heap kS (.lst kvs) from I.hok kS _ hk)
  have hag : s.heap.get? a = some (seqObj "list" #[] e1) := (I.pin (a, seqObj "list" #[] e1) (by simp)).1
  have hka : kS ≠ a := fun z => by rw [z, f.1] at hk; cases hk
  have l1 : kits.length = its.length := by
    have a1 := rk.length; have a2 := rv.length; have a3 := hp.length; have a4 := hx.length
    omega
  have hkz : kits.length ≤ sizeLine := by omega
  obtain ⟨as, hr⟩ := Dp.readsAll I ks kvs kits (PdAll.dp hp) rk
  -- the end
  have tail : ∀ st : SortSt, failedOf st = none → Stb (lt2 fun v u => false) (arrOf st).toList (arrOf st).toList → (∃ ys, Vals ys ((arrOf st).map (·.2)).toList ∧ PdAll X.K H' ys (sortK ks ds)) → (arrOf st).size = its.length →
      wpAny (model X.prog X.w) X.A.in1.in1 (ksk_tail a false e1 (.ref kS) st) P E s := by
    intro st hf _ ⟨ys, hv, hpd⟩ hsz
    have s1 := Heap.SameBut.update s.heap kS (Obj.mapSeq fun _ => (#[] : Array Value))
    have na1 : (s.heap.update kS (Obj.mapSeq fun _ => (#[] : Array Value))).get? a = some (seqObj "list" #[] e1) := (s1.2 a hka.symm).trans hag
    have s2 := Heap.SameBut.update (s.heap.update kS (Obj.mapSeq fun _ => (#[] : Array Value))) a (Obj.mapSeq fun _ => (arrOf st).map (·.2))
    obtain ⟨c1, hc1⟩ : ∃ c1, (s.heap.update kS (Obj.mapSeq fun _ => (#[] : Array Value))).get? kS = some (seqObj "list" #[] c1) := ⟨_, get?_update_seq hkg fun _ => #[]⟩
    obtain ⟨c2, hc2⟩ : ∃ c2, ((s.heap.update kS (Obj.mapSeq fun _ => (#[] : Array Value))).update a (Obj.mapSeq fun _ => (arrOf st).map (·.2))).get? a = some (seqObj "list" ((arrOf st).map (·.2)) c2) := ⟨_, get?_update_seq na1 fun _ => (arrOf st).map (·.2)⟩
    have mu : Mut (H' kS) := by rw [hk]; trivial
    have hzo : ((arrOf st).map (·.2)).size ≤ sizeLine + 1 := by rw [Array.size_map, hsz]; omega
    have I2 : Inv X ((a, seqObj "list" #[] e1) :: pins) σ (upd H' kS (.lst [])) { s with heap := s.heap.update kS (Obj.mapSeq fun _ => (#[] : Array Value)), toks := s.toks } :=
      d_write I mu s1 ⟨_, hc1⟩ ⟨Nat.zero_le _, [], c1, .nil, hc1⟩
    have I3 : Inv X pins σ (upd H' kS (.lst [])) { s with heap := s.heap.update kS (Obj.mapSeq fun _ => (#[] : Array Value)), toks := s.toks } := I2.pins_of fun p hp => I2.pin p (List.mem_append_right _ (List.mem_cons_of_mem _ hp))
    have f3 : FpOk X pins (upd H' kS (.lst [])) a := ⟨by rw [upd_ne hka.symm]; exact f.1, f.2⟩
    have I4 : Inv X pins σ (upd (upd H' kS (.lst [])) a (.lst ys)) { s with heap := (s.heap.update kS (Obj.mapSeq fun _ => (#[] : Array Value))).update a (Obj.mapSeq fun _ => (arrOf st).map (·.2)), toks := s.toks } := by
      refine I3.take (t' := s.toks) (fun b ob hb e => (s2.2 b hb).trans e) f3 ⟨?_, ((arrOf st).map (·.2)).toList, c2, hv, ?_⟩
      · rw [hv.length, Array.length_toList, Array.size_map, hsz]; exact hz
      · rw [hc2, Array.toArray_toList]
    unfold ksk_tail
    try dsimp only
    simp only [Bool.false_eq_true, if_false]
    refine wpAny_bind (listUpdate_at hkg rfl ?_ (by simpa using hkz) (Nat.zero_le _))
    refine wpAny_bind (wpAny_letGo ?_)
    refine wpAny_bind (seqEpoch_at na1 rfl ?_)
    refine wpAny_bind (listUpdate_at na1 rfl ?_ (Nat.zero_le _) hzo)
    rw [hf]
    simp only [bne_self_eq_false, Bool.false_eq_true, if_false]
    exact wpAny_pure (h _ s.toks ys hpd I4)
  refine wpAny_bind (listItems_at hkg rfl ?_)
  -- the keys' data
  let kk : Value → PyData := fun v => open Classical in if h : ∃ d as, Reads s.heap v d as ∧ plainD d = true ∧ d.canLay0 = true then h.choose else .none
  have hkk : ∀ v d as, Reads s.heap v d as → plainD d = true → d.canLay0 = true → kk v = d := fun v d as r hp hc => by
    have hx : ∃ d as, Reads s.heap v d as ∧ plainD d = true ∧ d.canLay0 = true := ⟨d, as, r, hp, hc⟩
    have e : kk v = hx.choose := dif_pos hx
    rw [e]
    obtain ⟨as', r', _, hc'⟩ := hx.choose_spec
    exact SeqAt.Reads.unique _ _ v as' as hc' r' r
  have hds : ∀ d ∈ ks, plainD d = true ∧ d.canLay0 = true := fun d hd => ⟨(ok.1 d hd).1, (shaped_depth (ok.1 d hd).2).1⟩
  have e1' := readsAll_map hkk hr hds
  have O : Swo (lt2 fun v u => lx (enc (kk v)) (enc (kk u))) := swo2 (lx_swo fun v => enc (kk v))
  have hpz := paired_zip (K := X.K) (H := H') (k := kk) e1' rv hx l1
  have fin : ∀ l : List (Value × Value), Srtd (lt2 fun v u => lx (enc (kk v)) (enc (kk u))) l → Stb (lt2 fun v u => lx (enc (kk v)) (enc (kk u))) l (kits.zip its) → (∃ ys, Vals ys (l.map (·.2)) ∧ PdAll X.K H' ys (sortK ks ds)) := by
    intro l h1 h2
    rw [sortG_uniq O h1 h2]
    have q := paired_sortG (lt := lt2 fun v u => lx (enc (kk v)) (enc (kk u))) (lt' := ltP) (fun x y x' y' hx hy => by
      show lx (enc (kk x.1)) (enc (kk y.1)) = lx (enc x'.1) (enc y'.1)
      rw [hx.1, hy.1]) hpz
    exact paired_choose (paired_map2 (fun x y z => z.2) q)
  unfold ksk_end
  try dsimp only
  simp only [Bool.false_eq_true, if_false]
  have ez : (kits.toArray.zip its.toArray).toList = kits.zip its := by simp
  by_cases h2 : its.toArray.size < 2
  · rw [if_pos h2, if_pos h2]
    refine wpAny_bind (wpAny_pure ?_)
    rw [StateT.run_pure]
    refine wpAny_bind (wpAny_pure ?_)
    try dsimp only
    have hle : (kits.zip its).length < 2 := by rw [List.length_zip]; rw [List.size_toArray] at h2; omega
    refine tail (SortSt.mk' general' (kits.toArray.zip its.toArray) #[] 7 none) rfl (Stb.refl _) ?_ (by show (kits.toArray.zip its.toArray).size = _; rw [← Array.length_toList, ez, List.length_zip]; omega)
    have := fin (kits.zip its) (by
      match kits.zip its, hle with
      | [], _ => exact List.Pairwise.nil
      | [v], _ => exact List.pairwise_singleton _ _
      | _ :: _ :: l, h => exact absurd h (by rw [List.length_cons, List.length_cons]; omega)) (Stb.refl _)
    show ∃ ys, Vals ys ((kits.toArray.zip its.toArray).map (·.2)).toList ∧ _
    rw [Array.toList_map, ez]
    exact this
  · rw [if_neg h2, if_neg h2]
    have hR : ∀ v ∈ kits, kk v ∈ ks ∧ RdP s.heap v (kk v) := fun v hv => by
      obtain ⟨d, hd, as', r⟩ := readsAll_mem hr v hv
      have e := hkk v d as' r (hds d hd).1 (hds d hd).2
      rw [e]
      exact ⟨hd, (hds d hd).1, as', r⟩
    obtain ⟨κ, k1, k2⟩ := kind_wp (prog := X.prog) (w := X.w) (A := X.A.in1.in1) (s := s) (vs := kits) (ds := ks) fun v hv => ⟨kk v, (hR v hv).1, (hR v hv).2⟩
    refine wpAny_bind (k1 _ _ ?_)
    have C : Cmp X.prog X.w X.A.in1.in1 s κ (fun p => p.1 ∈ kits) (lt2 fun v u => lx (enc (kk v)) (enc (kk u))) := cmp_data kk (fun v hv => (hR v hv).2) (fun v hv u hu' => by
      have hv' := (hR v hv).1
      have hu'' := (hR u hu').1
      have dv := shaped_depth (ok.1 _ hv').2
      have du := shaped_depth (ok.1 _ hu'').2
      have un : X.A.in1.in1.units = X.A.units + 2 := rfl
      exact ⟨ok.2 _ hv' _ hu'', (ok.1 _ hv').1, (ok.1 _ hu'').1, dv.1, du.1, by omega⟩) (by
      rcases k2 with k2 | k2 | ⟨k2, k3⟩
      · exact .inl k2
      · exact .inr (.inl k2)
      · refine .inr (.inr ⟨k2, fun v hv => ?_⟩)
        obtain ⟨d, hd, ⟨hp, as, r⟩, xs, rfl⟩ := k3 v hv
        obtain ⟨hp', as', r'⟩ := (hR v hv).2
        exact ⟨xs, SeqAt.Reads.unique _ _ v as' as (hds _ (hR v hv).1).2 r' r⟩)
    have hall : AllL (fun p : Keyed => p.1 ∈ kits) (kits.toArray.zip its.toArray).toList := fun p hm => by
      rw [ez] at hm
      exact (List.of_mem_zip hm).1
    refine wpAny_bind (wpAny_mono (wpS_sortO (st0 := SortSt.mk' κ (kits.toArray.zip its.toArray) #[] 7 none)
      (Q := fun _ st' => Srtd (lt2 fun v u => lx (enc (kk v)) (enc (kk u))) (arrOf st').toList ∧ Stb (lt2 fun v u => lx (enc (kk v)) (enc (kk u))) (arrOf st').toList (kits.zip its) ∧ failedOf st' = none) O C rfl hall rfl rfl
      fun st' a1 a2 a3 => ⟨a1, by rw [← ez]; exact a2, a3⟩) ?_ fun _ _ e => e)
    rintro ⟨⟨⟩, st'⟩ s' ⟨rfl, hp1, hp2, hf⟩
    try dsimp only
    refine tail st' hf (Stb.refl _) ?_ (by rw [← Array.length_toList, hp2.perm.length_eq, List.length_zip]; omega)
    rw [Array.toList_map]
    exact fin _ hp1 hp2
end
end Fz
end

section
set_option Elab.async false
set_option linter.all false
set_option maxRecDepth 100000
set_option maxHeartbeats 4000000
/-! F37: sorted(xs, key=f): the rule of the layer. -/
namespace Fz
open PySem PySem.Spec PyProof.Rows L2 SrtO Srt
section
variable {X : Cx} {pins : List (Addr × Obj)} {σ : L2.St} {H : Hp} {s : Shared} {T : List Addr} {den : Den} {fa : Addr} {fd : FuncData} {ps : List Str} {k : Nat}
theorem sortK_call {r : Value} {its : List Value} {xs : List V} {ds ks : List D} {Q : VK} (hu : X.A.units + 70 < cLine) (G : GOk X.prog X.w X.K X.mg X.base k fa fd ps (spF X.K X.w T 1 den)) (hr : RoomG (k + 2) X.A) (hb : Binds X.K fd ps [])
    (I : Inv X pins σ H s) (rv : Vals xs its) (hx : PdAll X.K H xs ds) (hz : its.length ≤ sizeLine) (hT : ∀ P ∈ T, TabOk H P) (hks : keysF den ds = some ks) (ok : SortOk ks)
    (hcol : ∀ R : List Value → Shared → Prop, (∀ (h' : Heap) (tk : Nat), (∀ b o, s.heap.get? b = some o → h'.get? b = some o) → s.heap.objs.size ≤ h'.objs.size → R its { s with heap := h', toks := tk }) → wpAny (model X.prog X.w) X.A.in1 (collect r) R X.xe s)
    (q : ∀ ys p H2, PdAll X.K H2 ys (sortK ks ds) → Pers H H2 → (∀ b o, H b = some o → isTbl o = false → H2 b = some o) → (∀ b o, H b = some o → ∃ u, H2 b = some u) → (∀ P ∈ T, TabOk H2 P) → H p = none → H2 p = none → Q (.ref p) (upd H2 p (.lst ys))) :
    wpAny (model X.prog X.w) X.A (call (.builtin "sorted") [r] [(Str.ofString "key", .ref fa)]) (EP X pins σ Q) X.xe s := by
  refine PyProof.Rows.call_function_entry_kw kind_sorted plain_sorted entry_sorted (ksk_s1 _ _) ?_
  unfold Builtin.«sorted»
  refine wpAny_bind (m := checkCount "sorted" 1 1 _) (wpAny_pure ?_)
  refine wpAny_bind (hcol _ fun h' tk kp hle => ?_)
  refine wpAny_bind (wpAny_newList ?_ hz)
  have hoL : (h'.push (seqObj "list" its.toArray 0)).get? h'.objs.size = some (seqObj "list" its.toArray 0) := Heap.get?_push_size _ rfl
  have ha : h'.objs.size < (h'.push (seqObj "list" its.toArray 0)).objs.size := Heap.lt_size hoL
  refine wpAny_bind (wpAny_holding (wpAny_call_entry_kw (s := { s with heap := h'.push (seqObj "list" its.toArray 0), toks := tk }) slot_list_sort ⟨_, hoL, rfl⟩ entry_list_sort ?_ (ksk_l1 _ _)))
  rw [ksk_t1]
  unfold ksk_tree
  refine wpAny_bind (listItems_at hoL rfl ?_)
  refine wpAny_bind (listUpdate_at hoL rfl ?_ (by rw [List.size_toArray]; exact hz) (Nat.zero_le _))
  have s1 := Heap.SameBut.update (h'.push (seqObj "list" its.toArray 0)) h'.objs.size (Obj.mapSeq fun _ => (#[] : Array Value))
  obtain ⟨e1, ho1⟩ : ∃ e1, ((h'.push (seqObj "list" its.toArray 0)).update h'.objs.size (Obj.mapSeq fun _ => (#[] : Array Value))).get? h'.objs.size = some (seqObj "list" #[] e1) := ⟨_, get?_update_seq hoL fun _ => #[]⟩
  refine wpAny_bind (seqEpoch_at ho1 rfl ?_)
  refine wpAny_bind (wpAny_newTuple ?_ (by show its.length ≤ _; exact hz))
  refine wpAny_bind (wpAny_newList ?_ (Nat.zero_le _))
  refine wpAny_holding ?_
  -- the heap at which the keys are asked
  generalize hg : ((h'.push (seqObj "list" its.toArray 0)).update h'.objs.size (Obj.mapSeq fun _ => (#[] : Array Value))) = g at ho1 s1
  have gz : g.objs.size = h'.objs.size + 1 := by rw [← hg, Heap.size_update, size_push']
  have hk4 : ((g.push (seqObj "tuple" its.toArray 0)).push (seqObj "list" #[] 0)).get? (g.push (seqObj "tuple" its.toArray 0)).objs.size = some (seqObj "list" #[] 0) := Heap.get?_push_size _ rfl
  have tz : (g.push (seqObj "tuple" its.toArray 0)).objs.size = h'.objs.size + 2 := by rw [size_push', gz]
  have kp4 : ∀ b o, s.heap.get? b = some o → ((g.push (seqObj "tuple" its.toArray 0)).push (seqObj "list" #[] 0)).get? b = some o := fun b o e => by
    have hb := Heap.lt_size e
    have e2 : (h'.push (seqObj "list" its.toArray 0)).get? b = some o := Heap.get?_push_of_some _ (kp b o e)
    exact Heap.get?_push_of_some _ (Heap.get?_push_of_some _ ((s1.2 b (Nat.ne_of_lt (Nat.lt_of_lt_of_le hb hle))).trans e2))
  have hn : H (g.push (seqObj "tuple" its.toArray 0)).objs.size = none := I.hok.fresh (by rw [tz]; omega)
  have hna : H h'.objs.size = none := I.hok.fresh hle
  have f0 : FpOk X pins H h'.objs.size := I.fpOk hle hna
  have hka : h'.objs.size ≠ (g.push (seqObj "tuple" its.toArray 0)).objs.size := by rw [tz]; omega
  have I1 : Inv X pins σ (upd H (g.push (seqObj "tuple" its.toArray 0)).objs.size (.lst [])) { s with heap := ((g.push (seqObj "tuple" its.toArray 0)).push (seqObj "list" #[] 0)), toks := tk } :=
    I.laid (t' := tk) kp4 (by rw [tz]; omega) ⟨Nat.zero_le _, [], 0, .nil, hk4⟩
  have ho4 : ((g.push (seqObj "tuple" its.toArray 0)).push (seqObj "list" #[] 0)).get? h'.objs.size = some (seqObj "list" #[] e1) := Heap.get?_push_of_some _ (Heap.get?_push_of_some _ ho1)
  have I2 : Inv X ((h'.objs.size, seqObj "list" #[] e1) :: pins) σ (upd H (g.push (seqObj "tuple" its.toArray 0)).objs.size (.lst [])) { s with heap := ((g.push (seqObj "tuple" its.toArray 0)).push (seqObj "list" #[] 0)), toks := tk } := I1.pins_of fun p hp => by
    rcases List.mem_cons.mp hp with rfl | hp
    · exact ⟨ho4, by rw [upd_ne hka]; exact hna, f0.2.1, f0.2.2.1, fun v e => nomatch e⟩
    · exact I1.pin p (List.mem_append_right _ hp)
  unfold ksk_rest
  refine wpAny_bind (wpAny_rule ?_)
  first
    | rw [List.forIn_toArray]
    | (rw [← Array.forIn_toList]; simp only [List.toList_toArray])
    | rw [← Array.forIn_toList]
  have p1 : Pers H (upd H (g.push (seqObj "tuple" its.toArray 0)).objs.size (.lst [])) := Pers.new hn
  refine wpAny_bind (key_loop (a := h'.objs.size) (kS := (g.push (seqObj "tuple" its.toArray 0)).objs.size) G hr hb its.toArray I2 upd_same rv (hx.mono p1) hz (fun P hP => ?_) hks fun s' H' kvs I' hk' hp' per kp' th' ht' => ?_)
  · obtain ⟨pz, e, t⟩ := hT P hP
    refine ⟨pz, ?_, t⟩
    rw [upd_ne]; exact e
    intro z; rw [z, hn] at e; cases e
  · have hna' : H' h'.objs.size = none := (I'.pin (h'.objs.size, seqObj "list" #[] e1) (by simp)).2.1
    refine key_sort (xs := xs) (ds := ds) (ks := ks) hu ⟨hna', f0.2⟩ I' hk' hp' rv (hx.mono (p1.trans per)) hz (keysF_len hks) ok fun h2 tk2 ys hy I5 => ⟨_, rfl, ?_⟩
    refine wpAny_pure ⟨_, rfl, .ref h'.objs.size, _, I5, rfl, ?_⟩
    have mu : Mut (H' (g.push (seqObj "tuple" its.toArray 0)).objs.size) := by rw [hk']; trivial
    have p3 : Pers H' (upd H' (g.push (seqObj "tuple" its.toArray 0)).objs.size (.lst [])) := Pers.put (.inl mu)
    have off : ∀ b o, H b = some o → b ≠ (g.push (seqObj "tuple" its.toArray 0)).objs.size := fun b o e z => by rw [z, hn] at e; cases e
    refine q ys _ _ (hy.mono p3) ((p1.trans per).trans p3) (fun b o e nt => ?_) (fun b o e => ?_) (fun P hP => ?_) hna (by rw [upd_ne hka]; exact hna')
    · rw [upd_ne (off b o e)]
      exact kp' b o (off b o e) (by rw [upd_ne (off b o e)]; exact e) nt
    · rw [upd_ne (off b o e)]
      exact th' b o (by rw [upd_ne (off b o e)]; exact e)
    · obtain ⟨pz, e, t⟩ := ht' P hP
      refine ⟨pz, ?_, t⟩
      rw [upd_ne]; exact e
      intro z; rw [z, hk'] at e; cases e
end
end Fz
end

section
set_option Elab.async false
set_option linter.all false
set_option maxRecDepth 100000
set_option maxHeartbeats 4000000
/-! F38: sorted(xs, key=f) of lists, tuples, dicts. -/
namespace Fz
open PySem PySem.Spec PyProof.Rows L2 SrtO Srt
section
variable {prog : Program} {w : World} {A : Around} {E : Value → Shared → Prop} {s : Shared}
/-- a list's, a tuple's items collected; what is new stands above -/
theorem collect_seqz {Q : List Value → Shared → Prop} (it : Addr) {T : String} {o : Obj} {items : Array Value} {n : Nat} (hT : T = "list" ∨ T = "tuple")
    (ho : s.heap.get? it = some o) (hc : o.cls = .type T) (hd : o.data = .seq items n)
    (hQ : ∀ (h' : Heap) (tk : Nat), (∀ b o', s.heap.get? b = some o' → h'.get? b = some o') → s.heap.objs.size ≤ h'.objs.size → Q items.toList { s with heap := h', toks := tk }) (hsz : items.size ≤ sizeLine) :
    wpAny (model prog w) A (collect (.ref it)) Q E s := by
  unfold collect
  refine wpAny_bind (wpAny_runValue (codeAny_builtin PySem.F.entry_proto_collect ?_))
  rw [Around.under_plainId PySem.F.plain_proto_collect _]
  show wpAny _ A.in1 (PySem.newList [] >>= fun l => again (.builtin "list.__iadd__" ⟨[l, .ref it], []⟩)) _ _ s
  refine wpAny_bind (wpAny_newObj_type ?_)
  refine wpAny_pure ⟨plainId_quiet PySem.F.plain_list_iadd _, codeAny_builtin PySem.F.entry_list_iadd ?_⟩
  rw [Around.under_plainId PySem.F.plain_list_iadd _]
  show wpAny _ A.in1 (Builtin.List.listExtendWith (.ref s.heap.objs.size) (.ref it) (.ref s.heap.objs.size)) _ _ _
  have hS : (s.heap.push { cls := .type "list", data := .seq ([] : List Value).toArray }).get? s.heap.objs.size = some { cls := .type "list", data := .seq #[] 0 } := Heap.get?_push_size _ rfl
  have hS₂ := Heap.get?_update_self (Obj.mapSeq (· ++ items)) hS rfl
  have fin' : wpAny (model prog w) A (match Value.ref s.heap.objs.size with
      | Value.ref a => do
        match (← load a).data with
          | Data.seq xs _ => pure xs.toList
          | _ => unsupported "internal:collect"
      | _ => unsupported "internal:collect") Q E { s with heap := (s.heap.push { cls := .type "list", data := .seq ([] : List Value).toArray }).update s.heap.objs.size (Obj.mapSeq (· ++ items)) } := by
    show wpAny _ _ (load s.heap.objs.size >>= _) _ _ _
    refine wpAny_bind (wpAny_load hS₂ ?_)
    refine wpAny_pure ?_
    have e : ((#[] : Array Value) ++ items).toList = items.toList := by simp
    show Q ((#[] : Array Value) ++ items).toList _
    rw [e]
    refine hQ _ s.toks (fun b o' hb => ?_) (Nat.le_of_lt (Heap.lt_size hS₂))
    exact (Heap.get?_update_other _ _ (Nat.ne_of_gt (Heap.lt_size hb))).trans (Heap.get?_push_of_some _ hb)
  refine wpAny_mono (wpAny_extend_seq (hsz := hsz) (A := A) (R := fun r s' => r = .ok (.ret (.ref s.heap.objs.size)) ∧ s' = { s with heap := (s.heap.push { cls := .type "list", data := .seq ([] : List Value).toArray }).update s.heap.objs.size (Obj.mapSeq (· ++ items)) })
    (s := { s with heap := s.heap.push { cls := .type "list", data := .seq ([] : List Value).toArray } }) _ it _ 0 hT hS (Heap.get?_push_of_some _ ho) hc hd ⟨rfl, rfl⟩) (fun fin s' h => ?_) (fun e s' h => ?_)
  · cases fin with
    | done f =>
      obtain ⟨e, rfl⟩ := h
      cases e
      exact fin'
    | again c' => exact ⟨h.1, codeAny_mono h.2 fun r s'' hr => by obtain ⟨rfl, rfl⟩ := hr; exact fin'⟩
  · exact absurd h.1 (by simp)
end
/-- sorted(src, key=f) -/
def seqD : D → Option (List D)
  | .list ds => some ds
  | .tuple ds => some ds
  | _ => none
noncomputable def pSortK (den : Den) (ds : List D) : FS → Res SV := fun S => match keysF den ds with
  | some ks => @ite _ (SortOk ks) (Classical.propDecidable _) (.ok (.own (.lst (sortK ks ds))) S) .bad
  | none => .bad
noncomputable def fSortK (den : Den) (f : FS → Res D) : FS → Res SV := bnd f fun d => match seqD d with
  | some ds => pSortK den ds
  | none => fun _ => .bad
/-- sorted(d, key=f), d a dict of a slot -/
noncomputable def fSortKD (den : Den) (i : Nat) : FS → Res SV := wDic i fun kvs => pSortK den (kvs.map (·.1))
section
variable {X : Cx} {F : Fx} {e o : Expr} {i j k : Nat} {pos p kp np : Pos} {f : FS → Res D} {x : Str} {ps : List Str} {den : Den}
theorem sortK_post {K : Fg} {S : FS} {σ : Sl} {H : Hp} {Q : VK} {ds : List D} (r : Rel K F S σ H) (q : postG K F VR (pSortK den ds S) σ H Q) : ∃ ks, keysF den ds = some ks ∧ SortOk ks ∧
    ∀ ys p H2, PdAll K H2 ys (sortK ks ds) → Pers H H2 → (∀ b o, H b = some o → isTbl o = false → H2 b = some o) → (∀ b o, H b = some o → ∃ u, H2 b = some u) → (∀ P ∈ F.tabs, TabOk H2 P) → H p = none → H2 p = none → Q (.ref p) (upd H2 p (.lst ys)) := by
  unfold pSortK at q
  cases hk : keysF den ds with
  | none => rw [hk] at q; exact q.elim
  | some ks =>
    rw [hk] at q
    by_cases ok : SortOk ks
    · simp only [if_pos ok] at q
      refine ⟨ks, rfl, ok, fun ys p H2 hy per kp th ht hn hn2 => ?_⟩
      exact newList (r.stay per kp th ht) hy hn2 (postG.later (r := (Res.ok (SV.own (Ob.lst (sortK ks ds))) S : Res SV)) per q)
    · simp only [if_neg ok] at q; exact q.elim
theorem e_sortK (G : Fn X.prog X.w X.K X.mg X.base F.tabs k x ps 1 den) (hr : RoomG j X.A) (hj : k + 2 ≤ j) (hgx : Gl X x) (hc : X.calm = true) (hu : X.A.units + 70 < cLine) (hg : Gl X "sorted") (hm : X.mg "sorted" = none) (he : EQ X F e f)
    (hdb : (x == ("__debug__" : Str)) = false := by decide)
    (hs1 : backTo pos (starEach [e] X.env) = (false, eval e X.env) :: backTo pos (starEach [] X.env) := by rfl) (hpl : (backTo pos (starEach [e] X.env)).any (·.1) = false := by rfl)
    (hse : starEach [e] X.env = (false, eval e X.env) :: starEach [] X.env := by rfl)
    (hall : (backToKw pos (keywordEach [⟨some "key", .Name x np, kp⟩] X.env)).all (·.1.isSome) = true := by rfl) (hnone : (backToKw pos (keywordEach [⟨some "key", .Name x np, kp⟩] X.env)).any (·.1.isNone) = false := by rfl)
    (hks : (backToKw pos (keywordEach [⟨some "key", .Name x np, kp⟩] X.env)).filterMap (·.1) = [Str.ofString "key"] := by rfl) :
    EV X F (.Call (.Name "sorted" p) [e] [⟨some "key", .Name x np, kp⟩] pos) (fSortK den f) := by
  obtain ⟨fa, fd, F1, hmx, kpn, b⟩ := G.ex
  have cr : CallRK X (.builtin "sorted") [Str.ofString "key"] (fun vs zs H Q => ∃ a xs ds ks, vs = [V.ref a] ∧ zs = [V.ref fa] ∧ (SqL X.K H a xs ∨ SqT X.K H a xs) ∧ PdAll X.K H xs ds ∧ (∀ P ∈ F.tabs, TabOk H P) ∧ keysF den ds = some ks ∧ SortOk ks ∧
      ∀ ys p H2, PdAll X.K H2 ys (sortK ks ds) → Pers H H2 → (∀ b o, H b = some o → isTbl o = false → H2 b = some o) → (∀ b o, H b = some o → ∃ u, H2 b = some u) → (∀ P ∈ F.tabs, TabOk H2 P) → H p = none → H2 p = none → Q (.ref p) (upd H2 p (.lst ys))) := by
    intro pins s σ H vs zs us ws Q I rv rz ⟨a, xs, ds, ks, e1, e2, hsq, hx, hT, hk, ok, q⟩
    subst e1 e2
    obtain ⟨u, rfl, ru⟩ := vals1 rv
    obtain rfl : u = Value.ref a := ru
    obtain ⟨w, rfl, rw'⟩ := vals1 rz
    obtain rfl : w = Value.ref fa := rw'
    show wpAny _ _ (call (.builtin "sorted") [Value.ref a] [(Str.ofString "key", Value.ref fa)]) _ _ _
    rcases hsq with hl | ht
    · obtain ⟨its, r, pl, hz⟩ := I.list hl
      obtain ⟨ob, n, h1, h2, h3, h4⟩ := pl
      have hz' : its.length ≤ sizeLine := by rw [← r.length]; exact hz
      refine sortK_call hu F1 (hr.mono hj) b I r hx hz' hT hk ok (fun R hR => ?_) q
      exact collect_seqz (items := its.toArray) a (.inl rfl) h1 h2 h4 (fun h' tk k1 k2 => by simpa using hR h' tk k1 k2) (by simpa using hz')
    · obtain ⟨its, r, ⟨ob, h1, h2, n, h4⟩, hz⟩ := I.tuple ht
      have hz' : its.length ≤ sizeLine := by rw [← r.length]; exact hz
      refine sortK_call hu F1 (hr.mono hj) b I r hx hz' hT hk ok (fun R hR => ?_) q
      exact collect_seqz (items := its.toArray) a (.inr rfl) h1 h2 h4 (fun h' tk k1 k2 => by simpa using hR h' tk k1 k2) (by simpa using hz')
  refine (pe_callBK cr hg hm bt_sorted (pa_cons he pa_nil hse) (pk_cons (pe_glob (v := .ref fa) hgx hmx rfl hdb) pk_nil) (by decide) (by decide) hs1 hpl hall hnone hks).via fun σ H Q h => ?_
  refine (rdG.bind h).imp fun y H1 ⟨d, S1, r1, v1, p1, q1⟩ => ?_
  cases hd : seqD d with
  | none => rw [hd] at q1; exact q1.elim
  | some ds =>
    rw [hd] at q1
    obtain ⟨ks, hk, ok, q⟩ := sortK_post r1 q1
    cases d with
    | list ds' =>
      cases hd
      obtain ⟨a, vs, rfl, hl, hv⟩ := v1.list
      exact ⟨a, vs, ds, ks, rfl, rfl, .inl hl, hv, r1.tabs, hk, ok, q⟩
    | tuple ds' =>
      cases hd
      obtain ⟨a, vs, rfl, hl, hv⟩ := v1.tuple
      exact ⟨a, vs, ds, ks, rfl, rfl, .inr hl, hv, r1.tabs, hk, ok, q⟩
    | _ => cases hd
end
end Fz
end

section
set_option Elab.async false
set_option linter.all false
set_option maxRecDepth 100000
set_option maxHeartbeats 4000000
/-! F39: isinstance(x, (A, B)). -/
namespace Fz
open PySem PySem.Spec PyProof.Rows L2
def fIsi2 (T U : String) (f : FS → Res D) : FS → Res D := bnd f fun d S => .ok (.bool (isT (dTyp d) T || isT (dTyp d) U)) S
theorem kitAny2 {K : Fg} (d : D) {T U : String} (hT : T ∈ ["int", "bool", "str", "tuple", "list", "dict"]) (hU : U ∈ ["int", "bool", "str", "tuple", "list", "dict"]) :
    PySem.W.kitAny K (.type (dTyp d)) [.type T, .type U] = some (isT (dTyp d) T || isT (dTyp d) U) := by
  refine kitAny_cons (kit_all d T hT) (fun h => ?_) (fun h => by rw [h]; rfl)
  rw [h, Bool.false_or]
  refine kitAny_cons (kit_all d U hU) (fun h2 => ?_) (fun h2 => h2)
  rw [h2]
  exact kitAny_nil
section
variable {X : Cx} {F : Fx} {p pos q q2 tpos : Pos}
theorem Qd.mono {K : Fg} {H H' : Hp} (p : Pers H H') (keep : ∀ a o, H a = some o → H' a = some o) {x : V} {d : D} (h : Qd K H x d) : Qd K H' x d := by
  rcases h with h | ⟨a, vs, ds, e1, e2, h, r⟩
  · exact .inl (h.mono p)
  · refine .inr ⟨a, vs, ds, e1, e2, ?_, r.mono p⟩
    rcases h with (h | ⟨o, h⟩) | h
    · exact .inl (.inl (keep _ _ h))
    · exact .inl (.inr ⟨o, keep _ _ h⟩)
    · exact .inr h
theorem e_isi2 {T U : String} {x y : Str} {e : Expr} {f : FS → Res D} {k : Nat} (hg : Gl X "isinstance") (hm : X.mg "isinstance" = none) (hv : bootBuiltins "isinstance" = some (.builtin "isinstance")) (he : EQ X F e f)
    (hg2 : Gl X x) (hm2 : X.mg x = none) (hv2 : bootBuiltins x = some (.type T)) (hg3 : Gl X y) (hm3 : X.mg y = none) (hv3 : bootBuiltins y = some (.type U))
    (hn2 : x ≠ "__name__" := by decide) (hdb2 : (x == ("__debug__" : Str)) = false := by decide) (hn3 : y ≠ "__name__" := by decide) (hdb3 : (y == ("__debug__" : Str)) = false := by decide)
    (hT : T ∈ ["int", "bool", "str", "tuple", "list", "dict"] := by decide) (hU : U ∈ ["int", "bool", "str", "tuple", "list", "dict"] := by decide)
    (hs : starEach [e, .Tuple [.Name x q, .Name y q2] k tpos] X.env = (false, eval e X.env) :: starEach [.Tuple [.Name x q, .Name y q2] k tpos] X.env := by rfl)
    (hs2 : starEach [.Tuple [.Name x q, .Name y q2] k tpos] X.env = (false, eval (.Tuple [.Name x q, .Name y q2] k tpos) X.env) :: starEach [] X.env := by rfl)
    (hs3 : starEach [.Name x q, .Name y q2] X.env = (false, eval (.Name x q) X.env) :: starEach [.Name y q2] X.env := by rfl)
    (hs4 : starEach [.Name y q2] X.env = (false, eval (.Name y q2) X.env) :: starEach [] X.env := by rfl)
    (hpl : (backTo pos (starEach [.Tuple [.Name x q, .Name y q2] k tpos] X.env)).any (·.1) = false := by rfl) :
    ED X F (.Call (.Name "isinstance" p) [e, .Tuple [.Name x q, .Name y q2] k tpos] [] pos) (fIsi2 T U f) :=
  (pe_callB call_isiT hg hm hv (pa_cons he (pa_cons (pe_tup (pa_cons (pe_bltn (v := .ty T) hg2 hm2 hv2 rfl hn2 hdb2) (pa_cons (pe_bltn (v := .ty U) hg3 hm3 hv3 rfl hn3 hdb3) pa_nil hs4) hs3)) pa_nil hs2) hs) (by decide) (by decide) hs hpl).via
    fun σ H Q h => (rdG.bind h).imp fun x H1 ⟨d, S1, r, v, p, q⟩ => by
    refine ⟨by rw [sizeLine_eq]; simp, fun tp hp => ?_⟩
    have p1 : Pers H1 (upd H1 tp (.tup [.ty T, .ty U])) := Pers.new hp
    have keep : ∀ a o, H1 a = some o → upd H1 tp (.tup [.ty T, .ty U]) a = some o := fun a o e => by
      rw [upd_ne]; exact e
      intro z; rw [z, hp] at e; cases e
    exact ⟨_, tp, _, _, [.type T, .type U], _, rfl, upd_same, .cons (.ty T) (.cons (.ty U) .nil), (Qd.mono p1 keep v).ty, kitAny2 d hT hU, q _ _ p1 (r.new hp) (Pd.bl _)⟩
end
end Fz
end

section
set_option Elab.async false
set_option linter.all false
set_option maxRecDepth 100000
set_option maxHeartbeats 4000000
/-! F40: a list of a slot is read for a while (frozen), then owned again. -/
namespace Fz
open PySem PySem.Spec PyProof.Rows L2
mutual
/-- no list within -/
def noL : PyData → Bool
  | .tuple ds => noLs ds
  | .list _ => false
  | .dict _ => false
  | _ => true
def noLs : List PyData → Bool
  | [] => true
  | d :: ds => noL d && noLs ds
end
def noLOb : Ob → Bool
  | .lst ds => noLs ds
  | .dic kvs => noLs (kvs.map (·.1)) && noLs (kvs.map (·.2))
def noLSv : Option SV → Bool
  | some (.own ob) => noLOb ob
  | some (.pin ob) => noLOb ob
  | _ => true
/-- all objects of slots are without lists -/
def noLS (S : FS) : Bool := S.all noLSv
section
variable {K : Fg} {H H' : Hp}
/-- tuples stay -/
def TupS (H H' : Hp) : Prop := ∀ a xs, Rd H a (.tup xs) → Rd H' a (.tup xs)
mutual
theorem Pd.noL (t : TupS H H') : ∀ {x : V} {d : D}, Fz.noL d = true → Pd K H x d → Pd K H' x d
  | _, _, _, .non => .non
  | _, _, _, .bl b => .bl b
  | _, _, _, .int i => .int i
  | _, _, _, .str x => .str x
  | _, _, n, .tup h r => .tup (by
      rcases h with h | h
      · exact .inl (t _ _ h)
      · exact .inr h) (PdAll.noLs t (by simpa only [Fz.noL] using n) r)
  | _, _, n, .lst _ _ => by simp [Fz.noL] at n
theorem PdAll.noLs (t : TupS H H') : ∀ {xs : List V} {ds : List D}, Fz.noLs ds = true → PdAll K H xs ds → PdAll K H' xs ds
  | _, _, _, .nil => .nil
  | _, _, n, .cons h r => by
    simp only [Fz.noLs, Bool.and_eq_true] at n
    exact .cons (Pd.noL t n.1 h) (PdAll.noLs t n.2 r)
end
theorem noLs_mem : ∀ {ds : List D}, noLs ds = true → ∀ d ∈ ds, noL d = true
  | [], _, d, h => nomatch h
  | e :: ds, n, d, h => by
    simp only [noLs, Bool.and_eq_true] at n
    rcases List.mem_cons.mp h with rfl | h
    · exact n.1
    · exact noLs_mem n.2 d h
theorem paired_memR {α β : Type} {R : α → β → Prop} {S : α → β → Prop} : ∀ {l : List α} {m : List β}, Paired R l m → (∀ x y, y ∈ m → R x y → S x y) → Paired S l m
  | _, _, .nil, _ => .nil
  | _, _, .cons h r, f => .cons (f _ _ (by simp) h) (paired_memR r fun x y hy => f x y (by simp [hy]))
theorem ObR.noL {w : World} {b : Addr} {ob : Ob} (t : TupS H H') (e : H' b = H b) (n : noLOb ob = true) (h : ObR K w H b ob) : ObR K w H' b ob := by
  cases ob with
  | lst ds => obtain ⟨vs, q, r⟩ := h; exact ⟨vs, e.trans q, r.noLs t n⟩
  | dic kvs =>
    simp only [noLOb, Bool.and_eq_true] at n
    have n1 : ∀ q ∈ kvs, Fz.noL q.1 = true := fun q hq => noLs_mem n.1 _ (List.mem_map_of_mem hq)
    have n2 : ∀ q ∈ kvs, Fz.noL q.2 = true := fun q hq => noLs_mem n.2 _ (List.mem_map_of_mem hq)
    rcases h with ⟨raw, q, r⟩ | ⟨raw, ne, q, r⟩
    · exact .inl ⟨raw, e.trans q, paired_memR r fun x y hy z => ⟨z.1, z.2.noL t (n2 y hy)⟩⟩
    · exact .inr ⟨raw, ne, e.trans q, paired_memR r fun x y hy z => ⟨z.1, z.2.1.noL t (n1 y hy), z.2.2.noL t (n2 y hy)⟩⟩
end
section
variable {X : Cx} {pins : List (Addr × Obj)} {σ : L2.St} {H : Hp} {s : Shared} {a : Addr} {o : Obj} {vs : List V}
/-- a frozen list is a list -/
theorem inv_thaw (I : Inv X pins σ H s) (h : H a = some (.frz o (.lst vs))) (h0 : ∀ o u, X.H_0 a ≠ some (.frz o u)) : Inv X pins σ (upd H a (.lst vs)) s := by
  have ne : ∀ b u, H b = some u → (∀ o, u ≠ .frz o (.lst vs)) → b ≠ a := fun b u e n z => by rw [z, h] at e; cases e; exact n o rfl
  have nn : ∀ b, H b = none → b ≠ a := fun b e z => by rw [z, h] at e; cases e
  obtain ⟨ok, os, bare, base, loc, cell, free, freeC, pin, hok, len⟩ := I
  refine ⟨ok, os, bare, ⟨base.keep, base.slot, fun b ob q n hx => ?_, base.there, fun b xs q => ?_, fun b ob u q => ?_, fun b ps q => ?_⟩, loc, cell, ?_, fun x c e => ?_, fun p hp => ?_, fun b u e => ?_, len⟩
  · have := base.free b ob q n hx
    rw [upd_ne (nn b this)]; exact this
  · have := base.tups b xs q
    rw [upd_ne (ne b _ this fun _ z => nomatch z)]; exact this
  · have := base.frzs b ob u q
    rw [upd_ne]; exact this
    intro z
    rw [z] at q
    exact h0 _ _ q
  · obtain ⟨more, this⟩ := base.tbls b ps q
    exact ⟨more, by rw [upd_ne (ne b _ this fun _ z => nomatch z)]; exact this⟩
  · rw [upd_ne (nn _ free)]; exact free
  · rw [upd_ne (nn _ (freeC x c e))]; exact freeC x c e
  · obtain ⟨h1, h2, h3⟩ := pin p hp
    exact ⟨h1, by rw [upd_ne (nn _ h2)]; exact h2, h3⟩
  · by_cases hb : b = a
    · subst hb
      rw [upd_same] at e
      cases e
      exact (show ObjOk X.prog X.w H s.heap b (.frz o (.lst vs)) from hok b _ h).2
    · rw [upd_ne hb] at e
      refine (hok b u e).stay (fun c v _ q => q) (fun c q => ?_) fun c xs q => ?_
      · rw [upd_ne (ne c _ q fun _ z => nomatch z)]; exact q
      · rw [upd_ne (ne c _ q fun _ z => nomatch z)]; exact q
theorem tupS_thaw (h : H a = some (.frz o (.lst vs))) : TupS H (upd H a (.lst vs)) := fun b xs q => by
  rcases q with q | ⟨ob, q⟩
  · left; rw [upd_ne]; exact q
    intro z; rw [z, h] at q; cases q
  · right; refine ⟨ob, ?_⟩; rw [upd_ne]; exact q
    intro z; rw [z, h] at q; cases q
end
/-- the slots again as they stood -/
theorem rel_thaw {K : Fg} {F : Fx} {S : FS} {σ : Sl} {H H1 : Hp} {i : Nat} {ds : List D} {a : Addr} {o : Obj} {vs vs1 : List V} (r : Rel K F S σ H) (hs : S[i]? = some (some (.own (.lst ds)))) (ea : σ[i]? = some (some (.ref a))) (hH : H a = some (.lst vs))
    (r1 : Rel K F (S.set i (some (.d (.list ds)))) σ H1) (p : Pers H H1) (n : noLS S = true) (h1 : H1 a = some (.frz o (.lst vs1))) (hv : PdAll K H1 vs1 ds) : Rel K F S σ (upd H1 a (.lst vs1)) ∧ Pers H (upd H1 a (.lst vs1)) := by
  have hl : i < S.length := (List.getElem?_eq_some_iff.mp hs).1
  have n' : ∀ j sv, S[j]? = some sv → noLSv sv = true := fun j sv e => List.all_eq_true.mp n _ (List.mem_of_getElem? e)
  have tS := tupS_thaw h1
  have ne : ∀ b u, H1 b = some u → (∀ o, u ≠ .frz o (.lst vs1)) → b ≠ a := fun b u e n z => by rw [z, h1] at e; cases e; exact n o rfl
  have p2 : Pers H (upd H1 a (.lst vs1)) := ⟨fun b xs e => by rw [upd_ne (ne b _ (p.tup b xs e) fun _ z => nomatch z)]; exact p.tup b xs e, fun b ob u e => by
    rw [upd_ne]; exact p.frz b ob u e
    intro z; rw [z, hH] at e; cases e⟩
  have h0 : F.H0 a = none := by
    obtain ⟨x, ex, b, rfl, _, z⟩ := r.slot i _ hs
    rw [ea] at ex; cases ex; exact z
  have e1 : ∀ j, j ≠ i → (S.set i (some (.d (.list ds))))[j]? = S[j]? := fun j h => List.getElem?_set_ne (Ne.symm h)
  have own1 : ∀ j, j ≠ i → Owned S j → Owned (S.set i (some (.d (.list ds)))) j := fun j hj ⟨ob, h⟩ => ⟨ob, by rw [e1 j hj]; exact h⟩
  refine ⟨⟨r.len, fun j sv e => ?_, r.apart, fun b u e nb nt => ?_, fun b u e => ?_, fun P hP => ?_, fun q hq => ?_⟩, p2⟩
  · by_cases hj : j = i
    · subst hj
      rw [hs] at e; cases e
      have nd : noLs ds = true := n' _ _ hs
      exact ⟨_, ea, a, rfl, ⟨vs1, upd_same, hv.noLs tS nd⟩, h0⟩
    · cases sv with
      | d d =>
        obtain ⟨x, ex, v⟩ := r.slot j _ e
        exact ⟨x, ex, Pd.mono p2 v⟩
      | own ob =>
        obtain ⟨x, ex, b, rfl, q, z⟩ := r1.slot j _ ((e1 j hj).trans e)
        obtain ⟨u, eu, mu, nt⟩ := q.there
        have nb : b ≠ a := ne b u eu fun _ z => by rw [z] at mu; exact mu
        exact ⟨_, ex, b, rfl, ObR.noL tS (upd_ne nb) (n' j _ e) q, z⟩
      | pin ob =>
        obtain ⟨x, ex, b, rfl, q, z⟩ := r1.slot j _ ((e1 j hj).trans e)
        obtain ⟨u, eu, mu, nt⟩ := q.there
        have nb : b ≠ a := ne b u eu fun _ z => by rw [z] at mu; exact mu
        exact ⟨_, ex, b, rfl, ObR.noL tS (upd_ne nb) (n' j _ e) q, z⟩
  · have q := r1.keep b u e nb nt
    rw [upd_ne]; exact q
    intro z; rw [z, h0] at e; cases e
  · by_cases hb : b = a
    · subst hb; exact ⟨_, upd_same⟩
    · obtain ⟨v, q⟩ := r1.there b u e
      exact ⟨v, by rw [upd_ne hb]; exact q⟩
  · obtain ⟨ps, e, t⟩ := r1.tabs P hP
    exact ⟨ps, by rw [upd_ne (ne P _ e fun _ z => nomatch z)]; exact e, t⟩
  · obtain ⟨e, z, u⟩ := r1.held q hq
    have nb : q.1 ≠ a := ne q.1 _ e fun _ z => nomatch z
    refine ⟨by rw [upd_ne nb]; exact e, z, fun j hj => ?_⟩
    by_cases hji : j = i
    · subst hji
      intro w
      rw [ea] at w; cases w
      exact nb rfl
    · exact u j (own1 j hji hj)
/-- a reading that freezes the list of slot i: it is owned again behind it -/
noncomputable def fThawD (i : Nat) (f : FS → Res D) : FS → Res D := fun S => match S[i]? with
  | some (some (.own (.lst ds))) => (match f S with
    | .ok d S' => @ite _ (S' = S.set i (some (.d (.list ds))) ∧ noLS S = true ∧ noL d = true) (Classical.propDecidable _) (.ok d S) .bad
    | _ => .bad)
  | _ => f S
noncomputable def fThawT (i : Nat) (f : FS → Res Bool) : FS → Res Bool := fun S => match S[i]? with
  | some (some (.own (.lst ds))) => (match f S with
    | .ok d S' => @ite _ (S' = S.set i (some (.d (.list ds))) ∧ noLS S = true) (Classical.propDecidable _) (.ok d S) .bad
    | _ => .bad)
  | _ => f S
section
variable {X : Cx} {F : Fx} {e : Expr} {i : Nat}
theorem frozen_at {pins : List (Addr × Obj)} {σ : L2.St} {H H1 : Hp} {s : Shared} {a : Addr} {ds : List D} {vs : List V} {S : FS} (I : Inv X pins σ H s) (hH : H a = some (.lst vs)) (ea : σ[i]? = some (some (.ref a))) (hl : i < S.length)
    (r1 : Rel X.K F (S.set i (some (.d (.list ds)))) σ H1) : ∃ o vs1, H1 a = some (.frz o (.lst vs1)) ∧ PdAll X.K H1 vs1 ds := by
  obtain ⟨x, ex, v⟩ := r1.slot i _ (List.getElem?_set_self hl)
  rw [ea] at ex; cases ex
  have v' : Pd X.K H1 (.ref a) (.list ds) := v
  cases v' with
  | lst h r =>
    rcases h with ⟨o, h⟩ | h
    · exact ⟨o, _, h, r⟩
    · exfalso
      rcases h with (h | ⟨o, h⟩) | ⟨o, its, n, hk, _⟩
      · cases h
      · cases h
      · have := (I.bs a o (I.mod.kin a o hk)).2
        rw [hH] at this; cases this
theorem e_thawD {f : FS → Res D} (h : ED X F e f) : ED X F e (fThawD i f) := by
  refine ⟨fun pins s σ H Q I ⟨S, r, p⟩ => ?_⟩
  unfold fThawD at p
  split at p
  · rename_i ds hs
    obtain ⟨x, ea, a, rfl, ⟨vs, hH, hv⟩, h0⟩ := r.slot i _ hs
    cases e : f S with
    | ok d S' =>
      rw [e] at p
      simp only at p
      split at p
      · rename_i hc
        obtain ⟨rfl, n, nd⟩ := hc
        refine thn (h.run pins s σ H (fun x H1 => Pers H H1 ∧ Rel X.K F (S.set i (some (.d (.list ds)))) σ H1 ∧ Pd X.K H1 x d) I ⟨S, r, by rw [e]; exact fun x H1 p1 r1 v => ⟨p1, r1, v⟩⟩) fun u s1 ⟨x, H1, I1, rx, p1, r1, v⟩ => ?_
        obtain ⟨o, vs1, h1, hv1⟩ := frozen_at I hH ea (List.getElem?_eq_some_iff.mp hs).1 r1
        obtain ⟨r2, p2⟩ := rel_thaw r hs ea hH r1 p1 n h1 hv1
        exact ⟨x, _, inv_thaw I1 h1 (fun o u z => by have := I.base.frzs a o u z; rw [hH] at this; cases this), rx, p x _ p2 r2 (v.noL (tupS_thaw h1) nd)⟩
      · exact p.elim
    | exn e2 S' => rw [e] at p; exact p.elim
    | bad => rw [e] at p; exact p.elim
  · exact h.run pins s σ H Q I ⟨S, r, p⟩
theorem t_thaw {f : FS → Res Bool} (h : ET X F e f) : ET X F e (fThawT i f) := by
  refine ⟨fun pins s σ H Q I ⟨S, r, p⟩ => ?_⟩
  unfold fThawT at p
  split at p
  · rename_i ds hs
    obtain ⟨x, ea, a, rfl, ⟨vs, hH, hv⟩, h0⟩ := r.slot i _ hs
    cases e : f S with
    | ok d S' =>
      rw [e] at p
      simp only at p
      split at p
      · rename_i hc
        obtain ⟨rfl, n⟩ := hc
        refine thn (h.run pins s σ H (fun b H1 => b = d ∧ Pers H H1 ∧ Rel X.K F (S.set i (some (.d (.list ds)))) σ H1) I ⟨S, r, by rw [e]; exact fun H1 p1 r1 => ⟨rfl, p1, r1⟩⟩) fun b s1 ⟨H1, I1, eb, p1, r1⟩ => ?_
        subst eb
        obtain ⟨o, vs1, h1, hv1⟩ := frozen_at I hH ea (List.getElem?_eq_some_iff.mp hs).1 r1
        obtain ⟨r2, p2⟩ := rel_thaw r hs ea hH r1 p1 n h1 hv1
        exact ⟨_, inv_thaw I1 h1 (fun o u z => by have := I.base.frzs a o u z; rw [hH] at this; cases this), p _ p2 r2⟩
      · exact p.elim
    | exn e2 S' => rw [e] at p; exact p.elim
    | bad => rw [e] at p; exact p.elim
  · exact h.run pins s σ H Q I ⟨S, r, p⟩
end
end Fz
end

section
set_option Elab.async false
set_option linter.all false
set_option maxRecDepth 100000
set_option maxHeartbeats 4000000
/-! F23: loops over typed lists; pure comprehensions; more weakest preconditions. -/
namespace Fz
open PySem L2
section
variable {α : Type} {S : FS} {N : FS → Prop} {R : SV → FS → Prop} {B C : FS → Prop} {f : α → D} {xs : List α}
theorem wS_forM {g : D → FS → Option FS} {b : FS → SRes} (I : List α → FS → Prop) (h0 : I xs S) (step : ∀ x r S, I (x :: r) S → wO (g (f x) S) fun S1 => wS (b S1) (I r) R N (I r)) (hN : ∀ S, I [] S → N S) : wS (forF g b (xs.map f) S) N R B C := by
  refine wS_forF (fun i S => I (xs.drop i) S) h0 ?_ ?_
  · intro i d S hd h
    rw [List.getElem?_map] at hd
    obtain ⟨x, hx, rfl⟩ := Option.map_eq_some_iff.mp hd
    obtain ⟨h1, h2⟩ := List.getElem?_eq_some_iff.mp hx
    rw [List.drop_eq_getElem_cons h1, h2] at h
    exact step x _ S h
  · intro S h
    rw [List.length_map, List.drop_length] at h
    exact hN S h
/-- .. with what went before, too -/
theorem wS_forP {g : D → FS → Option FS} {b : FS → SRes} (I : List α → List α → FS → Prop) (h0 : I [] xs S) (step : ∀ p x r S, xs = p ++ x :: r → I p (x :: r) S → wO (g (f x) S) fun S1 => wS (b S1) (I (p ++ [x]) r) R N (I (p ++ [x]) r)) (hN : ∀ S, I xs [] S → N S) : wS (forF g b (xs.map f) S) N R B C := by
  refine wS_forF (fun i S => i ≤ xs.length ∧ I (xs.take i) (xs.drop i) S) ⟨Nat.zero_le _, h0⟩ ?_ ?_
  · intro i d S hd ⟨_, h⟩
    rw [List.getElem?_map] at hd
    obtain ⟨x, hx, rfl⟩ := Option.map_eq_some_iff.mp hd
    obtain ⟨h1, h2⟩ := List.getElem?_eq_some_iff.mp hx
    have e1 : xs.drop i = x :: xs.drop (i + 1) := by rw [List.drop_eq_getElem_cons h1, h2]
    have e2 : xs.take (i + 1) = xs.take i ++ [x] := by rw [List.take_add_one, hx]; rfl
    rw [e1] at h
    have st := step (xs.take i) x _ S (by rw [← e1, List.take_append_drop]) h
    rw [← e2] at st
    cases hg : g (f x) S with
    | none => rw [hg] at st; exact st.elim
    | some S1 =>
      rw [hg] at st
      exact wS.imp (r := b S1) st (fun S z => ⟨h1, z⟩) (fun _ _ z => z) (fun _ z => z) (fun S z => ⟨h1, z⟩)
  · intro S ⟨_, h⟩
    rw [List.length_map, List.drop_length, List.take_length] at h
    exact hN S h
theorem any_w {stop : Bool} {g : D → FS → Option FS} {fe : FS → Res D} {vs : List Nat} {Q : Bool → FS → Prop} (p : α → Bool) (I : FS → Prop) (h0 : I S)
    (step : ∀ x, x ∈ xs → ∀ S, I S → wO (g (f x) (wipeS S vs)) fun S1 => wE (fe S1) fun y S3 => y = .bool (p x) ∧ I (restS S S3 vs))
    (hQ : ∀ S, I S → Q (if stop then xs.any p else xs.all p) S) : wE (anyF stop g (fC true) fe vs (xs.map f) S) Q := by
  refine wE_anyF (fun i S => I S ∧ i ≤ xs.length ∧ ∀ x ∈ xs.take i, p x = !stop) ⟨h0, Nat.zero_le _, by simp⟩ ?_ ?_
  · intro i d S hd ⟨hI, hi, hp⟩
    rw [List.getElem?_map] at hd
    obtain ⟨x, hx, rfl⟩ := Option.map_eq_some_iff.mp hd
    obtain ⟨h1, h2⟩ := List.getElem?_eq_some_iff.mp hx
    have hm : x ∈ xs := List.mem_of_getElem? hx
    have st := step x hm S hI
    cases hg : g (f x) (wipeS S vs) with
    | none => rw [hg] at st; exact st.elim
    | some S1 =>
      rw [hg] at st
      have st : wE (fe S1) _ := st
      rw [wO_some, wE_fC]
      refine ⟨fun z => Bool.noConfusion z, fun _ => ?_⟩
      refine st.mono ?_
      rintro y S3 ⟨rfl, h3⟩
      refine ⟨fun e => ?_, fun e => ⟨h3, h1, ?_⟩⟩
      · have := hQ _ h3
        cases stop with
        | true =>
          have ea : xs.any p = true := List.any_eq_true.mpr ⟨x, hm, e⟩
          rw [if_pos rfl, ea] at this
          exact this
        | false =>
          have ea : xs.all p = false := List.all_eq_false.mpr ⟨x, hm, by rw [e]; simp⟩
          rw [if_neg Bool.false_ne_true, ea] at this
          exact this
      · intro z hz
        rw [List.take_add_one, hx] at hz
        rcases List.mem_append.mp hz with hz | hz
        · exact hp z hz
        · have : z = x := by simpa using hz
          rw [this]
          cases hpx : p x <;> cases stop <;> simp_all
  · intro S ⟨hI, _, hp⟩
    rw [List.length_map, List.take_length] at hp
    have := hQ S hI
    cases stop with
    | true =>
      have ea : xs.any p = false := List.any_eq_false.mpr fun x hx => by rw [hp x hx]; simp
      rw [if_pos rfl, ea] at this
      exact this
    | false =>
      have ea : xs.all p = true := List.all_eq_true.mpr fun x hx => by rw [hp x hx]; simp
      rw [if_neg Bool.false_ne_true, ea] at this
      exact this
theorem lc_w {g : D → FS → Option FS} {t : FS → Res Bool} {fe : FS → Res D} {vs : List Nat} {Q : SV → FS → Prop} (q : α → Bool) (h : α → D) (I : FS → Prop) (h0 : I S) (hl : xs.length ≤ 16000000)
    (step : ∀ x, x ∈ xs → ∀ S, I S → wO (g (f x) (wipeS S vs)) fun S1 => wE (t S1) fun k S2 => k = q x ∧ (k = false → I (restS S S2 vs)) ∧ (k = true → wE (fe S2) fun y S3 => y = h x ∧ I (restS S S3 vs)))
    (hQ : ∀ S, I S → Q (.own (.lst ((xs.filter q).map h))) S) : wE (lcF g t fe vs (xs.map f) S []) Q := by
  refine wE_lcF (fun i acc S => I S ∧ i ≤ xs.length ∧ acc = ((xs.take i).filter q).map h) ⟨h0, Nat.zero_le _, by simp⟩ ?_ ?_
  · rintro i d acc S hd ⟨hI, hi, rfl⟩
    rw [List.getElem?_map] at hd
    obtain ⟨x, hx, rfl⟩ := Option.map_eq_some_iff.mp hd
    obtain ⟨h1, h2⟩ := List.getElem?_eq_some_iff.mp hx
    have hm : x ∈ xs := List.mem_of_getElem? hx
    have st := step x hm S hI
    cases hg : g (f x) (wipeS S vs) with
    | none => rw [hg] at st; exact st.elim
    | some S1 =>
      rw [hg] at st
      have st : wE (t S1) _ := st
      rw [wO_some]
      have e2 : xs.take (i + 1) = xs.take i ++ [x] := by rw [List.take_add_one, hx]; rfl
      refine st.mono ?_
      rintro k S2 ⟨rfl, s1, s2⟩
      refine ⟨fun e => ⟨s1 e, h1, ?_⟩, fun e => ?_⟩
      · rw [e2]; simp [e]
      · refine (s2 e).mono ?_
        rintro y S3 ⟨rfl, s3⟩
        refine ⟨szS ?_, s3, h1, ?_⟩
        · rw [List.length_map]
          have a := List.length_filter_le q (xs.take i)
          rw [List.length_take] at a
          omega
        · rw [e2]; simp [e]
  · rintro acc S ⟨hI, _, rfl⟩
    rw [List.length_map, List.take_length]
    exact hQ S hI
end
section
variable {S : FS} {Q : D → FS → Prop} {QV : SV → FS → Prop} {d e : D}
@[simp] theorem wE_pShl : wE (pShl d e S) Q = wInt d fun i => wInt e fun j => CPow i j ∧ Q (.int (i * 2 ^ j.toNat)) S := by
  cases d <;> cases e <;> simp [pShl, pInt, wInt]
  split <;> simp_all
@[simp] theorem wE_pShr : wE (pShr d e S) Q = wInt d fun i => wInt e fun j => 0 ≤ j ∧ Q (.int (i / 2 ^ j.toNat)) S := by
  cases d <;> cases e <;> simp only [pShr, pInt, wInt, wE_bad]
  rename_i i j
  by_cases h : 0 ≤ j
  · simp [h]
  · simp [h]
theorem inR_iff {k : Int} : inR k ↔ (-4611686018427387904 ≤ k ∧ k < 4611686018427387904) := by
  unfold inR
  rw [show (2 : Int) ^ 62 = 4611686018427387904 from by decide]
theorem wE_pMulS' {xs : List D} {k : Int} : wE (pMulS (.list xs) (.int k) S) QV = ((inR k ∧ xs.length * k.toNat ≤ sizeLine) ∧ QV (.own (.lst (List.replicate k.toNat xs).flatten)) S) := by
  unfold pMulS; simp only
  by_cases h : inR k ∧ xs.length * k.toNat ≤ sizeLine
  · rw [if_pos h]; simp only [wE_ok, h, true_and, and_self]
  · rw [if_neg h]; simp only [wE_bad, h, false_and]
@[simp] theorem wE_pMulS {xs : List D} {k : Int} : wE (pMulS (.list xs) (.int k) S) QV = (((-4611686018427387904 ≤ k ∧ k < 4611686018427387904) ∧ xs.length * k.toNat ≤ sizeLine) ∧ QV (.own (.lst (List.replicate k.toNat xs).flatten)) S) := by
  rw [wE_pMulS', inR_iff]
end
@[simp] theorem eqv_tt {a b : D} {as bs : List D} : PyData.eqv (.tuple (a :: as)) (.tuple (b :: bs)) = (PyData.eqv a b && PyData.eqv (.tuple as) (.tuple bs)) := by simp only [PyData.eqv, PyData.eqvAll]
@[simp] theorem eqv_tn {b : D} {bs : List D} : PyData.eqv (.tuple []) (.tuple (b :: bs)) = false := by simp only [PyData.eqv, PyData.eqvAll]
@[simp] theorem eqv_tn2 {b : D} {bs : List D} : PyData.eqv (.tuple (b :: bs)) (.tuple []) = false := by simp only [PyData.eqv, PyData.eqvAll]
@[simp] theorem eqv_tnn : PyData.eqv (.tuple []) (.tuple []) = true := by simp only [PyData.eqv, PyData.eqvAll]
@[simp] theorem eqv_ll {a b : D} {as bs : List D} : PyData.eqv (.list (a :: as)) (.list (b :: bs)) = (PyData.eqv a b && PyData.eqv (.list as) (.list bs)) := by simp only [PyData.eqv, PyData.eqvAll]
@[simp] theorem eqv_ln {b : D} {bs : List D} : PyData.eqv (.list []) (.list (b :: bs)) = false := by simp only [PyData.eqv, PyData.eqvAll]
@[simp] theorem eqv_x_none_bool {b1 : Bool} : PyData.eqv .none (.bool b1) = false := by simp only [PyData.eqv]
@[simp] theorem eqv_x_none_int {i1 : Int} : PyData.eqv .none (.int i1) = false := by simp only [PyData.eqv]
@[simp] theorem eqv_x_none_str {s1 : Str} : PyData.eqv .none (.str s1) = false := by simp only [PyData.eqv]
@[simp] theorem eqv_x_none_tuple {t1 : List D} : PyData.eqv .none (.tuple t1) = false := by simp only [PyData.eqv]
@[simp] theorem eqv_x_none_list {l1 : List D} : PyData.eqv .none (.list l1) = false := by simp only [PyData.eqv]
@[simp] theorem eqv_x_none_W {w1 : List Int} : PyData.eqv .none (W w1) = false := by unfold W; simp only [PyData.eqv]
@[simp] theorem eqv_x_bool_none {b1 : Bool} : PyData.eqv (.bool b1) .none = false := by simp only [PyData.eqv]
@[simp] theorem eqv_x_bool_str {b1 : Bool} {s1 : Str} : PyData.eqv (.bool b1) (.str s1) = false := by simp only [PyData.eqv]
@[simp] theorem eqv_x_bool_tuple {b1 : Bool} {t1 : List D} : PyData.eqv (.bool b1) (.tuple t1) = false := by simp only [PyData.eqv]
@[simp] theorem eqv_x_bool_list {b1 : Bool} {l1 : List D} : PyData.eqv (.bool b1) (.list l1) = false := by simp only [PyData.eqv]
@[simp] theorem eqv_x_bool_W {b1 : Bool} {w1 : List Int} : PyData.eqv (.bool b1) (W w1) = false := by unfold W; simp only [PyData.eqv]
@[simp] theorem eqv_x_int_none {i1 : Int} : PyData.eqv (.int i1) .none = false := by simp only [PyData.eqv]
@[simp] theorem eqv_x_int_str {i1 : Int} {s1 : Str} : PyData.eqv (.int i1) (.str s1) = false := by simp only [PyData.eqv]
@[simp] theorem eqv_x_int_tuple {i1 : Int} {t1 : List D} : PyData.eqv (.int i1) (.tuple t1) = false := by simp only [PyData.eqv]
@[simp] theorem eqv_x_int_list {i1 : Int} {l1 : List D} : PyData.eqv (.int i1) (.list l1) = false := by simp only [PyData.eqv]
@[simp] theorem eqv_x_int_W {i1 : Int} {w1 : List Int} : PyData.eqv (.int i1) (W w1) = false := by unfold W; simp only [PyData.eqv]
@[simp] theorem eqv_x_str_none {s1 : Str} : PyData.eqv (.str s1) .none = false := by simp only [PyData.eqv]
@[simp] theorem eqv_x_str_bool {s1 : Str} {b1 : Bool} : PyData.eqv (.str s1) (.bool b1) = false := by simp only [PyData.eqv]
@[simp] theorem eqv_x_str_int {s1 : Str} {i1 : Int} : PyData.eqv (.str s1) (.int i1) = false := by simp only [PyData.eqv]
@[simp] theorem eqv_x_str_tuple {s1 : Str} {t1 : List D} : PyData.eqv (.str s1) (.tuple t1) = false := by simp only [PyData.eqv]
@[simp] theorem eqv_x_str_list {s1 : Str} {l1 : List D} : PyData.eqv (.str s1) (.list l1) = false := by simp only [PyData.eqv]
@[simp] theorem eqv_x_str_W {s1 : Str} {w1 : List Int} : PyData.eqv (.str s1) (W w1) = false := by unfold W; simp only [PyData.eqv]
@[simp] theorem eqv_x_tuple_none {t1 : List D} : PyData.eqv (.tuple t1) .none = false := by simp only [PyData.eqv]
@[simp] theorem eqv_x_tuple_bool {t1 : List D} {b1 : Bool} : PyData.eqv (.tuple t1) (.bool b1) = false := by simp only [PyData.eqv]
@[simp] theorem eqv_x_tuple_int {t1 : List D} {i1 : Int} : PyData.eqv (.tuple t1) (.int i1) = false := by simp only [PyData.eqv]
@[simp] theorem eqv_x_tuple_str {t1 : List D} {s1 : Str} : PyData.eqv (.tuple t1) (.str s1) = false := by simp only [PyData.eqv]
@[simp] theorem eqv_x_tuple_list {t1 : List D} {l1 : List D} : PyData.eqv (.tuple t1) (.list l1) = false := by simp only [PyData.eqv]
@[simp] theorem eqv_x_list_none {l1 : List D} : PyData.eqv (.list l1) .none = false := by simp only [PyData.eqv]
@[simp] theorem eqv_x_list_bool {l1 : List D} {b1 : Bool} : PyData.eqv (.list l1) (.bool b1) = false := by simp only [PyData.eqv]
@[simp] theorem eqv_x_list_int {l1 : List D} {i1 : Int} : PyData.eqv (.list l1) (.int i1) = false := by simp only [PyData.eqv]
@[simp] theorem eqv_x_list_str {l1 : List D} {s1 : Str} : PyData.eqv (.list l1) (.str s1) = false := by simp only [PyData.eqv]
@[simp] theorem eqv_x_list_tuple {l1 : List D} {t1 : List D} : PyData.eqv (.list l1) (.tuple t1) = false := by simp only [PyData.eqv]
@[simp] theorem eqv_x_list_W {l1 : List D} {w1 : List Int} : PyData.eqv (.list l1) (W w1) = false := by unfold W; simp only [PyData.eqv]
@[simp] theorem eqv_x_W_none {w1 : List Int} : PyData.eqv (W w1) .none = false := by unfold W; simp only [PyData.eqv]
@[simp] theorem eqv_x_W_bool {w1 : List Int} {b1 : Bool} : PyData.eqv (W w1) (.bool b1) = false := by unfold W; simp only [PyData.eqv]
@[simp] theorem eqv_x_W_int {w1 : List Int} {i1 : Int} : PyData.eqv (W w1) (.int i1) = false := by unfold W; simp only [PyData.eqv]
@[simp] theorem eqv_x_W_str {w1 : List Int} {s1 : Str} : PyData.eqv (W w1) (.str s1) = false := by unfold W; simp only [PyData.eqv]
@[simp] theorem eqv_x_W_list {w1 : List Int} {l1 : List D} : PyData.eqv (W w1) (.list l1) = false := by unfold W; simp only [PyData.eqv]
@[simp] theorem all_tt {α : Type} {xs : List α} : (xs.all fun _ => true) = true := by simp
@[simp] theorem any_ff {α : Type} {xs : List α} : (xs.any fun _ => false) = false := by simp
@[simp] theorem cutL_1 {α : Type} {xs : List α} : cutL xs (some 1) none = xs.drop 1 := cutL_drop xs 1
@[simp] theorem cutL_2 {α : Type} {xs : List α} : cutL xs (some 2) none = xs.drop 2 := cutL_drop xs 2
@[simp] theorem cutL_t1 {α : Type} {xs : List α} : cutL xs none (some 1) = xs.take 1 := cutL_take xs 1
@[simp] theorem cutL_t2 {α : Type} {xs : List α} : cutL xs none (some 2) = xs.take 2 := cutL_take xs 2
@[simp] theorem cutL_last {α : Type} {xs : List α} : cutL xs none (some (-1)) = xs.dropLast := by
  unfold cutL
  rw [HT.sIx_none, List.dropLast_eq_take]
  have : HT.sIx xs.length xs.length (some (-1)) = xs.length - 1 := by
    show (if (-1 : Int) < 0 then ((-1 : Int) + (xs.length : Int)).toNat else min (-1 : Int).toNat xs.length) = _
    rw [if_pos (by decide)]; omega
  rw [this, List.drop_zero, Nat.sub_zero]
@[simp] theorem atI_snoc {α : Type} {xs : List α} {x : α} : atI (xs ++ [x]) (-1) = some x := by
  rw [atI_last (by simp)]; simp
@[simp] theorem atI_nil {α : Type} {i : Int} : atI ([] : List α) i = none := by
  unfold atI; cases ixN 0 i <;> simp
@[simp] theorem nle0 {n : Nat} : ((n : Int) + 1 ≤ 0) = False := eq_false (by omega)
@[simp] theorem nlt0 {n : Nat} : (0 < (n : Int) + 1) = True := eq_true (by omega)
@[simp] theorem nne0 {n : Nat} : ((n : Int) + 1 = 0) = False := eq_false (by omega)
@[simp] theorem nnl {n : Nat} : ((n : Int) < 0) = False := eq_false (by omega)
@[simp] theorem szl_1 : (1 ≤ sizeLine) = True := eq_true (szL (by decide))
@[simp] theorem szl_2 : (2 ≤ sizeLine) = True := eq_true (szL (by decide))
@[simp] theorem szl_3 : (3 ≤ sizeLine) = True := eq_true (szL (by decide))
@[simp] theorem szl_4 : (4 ≤ sizeLine) = True := eq_true (szL (by decide))
@[simp] theorem szl_5 : (5 ≤ sizeLine) = True := eq_true (szL (by decide))
@[simp] theorem szl_6 : (6 ≤ sizeLine) = True := eq_true (szL (by decide))
@[simp] theorem szl_7 : (7 ≤ sizeLine) = True := eq_true (szL (by decide))
@[simp] theorem szl_8 : (8 ≤ sizeLine) = True := eq_true (szL (by decide))
@[simp] theorem szl_9 : (9 ≤ sizeLine) = True := eq_true (szL (by decide))
@[simp] theorem szl_10 : (10 ≤ sizeLine) = True := eq_true (szL (by decide))
@[simp] theorem szl_11 : (11 ≤ sizeLine) = True := eq_true (szL (by decide))
@[simp] theorem szl_12 : (12 ≤ sizeLine) = True := eq_true (szL (by decide))
@[simp] theorem szl_13 : (13 ≤ sizeLine) = True := eq_true (szL (by decide))
@[simp] theorem szl_14 : (14 ≤ sizeLine) = True := eq_true (szL (by decide))
@[simp] theorem szl_15 : (15 ≤ sizeLine) = True := eq_true (szL (by decide))
@[simp] theorem szl_16 : (16 ≤ sizeLine) = True := eq_true (szL (by decide))
@[simp] theorem szl_17 : (17 ≤ sizeLine) = True := eq_true (szL (by decide))
@[simp] theorem szl_18 : (18 ≤ sizeLine) = True := eq_true (szL (by decide))
@[simp] theorem szl_19 : (19 ≤ sizeLine) = True := eq_true (szL (by decide))
@[simp] theorem szl_20 : (20 ≤ sizeLine) = True := eq_true (szL (by decide))
@[simp] theorem szl_21 : (21 ≤ sizeLine) = True := eq_true (szL (by decide))
@[simp] theorem szl_22 : (22 ≤ sizeLine) = True := eq_true (szL (by decide))
@[simp] theorem szl_23 : (23 ≤ sizeLine) = True := eq_true (szL (by decide))
@[simp] theorem szl_24 : (24 ≤ sizeLine) = True := eq_true (szL (by decide))
@[simp] theorem szl_25 : (25 ≤ sizeLine) = True := eq_true (szL (by decide))
@[simp] theorem szl_26 : (26 ≤ sizeLine) = True := eq_true (szL (by decide))
@[simp] theorem szl_27 : (27 ≤ sizeLine) = True := eq_true (szL (by decide))
@[simp] theorem szl_28 : (28 ≤ sizeLine) = True := eq_true (szL (by decide))
@[simp] theorem szl_29 : (29 ≤ sizeLine) = True := eq_true (szL (by decide))
@[simp] theorem szl_30 : (30 ≤ sizeLine) = True := eq_true (szL (by decide))
@[simp] theorem filter_tt {α : Type} {xs : List α} : (xs.filter fun _ => true) = xs := by simp
theorem rng0 {n : Nat} : rngD 0 n = (List.range n).map fun i : Nat => PyData.int (i : Int) := by
  unfold rngD
  refine List.map_congr_left fun i _ => ?_
  simp
@[simp] theorem wE_pToInt_b {S : FS} {Q : D → FS → Prop} {b : Bool} : wE (pToInt (.bool b) S) Q = Q (.int (if b = true then 1 else 0)) S := rfl
/-- a slot that reads as a list, own or for good -/
def Rd (sv : SV) (ds : List D) : Prop := ∀ k : D → Prop, wPeek (some (some sv)) k = k (.list ds)
theorem Rd.own (ds : List D) : Rd (.own (.lst ds)) ds := fun _ => rfl
theorem Rd.d (ds : List D) : Rd (.d (.list ds)) ds := fun _ => rfl
theorem range_at {n x : Nat} {p r : List Nat} (e : List.range n = p ++ x :: r) : x = p.length ∧ p.length < n := by
  have e1 := congrArg (fun l => l[p.length]?) e
  have e2 := congrArg List.length e
  simp at e1 e2
  have : p.length < n := by omega
  rw [List.getElem?_range this] at e1
  exact ⟨by simpa using e1.symm, this⟩
section
variable {S : FS} {QV : SV → FS → Prop} {N : FS → Prop} {R : SV → FS → Prop} {B C : FS → Prop} {f : FS → Res D} {xs ys : List D} {k : Int} {i j : Int}
@[simp] theorem wE_pMulG_i : wE (pMulG (.int i) (.int j) S) QV = (CMulW i j ∧ QV (.d (.int (i * j))) S) := by
  unfold pMulG; simp only
  by_cases h : CMulW i j
  · rw [if_pos h]; simp only [wE_ok, h, true_and]
  · rw [if_neg h]; simp only [wE_bad, h, false_and]
@[simp] theorem wE_pMulG_l : wE (pMulG (.list xs) (.int k) S) QV = (((-4611686018427387904 ≤ k ∧ k < 4611686018427387904) ∧ xs.length * k.toNat ≤ sizeLine) ∧ QV (.own (.lst (List.replicate k.toNat xs).flatten)) S) := by
  rw [← inR_iff]
  unfold pMulG; simp only
  by_cases h : inR k ∧ xs.length * k.toNat ≤ sizeLine
  · rw [if_pos h]; simp only [wE_ok, h, true_and, and_self]
  · rw [if_neg h]; simp only [wE_bad, h, false_and]
@[simp] theorem wE_pMulG_t : wE (pMulG (.tuple xs) (.int k) S) QV = (((-4611686018427387904 ≤ k ∧ k < 4611686018427387904) ∧ xs.length * k.toNat ≤ sizeLine) ∧ QV (.d (.tuple (List.replicate k.toNat xs).flatten)) S) := by
  rw [← inR_iff]
  unfold pMulG; simp only
  by_cases h : inR k ∧ xs.length * k.toNat ≤ sizeLine
  · rw [if_pos h]; simp only [wE_ok, h, true_and, and_self]
  · rw [if_neg h]; simp only [wE_bad, h, false_and]
@[simp] theorem wE_pMulG_W {w : List Int} : wE (pMulG (W w) (.int k) S) QV = (((-4611686018427387904 ≤ k ∧ k < 4611686018427387904) ∧ w.length * k.toNat ≤ sizeLine) ∧ QV (.d (W (List.replicate k.toNat w).flatten)) S) := by
  unfold W
  rw [wE_pMulG_t, List.length_map]
  have : (List.replicate k.toNat (w.map PyData.int)).flatten = (List.replicate k.toNat w).flatten.map PyData.int := by
    rw [List.map_flatten, List.map_replicate]
  rw [this]
@[simp] theorem wS_fAugG {i : Nat} : wS (fAug .d i pAug f S) N R B C = wPeek S[i]? fun _ => wE (f S) fun e S1 => wPeek S1[i]? fun d => wE (pAug d e S1) fun z S2 => N (S2.set i (some (.d z))) := by
  unfold fAug; rw [wS_bndS, wE_fPeek]; congr; funext d; rw [wS_bndS]; congr; funext e S1; rw [wS_bndS, wE_fPeek]; congr; funext d2; rw [wS_bndS]; rfl
@[simp] theorem wE_pAug_t {Q : D → FS → Prop} : wE (pAug (.tuple xs) (.tuple ys) S) Q = (xs.length + ys.length ≤ sizeLine ∧ Q (.tuple (xs ++ ys)) S) := by
  unfold pAug; simp only; split <;> simp [*]
@[simp] theorem wE_pAug_i {Q : D → FS → Prop} : wE (pAug (.int i) (.int j) S) Q = Q (.int (i + j)) S := rfl
@[simp] theorem wE_pAug_s {Q : D → FS → Prop} {a b : Str} : wE (pAug (.str a) (.str b) S) Q = (a.length + b.length ≤ sizeLine ∧ Q (.str (a ++ b)) S) := by
  unfold pAug; simp only; split <;> simp [*]
@[simp] theorem wE_pAug_W {Q : D → FS → Prop} {v w : List Int} : wE (pAug (W v) (W w) S) Q = (v.length + w.length ≤ sizeLine ∧ Q (W (v ++ w)) S) := by
  unfold W; rw [wE_pAug_t]; simp only [List.length_map, List.map_append]
@[simp] theorem wE_pAug_W1 {Q : D → FS → Prop} {v : List Int} : wE (pAug (W v) (.tuple [.int i]) S) Q = (v.length + 1 ≤ sizeLine ∧ Q (W (v ++ [i])) S) := wE_pAug_W (w := [i])
@[simp] theorem wE_pAug_W0 {Q : D → FS → Prop} {w : List Int} : wE (pAug (.tuple []) (W w) S) Q = (w.length ≤ sizeLine ∧ Q (W w) S) := by
  have := wE_pAug_W (S := S) (Q := Q) (v := []) (w := w)
  rw [List.length_nil, Nat.zero_add, List.nil_append] at this
  exact this
end
section
variable {S : FS} {QV : SV → FS → Prop} {fa : FS → Res D} {xs : List D}
@[simp] theorem wE_fRev : wE (fRev fa S) QV = wE (fa S) fun d S1 => wE (pRev d S1) QV := wE_bnd
@[simp] theorem wE_pRev_l : wE (pRev (.list xs) S) QV = QV (.own (.lst xs.reverse)) S := by rfl
@[simp] theorem wE_pRev_t : wE (pRev (.tuple xs) S) QV = QV (.d (.tuple xs.reverse)) S := by rfl
@[simp] theorem wE_pRev_W {w : List Int} : wE (pRev (W w) S) QV = QV (.d (W w.reverse)) S := by unfold W; rw [wE_pRev_t, List.map_reverse]
end
@[simp] theorem wE_pSorted {S : FS} {QV : SV → FS → Prop} {ds : List D} : wE (pSorted (.list ds) S) QV = (SortOk ds ∧ QV (.own (.lst (sortD ds))) S) := by
  unfold pSorted; simp only
  by_cases h : SortOk ds
  · rw [if_pos h]; simp only [wE_ok, h, true_and]
  · rw [if_neg h]; simp only [wE_bad, h, false_and]
end Fz
end

section
set_option Elab.async false
set_option linter.all false
set_option maxRecDepth 100000
set_option maxHeartbeats 4000000
/-! F41: weakest preconditions of dicts, keyed sorts, thaws. -/
namespace Fz
open PySem L2
def dcO : Option (Option SV) → Option (List (D × D))
  | some (some (.own (.dic kvs))) => some kvs
  | some (some (.pin (.dic kvs))) => some kvs
  | _ => none
@[simp] theorem dcO_own {kvs : List (D × D)} : dcO (some (some (.own (.dic kvs)))) = some kvs := rfl
@[simp] theorem dcO_pin {kvs : List (D × D)} : dcO (some (some (.pin (.dic kvs)))) = some kvs := rfl
@[simp] theorem dicAt_eq {S : FS} {i : Nat} : dicAt S i = dcO S[i]? := by
  unfold dicAt dcO
  rfl
section
variable {S : FS} {Q : D → FS → Prop} {QV : SV → FS → Prop} {N B C : FS → Prop} {R : SV → FS → Prop} {f fe fk fx : FS → Res D} {i : Nat} {den : Den}
@[simp] theorem wE_fDNew : wE (fDNew S) QV = QV (.own (.dic [])) S := rfl
theorem wE_wDic {α : Type} {k : List (D × D) → FS → Res α} {Q : α → FS → Prop} : wE (wDic i k S) Q = wO (dcO S[i]?) fun kvs => wE (k kvs S) Q := by
  unfold wDic
  rw [dicAt_eq]
  cases dcO S[i]? <;> rfl
theorem wS_wDicS {k : List (D × D) → FS → SRes} : wS (wDicS i k S) N R B C = wO (dcO S[i]?) fun kvs => wS (k kvs S) N R B C := by
  unfold wDicS
  rw [dicAt_eq]
  cases dcO S[i]? <;> rfl
@[simp] theorem wE_fDIx : wE (fDIx i f S) Q = wO (dcO S[i]?) fun _ => wE (f S) fun k S1 => wO (dcO S1[i]?) fun kvs => kOk kvs k = true ∧ wO (dAt kvs k) fun v => Q v S1 := by
  unfold fDIx
  rw [wE_wDic]
  congr 1; funext kvs0
  rw [wE_bnd]
  congr 1; funext k S1
  rw [wE_wDic]
  congr 1; funext kvs
  cases kOk kvs k <;> cases dAt kvs k <;> simp
@[simp] theorem wE_fDIn {b : Bool} : wE (fDIn b i f S) Q = wE (f S) fun k S1 => wO (dcO S1[i]?) fun kvs => kOk kvs k = true ∧ Q (.bool (xor (!b) (dHas kvs k))) S1 := by
  unfold fDIn
  rw [wE_bnd]
  congr 1; funext k S1
  rw [wE_wDic]
  congr 1; funext kvs
  cases kOk kvs k <;> simp
@[simp] theorem wS_fDPut : wS (fDPut i fe fk S) N R B C = wE (fe S) fun v S1 => wO (dcO S1[i]?) fun _ => wE (fk S1) fun k S2 => wO (dcO S2[i]?) fun kvs => kOk kvs k = true ∧ kvs.length < sizeLine ∧ N (S2.set i (some (mkO S2[i]? (.dic (dPut kvs k v))))) := by
  unfold fDPut
  rw [wS_bndS]
  congr 1; funext v S1
  rw [wS_wDicS]
  congr 1; funext kvs0
  rw [wS_bndS]
  congr 1; funext k S2
  rw [wS_wDicS]
  congr 1; funext kvs
  rw [← setOb_eq]
  by_cases h : kvs.length < sizeLine
  · cases kOk kvs k <;> simp [h]
  · cases kOk kvs k <;> simp [h]
@[simp] theorem wE_fDGet2 : wE (fDGet2 i fk fx S) Q = wO (dcO S[i]?) fun _ => wE (fk S) fun k S1 => wE (fx S1) fun x S2 => wO (dcO S2[i]?) fun kvs => kOk kvs k = true ∧ Q ((dAt kvs k).getD x) S2 := by
  unfold fDGet2
  rw [wE_wDic]
  congr 1; funext kvs0
  rw [wE_bnd]
  congr 1; funext k S1
  rw [wE_bnd]
  congr 1; funext x S2
  rw [wE_wDic]
  congr 1; funext kvs
  cases kOk kvs k <;> simp
@[simp] theorem wE_fKeys : wE (fKeys i S) QV = wO (dcO S[i]?) fun kvs => QV (.own (.lst (kvs.map (·.1)))) S := by
  unfold fKeys
  rw [wE_wDic]
  rfl
@[simp] theorem wE_fSortDic : wE (fSortDic i S) QV = wO (dcO S[i]?) fun kvs => SortOk (kvs.map (·.1)) ∧ QV (.own (.lst (sortD (kvs.map (·.1))))) S := by
  unfold fSortDic
  rw [wE_wDic]
  congr 1; funext kvs
  by_cases h : SortOk (kvs.map (·.1))
  · rw [if_pos h]; simp [h]
  · rw [if_neg h]; simp [h]
@[simp] theorem seqD_l {ds : List D} : seqD (.list ds) = some ds := rfl
@[simp] theorem seqD_t {ds : List D} : seqD (.tuple ds) = some ds := rfl
@[simp] theorem wE_fSortK : wE (fSortK den f S) QV = wE (f S) fun d S1 => wO (seqD d) fun ds => wO (keysF den ds) fun ks => SortOk ks ∧ QV (.own (.lst (sortK ks ds))) S1 := by
  unfold fSortK
  rw [wE_bnd]
  congr 1; funext d S1
  cases seqD d with
  | none => rfl
  | some ds =>
    show wE (pSortK den ds S1) QV = _
    unfold pSortK
    simp only [wO_some]
    cases keysF den ds with
    | none => rfl
    | some ks =>
      simp only [wO_some]
      by_cases h : SortOk ks
      · rw [if_pos h]; simp [h]
      · rw [if_neg h]; simp [h]
@[simp] theorem wE_fIsi2 {T U : String} : wE (fIsi2 T U f S) Q = wE (f S) fun d S1 => Q (.bool (isT (dTyp d) T || isT (dTyp d) U)) S1 := wE_bnd
/-- a thaw: the reading freezes the slot's list and nothing else -/
theorem thaw_w {ds : List D} (hs : S[i]? = some (some (.own (.lst ds)))) (n : noLS S = true) (h : wE (f S) fun d S' => S' = S.set i (some (.d (.list ds))) ∧ noL d = true ∧ Q d S) : wE (fThawD i f S) Q := by
  unfold fThawD
  rw [hs]
  simp only
  cases e : f S with
  | ok d S' =>
    rw [e] at h
    obtain ⟨h1, h2, h3⟩ := h
    simp only
    rw [if_pos ⟨h1, n, h2⟩]
    exact h3
  | exn _ _ => rw [e] at h; exact h
  | bad => rw [e] at h; exact h
end
/-! keys that are words -/
theorem nks_ints : ∀ xs : List Int, nks (xs.map .int) = some (xs.map .num)
  | [] => rfl
  | x :: xs => by simp only [List.map_cons, nks, nk, nks_ints xs]
@[simp] theorem nk_W {xs : List Int} : nk (W xs) = some (.tup (xs.map .num)) := by
  unfold W
  simp only [nk, nks_ints, Option.map_some]
theorem depthAll_ints : ∀ xs : List Int, NestedKey.depthAll (xs.map .num) = 0
  | [] => rfl
  | x :: xs => by simp only [List.map_cons, NestedKey.depthAll, NestedKey.depth, depthAll_ints xs]; rfl
@[simp] theorem tk_W {xs : List Int} : tk (W xs) = some (.tup (xs.map .num)) := by
  have := nk_W (xs := xs)
  unfold W at this ⊢
  show (match nk (PyData.tuple (xs.map .int)) with | some k => if k.depth ≤ 8 then some k else none | none => none) = _
  rw [this]
  simp [NestedKey.depth, depthAll_ints]
@[simp] theorem fk_W {xs : List Int} : fk (W xs) = none := rfl
theorem nums_inj : ∀ {xs ys : List Int}, xs.map NestedKey.num = ys.map NestedKey.num → xs = ys
  | [], [], _ => rfl
  | x :: xs, y :: ys, h => by
    simp only [List.map_cons, List.cons.injEq, NestedKey.num.injEq] at h
    rw [h.1, nums_inj h.2]
  | [], _ :: _, h => by simp at h
  | _ :: _, [], h => by simp at h
theorem nkW_iff {xs ys : List Int} : nk (W xs) = nk (W ys) ↔ xs = ys := by
  rw [nk_W, nk_W]
  constructor
  · intro h
    injection h with h
    injection h with h
    exact nums_inj h
  · intro h; rw [h]
/-- a dict whose keys are words -/
def KW {α : Type} (g : α → D) (l : List (List Int × α)) : List (D × D) := l.map fun p => (W p.1, g p.2)
theorem kOk_KW {α : Type} {g : α → D} {l : List (List Int × α)} {w : List Int} : kOk (KW g l) (W w) = true := by
  unfold kOk KW
  simp
def aAt {α : Type} (l : List (List Int × α)) (w : List Int) : Option α := (l.find? fun p => decide (p.1 = w)).map (·.2)
def aPut {α : Type} (l : List (List Int × α)) (w : List Int) (v : α) : List (List Int × α) := if (aAt l w).isSome then l.map (fun p => if p.1 = w then (p.1, v) else p) else l ++ [(w, v)]
theorem dAt_KW {α : Type} {g : α → D} {w : List Int} : ∀ {l : List (List Int × α)}, dAt (KW g l) (W w) = (aAt l w).map g
  | [] => rfl
  | p :: l => by
    have ih := dAt_KW (g := g) (w := w) (l := l)
    unfold dAt aAt KW at ih ⊢
    by_cases h : p.1 = w
    · simp [List.find?_cons, h]
    · have h2 : ¬ (nk (W p.1) = nk (W w)) := fun z => h (nkW_iff.mp z)
      simp only [List.map_cons, List.find?_cons, h2, h, decide_false]
      exact ih
theorem dPut_KW {α : Type} {g : α → D} {w : List Int} {v : α} {l : List (List Int × α)} : dPut (KW g l) (W w) (g v) = KW g (aPut l w v) := by
  unfold dPut aPut dHas
  rw [dAt_KW, Option.isSome_map]
  split
  · unfold KW
    rw [List.map_map, List.map_map]
    refine List.map_congr_left fun p _ => ?_
    simp only [Function.comp, dPutF]
    by_cases h : p.1 = w
    · rw [if_pos h, if_pos (nkW_iff.mpr h)]
    · rw [if_neg h, if_neg fun z => h (nkW_iff.mp z)]
  · simp [KW]
theorem dHas_KW {α : Type} {g : α → D} {w : List Int} {l : List (List Int × α)} : dHas (KW g l) (W w) = (aAt l w).isSome := by
  unfold dHas
  rw [dAt_KW, Option.isSome_map]
theorem KW_keys {α : Type} {g : α → D} {l : List (List Int × α)} : (KW g l).map (·.1) = l.map fun p => W p.1 := by
  unfold KW
  rw [List.map_map]
  rfl
@[simp] theorem KW_len {α : Type} {g : α → D} {l : List (List Int × α)} : (KW g l).length = l.length := by simp [KW]
end Fz
end

section
set_option Elab.async false
set_option linter.all false
set_option maxRecDepth 100000
set_option maxHeartbeats 4000000
/-! F42: own objects moved out of their slots. -/
namespace Fz
open PySem PySem.Spec PyProof.Rows L2
theorem Rel.forget {K : Fg} {F : Fx} {S : FS} {σ : Sl} {H : Hp} (r : Rel K F S σ H) (i : Nat) : Rel K F (S.set i none) σ H := by
  have own : ∀ j, Owned (S.set i none) j → j ≠ i ∧ Owned S j := fun j ⟨ob, h⟩ => by
    by_cases hj : j = i
    · subst hj
      by_cases hl : j < S.length
      · rw [List.getElem?_set_self hl] at h
        rcases h with h | h <;> cases h
      · have q : (S.set j none)[j]? = none := List.getElem?_eq_none (by rw [List.length_set]; omega)
        rw [q] at h
        rcases h with h | h <;> cases h
    · rw [List.getElem?_set_ne (Ne.symm hj)] at h; exact ⟨hj, ob, h⟩
  refine ⟨by rw [List.length_set]; exact r.len, fun j sv e => ?_, fun j k a ne hj hk => r.apart j k a ne (own j hj).2 (own k hk).2, r.keep, r.there, r.tabs, fun p hp => ⟨(r.held p hp).1, (r.held p hp).2.1, fun j hj => (r.held p hp).2.2 j (own j hj).2⟩⟩
  by_cases hj : j = i
  · subst hj
    by_cases hl : j < S.length
    · rw [List.getElem?_set_self hl] at e; cases e
    · rw [List.getElem?_eq_none (by rw [List.length_set]; omega)] at e; cases e
  · rw [List.getElem?_set_ne (Ne.symm hj)] at e
    exact r.slot j sv e
/-- an own object, moved out -/
def fMove (i : Nat) : FS → Res SV := fun S => match S[i]? with
  | some (some (.own ob)) => .ok (.own ob) (S.set i none)
  | some (some (.d d)) => .ok (.d d) S
  | _ => .bad
section
variable {X : Cx} {F : Fx} {e : Expr} {i : Nat}
theorem e_move (h : PE X e (tVar i)) : EV X F e (fMove i) := by
  refine ⟨fun pins s σ H Q I ⟨S, r, p⟩ => ?_⟩
  unfold fMove at p
  split at p
  · rename_i ob hs
    obtain ⟨x, ex, a, rfl, q, n⟩ := r.slot i _ hs
    have oi : Owned S i := ⟨ob, .inl hs⟩
    refine h.run pins s σ H Q I ⟨_, ex, p _ H (.refl H) (r.forget i) ⟨a, rfl, q, n, fun j hj hx => ?_, fun z hz e => (r.held z hz).2.2 i oi (by rw [e]; exact ex)⟩⟩
    have hne : j ≠ i := fun z => by
      subst z
      obtain ⟨ob2, hj⟩ := hj
      have hl : j < S.length := (List.getElem?_eq_some_iff.mp hs).1
      rw [List.getElem?_set_self hl] at hj
      rcases hj with hj | hj <;> cases hj
    obtain ⟨ob2, hj⟩ := hj
    rw [List.getElem?_set_ne (Ne.symm hne)] at hj
    exact r.apart j i a hne ⟨ob2, hj⟩ oi hx ex
  · rename_i d hs
    obtain ⟨x, ex, v⟩ := r.slot i _ hs
    exact h.run pins s σ H Q I ⟨_, ex, p.ok r v⟩
  · exact p.elim
end
/-- sorted(e, key=f), e a new dict -/
noncomputable def fSortKV (den : Den) (f : FS → Res SV) : FS → Res SV := bnd f fun v => match v with
  | .own (.dic kvs) => pSortK den (kvs.map (·.1))
  | .own (.lst ds) => pSortK den ds
  | _ => fun _ => .bad
section
variable {X : Cx} {F : Fx} {e : Expr} {i j k : Nat} {pos p kp np : Pos} {f : FS → Res SV} {x : Str} {ps : List Str} {den : Den}
theorem e_sortKV (G : Fn X.prog X.w X.K X.mg X.base F.tabs k x ps 1 den) (hr : RoomG j X.A) (hj : k + 2 ≤ j) (hgx : Gl X x) (hc : X.calm = true) (hu : X.A.units + 70 < cLine) (hg : Gl X "sorted") (hm : X.mg "sorted" = none) (he : EV X F e f) (hw : F.w = X.w := by rfl)
    (hdb : (x == ("__debug__" : Str)) = false := by decide)
    (hs1 : backTo pos (starEach [e] X.env) = (false, eval e X.env) :: backTo pos (starEach [] X.env) := by rfl) (hpl : (backTo pos (starEach [e] X.env)).any (·.1) = false := by rfl)
    (hse : starEach [e] X.env = (false, eval e X.env) :: starEach [] X.env := by rfl)
    (hall : (backToKw pos (keywordEach [⟨some "key", .Name x np, kp⟩] X.env)).all (·.1.isSome) = true := by rfl) (hnone : (backToKw pos (keywordEach [⟨some "key", .Name x np, kp⟩] X.env)).any (·.1.isNone) = false := by rfl)
    (hks : (backToKw pos (keywordEach [⟨some "key", .Name x np, kp⟩] X.env)).filterMap (·.1) = [Str.ofString "key"] := by rfl) :
    EV X F (.Call (.Name "sorted" p) [e] [⟨some "key", .Name x np, kp⟩] pos) (fSortKV den f) := by
  obtain ⟨fa, fd, F1, hmx, kpn, b⟩ := G.ex
  have cr : CallRK X (.builtin "sorted") [Str.ofString "key"] (fun vs zs H Q => ∃ a ds ks, vs = [V.ref a] ∧ zs = [V.ref fa] ∧ ((∃ xs, SqL X.K H a xs ∧ PdAll X.K H xs ds) ∨ ∃ kvs, DicR X.K X.w H a kvs ∧ ds = kvs.map (·.1)) ∧ (∀ P ∈ F.tabs, TabOk H P) ∧ keysF den ds = some ks ∧ SortOk ks ∧
      ∀ ys p H2, PdAll X.K H2 ys (sortK ks ds) → Pers H H2 → (∀ b o, H b = some o → isTbl o = false → H2 b = some o) → (∀ b o, H b = some o → ∃ u, H2 b = some u) → (∀ P ∈ F.tabs, TabOk H2 P) → H p = none → H2 p = none → Q (.ref p) (upd H2 p (.lst ys))) := by
    intro pins s σ H vs zs us ws Q I rv rz ⟨a, ds, ks, e1, e2, hsq, hT, hk, ok, q⟩
    subst e1 e2
    obtain ⟨u, rfl, ru⟩ := vals1 rv
    obtain rfl : u = Value.ref a := ru
    obtain ⟨w, rfl, rw'⟩ := vals1 rz
    obtain rfl : w = Value.ref fa := rw'
    show wpAny _ _ (call (.builtin "sorted") [Value.ref a] [(Str.ofString "key", Value.ref fa)]) _ _ _
    rcases hsq with ⟨xs, hl, hx⟩ | ⟨kvs, hd, rfl⟩
    · obtain ⟨its, r, pl, hz⟩ := I.list hl
      obtain ⟨ob, n, h1, h2, h3, h4⟩ := pl
      have hz' : its.length ≤ sizeLine := by rw [← r.length]; exact hz
      refine sortK_call hu F1 (hr.mono hj) b I r hx hz' hT hk ok (fun R hR => ?_) q
      exact collect_seqz (items := its.toArray) a (.inl rfl) h1 h2 h4 (fun h' tk k1 k2 => by simpa using hR h' tk k1 k2) (by simpa using hz')
    · obtain ⟨hz, hsm, es, ep, xs, raw, hsz, hx, rv2⟩ := dic_keys I hd
      have hln : (es.toList.map (·.key)).length = kvs.length := by rw [List.length_map, Array.length_toList, hsz]
      refine sortK_call hu F1 (hr.mono hj) b I rv2 hx (by rw [hln]; exact hz) hT hk ok (fun R hR => ?_) q
      refine collect_src (A := X.A.in1) (src_raw hsm) (I.ok.hd hc) raw (by rw [hsz]; exact hz) fun h' tk acc kp hle it => ?_
      rw [items_keys it]
      exact hR h' tk kp hle
  refine (pe_callBK cr hg hm bt_sorted (pa_cons he pa_nil hse) (pk_cons (pe_glob (v := .ref fa) hgx hmx rfl hdb) pk_nil) (by decide) (by decide) hs1 hpl hall hnone hks).via fun σ H Q h => ?_
  refine (rdG.bind h).imp fun y H1 ⟨d, S1, r1, v1, p1, q1⟩ => ?_
  cases d with
  | own ob =>
    cases ob with
    | dic kvs =>
      obtain ⟨ks, hk, ok, q⟩ := sortK_post r1 q1
      obtain ⟨a, rfl, g, n, nu, nh⟩ := v1
      have g : DicR X.K F.w H1 a kvs := g
      rw [hw] at g
      exact ⟨a, _, ks, rfl, rfl, .inr ⟨kvs, g, rfl⟩, r1.tabs, hk, ok, q⟩
    | lst ds =>
      obtain ⟨ks, hk, ok, q⟩ := sortK_post r1 q1
      obtain ⟨a, rfl, ⟨vs, hH, hv⟩, n, nu, nh⟩ := v1
      exact ⟨a, _, ks, rfl, rfl, .inl ⟨vs, .inl (.inl hH), hv⟩, r1.tabs, hk, ok, q⟩
  | d d => exact q1.elim
  | pin ob => exact q1.elim
end
end Fz
end

section
set_option Elab.async false
set_option linter.all false
set_option maxRecDepth 100000
set_option maxHeartbeats 4000000
/-! F43: thaws, where other lists of slots may be frozen for good on the way. -/
namespace Fz
open PySem PySem.Spec PyProof.Rows L2
/-- S' is S but for lists that have been frozen -/
def frzd : FS → FS → Prop
  | [], [] => True
  | a :: S, b :: S' => (b = a ∨ ∃ es, a = some (.own (.lst es)) ∧ b = some (.d (.list es)) ∧ noLs es = true) ∧ frzd S S'
  | _, _ => False
theorem frzd_len : ∀ {S S' : FS}, frzd S S' → S'.length = S.length
  | [], [], _ => rfl
  | _ :: S, _ :: S', h => by rw [List.length_cons, List.length_cons, frzd_len h.2]
  | [], _ :: _, h => h.elim
  | _ :: _, [], h => h.elim
theorem frzd_get : ∀ {S S' : FS} {j : Nat} {b : Option SV}, frzd S S' → S'[j]? = some b → S[j]? = some b ∨ ∃ es, S[j]? = some (some (.own (.lst es))) ∧ b = some (.d (.list es)) ∧ noLs es = true
  | [], [], j, b, _, e => by simp at e
  | a :: S, b0 :: S', 0, b, h, e => by
    simp at e
    subst e
    rcases h.1 with h | ⟨es, h1, h2, h3⟩
    · subst h; exact .inl (by simp)
    · exact .inr ⟨es, by simp [h1], h2, h3⟩
  | a :: S, b0 :: S', j + 1, b, h, e => by
    have := frzd_get (j := j) h.2 (by simpa using e)
    simpa using this
  | [], _ :: _, _, _, h, _ => h.elim
  | _ :: _, [], _, _, h, _ => h.elim
theorem rel_thaw2 {K : Fg} {F : Fx} {S S' : FS} {σ : Sl} {H H1 : Hp} {i : Nat} {ds : List D} {a : Addr} {o : Obj} {vs vs1 : List V} (r : Rel K F S σ H) (hs : S[i]? = some (some (.own (.lst ds)))) (ea : σ[i]? = some (some (.ref a))) (hH : H a = some (.lst vs))
    (hf : frzd S S') (r1 : Rel K F S' σ H1) (p : Pers H H1) (n : noLS S = true) (h1 : H1 a = some (.frz o (.lst vs1))) (hv : PdAll K H1 vs1 ds) : Rel K F (S'.set i (some (.own (.lst ds)))) σ (upd H1 a (.lst vs1)) ∧ Pers H (upd H1 a (.lst vs1)) := by
  have hl : i < S.length := (List.getElem?_eq_some_iff.mp hs).1
  have hl' : i < S'.length := by rw [frzd_len hf]; exact hl
  have n' : ∀ j sv, S[j]? = some sv → noLSv sv = true := fun j sv e => List.all_eq_true.mp n _ (List.mem_of_getElem? e)
  have tS := tupS_thaw h1
  have ne : ∀ b u, H1 b = some u → (∀ o, u ≠ .frz o (.lst vs1)) → b ≠ a := fun b u e n z => by rw [z, h1] at e; cases e; exact n o rfl
  have p2 : Pers H (upd H1 a (.lst vs1)) := ⟨fun b xs e => by rw [upd_ne (ne b _ (p.tup b xs e) fun _ z => nomatch z)]; exact p.tup b xs e, fun b ob u e => by
    rw [upd_ne]; exact p.frz b ob u e
    intro z; rw [z, hH] at e; cases e⟩
  have h0 : F.H0 a = none := by
    obtain ⟨x, ex, b, rfl, _, z⟩ := r.slot i _ hs
    rw [ea] at ex; cases ex; exact z
  have e1 : ∀ j, j ≠ i → (S'.set i (some (.own (.lst ds))))[j]? = S'[j]? := fun j h => List.getElem?_set_ne (Ne.symm h)
  have own2 : ∀ j, j ≠ i → Owned (S'.set i (some (.own (.lst ds)))) j → Owned S' j := fun j hj ⟨ob, h⟩ => ⟨ob, by rw [e1 j hj] at h; exact h⟩
  have own1 : ∀ j, j ≠ i → Owned S' j → Owned S j := fun j hj ⟨ob, h⟩ => by
    rcases h with h | h
    · rcases frzd_get hf h with g | ⟨es, _, g, _⟩
      · exact ⟨ob, .inl g⟩
      · cases g
    · rcases frzd_get hf h with g | ⟨es, _, g, _⟩
      · exact ⟨ob, .inr g⟩
      · cases g
  have own : ∀ j, Owned (S'.set i (some (.own (.lst ds)))) j → Owned S j := fun j h => by
    by_cases hj : j = i
    · subst hj; exact ⟨_, .inl hs⟩
    · exact own1 j hj (own2 j hj h)
  refine ⟨⟨by rw [List.length_set]; exact r1.len, fun j sv e => ?_, fun j k b ne hj hk => r.apart j k b ne (own j hj) (own k hk), fun b u e nb nt => ?_, fun b u e => ?_, fun P hP => ?_, fun q hq => ?_⟩, p2⟩
  · by_cases hj : j = i
    · subst hj
      rw [List.getElem?_set_self hl'] at e
      cases e
      have nd : noLs ds = true := n' _ _ hs
      exact ⟨_, ea, a, rfl, ⟨vs1, upd_same, hv.noLs tS nd⟩, h0⟩
    · rw [e1 j hj] at e
      rcases frzd_get hf e with g | ⟨es, g, g2, g3⟩
      · cases sv with
        | d d =>
          obtain ⟨x, ex, v⟩ := r.slot j _ g
          exact ⟨x, ex, Pd.mono p2 v⟩
        | own ob =>
          obtain ⟨x, ex, b, rfl, q, z⟩ := r1.slot j _ e
          obtain ⟨u, eu, mu, nt⟩ := q.there
          have nb : b ≠ a := ne b u eu fun _ z => by rw [z] at mu; exact mu
          exact ⟨_, ex, b, rfl, ObR.noL tS (upd_ne nb) (n' j _ g) q, z⟩
        | pin ob =>
          obtain ⟨x, ex, b, rfl, q, z⟩ := r1.slot j _ e
          obtain ⟨u, eu, mu, nt⟩ := q.there
          have nb : b ≠ a := ne b u eu fun _ z => by rw [z] at mu; exact mu
          exact ⟨_, ex, b, rfl, ObR.noL tS (upd_ne nb) (n' j _ g) q, z⟩
      · cases g2
        obtain ⟨x, ex, v⟩ := r1.slot j _ e
        obtain ⟨x2, ex2, b, rfl, _, _⟩ := r.slot j _ g
        rw [ex2] at ex; cases ex
        have nb : b ≠ a := fun z => by
          subst z
          exact r.apart i j b (Ne.symm hj) ⟨_, .inl hs⟩ ⟨_, .inl g⟩ ea ex2
        refine ⟨_, ex2, ?_⟩
        have v' : Pd K H1 (.ref b) (.list es) := v
        cases v' with
        | lst h rr =>
          refine .lst ?_ (rr.noLs tS g3)
          rcases h with ⟨o2, h⟩ | h
          · exact .inl ⟨o2, by rw [upd_ne nb]; exact h⟩
          · exact .inr h
  · have q := r1.keep b u e nb nt
    rw [upd_ne]; exact q
    intro z; rw [z, h0] at e; cases e
  · by_cases hb : b = a
    · subst hb; exact ⟨_, upd_same⟩
    · obtain ⟨v, q⟩ := r1.there b u e
      exact ⟨v, by rw [upd_ne hb]; exact q⟩
  · obtain ⟨ps, e, t⟩ := r1.tabs P hP
    exact ⟨ps, by rw [upd_ne (ne P _ e fun _ z => nomatch z)]; exact e, t⟩
  · obtain ⟨e, z, u⟩ := r1.held q hq
    have nb : q.1 ≠ a := ne q.1 _ e fun _ z => nomatch z
    refine ⟨by rw [upd_ne nb]; exact e, z, fun j hj => ?_⟩
    by_cases hji : j = i
    · subst hji
      intro w
      rw [ea] at w; cases w
      exact nb rfl
    · exact u j (own2 j hji hj)
/-- the list of slot i is read in a test: it is owned again behind it -/
noncomputable def fThawU (i : Nat) (f : FS → Res Bool) : FS → Res Bool := fun S => match S[i]? with
  | some (some (.own (.lst ds))) => (match f S with
    | .ok d S' => @ite _ (S'[i]? = some (some (.d (.list ds))) ∧ frzd S S' ∧ noLS S = true) (Classical.propDecidable _) (.ok d (S'.set i (some (.own (.lst ds))))) .bad
    | _ => .bad)
  | _ => f S
section
variable {X : Cx} {F : Fx} {e : Expr} {i : Nat}
theorem frozen_at2 {pins : List (Addr × Obj)} {σ : L2.St} {H H1 : Hp} {s : Shared} {a : Addr} {ds : List D} {vs : List V} {S' : FS} (I : Inv X pins σ H s) (hH : H a = some (.lst vs)) (ea : σ[i]? = some (some (.ref a)))
    (hi : S'[i]? = some (some (.d (.list ds)))) (r1 : Rel X.K F S' σ H1) : ∃ o vs1, H1 a = some (.frz o (.lst vs1)) ∧ PdAll X.K H1 vs1 ds := by
  obtain ⟨x, ex, v⟩ := r1.slot i _ hi
  rw [ea] at ex; cases ex
  have v' : Pd X.K H1 (.ref a) (.list ds) := v
  cases v' with
  | lst h r =>
    rcases h with ⟨o, h⟩ | h
    · exact ⟨o, _, h, r⟩
    · exfalso
      rcases h with (h | ⟨o, h⟩) | ⟨o, its, n, hk, _⟩
      · cases h
      · cases h
      · have := (I.bs a o (I.mod.kin a o hk)).2
        rw [hH] at this; cases this
theorem t_thawU {f : FS → Res Bool} (h : ET X F e f) : ET X F e (fThawU i f) := by
  refine ⟨fun pins s σ H Q I ⟨S, r, p⟩ => ?_⟩
  unfold fThawU at p
  split at p
  · rename_i ds hs
    obtain ⟨x, ea, a, rfl, ⟨vs, hH, hv⟩, h0⟩ := r.slot i _ hs
    cases e : f S with
    | ok d S' =>
      rw [e] at p
      simp only at p
      split at p
      · rename_i hc
        obtain ⟨hi, hf, n⟩ := hc
        refine thn (h.run pins s σ H (fun b H1 => b = d ∧ Pers H H1 ∧ Rel X.K F S' σ H1) I ⟨S, r, by rw [e]; exact fun H1 p1 r1 => ⟨rfl, p1, r1⟩⟩) fun b s1 ⟨H1, I1, eb, p1, r1⟩ => ?_
        subst eb
        obtain ⟨o, vs1, h1, hv1⟩ := frozen_at2 I hH ea hi r1
        obtain ⟨r2, p2⟩ := rel_thaw2 r hs ea hH hf r1 p1 n h1 hv1
        exact ⟨_, inv_thaw I1 h1 (fun o u z => by have := I.base.frzs a o u z; rw [hH] at this; cases this), p _ p2 r2⟩
      · exact p.elim
    | exn e2 S' => rw [e] at p; exact p.elim
    | bad => rw [e] at p; exact p.elim
  · exact h.run pins s σ H Q I ⟨S, r, p⟩
/-- its weakest precondition -/
theorem thawU_w {S : FS} {Q : Bool → FS → Prop} {ds : List D} {f : FS → Res Bool} (hs : S[i]? = some (some (.own (.lst ds)))) (n : noLS S = true) (h : wE (f S) fun d S' => S'[i]? = some (some (.d (.list ds))) ∧ frzd S S' ∧ Q d (S'.set i (some (.own (.lst ds))))) : wE (fThawU i f S) Q := by
  unfold fThawU
  rw [hs]
  simp only
  cases e : f S with
  | ok d S' =>
    rw [e] at h
    obtain ⟨h1, h2, h3⟩ := h
    simp only
    rw [if_pos ⟨h1, h2, n⟩]
    exact h3
  | exn _ _ => rw [e] at h; exact h
  | bad => rw [e] at h; exact h
end
end Fz
end

section
set_option Elab.async false
set_option linter.all false
set_option maxRecDepth 100000
set_option maxHeartbeats 4000000
/-! F44: {k: v}. -/
namespace Fz
open PySem PySem.Spec PyProof.Rows L2
abbrev dict0 : Obj := { cls := .type "dict", data := .dict #[] }
section
variable {X : Cx} {pins : List (Addr × Obj)} {σ : L2.St} {H : Hp} {s : Shared}
/-- a new dict, not tracked yet -/
theorem inv_dict0 (I : Inv X pins σ H s) : Inv X ((s.heap.objs.size, dict0) :: pins) σ H { s with heap := s.heap.push dict0 } ∧ FpOk X pins H s.heap.objs.size := by
  have hn := I.hok.fresh (Nat.le_refl s.heap.objs.size)
  have f0 : FpOk X pins H s.heap.objs.size := I.fpOk (Nat.le_refl _) hn
  have I1 : Inv X pins σ H { s with heap := s.heap.push dict0 } := I.kept (t' := s.toks) fun _ _ q => Heap.get?_push_of_some _ q
  refine ⟨I1.pins_of fun p hp => ?_, f0⟩
  rcases List.mem_cons.mp hp with rfl | hp
  · exact ⟨Heap.get?_push_size _ rfl, hn, f0.2.1, f0.2.2.1, fun v e => nomatch e⟩
  · exact I1.pin p (List.mem_append_right _ hp)
theorem dict0_of {h : Heap} {q : Addr} (e : h.get? q = some dict0) (P : Program) (w : World) : h.DictOf (mixKind P w) q [] ∧ h.DictOfH (nestedKind P w) q [] :=
  ⟨⟨_, #[], 0, e, ⟨rfl, rfl, rfl⟩, rfl, by first | exact fun _ h => absurd h (by simp) | (intro i; simp) | simp [PySem.KeysOf], .nil, List.nodup_nil⟩, ⟨_, #[], 0, e, ⟨rfl, rfl, rfl⟩, rfl, rfl, fun _ h => (nomatch h), List.nodup_nil⟩⟩
end
/-- {k: v} -/
def fDisp1 (fk fv : FS → Res D) : FS → Res SV := fun S => match fk S with
  | .ok k S1 => (match fv S1 with
    | .ok v S2 => (match kOk [] k with
      | true => .ok (.own (.dic [(k, v)])) S2
      | false => .bad)
    | _ => .bad)
  | _ => .bad
section
variable {X : Cx} {F : Fx} {ke ve : Expr} {pos : Pos} {gk gv : FS → Res D}
theorem e_disp1 (hu : X.A.units + 70 < cLine) (hk : ED X F ke gk) (hv : ED X F ve gv) (hw : F.w = X.w := by rfl) : EV X F (.Dict [some ke] [ve] pos) (fDisp1 gk gv) := by
  refine ⟨fun pins s σ H Q I ⟨S, r, p⟩ => ?_⟩
  unfold fDisp1 at p
  cases e1 : gk S with
  | exn _ _ => rw [e1] at p; exact p.elim
  | bad => rw [e1] at p; exact p.elim
  | ok k S1 =>
    rw [e1] at p
    simp only at p
    cases e2 : gv S1 with
    | exn _ _ => rw [e2] at p; exact p.elim
    | bad => rw [e2] at p; exact p.elim
    | ok v S2 =>
      rw [e2] at p
      simp only at p
      cases ok : kOk [] k with
      | false => rw [ok] at p; exact p.elim
      | true =>
        rw [ok] at p
        simp only at p
        obtain ⟨I1, f0⟩ := inv_dict0 I
        have hn : H s.heap.objs.size = none := f0.1
        -- both parts evaluated
        have run : ∀ (Q2 : List (Value × Value) → Shared → Prop), (∀ s2 x y u w H2, Inv X ((s.heap.objs.size, dict0) :: pins) σ H2 s2 → Rel X.K F S2 σ H2 → Pers H H2 → Pd X.K H2 x k → Pd X.K H2 y v → RelV x u → RelV y w → Q2 [(u, w)] s2) →
            wpAny (model X.prog X.w) X.A (evalPairs (pairTrees [some ke] [ve] X.env pos)) Q2 X.xe { s with heap := s.heap.push dict0 } := by
          intro Q2 hQ
          refine pairTrees_cons_walk (thn (hk.run _ _ σ H (fun x H1 => Pers H H1 ∧ Rel X.K F S1 σ H1 ∧ Pd X.K H1 x k) I1 ⟨S, r, by rw [e1]; exact fun x H1 p1 r1 v => ⟨p1, r1, v⟩⟩) fun u s1 ⟨x, H1, J1, rx, p1, r1, v1⟩ => ?_)
          refine thn (hv.run _ _ σ H1 (fun y H2 => Pers H1 H2 ∧ Rel X.K F S2 σ H2 ∧ Pd X.K H2 y v) J1 ⟨S1, r1, by rw [e2]; exact fun y H2 p2 r2 v => ⟨p2, r2, v⟩⟩) fun w s2 ⟨y, H2, J2, ry, p2, r2, v2⟩ => ?_
          exact pairTrees_nil_walk (hQ s2 x y u w H2 J2 r2 (p1.trans p2) (v1.mono p2) v2 rx ry)
        -- the end: the dict tracked
        have fin : ∀ (s2 : Shared) (H2 : Hp) (h' : Heap) (tk : Nat) (o : HO), Inv X ((s.heap.objs.size, dict0) :: pins) σ H2 s2 → Rel X.K F S2 σ H2 → Pers H H2 → Heap.SameBut s.heap.objs.size s2.heap h' → ObjOk X.prog X.w (upd H2 s.heap.objs.size o) h' s.heap.objs.size o → DicR X.K X.w (upd H2 s.heap.objs.size o) s.heap.objs.size [(k, v)] →
            EP X pins σ Q (.ref s.heap.objs.size) { s2 with heap := h', toks := tk } := by
          intro s2 H2 h' tk o J2 r2 p2 sb new g
          have hn2 : H2 s.heap.objs.size = none := (J2.pin (s.heap.objs.size, dict0) (by simp)).2.1
          have J3 : Inv X pins σ H2 s2 := J2.pins_of fun z hz => J2.pin z (List.mem_append_right _ (List.mem_cons_of_mem _ hz))
          have J4 := J3.take (t' := tk) (o := o) (fun b ob hb e => (sb.2 b hb).trans e) ⟨hn2, f0.2⟩ new
          refine ⟨.ref s.heap.objs.size, _, J4, rfl, p _ _ (p2.trans (Pers.new hn2)) (r2.new hn2) ⟨s.heap.objs.size, rfl, ?_, r2.none0 hn2, fun j hj => r2.unslot hn2 hj, fun z hz e => ?_⟩⟩
          · rw [hw]; exact g
          · obtain ⟨q, _⟩ := r2.held z hz; rw [e, hn2] at q; cases q
        have hsm : (s.heap.objs.size == sysModules) = false := by
          have := I.big
          simp only [beq_eq_false_iff_ne, ne_eq]
          exact Nat.ne_of_gt this
        unfold kOk at ok
        rw [Bool.or_eq_true, Bool.and_eq_true, Bool.and_eq_true] at ok
        rcases ok with ⟨h1, _⟩ | ⟨h1, _⟩
        · obtain ⟨j, hj⟩ := Option.isSome_iff_exists.mp h1
          refine wpAny_Dict_walk (knd := mixKind X.prog X.w) rfl rfl (by simp) (by simp) (run _ fun s2 x y u w H2 J2 r2 p2 v1 v2 rx ry => ?_)
          have hg := (J2.pin (s.heap.objs.size, dict0) (by simp)).1
          have ex := fk_pd v1 hj
          subst ex
          refine ⟨[(j, w)], ⟨kV_is rx, rfl, trivial⟩, (dict0_of hg X.prog X.w).1, fun h' dd sb => fin s2 H2 h' _ (.dK [(j, y)]) J2 r2 p2 sb ⟨by rw [sizeLine_eq]; simp, hsm, _, .cons ⟨rfl, ry⟩ .nil, dd⟩ (.inl ⟨_, upd_same, .cons ⟨hj, ?_⟩ .nil⟩)⟩
          exact v2.mono (Pers.new (J2.pin (s.heap.objs.size, dict0) (by simp)).2.1)
        · obtain ⟨j, hj⟩ := Option.isSome_iff_exists.mp h1
          rw [arm_eval_Dict, zip_pairTrees [some ke] [ve] X.env pos rfl rfl, dictDisplay_pairs _ (by simp [pairTrees]) (by simp [pairTrees])]
          refine wpAny_bind (wpAny_standAt (wpAny_bind (wpAny_subDictH (knd := nestedKind X.prog X.w) (by show _ + 8 < _; omega) (by simp [pairTrees]) (run _ fun s2 x y u w H2 J2 r2 p2 v1 v2 rx ry => ?_))))
          have hg := (J2.pin (s.heap.objs.size, dict0) (by simp)).1
          have hn2 : H2 s.heap.objs.size = none := (J2.pin (s.heap.objs.size, dict0) (by simp)).2.1
          obtain ⟨b, rfl⟩ := tk_ref v1 hj
          obtain rfl : u = Value.ref b := rx
          refine ⟨[(j, b, w)], ⟨rfl, rfl, nested_key J2 v1 hj, trivial⟩, (dict0_of hg X.prog X.w).2, fun h' tk dd sb => wpAny_pure ?_⟩
          obtain ⟨o, es, ep, q1, q2, q3, q4, _, q5⟩ := dd
          refine fin s2 H2 h' tk (DicT X.w s.heap.objs.size [(j, b, y)]) J2 r2 p2 sb (DicT.ok ⟨by rw [sizeLine_eq]; simp, hsm, [(j, b, w)], .cons ⟨rfl, rfl, ry⟩ .nil, o, es, ep, q1, q2, q3, q4, q5⟩) (.inr ⟨_, by simp, upd_same, .cons ⟨hj, v1.mono (Pers.new hn2), v2.mono (Pers.new hn2)⟩ .nil⟩)
end
end Fz
end

section
set_option Elab.async false
set_option linter.all false
set_option maxRecDepth 100000
set_option maxHeartbeats 4000000
/-! F45: list comprehensions of two clauses. -/
namespace Fz
open PySem PySem.Spec PyProof.Rows L2
/-- the inner turns -/
def lcIn (g : D → FS → Option FS) (t : FS → Res Bool) (fe : FS → Res D) (vs : List Nat) : List D → FS → List D → Res (List D)
  | [], S, acc => .ok acc S
  | d :: ds, S, acc => match g d (wipeS S vs) with
    | none => .bad
    | some S1 => match t S1 with
      | .ok false S2 => lcIn g t fe vs ds (restS S S2 vs) acc
      | .ok true S2 => (match fe S2 with
        | .ok y S3 => if acc.length < sizeLine then lcIn g t fe vs ds (restS S S3 vs) (acc ++ [y]) else .bad
        | _ => .bad)
      | _ => .bad
/-- what is known behind the inner turns -/
def InEnd (K : Fg) (F : Fx) (σ : Sl) (A0 : Addr) (H : Hp) (r : Res (List D)) (Nx : Hp → Prop) : Prop := match r with
  | .ok acc S => ∀ H' vsA, Pers H H' → Rel K F S σ H' → H' A0 = some (.lst vsA) → PdAll K H' vsA acc → (∀ i, Owned S i → σ[i]? ≠ some (some (.ref A0))) → Nx H'
  | _ => False
theorem InEnd.later {K : Fg} {F : Fx} {σ : Sl} {A0 : Addr} {H H2 : Hp} {r : Res (List D)} {Nx : Hp → Prop} (p : Pers H H2) (h : InEnd K F σ A0 H r Nx) : InEnd K F σ A0 H2 r Nx := by
  cases r with
  | ok acc S => exact fun H' vsA q => h H' vsA (p.trans q)
  | exn _ _ => exact h
  | bad => exact h
/-- the joined readings' wipes -/
theorem wipe_beside {σ σ3 : Sl} {vs ts : List Nat} (hts : ∀ j, j ∈ ts → j ∈ vs) (b3 : Beside ts (wipe σ vs) σ3) : wipe σ3 vs = wipe σ vs ∧ ∀ j, j ∉ vs → σ3[j]? = σ[j]? := by
  refine ⟨?_, fun j hj => by rw [b3.2 j (fun z => hj (hts j z)), wipe_eq, setAll_out hj]⟩
  apply List.ext_getElem?
  intro j
  by_cases hj : j ∈ vs
  · have l1 : (wipe σ3 vs).length = (wipe σ vs).length := by rw [wipe_length, b3.1]
    by_cases hl2 : j < σ.length
    · rw [wipe_eq, wipe_eq, setAll_in hj (by rw [b3.1, wipe_length]; exact hl2), setAll_in hj hl2]
    · rw [List.getElem?_eq_none (by rw [l1, wipe_length]; omega), List.getElem?_eq_none (by rw [wipe_length]; omega)]
  · rw [wipe_eq, setAll_out hj, b3.2 j (fun z => hj (hts j z)), wipe_eq]
theorem rest_own {S S2 : FS} {vs : List Nat} {j : Nat} (h : Owned (restS S S2 vs) j) : j ∉ vs ∧ Owned S2 j := by
  obtain ⟨ob, hj⟩ := h
  rcases hj with h | h
  · rcases setAll_some h with ⟨h1, h2⟩ | ⟨_, _, h2⟩
    · exact ⟨h1, ob, .inl h2⟩
    · obtain ⟨d, e, _⟩ := keepD_some h2; cases e
  · rcases setAll_some h with ⟨h1, h2⟩ | ⟨_, _, h2⟩
    · exact ⟨h1, ob, .inr h2⟩
    · obtain ⟨d, e, _⟩ := keepD_some h2; cases e
section
variable {X : Cx} {F : Fx} {g : D → FS → Option FS} {t : FS → Res Bool} {fe : FS → Res D} {ts vs : List Nat}
/-- the inner loop -/
theorem lcIn_read (hts : ∀ j, j ∈ ts → j ∈ vs) {J : It} {H4 : Hp} {ds : List D} {S : FS} {σ : Sl} {A0 : Addr} {vsA : List V} {acc : List D} {Nx : Hp → Prop} (y : Yields X.K J H4 ds) (r : Rel X.K F S σ H4) (d0 : F.H0 A0 = none) (nh : ∀ q ∈ F.held, q.1 ≠ A0) (hDl : H4 A0 = some (.lst vsA)) (hA : PdAll X.K H4 vsA acc)
    (hu : ∀ i, Owned S i → σ[i]? ≠ some (some (.ref A0))) (p : InEnd X.K F σ A0 H4 (lcIn g t fe vs ds S acc) Nx) :
    ∃ W : Nat → Nat → Hp → Prop, (∃ m, W 0 m H4) ∧ ∀ j k H, W j k H → (J.stop j H ∧ Nx H) ∨ (J.go j H ∧ ∃ Nx1 : Hp → Prop, (∀ H', Nx1 H' → ∃ k', k' < k ∧ W (j + 1) k' H') ∧ ∀ x H', J.yld j H x H' → jTG X.K F ts g x (wipe σ vs) H' fun σ3 H5 => wipe σ3 vs = wipe σ vs ∧ jT X.K F t σ3 H5 fun b H6 =>
      if b = true then jE X.K F fe σ3 H6 fun y H7 => ∃ acc, H7 A0 = some (.lst acc) ∧ acc.length < sizeLine ∧ Nx1 (upd H7 A0 (.lst (acc ++ [y]))) else Nx1 H6) := by
  refine ⟨fun i m H => ∃ S vsA acc, Rel X.K F S σ H ∧ Pers H4 H ∧ m = ds.length - i ∧ i ≤ ds.length ∧ H A0 = some (.lst vsA) ∧ PdAll X.K H vsA acc ∧ (∀ i, Owned S i → σ[i]? ≠ some (some (.ref A0))) ∧ InEnd X.K F σ A0 H (lcIn g t fe vs (ds.drop i) S acc) Nx,
    ⟨ds.length, S, vsA, acc, r, .refl _, rfl, Nat.zero_le _, hDl, hA, hu, p⟩, ?_⟩
  clear r hDl hA hu p S vsA acc
  rintro i m H ⟨S, vsA, acc, r, pH, rfl, hi, hDl, hA, hu, p⟩
  by_cases hl : i < ds.length
  · refine .inr ⟨y.go i H pH hl, fun H' => ∃ S vsA acc, Rel X.K F S σ H' ∧ Pers H4 H' ∧ H' A0 = some (.lst vsA) ∧ PdAll X.K H' vsA acc ∧ (∀ i, Owned S i → σ[i]? ≠ some (some (.ref A0))) ∧ InEnd X.K F σ A0 H' (lcIn g t fe vs (ds.drop (i + 1)) S acc) Nx,
      fun H' ⟨S, vsA, acc, a1, a2, a3, a4, a5, a6⟩ => ⟨ds.length - (i + 1), by omega, S, vsA, acc, a1, a2, rfl, hl, a3, a4, a5, a6⟩, fun x H' hy => ?_⟩
    obtain ⟨p2, k2, v2⟩ := y.yld i H x H' ds[i] pH (List.getElem?_eq_getElem hl) hy
    rw [List.drop_eq_getElem_cons hl] at p
    simp only [lcIn] at p
    have rb : Rel X.K (F.blk A0 vsA) S σ H := r.hold hDl d0 hu
    have rb2 : Rel X.K (F.blk A0 vsA) S σ H' := k2 _ _ _ rb
    have rw2 := rb2.wiped (vs := vs)
    refine ⟨A0, vsA, wipeS S vs, ds[i], rw2, v2, ?_⟩
    cases e2 : g ds[i] (wipeS S vs) with
    | none => rw [e2] at p; exact p
    | some S1 =>
      rw [e2] at p
      simp only at p
      intro σ3 H3 p3 r3 b3
      obtain ⟨hw3, out⟩ := wipe_beside hts b3
      refine ⟨hw3, A0, vsA, S1, r3, ?_⟩
      have pH3 : Pers H4 H3 := (pH.trans p2).trans p3
      cases e3 : t S1 with
      | exn e4 S2 => rw [e3] at p; exact p.elim
      | bad => rw [e3] at p; exact p
      | ok k S2 =>
        rw [e3] at p
        intro H5 p4 r4
        have pH4 := pH3.trans p4
        have pp4 : Pers H H5 := (p2.trans p3).trans p4
        cases k with
        | false =>
          rw [if_neg Bool.false_ne_true]
          have rr := r.rest r4.unhold pp4 hw3
          have h4 := r4.held (A0, vsA) (List.mem_cons_self ..)
          refine ⟨_, vsA, acc, rr, pH4, h4.1, hA.mono pp4, fun j hj => ?_, p.later pp4⟩
          obtain ⟨h1, h2⟩ := rest_own hj
          have q := h4.2.2 j h2
          rw [← out j h1]; exact q
        | true =>
          rw [if_pos rfl]
          refine ⟨A0, vsA, S2, r4, ?_⟩
          simp only at p
          cases e5 : fe S2 with
          | exn e6 S3 => rw [e5] at p; exact p.elim
          | bad => rw [e5] at p; exact p
          | ok yd S3 =>
            rw [e5] at p
            simp only at p
            intro yv H6 p5 r5 v5
            have pp5 : Pers H H6 := pp4.trans p5
            have h5 := r5.held (A0, vsA) (List.mem_cons_self ..)
            have rr := r.rest r5.unhold pp5 hw3
            have hu5 : ∀ j, Owned (restS S S3 vs) j → σ[j]? ≠ some (some (.ref A0)) := fun j hj => by
              obtain ⟨h1, h2⟩ := rest_own hj
              have q := h5.2.2 j h2
              rw [← out j h1]; exact q
            by_cases hz : acc.length < sizeLine
            · rw [if_pos hz] at p
              have hm : Mut (H6 A0) := by rw [h5.1]; trivial
              have p6 : Pers H6 (upd H6 A0 (.lst (vsA ++ [yv]))) := Pers.put (.inl hm)
              have r6 : Rel X.K F (restS S S3 vs) σ (upd H6 A0 (.lst (vsA ++ [yv]))) := rr.put (.inl hm) (.inl d0) nh rfl (fun j sv e => .inl ⟨e, hu5 j⟩) fun j h => h
              exact ⟨vsA, h5.1, by rw [hA.length]; exact hz, _, _, acc ++ [yd], r6, (pH4.trans p5).trans p6, upd_same, ((hA.mono pp5).mono p6).append (.cons (Pd.mono p6 v5) .nil), hu5, p.later (pp5.trans p6)⟩
            · rw [if_neg hz] at p; exact p.elim
  · have e : i = ds.length := by omega
    subst e
    rw [List.drop_length] at p
    exact .inl ⟨y.stop H pH, p H vsA (.refl H) r hDl hA hu⟩
end
/-- two clauses -/
def lc2F (g : D → FS → Option FS) (t : FS → Res Bool) (it1 : FS → Res (List D)) (g1 : D → FS → Option FS) (t1 : FS → Res Bool) (fe : FS → Res D) (vs vs1 : List Nat) : List D → FS → List D → Res SV
  | [], S, acc => .ok (.own (.lst acc)) S
  | d :: ds, S, acc => match g d (wipeS S vs) with
    | none => .bad
    | some S1 => match t S1 with
      | .ok false S2 => lc2F g t it1 g1 t1 fe vs vs1 ds (restS S S2 vs) acc
      | .ok true S2 => (match it1 S2 with
        | .ok ds1 S3 => (match lcIn g1 t1 fe vs1 ds1 S3 acc with
          | .ok acc2 S4 => lc2F g t it1 g1 t1 fe vs vs1 ds (restS S S4 vs) acc2
          | _ => .bad)
        | _ => .bad)
      | _ => .bad
def fLc2 (it : FS → Res (List D)) (g : D → FS → Option FS) (t : FS → Res Bool) (it1 : FS → Res (List D)) (g1 : D → FS → Option FS) (t1 : FS → Res Bool) (fe : FS → Res D) (vs vs1 : List Nat) : FS → Res SV := bnd it fun ds S => lc2F g t it1 g1 t1 fe vs vs1 ds S []
def jI (K : Fg) (F : Fx) (it : FS → Res (List D)) : TI := fun σ H R => ∃ D acc, rdI K (F.blk D acc) it σ H R
theorem jI_ok {X : Cx} {F : Fx} {tg iter : Expr} {it : FS → Res (List D)} (h : ∀ D acc, EI X (F.blk D acc) tg iter it) : PI X tg iter (jI X.K F it) := ⟨fun pins s σ H R I ⟨D, acc, q⟩ => (h D acc).run pins s σ H R I q⟩
section
variable {X : Cx} {F : Fx} {it it1 : FS → Res (List D)} {g g1 : D → FS → Option FS} {t t1 : FS → Res Bool} {fe : FS → Res D} {ts ts1 vs vs1 : List Nat}
theorem lc_read2 (hts : ∀ j, j ∈ ts → j ∈ vs) (hts1 : ∀ j, j ∈ ts1 → j ∈ vs1) {σ : Sl} {H : Hp} {Q : VK} (h : rdG X.K F VR (fLc2 it g t it1 g1 t1 fe vs vs1) σ H Q) :
    tLc2 (rdI X.K F it) (jTG X.K F ts g) (jT X.K F t) (jI X.K F it1) (jTG X.K F ts1 g1) (jT X.K F t1) (jE X.K F fe) vs vs1 σ H Q := by
  obtain ⟨S, r, p⟩ := h
  refine ⟨S, r, ?_⟩
  unfold fLc2 bnd at p
  cases e : it S with
  | exn e2 S1 => rw [e] at p; exact p
  | bad => rw [e] at p; exact p
  | ok ds S1 =>
    rw [e] at p
    simp only [Res.bind_ok] at p
    intro J H1 p1 r1 y A0 hD
    have d0 : F.H0 A0 = none := r1.none0 hD
    have nh : ∀ q ∈ F.held, q.1 ≠ A0 := fun q hq e => by obtain ⟨z, _⟩ := r1.held q hq; rw [e, hD] at z; cases z
    refine ⟨fun i m H => ∃ S vsA acc, Rel X.K F S σ H ∧ Pers H1 H ∧ m = ds.length - i ∧ i ≤ ds.length ∧ H A0 = some (.lst vsA) ∧ PdAll X.K H vsA acc ∧ (∀ i, Owned S i → σ[i]? ≠ some (some (.ref A0))) ∧ postG X.K F VR (lc2F g t it1 g1 t1 fe vs vs1 (ds.drop i) S acc) σ H Q,
      ⟨ds.length, S1, [], [], r1.new hD, Pers.new hD, rfl, Nat.zero_le _, upd_same, .nil, fun j hj => r1.unslot hD hj, postG.later (p1.trans (Pers.new hD)) p⟩, ?_⟩
    rintro i m H ⟨S, vsA, acc, r, pH, rfl, hi, hDl, hA, hu, p⟩
    by_cases hl : i < ds.length
    · refine .inr ⟨y.go i H pH hl, fun H' => ∃ S vsA acc, Rel X.K F S σ H' ∧ Pers H1 H' ∧ H' A0 = some (.lst vsA) ∧ PdAll X.K H' vsA acc ∧ (∀ i, Owned S i → σ[i]? ≠ some (some (.ref A0))) ∧ postG X.K F VR (lc2F g t it1 g1 t1 fe vs vs1 (ds.drop (i + 1)) S acc) σ H' Q,
        fun H' ⟨S, vsA, acc, a1, a2, a3, a4, a5, a6⟩ => ⟨ds.length - (i + 1), by omega, S, vsA, acc, a1, a2, rfl, hl, a3, a4, a5, a6⟩, fun x H' hy => ?_⟩
      obtain ⟨p2, k2, v2⟩ := y.yld i H x H' ds[i] pH (List.getElem?_eq_getElem hl) hy
      rw [List.drop_eq_getElem_cons hl] at p
      simp only [lc2F] at p
      have rb : Rel X.K (F.blk A0 vsA) S σ H := r.hold hDl d0 hu
      have rb2 : Rel X.K (F.blk A0 vsA) S σ H' := k2 _ _ _ rb
      have rw2 := rb2.wiped (vs := vs)
      refine ⟨A0, vsA, wipeS S vs, ds[i], rw2, v2, ?_⟩
      cases e2 : g ds[i] (wipeS S vs) with
      | none => rw [e2] at p; exact p
      | some S1 =>
        rw [e2] at p
        simp only at p
        intro σ3 H3 p3 r3 b3
        obtain ⟨hw3, out⟩ := wipe_beside hts b3
        refine ⟨hw3, A0, vsA, S1, r3, ?_⟩
        have pH3 : Pers H1 H3 := (pH.trans p2).trans p3
        cases e3 : t S1 with
        | exn e4 S2 => rw [e3] at p; exact p.elim
        | bad => rw [e3] at p; exact p
        | ok k S2 =>
          rw [e3] at p
          intro H4 p4 r4
          have pH4 := pH3.trans p4
          have pp4 : Pers H H4 := (p2.trans p3).trans p4
          cases k with
          | false =>
            rw [if_neg Bool.false_ne_true]
            have rr := r.rest r4.unhold pp4 hw3
            have h4 := r4.held (A0, vsA) (List.mem_cons_self ..)
            refine ⟨_, vsA, acc, rr, pH4, h4.1, hA.mono pp4, fun j hj => ?_, postG.later pp4 p⟩
            obtain ⟨h1, h2⟩ := rest_own hj
            have q := h4.2.2 j h2
            rw [← out j h1]; exact q
          | true =>
            rw [if_pos rfl]
            refine ⟨A0, vsA, S2, r4, ?_⟩
            simp only at p
            cases e5 : it1 S2 with
            | exn e6 S3 => rw [e5] at p; exact p.elim
            | bad => rw [e5] at p; exact p
            | ok ds1 S3 =>
              rw [e5] at p
              simp only at p
              intro J1 H5 p5 r5 y5
              have pp5 : Pers H H5 := pp4.trans p5
              have h5 := r5.held (A0, vsA) (List.mem_cons_self ..)
              refine lcIn_read (F := F) (S := S3) (vsA := vsA) (acc := acc) (fe := fe) hts1 y5 r5.unhold d0 nh h5.1 (hA.mono pp5) h5.2.2 ?_
              cases e7 : lcIn g1 t1 fe vs1 ds1 S3 acc with
              | exn _ _ => rw [e7] at p; exact p.elim
              | bad => rw [e7] at p; exact p.elim
              | ok acc2 S4 =>
                rw [e7] at p
                intro H6 vsB p6 r6 h6 hB hu6
                have pp6 : Pers H H6 := pp5.trans p6
                refine ⟨_, vsB, acc2, r.rest r6 pp6 hw3, ((pH4.trans p5).trans p6), h6, hB, fun j hj => ?_, postG.later pp6 p⟩
                obtain ⟨h1, h2⟩ := rest_own hj
                have q := hu6 j h2
                rw [← out j h1]; exact q
    · have e : i = ds.length := by omega
      subst e
      rw [List.drop_length] at p
      exact .inl ⟨y.stop H pH, p _ H (.refl H) r ⟨A0, rfl, ⟨vsA, hDl, hA⟩, d0, hu, nh⟩⟩
variable {elt tg iter tg1 iter1 : Expr} {ifs ifs1 : List Expr} {scope : Scope} {own : List (Str × Nat)} {pos : Pos}
theorem e_lc2 (hc : X.calm = true) (hN : X.N.Nodup) (hi : EI X F tg iter it) (ok : BlkOk X.N X.env.scope scope own) (hts : ∀ j, j ∈ ts → j ∈ own.map (·.2)) (hv : ∀ j ∈ vs1, j ∈ own.map (·.2)) (hts1 : ∀ j, j ∈ ts1 → j ∈ vs1)
    (hg : ∀ (s : Shared) (H : Hp) (C : Addr) (cl : List (Str × Addr)) (fp : List Addr) (D : Addr) (acc : List V), EG (X.blk s H scope (compEnvC scope cl C X.env) fp) (F.blk D acc) tg ts g)
    (ht : ∀ (s : Shared) (H : Hp) (C : Addr) (cl : List (Str × Addr)) (fp : List Addr) (D : Addr) (acc : List V), ETs (X.blk s H scope (compEnvC scope cl C X.env) fp) (F.blk D acc) ifs t)
    (hi1 : ∀ (s : Shared) (H : Hp) (C : Addr) (cl : List (Str × Addr)) (fp : List Addr) (D : Addr) (acc : List V), EI (X.blk s H scope (compEnvC scope cl C X.env) fp) (F.blk D acc) tg1 iter1 it1)
    (hg1 : ∀ (s : Shared) (H : Hp) (C : Addr) (cl : List (Str × Addr)) (fp : List Addr) (D : Addr) (acc : List V), EG (X.blk s H scope (compEnvC scope cl C X.env) fp) (F.blk D acc) tg1 ts1 g1)
    (ht1 : ∀ (s : Shared) (H : Hp) (C : Addr) (cl : List (Str × Addr)) (fp : List Addr) (D : Addr) (acc : List V), ETs (X.blk s H scope (compEnvC scope cl C X.env) fp) (F.blk D acc) ifs1 t1)
    (he : ∀ (s : Shared) (H : Hp) (C : Addr) (cl : List (Str × Addr)) (fp : List Addr) (D : Addr) (acc : List V), ED (X.blk s H scope (compEnvC scope cl C X.env) fp) (F.blk D acc) elt fe)
    (hs : ∀ x, foldedSetIterable iter X.env x = pure x := by intro _; rfl) (hs1 : ∀ env x, foldedSetIterable iter1 env x = pure x := by intro _ _; rfl) :
    EV X F (.ListComp elt [⟨tg, iter, ifs, 0⟩, ⟨tg1, iter1, ifs1, 0⟩] scope pos) (fLc2 it g t it1 g1 t1 fe (own.map (·.2)) vs1) :=
  (pe_lc2 hc hN hi ok hv (fun s H C cl fp => jG_ok (F := F) (hg s H C cl fp)) (fun s H C cl fp => jT_ok (F := F) (ht s H C cl fp)) (fun s H C cl fp => jI_ok (F := F) (hi1 s H C cl fp)) (fun s H C cl fp => jG_ok (F := F) (hg1 s H C cl fp))
    (fun s H C cl fp => jT_ok (F := F) (ht1 s H C cl fp)) (fun s H C cl fp => jE_ok (F := F) (he s H C cl fp)) hs hs1).via fun σ H Q h => lc_read2 hts hts1 h
theorem s_setLc2 {i : Nat} {y : Str} {py spos : Pos} (hc : X.calm = true) (hN : X.N.Nodup) (hy : X.N[i]? = some y) (hyl : X.env.scope.names.lookup y = some .local)
    (hsw : swapsWith (.ListComp elt [⟨tg, iter, ifs, 0⟩, ⟨tg1, iter1, ifs1, 0⟩] scope pos) (some (.Name y py)) spos.line X.env = pure true) (hi : EI X F tg iter it) (ok : BlkOk X.N X.env.scope scope own) (hts : ∀ j, j ∈ ts → j ∈ own.map (·.2)) (hv : ∀ j ∈ vs1, j ∈ own.map (·.2)) (hts1 : ∀ j, j ∈ ts1 → j ∈ vs1)
    (hg : ∀ (s : Shared) (H : Hp) (C : Addr) (cl : List (Str × Addr)) (fp : List Addr) (D : Addr) (acc : List V), EG (X.blk s H scope (compEnvC scope cl C X.env) fp) (F.blk D acc) tg ts g)
    (ht : ∀ (s : Shared) (H : Hp) (C : Addr) (cl : List (Str × Addr)) (fp : List Addr) (D : Addr) (acc : List V), ETs (X.blk s H scope (compEnvC scope cl C X.env) fp) (F.blk D acc) ifs t)
    (hi1 : ∀ (s : Shared) (H : Hp) (C : Addr) (cl : List (Str × Addr)) (fp : List Addr) (D : Addr) (acc : List V), EI (X.blk s H scope (compEnvC scope cl C X.env) fp) (F.blk D acc) tg1 iter1 it1)
    (hg1 : ∀ (s : Shared) (H : Hp) (C : Addr) (cl : List (Str × Addr)) (fp : List Addr) (D : Addr) (acc : List V), EG (X.blk s H scope (compEnvC scope cl C X.env) fp) (F.blk D acc) tg1 ts1 g1)
    (ht1 : ∀ (s : Shared) (H : Hp) (C : Addr) (cl : List (Str × Addr)) (fp : List Addr) (D : Addr) (acc : List V), ETs (X.blk s H scope (compEnvC scope cl C X.env) fp) (F.blk D acc) ifs1 t1)
    (he : ∀ (s : Shared) (H : Hp) (C : Addr) (cl : List (Str × Addr)) (fp : List Addr) (D : Addr) (acc : List V), ED (X.blk s H scope (compEnvC scope cl C X.env) fp) (F.blk D acc) elt fe)
    (hs : ∀ x, foldedSetIterable iter X.env x = pure x := by intro _; rfl) (hs1 : ∀ env x, foldedSetIterable iter1 env x = pure x := by intro _ _; rfl) :
    ES X F (.Assign [.Name y py] (.ListComp elt [⟨tg, iter, ifs, 0⟩, ⟨tg1, iter1, ifs1, 0⟩] scope pos) spos) (fSet i (fLc2 it g t it1 g1 t1 fe (own.map (·.2)) vs1)) :=
  (ps_setLc2 hc hN hy hyl hsw hi ok hv (fun s H C cl fp => jG_ok (F := F) (hg s H C cl fp)) (fun s H C cl fp => jT_ok (F := F) (ht s H C cl fp)) (fun s H C cl fp => jI_ok (F := F) (hi1 s H C cl fp)) (fun s H C cl fp => jG_ok (F := F) (hg1 s H C cl fp))
    (fun s H C cl fp => jT_ok (F := F) (ht1 s H C cl fp)) (fun s H C cl fp => jE_ok (F := F) (he s H C cl fp)) hs hs1).via fun D σ H h =>
    lc_read2 hts hts1 ((rdG.bindS h).imp fun x H1 ⟨d, S1, r, v, p, q⟩ => q _ H1 (.refl H1) (r.setV v))
end
end Fz
end

section
set_option Elab.async false
set_option linter.all false
set_option maxRecDepth 100000
set_option maxHeartbeats 4000000
/-! F46: sum, max of a list of ints. -/
namespace Fz
open PySem PySem.Spec PyProof.Rows L2
def maxI : Int → List Int → Int
  | m, [] => m
  | m, x :: xs => maxI (if x > m then x else m) xs
theorem maxI_ok : ∀ (xs : List Int) (m : Int), (maxI m xs = m ∨ maxI m xs ∈ xs) ∧ m ≤ maxI m xs ∧ ∀ x ∈ xs, x ≤ maxI m xs
  | [], m => ⟨.inl rfl, Int.le_refl m, fun _ h => (nomatch h)⟩
  | y :: xs, m => by
    obtain ⟨h1, h2, h3⟩ := maxI_ok xs (if y > m then y else m)
    have hm : m ≤ (if y > m then y else m) := by split <;> omega
    have hy : y ≤ (if y > m then y else m) := by split <;> omega
    unfold maxI
    refine ⟨?_, Int.le_trans hm h2, fun x hx => ?_⟩
    · rcases h1 with h1 | h1
      · rw [h1]; split
        · exact .inr (by simp)
        · exact .inl rfl
      · exact .inr (by simp [h1])
    · rcases List.mem_cons.mp hx with rfl | hx
      · exact Int.le_trans hy h2
      · exact h3 x hx
/-- max(xs) of a list of ints -/
def pMaxI (d : D) : FS → Res D := fun S => match d with
  | .list ds => (match intsOf ds with
    | some (n :: ns) => .ok (.int (maxI n ns)) S
    | _ => .bad)
  | _ => .bad
/-- sum(xs) of a list of ints -/
def pSum (d : D) : FS → Res D := fun S => match d with
  | .list ds => (match intsOf ds with
    | some ns => .ok (.int ns.sum) S
    | none => .bad)
  | _ => .bad
section
variable {X : Cx} {F : Fx}
theorem c_maxI (hc : X.calm = true) : CallF X F PR (.builtin "max") (one pMaxI) := callF_one fun d => by
  cases d with
  | list ds =>
    cases hi : intsOf ds with
    | none => exact .inr fun _ => by simp only [pMaxI, hi]
    | some ns =>
      cases ns with
      | nil => exact .inr fun _ => by simp only [pMaxI, hi]
      | cons n ns =>
        refine .inl ⟨_, cr_max hc, fun S σ H x Q r hx p => ?_⟩
        simp only [pMaxI, hi] at p
        obtain ⟨a, vs, rfl, h1, r1⟩ := hx.list
        have e := pdAll_ints hi r1
        subst e
        refine ⟨a, n :: ns, rfl, h1, Nat.succ_pos _, fun m hm hle => ?_⟩
        obtain ⟨k1, k2, k3⟩ := maxI_ok ns n
        have e2 : m = maxI n ns := by
          apply Int.le_antisymm
          · rcases List.mem_cons.mp hm with rfl | hm
            · exact k2
            · exact k3 m hm
          · refine hle _ ?_
            rcases k1 with k1 | k1
            · rw [k1]; simp
            · simp [k1]
        rw [e2]
        exact p.ok r (Pd.int _)
  | _ => exact .inr fun _ => rfl
theorem c_sum (hc : X.calm = true) : CallF X F PR (.builtin "sum") (one pSum) := callF_one fun d => by
  cases d with
  | list ds =>
    cases hi : intsOf ds with
    | none => exact .inr fun _ => by simp only [pSum, hi]
    | some ns =>
      refine .inl ⟨_, cr_sum hc, fun S σ H x Q r hx p => ?_⟩
      simp only [pSum, hi] at p
      obtain ⟨a, vs, rfl, h1, r1⟩ := hx.list
      have e := pdAll_ints hi r1
      subst e
      exact ⟨a, ns, rfl, h1, p.ok r (Pd.int _)⟩
  | _ => exact .inr fun _ => rfl
end
theorem bt_sum : bootBuiltins "sum" = some (.builtin "sum") := by decide +kernel
end Fz
end

section
set_option Elab.async false
set_option linter.all false
set_option maxRecDepth 100000
set_option maxHeartbeats 4000000
/-! F47: <, <=, >, >= of ints and of tuples of ints. -/
namespace Fz
open PySem PySem.Spec PyProof.Rows L2
/-- what tuples of ints give -/
def tupC (c : Int → Int → Bool) (z : Nat → Nat → Bool) (ns ms : List Int) : Bool := Ob.lexAt (fun j => decide (ns.getD j 0 = ms.getD j 0)) (fun j => c (ns.getD j 0) (ms.getD j 0)) (z ns.length ms.length) 0 (min ns.length ms.length)
def rCmpT (K : Fg) (c : Int → Int → Bool) (z : Nat → Nat → Bool) : R2 := fun x y H Q => ∃ (a b : Addr) (ns ms : List Int), x = .ref a ∧ y = .ref b ∧ SqT K H a (ns.map V.int) ∧ SqT K H b (ms.map V.int) ∧ Q (.bl (tupC c z ns ms)) H
theorem op_cmpT {X : Cx} {op : CmpOp} {c : Int → Int → Bool} {z : Nat → Nat → Bool} (hop : ∀ v u, compareOp op v u = richCompare op v u) (hu : X.A.units < cLine)
    (hI : ∀ (A : Around) (s : Shared) (a b : Int) (t u : Tok), Ob.RcOp op A s (.int a t) (.int b u) (c a b))
    (hT : ∀ {A : Around} {s : Shared} {l b : Addr} {items items2 : Array Value} {e r : Nat → Bool}, s.heap.IsTuple l items → s.heap.IsTuple b items2 → A.units < cLine → (∀ j (h1 : j < items.size) (h2 : j < items2.size), SeqAt.EqAt A.in1 s items[j] items2[j] (e j)) →
      (∀ j (h1 : j < items.size) (h2 : j < items2.size), e j = false → Ob.RcOp op A.in1 s items[j] items2[j] (r j)) → Ob.RcOp op A s (.ref l) (.ref b) (Ob.lexAt e r (z items.size items2.size) 0 (min items.size items2.size))) :
    OpR X (compareOp op) (rCmpT X.K c z) := by
  intro pins s σ H x y v u Q I rx ry h
  obtain ⟨a, b, ns, ms, rfl, rfl, ha, hb, q⟩ := h
  cases rx
  cases ry
  obtain ⟨its, r1, p1, _⟩ := I.tuple ha
  obtain ⟨its2, r2, p2, _⟩ := I.tuple hb
  have i1 : IntsAre its ns := Vals.ints r1
  have i2 : IntsAre its2 ms := Vals.ints r2
  have e1 : its.toArray.size = ns.length := by rw [List.size_toArray]; exact i1.length
  have e2 : its2.toArray.size = ms.length := by rw [List.size_toArray]; exact i2.length
  have at1 : ∀ j (h1 : j < its.toArray.size), ∃ t, its.toArray[j] = .int (ns.getD j 0) t := fun j h1 => PyProof.Rows.IntsAre.int_at i1 _ _ (by simp at h1; simp [h1])
  have at2 : ∀ j (h1 : j < its2.toArray.size), ∃ t, its2.toArray[j] = .int (ms.getD j 0) t := fun j h1 => PyProof.Rows.IntsAre.int_at i2 _ _ (by simp at h1; simp [h1])
  have R := hT (A := X.A) (s := s) (e := fun j => decide (ns.getD j 0 = ms.getD j 0)) (r := fun j => c (ns.getD j 0) (ms.getD j 0)) p1 p2 hu (fun j h1 h2 => by
    obtain ⟨t, et⟩ := at1 j h1
    obtain ⟨t', et'⟩ := at2 j h2
    rw [et, et']
    have z : (ns.getD j 0 == ms.getD j 0) = decide (ns.getD j 0 = ms.getD j 0) := by
      by_cases q : ns.getD j 0 = ms.getD j 0
      · rw [decide_eq_true q]; exact beq_iff_eq.mpr q
      · rw [decide_eq_false q]; exact beq_eq_false_iff_ne.mpr q
    rw [← z]
    exact SeqAt.EqAt.int_int _ _ _ _) (fun j h1 h2 _ => by
    obtain ⟨t, et⟩ := at1 j h1
    obtain ⟨t', et'⟩ := at2 j h2
    rw [et, et']
    exact hI _ _ _ _ _ _)
  rw [e1, e2] at R
  rw [hop]
  exact R X.prog X.w X.xe (EP X pins σ Q) ⟨.bl _, H, I, rfl, q⟩
/-- ints, or tuples of ints -/
def pCmpG (c : Int → Int → Bool) (z : Nat → Nat → Bool) (d e : D) : FS → Res D := fun S => match d, e with
  | .int i, .int j => .ok (.bool (c i j)) S
  | .tuple ds, .tuple es => (match intsOf ds, intsOf es with
    | some ns, some ms => .ok (.bool (tupC c z ns ms)) S
    | _, _ => .bad)
  | _, _ => .bad
section
variable {X : Cx} {F : Fx}
theorem op_cmpG {op : CmpOp} {c : Int → Int → Bool} {z : Nat → Nat → Bool} (h : OpR X (compareOp op) (rI0 fun i j => .bl (c i j))) (h2 : OpR X (compareOp op) (rCmpT X.K c z)) : OpF X F PR (compareOp op) (pCmpG c z) := opF_by fun S σ d e H => by
  cases d with
  | int i =>
    cases e with
    | int j => exact .inl ⟨_, h, fun x y Q r hx hy p => ⟨i, j, hx.int, hy.int, p.ok r (Pd.bl _)⟩⟩
    | _ => exact .inr rfl
  | tuple ds =>
    cases e with
    | tuple es =>
      cases h1 : intsOf ds with
      | none => exact .inr (by simp only [pCmpG, h1])
      | some ns =>
        cases h3 : intsOf es with
        | none => exact .inr (by simp only [pCmpG, h1, h3])
        | some ms =>
          refine .inl ⟨_, h2, fun x y Q r hx hy p => ?_⟩
          simp only [pCmpG, h1, h3] at p
          obtain ⟨a, vs, rfl, q1, r1⟩ := hx.tuple
          obtain ⟨b, ws, rfl, q2, r2⟩ := hy.tuple
          have e1 := pdAll_ints h1 r1
          have e2 := pdAll_ints h3 r2
          subst e1 e2
          exact ⟨a, b, ns, ms, rfl, rfl, q1, q2, p.ok r (Pd.bl _)⟩
    | _ => exact .inr rfl
  | _ => exact .inr rfl
abbrev pLtG := pCmpG (fun i j => decide (i < j)) (fun n m => decide (n < m))
abbrev pLeG := pCmpG (fun i j => decide (i ≤ j)) (fun n m => decide (n ≤ m))
abbrev pGtG := pCmpG (fun i j => decide (j < i)) (fun n m => decide (n > m))
abbrev pGeG := pCmpG (fun i j => decide (j ≤ i)) (fun n m => decide (n ≥ m))
theorem op_ltG (hu : X.A.units + 64 < cLine) : OpF X F PR (compareOp .Lt) pLtG := op_cmpG op_lt (op_cmpT (fun _ _ => rfl) (by omega) (fun _ _ _ _ _ _ => Ob.RcOp.lt_int _ _ _ _) fun a b c d e => Ob.RcOp.tuples_lt a b c d e)
theorem op_leG (hu : X.A.units + 64 < cLine) : OpF X F PR (compareOp .LtE) pLeG := op_cmpG op_le (op_cmpT (fun _ _ => rfl) (by omega) (fun _ _ _ _ _ _ => Ob.RcOp.le_int _ _ _ _) fun a b c d e => Ob.RcOp.tuples_le a b c d e)
theorem op_gtG (hu : X.A.units + 64 < cLine) : OpF X F PR (compareOp .Gt) pGtG := op_cmpG op_gt (op_cmpT (fun _ _ => rfl) (by omega) (fun _ _ _ _ _ _ => Ob.RcOp.gt_int _ _ _ _) fun a b c d e => Ob.RcOp.tuples_gt a b c d e)
theorem op_geG (hu : X.A.units + 64 < cLine) : OpF X F PR (compareOp .GtE) pGeG := op_cmpG op_ge (op_cmpT (fun _ _ => rfl) (by omega) (fun _ _ _ _ _ _ => Ob.RcOp.ge_int _ _ _ _) fun a b c d e => Ob.RcOp.tuples_ge a b c d e)
end
end Fz
end

section
set_option Elab.async false
set_option linter.all false
set_option maxRecDepth 100000
set_option maxHeartbeats 4000000
/-! F48: weakest preconditions for F42-F47. -/
namespace Fz
open PySem L2
section
variable {S : FS} {Q : D → FS → Prop} {QV : SV → FS → Prop} {f fk fv : FS → Res D} {g : FS → Res SV} {i : Nat} {den : Den}
@[simp] theorem wE_fDisp1 : wE (fDisp1 fk fv S) QV = wE (fk S) fun k S1 => wE (fv S1) fun v S2 => kOk [] k = true ∧ QV (.own (.dic [(k, v)])) S2 := by
  unfold fDisp1
  cases fk S with
  | ok k S1 =>
    simp only [wE_ok]
    cases fv S1 with
    | ok v S2 =>
      simp only [wE_ok]
      cases kOk [] k <;> simp
    | _ => rfl
  | _ => rfl
def wMv (i : Nat) (o : Option (Option SV)) (S : FS) (QV : SV → FS → Prop) : Prop := match o with
  | some (some (.own ob)) => QV (.own ob) (S.set i none)
  | some (some (.d d)) => QV (.d d) S
  | _ => False
@[simp] theorem wMv_own {ob : Ob} : wMv i (some (some (.own ob))) S QV = QV (.own ob) (S.set i none) := rfl
@[simp] theorem wMv_d {d : D} : wMv i (some (some (.d d))) S QV = QV (.d d) S := rfl
@[simp] theorem wE_fMove : wE (fMove i S) QV = wMv i S[i]? S QV := by
  unfold fMove
  split
  · rename_i e; rw [e]; rfl
  · rename_i e; rw [e]; rfl
  · rename_i n1 n2
    unfold wMv
    split
    · rename_i e; exact absurd e (n1 _)
    · rename_i e; exact absurd e (n2 _)
    · rfl
theorem intsOf_ints : ∀ ns : List Int, intsOf (ns.map .int) = some ns
  | [] => rfl
  | n :: ns => by simp only [List.map_cons, intsOf, intsOf_ints ns, Option.map_some]
theorem wE_pMaxI {n : Int} {ns : List Int} : wE (pMaxI (.list ((n :: ns).map .int)) S) Q = Q (.int (maxI n ns)) S := by
  unfold pMaxI
  simp only [intsOf_ints, wE_ok]
theorem wE_pSum {ns : List Int} : wE (pSum (.list (ns.map .int)) S) Q = Q (.int ns.sum) S := by
  unfold pSum
  simp only [intsOf_ints, wE_ok]
@[simp] theorem wE_cmpG_i {c : Int → Int → Bool} {z : Nat → Nat → Bool} {a b : Int} : wE (pCmpG c z (.int a) (.int b) S) Q = Q (.bool (c a b)) S := rfl
@[simp] theorem wE_cmpG_W {c : Int → Int → Bool} {z : Nat → Nat → Bool} {xs ys : List Int} : wE (pCmpG c z (W xs) (W ys) S) Q = Q (.bool (tupC c z xs ys)) S := by
  unfold W pCmpG
  simp only [intsOf_ints, wE_ok]
theorem lexAt_succ {e r : Nat → Bool} {z : Bool} : ∀ (k i : Nat), Ob.lexAt e r z (i + 1) k = Ob.lexAt (fun j => e (j + 1)) (fun j => r (j + 1)) z i k
  | 0, i => rfl
  | k + 1, i => by
    rw [Ob.lexAt_succ, Ob.lexAt_succ, lexAt_succ k (i + 1)]
/-- the order of tuples by their first letters -/
theorem tupC_cons {c : Int → Int → Bool} {z : Nat → Nat → Bool} (hz : ∀ n m, z (n + 1) (m + 1) = z n m) {x y : Int} {xs ys : List Int} : tupC c z (x :: xs) (y :: ys) = if x = y then tupC c z xs ys else c x y := by
  unfold tupC
  rw [List.length_cons, List.length_cons, show min (xs.length + 1) (ys.length + 1) = min xs.length ys.length + 1 by omega, Ob.lexAt_succ, lexAt_succ, hz]
  simp
theorem tupC_nil_l {c : Int → Int → Bool} {z : Nat → Nat → Bool} {ys : List Int} : tupC c z [] ys = z 0 ys.length := by simp [tupC, Ob.lexAt]
theorem tupC_nil_r {c : Int → Int → Bool} {z : Nat → Nat → Bool} {xs : List Int} : tupC c z xs [] = z xs.length 0 := by simp [tupC, Ob.lexAt]
end
end Fz
end

section
set_option Elab.async false
set_option linter.all false
set_option maxRecDepth 100000
set_option maxHeartbeats 4000000
/-! dens, new with k16 -/
namespace DL
open PySem L2 Fz
/-- slots: 0 k, 1 most, 2 found, 3 layer, 4 length, 5 longer, 6 word, 7 letter -/
noncomputable def b__law_all : FS → SRes :=
 fSeq (fPars [2, 3] (fConsV (fLst (fCons (fTup (fC [])) (fC []))) (fConsV (fLst (fCons (fTup (fC [])) (fC []))) (fC []))))
        (fSeq (fFor (fRange1 (fVar 1)) (gN 4) (fSeq (fSet 5 (fLst (fC [])))
        (fSeq (fFor (fItems (fVar 3)) (gN 6) (fExtend 5 (fLc (fRange1 (fVar 0)) (gN 7) (fC true) (fFrz (fOpN pAdd 6 (fTup (fCons (fVar 7) (fC []))))) [7])))
        (fSeq (fSetD 3 (fVar 5))
        (fSet 2 (fOpN pAdd 2 (fPeek 3)))))))
        (fRetD (fVar 2)))
@[irreducible] noncomputable def d__law_all : Den := denOf 8 b__law_all
/-- slots: 0 well, 1 atoms, 2 found, 3 sort, 4 told, 5 turn -/
noncomputable def b__law_along : FS → SRes :=
 fSeq (fSet 2 (fLst (fC [])))
        (fSeq (fFor (fItems (fVar 1)) (gTp 2 (gCs (gN 3) (gCs (gN 4) (gNl)))) (fIf (fT (fOpN pEq 3 (fC (.str "one")))) (fSet 2 (fOpN pAdd 2 (fFrz (fOp pMulS (fFrz (fLst (fCons (fVar 4) (fC [])))) (fFrz (fCallP d__law_take 2 (fAS 0 (fAD (fC (.int 2)) (fC []))))))))) (fSet 2 (fOpN pAdd 2 (fFrz (fLc (fRange1 (fFrz (fCallP d__law_take 2 (fAS 0 (fAD (fC (.int 6)) (fC [])))))) (gN 5) (fC true) (fOpN pIx 4 (fFrz (fCallP d__law_take 2 (fAS 0 (fAD (fCall (one pLen) (fCons (fPeek 4) (fC []))) (fC [])))))) [5]))))))
        (fRetD (fCall (one pTuple) (fCons (fPeek 2) (fC [])))))
@[irreducible] noncomputable def d__law_along : Den := denOf 6 b__law_along
/-- slots: 0 well, 1 k, 2 most, 3 found, 4 at, 5 bits, 6 letter, 7 letters, 8 own -/
noncomputable def b__law_atoms : FS → SRes :=
 fSeq (fSet 3 (fLst (fC [])))
        (fSeq (fFor (fRange1 (fFrz (fCallP d__law_take 2 (fAS 0 (fAD (fFrz (fOpN pAdd 2 (fC (.int 1)))) (fC [])))))) (gN 4) (fSeq (fPars [5, 6] (fConsV (fOp pAdd (fC (.int 1)) (fFrz (fCallP d__law_take 2 (fAS 0 (fAD (fOp pSub (fOp pShl (fC (.int 1)) (fPeek 1)) (fC (.int 1))) (fC [])))))) (fConsV (fCallP d__law_take 2 (fAS 0 (fAD (fVar 1) (fC [])))) (fC []))))
        (fSeq (fSetD 7 (fCall (one pTuple) (fCons (fFrz (fLc (fRange1 (fVar 1)) (gN 8) (fT (fOp pEq (fOp pAnd (fOpN pShr 5 (fPeek 8)) (fC (.int 1))) (fC (.int 1)))) (fVar 8) [8])) (fC []))))
        (fAppend 3 (fIte (fT (fOp pEq (fFrz (fCallP d__law_take 2 (fAS 0 (fAD (fC (.int 2)) (fC []))))) (fC (.int 0)))) (fTup (fCons (fC (.str "one")) (fCons (fVar 6) (fC [])))) (fTup (fCons (fC (.str "any")) (fCons (fVar 7) (fC [])))))))))
        (fRetD (fCall (one pTuple) (fCons (fPeek 3) (fC [])))))
@[irreducible] noncomputable def d__law_atoms : Den := denOf 9 b__law_atoms
/-- slots: 0 atom -/
noncomputable def b__law_letters : FS → SRes :=
 fRet (fIte (fT (fOp pEq (fOpN pIx 0 (fC (.int 0))) (fC (.str "one")))) (fLst (fCons (fOpN pIx 0 (fC (.int 1))) (fC []))) (fCall (one pList) (fCons (fOpN pIx 0 (fC (.int 1))) (fC []))))
@[irreducible] noncomputable def d__law_letters : Den := denOf 1 b__law_letters
/-- slots: 0 atoms, 1 word, 2 some, 3 at, 4 letter, 5 further -/
noncomputable def b__law_has : FS → SRes :=
 fSeq (fSet 2 (fOp pAdd (fFrz (fLst (fCons (fC (.bool true)) (fC [])))) (fFrz (fOp pMulS (fFrz (fLst (fCons (fC (.bool false)) (fC [])))) (fCall (one pLen) (fCons (fPeek 0) (fC [])))))))
        (fSeq (fFor (fRange1 (fCall (one pLen) (fCons (fPeek 0) (fC [])))) (gN 3) (fSetIx 2 (fC (.bool true)) (fFrz (fOpN pAdd 3 (fC (.int 1))))))
        (fSeq (fFor (fItems (fVar 1)) (gN 4) (fSeq (fSet 5 (fOp pMulS (fFrz (fLst (fCons (fC (.bool false)) (fC [])))) (fFrz (fOp pAdd (fCall (one pLen) (fCons (fPeek 0) (fC []))) (fC (.int 1))))))
        (fSeq (fFor (fRange1 (fCall (one pLen) (fCons (fPeek 0) (fC [])))) (gN 3) (fIf (fAndT (fTru (fOpN pIx 2 (fVar 3))) (fT (fOpN pIn 4 (fFrz (fCallP d__law_letters 1 (fAD (fOpN pIx 0 (fVar 3)) (fC []))))))) (fSetIx 5 (fC (.bool true)) (fFrz (fOpN pAdd 3 (fCall (one pToInt) (fCons (fOp pEq (fOp pIx (fOpN pIx 0 (fVar 3)) (fC (.int 0))) (fC (.str "one"))) (fC [])))))) (fun S => .nx S)))
        (fSeq (fFor (fRange1 (fCall (one pLen) (fCons (fPeek 0) (fC [])))) (gN 3) (fSetIx 5 (fOrV (fOpN pIx 5 (fFrz (fOpN pAdd 3 (fC (.int 1))))) (fOpN pIx 5 (fVar 3))) (fFrz (fOpN pAdd 3 (fC (.int 1))))))
        (fSetD 2 (fVar 5))))))
        (fRetD (fCall (one pAny) (fCons (fPeek 2) (fC []))))))
@[irreducible] noncomputable def d__law_has : Den := denOf 6 b__law_has
/-- slots: 0 some, 1 one, 2 other -/
noncomputable def b_is_ascending : FS → SRes :=
 fRetD (fAny false (fZip (fVar 0) (fFrz (fSlN 0 (fPart (fC (.int 1))) (fC none)))) (gTp 2 (gCs (gN 1) (gCs (gN 2) (gNl)))) (fC true) (fOpN pLt 1 (fPeek 2)) [1, 2])
@[irreducible] noncomputable def d_is_ascending : Den := denOf 3 b_is_ascending
/-- slots: 0 k, 1 told, 2 letter -/
noncomputable def b_is_atom : FS → SRes :=
 fSeq (fIf (fOrT (fNotT (fTru (fIsi "tuple" (fPeek 1)))) (fOrT (fT (fOp pNe (fCall (one pLen) (fCons (fPeek 1) (fC []))) (fC (.int 2)))) (fNotT (fTru (fIsi "str" (fOpN pIx 1 (fC (.int 0)))))))) (fRetD (fC (.bool false))) (fun S => .nx S))
        (fSeq (fIf (fT (fOp pEq (fOpN pIx 1 (fC (.int 0))) (fC (.str "one")))) (fRet (fCallP d_is_below 2 (fAD (fOpN pIx 1 (fC (.int 1))) (fAD (fVar 0) (fC []))))) (fun S => .nx S))
        (fSeq (fIf (fOrT (fT (fOp pNe (fOpN pIx 1 (fC (.int 0))) (fC (.str "any")))) (fOrT (fNotT (fTru (fIsi "tuple" (fOpN pIx 1 (fC (.int 1)))))) (fT (fOp pEq (fCall (one pLen) (fCons (fOpN pIx 1 (fC (.int 1))) (fC []))) (fC (.int 0)))))) (fRetD (fC (.bool false))) (fun S => .nx S))
        (fRetD (fAndV (fAny false (fItems (fOpN pIx 1 (fC (.int 1)))) (gN 2) (fC true) (fFrz (fCallP d_is_below 2 (fAD (fVar 2) (fAD (fVar 0) (fC []))))) [2]) (fFrz (fCallP d_is_ascending 1 (fAD (fOpN pIx 1 (fC (.int 1))) (fC []))))))))
@[irreducible] noncomputable def d_is_atom : Den := denOf 3 b_is_atom
/-- slots: 0 k, 1 told, 2 atom -/
noncomputable def b_are_atoms : FS → SRes :=
 fRetD (fAndV (fIsi "tuple" (fPeek 1)) (fAny false (fItems (fVar 1)) (gN 2) (fC true) (fFrz (fCallP d_is_atom 2 (fAD (fVar 0) (fAD (fVar 2) (fC []))))) [2]))
@[irreducible] noncomputable def d_are_atoms : Den := denOf 3 b_are_atoms
/-- slots: 0 atom, 1 other, 2 letter -/
noncomputable def b_fits : FS → SRes :=
 fSeq (fIf (fT (fOp pEq (fOpN pIx 1 (fC (.int 0))) (fC (.str "one")))) (fRetD (fOpN pEq 0 (fPeek 1))) (fun S => .nx S))
        (fRetD (fAny false (fItems (fIte (fT (fOp pEq (fOpN pIx 0 (fC (.int 0))) (fC (.str "one")))) (fFrz (fSlN 0 (fPart (fC (.int 1))) (fC none))) (fOpN pIx 0 (fC (.int 1))))) (gN 2) (fC true) (fOpN pIn 2 (fOpN pIx 1 (fC (.int 1)))) [2]))
@[irreducible] noncomputable def d_fits : Den := denOf 3 b_fits
/-- slots: 0 star, 1 atom -/
noncomputable def b_takes_up : FS → SRes :=
 fRetD (fAndV (fOp pEq (fOpN pIx 0 (fC (.int 0))) (fC (.str "any"))) (fFrz (fCallP d_fits 2 (fAD (fVar 1) (fAD (fVar 0) (fC []))))))
@[irreducible] noncomputable def d_takes_up : Den := denOf 2 b_takes_up
/-- slots: 0 atoms, 1 atom -/
noncomputable def b_put_behind : FS → SRes :=
 fSeq (fIf (fAndT (fT (fOp pGt (fCall (one pLen) (fCons (fPeek 0) (fC []))) (fC (.int 0)))) (fTru (fFrz (fCallP d_takes_up 2 (fAD (fOpN pIx 0 (bnd (fC (.int 1)) pNeg)) (fAD (fVar 1) (fC []))))))) (fRetD (fVar 0)) (fun S => .nx S))
        (fSeq (whileF (fAndT (fT (fOp pGt (fCall (one pLen) (fCons (fPeek 0) (fC []))) (fC (.int 0)))) (fTru (fFrz (fCallP d_takes_up 2 (fAD (fVar 1) (fAD (fOpN pIx 0 (bnd (fC (.int 1)) pNeg)) (fC []))))))) (fSet 0 (fSlN 0 (fC none) (fPart (bnd (fC (.int 1)) pNeg)))))
        (fRet (fOpN pAdd 0 (fTup (fCons (fVar 1) (fC []))))))
@[irreducible] noncomputable def d_put_behind : Den := denOf 2 b_put_behind
/-- slots: 0 atoms, 1 found, 2 atom -/
noncomputable def b_reduced_in : FS → SRes :=
 fSeq (fSetD 1 (fTup (fC [])))
        (fSeq (fFor (fItems (fVar 0)) (gN 2) (fSet 1 (fCallP d_put_behind 2 (fAD (fVar 1) (fAD (fVar 2) (fC []))))))
        (fRetD (fVar 1)))
@[irreducible] noncomputable def d_reduced_in : Den := denOf 3 b_reduced_in
/-- slots: 0 k, 1 told -/
noncomputable def b_is_product_of : FS → SRes :=
 fRetD (fAndV (fFrz (fCallP d_are_atoms 2 (fAD (fVar 0) (fAD (fVar 1) (fC []))))) (fOp pEq (fFrz (fCallP d_reduced_in 1 (fAD (fVar 1) (fC [])))) (fPeek 1)))
@[irreducible] noncomputable def d_is_product_of : Den := denOf 2 b_is_product_of
/-- slots: 0 k, 1 product -/
noncomputable def b_check_product : FS → SRes :=
 fIf (fNotT (fTru (fFrz (fCallP d_is_product_of 2 (fAD (fVar 0) (fAD (fVar 1) (fC []))))))) (fun _ => .bad) (fun S => .nx S)
@[irreducible] noncomputable def d_check_product : Den := denOf 2 b_check_product
/-- slots: 0 product, 1 at, 2 letter -/
noncomputable def b_rest_behind : FS → SRes :=
 fSeq (whileF (fT (fOpN pLt 1 (fCall (one pLen) (fCons (fPeek 0) (fC []))))) (fSeq (fIf (fTru (fFrz (fCallP d_fits 2 (fAD (fTup (fCons (fC (.str "one")) (fCons (fVar 2) (fC [])))) (fAD (fOpN pIx 0 (fVar 1)) (fC [])))))) (fRet (fIte (fT (fOp pEq (fOp pIx (fOpN pIx 0 (fVar 1)) (fC (.int 0))) (fC (.str "one")))) (fOpN pAdd 1 (fC (.int 1))) (fV (fVar 1)))) (fun S => .nx S))
        (fAug .d 1 (pInt fun i j => some (i + j)) (fC (.int 1)))))
        (fRetD (fC .none))
@[irreducible] noncomputable def d_rest_behind : Den := denOf 3 b_rest_behind
/-- slots: 0 product, 1 word, 2 at, 3 letter -/
noncomputable def b_product_has_in : FS → SRes :=
 fSeq (fSetD 2 (fC (.int 0)))
        (fSeq (fFor (fItems (fVar 1)) (gN 3) (fSeq (fSet 2 (fCallP d_rest_behind 3 (fAD (fVar 0) (fAD (fVar 2) (fAD (fVar 3) (fC []))))))
        (fIf (fT (fOpN pIsB 2 (fC .none))) (fRetD (fC (.bool false))) (fun S => .nx S))))
        (fRetD (fC (.bool true))))
@[irreducible] noncomputable def d_product_has_in : Den := denOf 4 b_product_has_in
/-- slots: 0 product, 1 word -/
noncomputable def b_product_has : FS → SRes :=
 fSeq (fDrop (fCallP d_check_product 2 (fAD (fC (.int 3)) (fAD (fVar 0) (fC [])))))
        (fSeq (fDrop (fCallP d_check_word 2 (fAD (fC (.int 3)) (fAD (fVar 1) (fC [])))))
        (fRet (fCallP d_product_has_in 2 (fAD (fVar 0) (fAD (fVar 1) (fC []))))))
@[irreducible] noncomputable def d_product_has : Den := denOf 2 b_product_has
/-- slots: 0 value, 1 low, 2 high -/
noncomputable def b_is_between : FS → SRes :=
 fRetD (fAndV (fFrz (fCallP d_is_integer 1 (fAD (fVar 0) (fC [])))) (fChain pLe pLe (fVar 1) (fVar 0) (fPeek 2)))
@[irreducible] noncomputable def d_is_between : Den := denOf 3 b_is_between
/-- slots: 0 value -/
noncomputable def b_is_k : FS → SRes :=
 fRet (fCallP d_is_between 3 (fAD (fVar 0) (fAD (fC (.int 1)) (fAD (fC (.int 3)) (fC [])))))
@[irreducible] noncomputable def d_is_k : Den := denOf 1 b_is_k
/-- slots: 0 k -/
noncomputable def b_check_k : FS → SRes :=
 fIf (fNotT (fTru (fFrz (fCallP d_is_k 1 (fAD (fVar 0) (fC [])))))) (fun _ => .bad) (fun S => .nx S)
@[irreducible] noncomputable def d_check_k : Den := denOf 1 b_check_k
/-- slots: 0 k, 1 atoms -/
noncomputable def b_reduced : FS → SRes :=
 fSeq (fDrop (fCallP d_check_k 1 (fAD (fVar 0) (fC []))))
        (fSeq (fIf (fNotT (fTru (fFrz (fCallP d_are_atoms 2 (fAD (fVar 0) (fAD (fVar 1) (fC []))))))) (fun _ => .bad) (fun S => .nx S))
        (fRet (fCallP d_reduced_in 1 (fAD (fVar 1) (fC [])))))
@[irreducible] noncomputable def d_reduced : Den := denOf 2 b_reduced
/-- slots: 0 script, 1 at, 2 well, 3 turn, 4 k, 5 product, 6 word, 7 held, 8 left, 9 place, 10 longer, 11 letter -/
noncomputable def b_law16 : FS → SRes :=
 fSeq (fFor (fRange1 (fCall (two pMax2) (fCons (fC (.int 1)) (fCons (fCall (two pMin2) (fCons (fC (.int 2)) (fCons (fCall (one pLen) (fCons (fPeek 0) (fC []))) (fC [])))) (fC []))))) (gN 1) (fSeq (fSet 2 (fCallP d__law_well 2 (fAD (fVar 0) (fAD (fVar 1) (fC [])))))
        (fFor (fRange1 (fC (.int 5))) (gN 3) (fSeq (fSet 4 (fOp pAdd (fC (.int 1)) (fFrz (fCallP d__law_take 2 (fAS 2 (fAD (fC (.int 3)) (fC [])))))))
        (fSeq (fSet 5 (fCallP d_reduced 2 (fAD (fVar 4) (fAD (fFrz (fCallP d__law_atoms 3 (fAS 2 (fAD (fVar 4) (fAD (fIte (fT (fOp pEq (fFrz (fCallP d__law_take 2 (fAS 2 (fAD (fC (.int 3)) (fC []))))) (fC (.int 0)))) (fC (.int 8)) (fC (.int 5))) (fC [])))))) (fC [])))))
        (fSeq (fFor (fItems (fFrz (fCallP d__law_all 2 (fAD (fVar 4) (fAD (fOp pIx (fFrz (fLst (fCons (fC (.int 0)) (fCons (fC (.int 7)) (fCons (fC (.int 5)) (fCons (fC (.int 3)) (fC []))))))) (fVar 4)) (fC [])))))) (gN 6) (fSeq (fSet 7 (fCallP d__law_has 2 (fAD (fVar 5) (fAD (fVar 6) (fC [])))))
        (fIf (fNotT (fTru (fFrz (fCallP (d__law_same 24) 2 (fAD (fFrz (fLst (fCons (fFrz (fCallP d_product_has 2 (fAD (fVar 5) (fAD (fVar 6) (fC []))))) (fCons (fFrz (fCallK d_product_has 2 0 2 [1, 0] (fC []) (fAD (fVar 6) (fAD (fVar 5) (fC []))))) (fC []))))) (fAD (fFrz (fLst (fCons (fVar 7) (fCons (fVar 7) (fC []))))) (fC []))))))) (fRetD (fC (.bool false))) (fun S => .nx S))))
        (fSeq (fSet 6 (fCallP d__law_along 2 (fAS 2 (fAD (fVar 5) (fC [])))))
        (fSeq (fSetD 8 (fCall (one pTuple) (fCons (fFrz (fLc (fItems (fVar 6)) (gN 11) (fT (fOp pGt (fFrz (fCallP d__law_take 2 (fAS 2 (fAD (fC (.int 3)) (fC []))))) (fC (.int 0)))) (fVar 11) [11])) (fC []))))
        (fSeq (fIf (fNotT (fTru (fFrz (fCallP (d__law_same 24) 2 (fAD (fFrz (fLst (fCons (fFrz (fCallP d_product_has 2 (fAD (fVar 5) (fAD (fVar 6) (fC []))))) (fCons (fFrz (fCallP d_product_has 2 (fAD (fVar 5) (fAD (fVar 8) (fC []))))) (fC []))))) (fAD (fFrz (fLst (fCons (fC (.bool true)) (fCons (fC (.bool true)) (fC []))))) (fC []))))))) (fRetD (fC (.bool false))) (fun S => .nx S))
        (fSeq (fSet 9 (fCallP d__law_take 2 (fAS 2 (fAD (fFrz (fOp pAdd (fCall (one pLen) (fCons (fPeek 6) (fC []))) (fC (.int 1)))) (fC [])))))
        (fSeq (fSet 10 (fOp pAdd (fFrz (fOp pAdd (fFrz (fSlN 6 (fC none) (fPart (fVar 9)))) (fTup (fCons (fFrz (fCallP d__law_take 2 (fAS 2 (fAD (fVar 4) (fC []))))) (fC []))))) (fFrz (fSlN 6 (fPart (fVar 9)) (fC none)))))
        (fIf (fNotT (fTru (fFrz (fCallP (d__law_same 24) 2 (fAD (fFrz (fCallP d_product_has 2 (fAD (fVar 5) (fAD (fVar 10) (fC []))))) (fAD (fFrz (fCallP d__law_has 2 (fAD (fVar 5) (fAD (fVar 10) (fC []))))) (fC []))))))) (fRetD (fC (.bool false))) (fun S => .nx S)))))))))))))
        (fRetD (fC (.bool true)))
@[irreducible] noncomputable def d_law16 : Den := denOf 12 b_law16
end DL
end

section
set_option linter.all false
/-! M1: products of atoms: the words that they have, placings, reducing. No program in sight. -/
namespace DL
inductive At where
  | one (l : Int)
  | any (ls : List Int)
deriving DecidableEq
def At.star : At → Bool
  | .one _ => false
  | .any _ => true
def At.ls : At → List Int
  | .one l => [l]
  | .any ls => ls
def fitsB (a b : At) : Bool := match b with
  | .one _ => decide (a = b)
  | .any ls => a.ls.all fun x => decide (x ∈ ls)
def takes (s a : At) : Bool := s.star && fitsB a s
inductive Has : List At → List Int → Prop
  | nil {as : List At} : Has as []
  | skip {a : At} {as : List At} {w : List Int} (h : Has as w) : Has (a :: as) w
  | one {x : Int} {as : List At} {w : List Int} (h : Has as w) : Has (.one x :: as) (x :: w)
  | any {x : Int} {ls : List Int} {as : List At} {w : List Int} (m : x ∈ ls) (h : Has (.any ls :: as) w) : Has (.any ls :: as) (x :: w)
/-- where an atom is placed first; what stands from there on -/
def seek (a : At) : List At → Option (List At)
  | [] => none
  | b :: bs => if fitsB a b then some (if b.star then b :: bs else bs) else seek a bs
def hasG : List At → List Int → Bool
  | _, [] => true
  | as, x :: w => match seek (.one x) as with
    | none => false
    | some as' => hasG as' w
def emb : List At → List At → Bool
  | [], _ => true
  | a :: as, bs => match seek a bs with
    | none => false
    | some bs' => emb as bs'
theorem Has.suffix {as bs : List At} {w : List Int} (s : as <:+ bs) (h : Has as w) : Has bs w := by
  obtain ⟨t, rfl⟩ := s
  induction t with
  | nil => exact h
  | cons a t ih => exact .skip ih
theorem Has.sub {as : List At} {w : List Int} (h : Has as w) : ∀ {v : List Int}, v.Sublist w → Has as v := by
  induction h with
  | nil => intro v s; rw [List.sublist_nil.mp s]; exact .nil
  | skip h ih => intro v s; exact .skip (ih s)
  | one h ih =>
    intro v s
    cases s with
    | cons _ s => exact .skip (ih s)
    | cons_cons _ s => exact .one (ih s)
  | any m h ih =>
    intro v s
    cases s with
    | cons _ s => exact ih s
    | cons_cons _ s => exact .any m (ih s)
theorem seek_suffix {a : At} : ∀ {bs bs' : List At}, seek a bs = some bs' → bs' <:+ bs
  | [], _, h => by cases h
  | b :: bs, bs', h => by
    unfold seek at h
    split at h
    · cases h
      split
      · exact List.suffix_refl _
      · exact List.suffix_cons _ _
    · exact (seek_suffix h).trans (List.suffix_cons _ _)
theorem fits_one {x : Int} {b : At} : fitsB (.one x) b = true ↔ (b = .one x ∨ ∃ ls, b = .any ls ∧ x ∈ ls) := by
  cases b with
  | one l => simp [fitsB, eq_comm]
  | any ls => simp [fitsB, At.ls]
theorem has_step {bs : List At} {x : Int} {w : List Int} (h : Has bs (x :: w)) : ∃ bs', seek (.one x) bs = some bs' ∧ Has bs' w := by
  generalize e : x :: w = u at h
  induction h with
  | nil => cases e
  | @skip a as u h ih =>
    obtain ⟨bs', h1, h2⟩ := ih e
    unfold seek
    split
    · refine ⟨_, rfl, ?_⟩
      have := Has.suffix (seek_suffix h1) h2
      split
      · exact .skip this
      · exact this
    · exact ⟨bs', h1, h2⟩
  | one h ih =>
    cases e
    refine ⟨_, ?_, h⟩
    simp [seek, fitsB, At.star]
  | any m h ih =>
    cases e
    refine ⟨_, ?_, h⟩
    simp [seek, fitsB, At.star, At.ls, m]
theorem has_unstep {x : Int} {w : List Int} : ∀ {bs bs' : List At}, seek (.one x) bs = some bs' → Has bs' w → Has bs (x :: w)
  | [], _, h, _ => by cases h
  | b :: bs, bs', h, k => by
    unfold seek at h
    split at h
    · rename_i hf
      cases h
      rcases fits_one.mp hf with rfl | ⟨ls, rfl, m⟩
      · exact .one (by simpa [At.star] using k)
      · exact .any m (by simpa [At.star] using k)
    · exact .skip (has_unstep h k)
theorem hasG_iff : ∀ {w : List Int} {as : List At}, hasG as w = true ↔ Has as w
  | [], as => by simp [hasG]; exact .nil
  | x :: w, as => by
    unfold hasG
    constructor
    · intro h
      split at h
      · cases h
      · rename_i as' e
        exact has_unstep e (hasG_iff.mp h)
    · intro h
      obtain ⟨as', e, h2⟩ := has_step h
      rw [e]
      exact hasG_iff.mpr h2
def absorb (b : At) (p : List Int) : Prop := match b with
  | .one l => p = [] ∨ p = [l]
  | .any ls => ∀ x ∈ p, x ∈ ls
theorem has_split {b : At} {bs : List At} {w : List Int} (h : Has (b :: bs) w) : ∃ p q, w = p ++ q ∧ Has bs q ∧ absorb b p := by
  generalize e : b :: bs = u at h
  induction h with
  | nil => refine ⟨[], [], rfl, .nil, ?_⟩; cases b <;> simp [absorb]
  | skip h ih => cases e; refine ⟨[], _, rfl, h, ?_⟩; cases b <;> simp [absorb]
  | @one x as w h ih => cases e; exact ⟨[x], w, rfl, h, by simp [absorb]⟩
  | @any x ls as w m h ih =>
    cases e
    obtain ⟨p, q, rfl, h2, h3⟩ := ih rfl
    refine ⟨x :: p, q, rfl, h2, ?_⟩
    intro y hy
    rcases List.mem_cons.mp hy with rfl | hy
    · exact m
    · exact h3 y hy
theorem has_join {b : At} {bs : List At} {p q : List Int} (h : Has bs q) (a : absorb b p) : Has (b :: bs) (p ++ q) := by
  cases b with
  | one l =>
    rcases a with rfl | rfl
    · exact .skip h
    · exact .one h
  | any ls =>
    induction p with
    | nil => exact .skip h
    | cons x p ih => exact .any (a x (by simp)) (ih fun y hy => a y (List.mem_cons_of_mem _ hy))
theorem absorb_fit {a b : At} {p : List Int} (hf : fitsB a b = true) (hb : b.star = true) (h : absorb a p) : absorb b p := by
  cases b with
  | one l => cases hb
  | any ls =>
    simp [fitsB] at hf
    cases a with
    | one l =>
      rcases h with rfl | rfl
      · intro x hx; cases hx
      · intro x hx; rw [List.mem_singleton.mp hx]; exact hf l (by simp [At.ls])
    | any ks => exact fun x hx => hf x (h x hx)
theorem absorb_app {ls p q : List Int} (h : absorb (.any ls) p) (g : absorb (.any ls) q) : absorb (.any ls) (p ++ q) := fun x hx => by
  rcases List.mem_append.mp hx with z | z
  · exact h x z
  · exact g x z
theorem seek_has {a : At} {p q : List Int} (ha : absorb a p) : ∀ {bs bs' : List At}, seek a bs = some bs' → Has bs' q → Has bs (p ++ q)
  | [], _, h, _ => by cases h
  | b :: bs, bs', h, k => by
    unfold seek at h
    split at h
    · rename_i hf
      cases h
      cases b with
      | one l =>
        simp [fitsB] at hf
        subst hf
        exact has_join (by simpa [At.star] using k) ha
      | any ls =>
        have k : Has (.any ls :: bs) q := k
        obtain ⟨p2, q2, rfl, h2, h3⟩ := has_split k
        rw [← List.append_assoc]
        exact has_join h2 (absorb_app (absorb_fit hf rfl ha) h3)
    · exact .skip (seek_has ha h k)
theorem emb_sub : ∀ {as bs : List At}, emb as bs = true → ∀ {w : List Int}, Has as w → Has bs w
  | [], bs, _, w, h => by
    cases h; exact .nil
  | a :: as, bs, e, w, h => by
    unfold emb at e
    split at e
    · cases e
    · rename_i bs' hs
      obtain ⟨p, q, rfl, h2, h3⟩ := has_split h
      exact seek_has h3 hs (emb_sub e h2)
def longw (m : Nat) : List At → List Int
  | [] => []
  | .one l :: as => l :: longw m as
  | .any ls :: as => (List.replicate m ls).flatten ++ longw m as
theorem has_long (m : Nat) : ∀ as : List At, Has as (longw m as)
  | [] => .nil
  | .one l :: as => .one (has_long m as)
  | .any ls :: as => has_join (has_long m as) fun x hx => by
    obtain ⟨l, h1, h2⟩ := List.mem_flatten.mp hx
    rw [List.eq_of_mem_replicate h1] at h2; exact h2
def NE (as : List At) : Prop := ∀ a ∈ as, a.ls ≠ []
theorem NE.tail {a : At} {as : List At} (h : NE (a :: as)) : NE as := fun b hb => h b (List.mem_cons_of_mem _ hb)
theorem has_drop {b : At} {bs : List At} {u w : List Int} (h : Has (b :: bs) (u ++ w)) (hu : u ≠ []) (n : fitsB (.any u) b = false) : Has bs w := by
  obtain ⟨p, q, e, h2, h3⟩ := has_split h
  rcases List.append_eq_append_iff.mp e with ⟨r, rfl, rfl⟩ | ⟨r, rfl, rfl⟩
  · -- p = u ++ r
    cases b with
    | one l =>
      rcases h3 with h3 | h3
      · exact absurd (List.append_eq_nil_iff.mp h3).1 hu
      · cases u with
        | nil => exact absurd rfl hu
        | cons x u =>
          simp at h3
          obtain ⟨_, h4, h5⟩ := h3
          rw [h5]; exact h2
    | any ls =>
      have : fitsB (.any u) (.any ls) = true := by
        simp [fitsB, At.ls]
        exact fun x hx => h3 x (List.mem_append.mpr (.inl hx))
      rw [this] at n; cases n
  · exact h2.sub (List.sublist_append_right _ _)
theorem seek_long {ls v : List Int} (hn : ls ≠ []) : ∀ {bs : List At} {m : Nat}, bs.length < m → Has bs ((List.replicate m ls).flatten ++ v) → ∃ bs', seek (.any ls) bs = some bs' ∧ Has bs' v
  | [], m, hm, h => by
    obtain ⟨m, rfl⟩ : ∃ k, m = k + 1 := ⟨m - 1, by simp at hm; omega⟩
    rw [List.replicate_succ, List.flatten_cons] at h
    cases ls with
    | nil => exact absurd rfl hn
    | cons x ls => cases h
  | b :: bs, m, hm, h => by
    unfold seek
    split
    · rename_i hf
      cases b with
      | one l => simp [fitsB] at hf
      | any ks => exact ⟨_, rfl, h.sub (List.sublist_append_right _ _)⟩
    · rename_i hf
      obtain ⟨m, rfl⟩ : ∃ k, m = k + 1 := ⟨m - 1, by simp at hm; omega⟩
      rw [List.replicate_succ, List.flatten_cons, List.append_assoc] at h
      exact seek_long hn (by simp at hm; omega) (has_drop h hn (by simpa using hf))
theorem long_emb {m : Nat} : ∀ {as bs : List At}, NE as → bs.length < m → Has bs (longw m as) → emb as bs = true
  | [], _, _, _, _ => rfl
  | .one l :: as, bs, ne, hm, h => by
    obtain ⟨bs', h1, h2⟩ := has_step h
    have := (seek_suffix h1).length_le
    unfold emb
    rw [h1]
    exact long_emb ne.tail (by omega) h2
  | .any ls :: as, bs, ne, hm, h => by
    obtain ⟨bs', h1, h2⟩ := seek_long (ls := ls) (ne (.any ls) (by simp)) hm h
    have := (seek_suffix h1).length_le
    unfold emb
    rw [h1]
    exact long_emb ne.tail (by omega) h2
theorem emb_long {as bs : List At} {m : Nat} (ne : NE as) (hm : bs.length < m) : emb as bs = true ↔ Has bs (longw m as) :=
  ⟨fun h => emb_sub h (has_long m as), long_emb ne hm⟩
theorem emb_iff {as bs : List At} (ne : NE as) : emb as bs = true ↔ ∀ w, Has as w → Has bs w :=
  ⟨fun h w => emb_sub h, fun h => long_emb ne (Nat.lt_succ_self _) (h _ (has_long _ as))⟩
/-! reduced products -/
def Red : List At → Prop
  | a :: b :: r => takes a b = false ∧ takes b a = false ∧ Red (b :: r)
  | _ => True
theorem Red.tail {a : At} {as : List At} (h : Red (a :: as)) : Red as := by
  cases as with
  | nil => trivial
  | cons b r => exact h.2.2
theorem no_tail {a : At} {as : List At} (ne : NE (a :: as)) (h : Red (a :: as)) : emb (a :: as) as = false := by
  induction as generalizing a with
  | nil => rfl
  | cons b bs ih =>
    have ih := ih ne.tail h.2.2
    cases e : emb (a :: b :: bs) (b :: bs) with
    | false => rfl
    | true =>
      have go : emb (b :: bs) bs = true := by
        unfold emb seek at e
        by_cases hf : fitsB a b = true
        · cases hb : b.star with
          | true => have := h.2.1; simp [takes, hb, hf] at this
          | false => simpa [hf, hb] using e
        · simp only [hf] at e
          cases hs : seek a bs with
          | none => simp [hs] at e
          | some bs' =>
            simp [hs] at e
            exact (emb_iff ne.tail).mpr fun w hw => ((emb_iff ne.tail).mp e w hw).suffix (seek_suffix hs)
      rw [go] at ih; cases ih
/-- strictly rising letters -/
def Asc (ls : List Int) : Prop := ls.Pairwise (· < ·)
theorem asc_ext : ∀ {xs ys : List Int}, Asc xs → Asc ys → (∀ x, x ∈ xs ↔ x ∈ ys) → xs = ys
  | [], [], _, _, _ => rfl
  | [], y :: ys, _, _, h => by have := (h y).mpr (by simp); cases this
  | x :: xs, [], _, _, h => by have := (h x).mp (by simp); cases this
  | x :: xs, y :: ys, hx, hy, h => by
    obtain ⟨hx1, hx2⟩ := List.pairwise_cons.mp hx
    obtain ⟨hy1, hy2⟩ := List.pairwise_cons.mp hy
    have e : x = y := by
      rcases List.mem_cons.mp ((h x).mp (by simp)) with e | m
      · exact e
      · rcases List.mem_cons.mp ((h y).mpr (by simp)) with e | m'
        · exact e.symm
        · have a := hy1 x m
          have b := hx1 y m'
          omega
    subst e
    have : xs = ys := asc_ext hx2 hy2 fun z => by
      constructor
      · intro m
        rcases List.mem_cons.mp ((h z).mp (List.mem_cons_of_mem _ m)) with e | q
        · have := hx1 z m; omega
        · exact q
      · intro m
        rcases List.mem_cons.mp ((h z).mpr (List.mem_cons_of_mem _ m)) with e | q
        · have := hy1 z m; omega
        · exact q
    rw [this]
def AOk (k : Int) (a : At) : Prop := a.ls ≠ [] ∧ (∀ x ∈ a.ls, 0 ≤ x ∧ x < k) ∧ Asc a.ls
def POk (k : Int) (as : List At) : Prop := ∀ a ∈ as, AOk k a
theorem POk.ne {k : Int} {as : List At} (h : POk k as) : NE as := fun a ha => (h a ha).1
theorem POk.tail {k : Int} {a : At} {as : List At} (h : POk k (a :: as)) : POk k as := fun b hb => h b (List.mem_cons_of_mem _ hb)
theorem fits_anti {k : Int} {a b : At} (ha : AOk k a) (hb : AOk k b) (h : fitsB a b = true) (g : fitsB b a = true) : a = b := by
  cases b with
  | one l => simpa [fitsB] using h
  | any ls =>
    cases a with
    | one l => simp [fitsB] at g
    | any ks =>
      simp [fitsB, At.ls] at h g
      have : ks = ls := asc_ext ha.2.2 hb.2.2 fun x => ⟨h x, g x⟩
      rw [this]
theorem red_unique {k : Int} : ∀ {as bs : List At}, POk k as → POk k bs → Red as → Red bs → emb as bs = true → emb bs as = true → as = bs
  | [], [], _, _, _, _, _, _ => rfl
  | [], b :: bs, _, _, _, _, _, h => by simp [emb, seek] at h
  | a :: as, [], _, _, _, _, h, _ => by simp [emb, seek] at h
  | a :: as, b :: bs, pa, pb, ra, rb, h, g => by
    have key : ∀ {a b : At} {as bs : List At}, POk k (a :: as) → POk k (b :: bs) → Red (b :: bs) → emb (a :: as) (b :: bs) = true → emb (b :: bs) (a :: as) = true → fitsB a b = true := by
      intro a b as bs pa pb rb h g
      cases hf : fitsB a b with
      | true => rfl
      | false =>
        have e : emb (a :: as) bs = true := by
          have e2 : seek a (b :: bs) = seek a bs := by rw [seek, hf]; rfl
          unfold emb at h ⊢
          rw [e2] at h
          exact h
        have := (emb_iff pb.ne).mpr fun w hw => emb_sub e (emb_sub g hw)
        rw [no_tail pb.ne rb] at this; cases this
    have e := fits_anti (pa a (by simp)) (pb b (by simp)) (key pa pb rb h g) (key pb pa ra g h)
    subst e
    have tl : ∀ {as bs : List At}, Red (a :: as) → emb (a :: as) (a :: bs) = true → emb as bs = true := by
      intro as bs ra h
      have hs : seek a (a :: bs) = some (if a.star then a :: bs else bs) := by
        unfold seek
        have : fitsB a a = true := by cases a <;> simp [fitsB, At.ls]
        rw [this]; rfl
      unfold emb at h
      rw [hs] at h
      cases hst : a.star with
      | false => simpa [hst] using h
      | true =>
        simp [hst] at h
        cases as with
        | nil => rfl
        | cons c cs =>
          have hn : fitsB c a = false := by have := ra.1; simpa [takes, hst] using this
          have e2 : seek c (a :: bs) = seek c bs := by rw [seek, hn]; rfl
          unfold emb at h ⊢
          rw [e2] at h
          exact h
    rw [red_unique pa.tail pb.tail ra.tail rb.tail (tl ra h) (tl rb g)]
/-- the same words -/
def Same (as bs : List At) : Prop := ∀ w, Has as w ↔ Has bs w
theorem red_same {k : Int} {as bs : List At} (pa : POk k as) (pb : POk k bs) (ra : Red as) (rb : Red bs) (h : Same as bs) : as = bs :=
  red_unique pa pb ra rb ((emb_iff pa.ne).mpr fun w => (h w).mp) ((emb_iff pb.ne).mpr fun w => (h w).mpr)
theorem Same.refl (as : List At) : Same as as := fun _ => .rfl
theorem Same.symm {as bs : List At} (h : Same as bs) : Same bs as := fun w => (h w).symm
theorem Same.trans {as bs cs : List At} (h : Same as bs) (g : Same bs cs) : Same as cs := fun w => (h w).trans (g w)
theorem Same.cons {as bs : List At} {a : At} (h : Same as bs) : Same (a :: as) (a :: bs) := fun w => by
  constructor
  · intro q
    obtain ⟨p, q, rfl, h2, h3⟩ := has_split q
    exact has_join ((h _).mp h2) h3
  · intro q
    obtain ⟨p, q, rfl, h2, h3⟩ := has_split q
    exact has_join ((h _).mpr h2) h3
theorem Same.pre {as bs : List At} (h : Same as bs) : ∀ cs : List At, Same (cs ++ as) (cs ++ bs)
  | [] => h
  | c :: cs => (Same.pre h cs).cons
theorem same_star {s a : At} {as : List At} (h : takes s a = true) : Same (s :: a :: as) (s :: as) ∧ Same (a :: s :: as) (s :: as) := by
  simp [takes] at h
  obtain ⟨hs, hf⟩ := h
  cases s with
  | one l => cases hs
  | any ls =>
    refine ⟨fun w => ⟨fun q => ?_, fun q => ?_⟩, fun w => ⟨fun q => ?_, fun q => .skip q⟩⟩
    · obtain ⟨p, q, rfl, h2, h3⟩ := has_split q
      obtain ⟨p2, q2, rfl, h4, h5⟩ := has_split h2
      rw [← List.append_assoc]
      exact has_join h4 (absorb_app h3 (absorb_fit hf hs h5))
    · obtain ⟨p, q, rfl, h2, h3⟩ := has_split q
      exact has_join (.skip h2) h3
    · obtain ⟨p, q, rfl, h2, h3⟩ := has_split q
      obtain ⟨p2, q2, rfl, h4, h5⟩ := has_split h2
      rw [← List.append_assoc]
      exact has_join h4 (absorb_app (absorb_fit hf hs h3) h5)
/-! reducing from the left -/
def putR : List At → At → List At
  | [], a => [a]
  | b :: r', a => if takes b a = true then b :: r' else a :: (b :: r').dropWhile (takes a)
theorem putR_cons {b a : At} {r : List At} : putR (b :: r) a = if takes b a = true then b :: r else a :: (b :: r).dropWhile (takes a) := rfl
def redR (as : List At) : List At := as.foldl putR []
def redIn (as : List At) : List At := (redR as).reverse
/-- reduced, told from the last one on -/
def RedR : List At → Prop
  | a :: b :: r => takes a b = false ∧ takes b a = false ∧ RedR (b :: r)
  | _ => True
theorem RedR.tail {a : At} {as : List At} (h : RedR (a :: as)) : RedR as := by
  cases as with
  | nil => trivial
  | cons b r => exact h.2.2
theorem RedR.drop {p : At → Bool} : ∀ {r : List At}, RedR r → RedR (r.dropWhile p)
  | [], _ => trivial
  | b :: r, h => by
    rw [List.dropWhile_cons]
    split
    · exact RedR.drop h.tail
    · exact h
theorem put_red {r : List At} {a : At} (h : RedR r) : RedR (putR r a) := by
  cases r with
  | nil => trivial
  | cons b r =>
    rw [putR_cons]
    split
    · exact h
    · rename_i hb
      rw [List.dropWhile_cons]
      by_cases ha : takes a b = true
      · rw [if_pos ha]
        have hd := RedR.drop (p := takes a) h.tail
        -- the head of what is left is not taken up by a; does it take a up?
        have hh : ∀ c cs, r.dropWhile (takes a) = c :: cs → takes a c = false := fun c cs e => by
          have := List.head?_dropWhile_not (takes a) r
          rw [e] at this
          simpa using this
        have hp : ∀ (b : At) (r : List At), RedR (b :: r) → takes a b = true → ∀ c cs, r.dropWhile (takes a) = c :: cs → takes c a = false := by
          intro b r
          induction r generalizing b with
          | nil => intro _ _ c cs e; cases e
          | cons d r ih =>
            intro hr hab c cs e
            rw [List.dropWhile_cons] at e
            by_cases hd : takes a d = true
            · rw [if_pos hd] at e
              exact ih d hr.tail hd c cs e
            · rw [if_neg hd] at e
              cases e
              cases hc : takes d a with
              | false => rfl
              | true =>
                have hdb : takes d b = true := by
                  simp [takes] at hab hc ⊢
                  refine ⟨hc.1, ?_⟩
                  cases d with
                  | one _ => cases hc.1
                  | any ls =>
                    cases a with
                    | one _ => cases hab.1
                    | any ks =>
                      have h1 := hab.2
                      have h2 := hc.2
                      simp [fitsB, At.ls] at h1 h2 ⊢
                      exact fun x hx => h2 x (h1 x hx)
                have := hr.2.1
                rw [hdb] at this; cases this
        cases e : r.dropWhile (takes a) with
        | nil => trivial
        | cons c cs => exact ⟨hh c cs e, hp b r h ha c cs e, by rw [e] at hd; exact hd⟩
      · rw [if_neg ha]
        exact ⟨by simpa using ha, by simpa using hb, h⟩
theorem redR_red (as : List At) : RedR (redR as) := by
  unfold redR
  have : ∀ (as r : List At), RedR r → RedR (as.foldl putR r) := by
    intro as
    induction as with
    | nil => exact fun r h => h
    | cons a as ih => exact fun r h => ih _ (put_red h)
  exact this as [] trivial
theorem red_append : ∀ {as : List At} {a b : At}, Red (as ++ [a]) → takes a b = false → takes b a = false → Red (as ++ [a, b])
  | [], a, b, _, h1, h2 => ⟨h1, h2, trivial⟩
  | [c], a, b, h, h1, h2 => ⟨h.1, h.2.1, h1, h2, trivial⟩
  | c :: d :: as, a, b, h, h1, h2 => ⟨h.1, h.2.1, red_append (as := d :: as) h.2.2 h1 h2⟩
theorem red_rev : ∀ {r : List At}, RedR r → Red r.reverse
  | [], _ => trivial
  | [a], _ => trivial
  | a :: b :: r, h => by
    have ih := red_rev h.2.2
    rw [List.reverse_cons] at ih
    rw [List.reverse_cons, List.reverse_cons, List.append_assoc]
    exact red_append ih h.2.1 h.1
theorem redIn_red (as : List At) : Red (redIn as) := red_rev (redR_red as)
theorem put_mem {r : List At} {a c : At} (h : c ∈ putR r a) : c ∈ r ∨ c = a := by
  cases r with
  | nil => exact .inr (by simpa [putR] using h)
  | cons b r =>
    rw [putR_cons] at h
    split at h
    · exact .inl h
    · rcases List.mem_cons.mp h with e | h
      · exact .inr e
      · exact .inl ((List.dropWhile_sublist _).subset h)
theorem redIn_mem {as : List At} {c : At} (h : c ∈ redIn as) : c ∈ as := by
  unfold redIn redR at h
  rw [List.mem_reverse] at h
  have : ∀ (as r : List At), c ∈ as.foldl putR r → c ∈ r ∨ c ∈ as := by
    intro as
    induction as with
    | nil => exact fun r h => .inl h
    | cons a as ih =>
      intro r h
      rcases ih _ h with h | h
      · rcases put_mem h with h | h
        · exact .inl h
        · exact .inr (by rw [h]; simp)
      · exact .inr (List.mem_cons_of_mem _ h)
  rcases this as [] h with h | h
  · cases h
  · exact h
theorem redIn_ok {k : Int} {as : List At} (h : POk k as) : POk k (redIn as) := fun a ha => h a (redIn_mem ha)
theorem put_len {r : List At} {a : At} : (putR r a).length ≤ r.length + 1 := by
  cases r with
  | nil => simp [putR]
  | cons b r =>
    rw [putR_cons]
    split
    · simp
    · have := (List.dropWhile_sublist (p := takes a) (l := b :: r)).length_le
      simp only [List.length_cons] at this ⊢
      omega
theorem redR_len : ∀ (as r : List At), (as.foldl putR r).length ≤ r.length + as.length
  | [], r => by simp
  | a :: as, r => by
    have := redR_len as (putR r a)
    have := put_len (r := r) (a := a)
    simp only [List.foldl_cons, List.length_cons]; omega
theorem redIn_len (as : List At) : (redIn as).length ≤ as.length := by
  have := redR_len as []
  simpa [redIn, redR] using this
theorem put_same {r : List At} {a : At} (cs : List At) : Same ((putR r a).reverse ++ cs) (r.reverse ++ a :: cs) := by
  cases r with
  | nil => exact .refl _
  | cons b r =>
    rw [putR_cons]
    split
    · rename_i h
      rw [List.reverse_cons, List.append_assoc, List.append_assoc]
      exact ((same_star h).1.symm).pre r.reverse
    · rename_i h
      generalize b :: r = s
      rw [List.reverse_cons, List.append_assoc]
      induction s with
      | nil => exact .refl _
      | cons c s ih =>
        rw [List.dropWhile_cons]
        split
        · rename_i hc
          rw [List.reverse_cons, List.append_assoc]
          exact ih.trans (((same_star hc).2.symm).pre s.reverse)
        · exact .refl _
theorem redIn_same (as : List At) : Same (redIn as) as := by
  have : ∀ (as r : List At), Same (as.foldl putR r).reverse (r.reverse ++ as) := by
    intro as
    induction as with
    | nil => intro r; simp; exact .refl _
    | cons a as ih =>
      intro r
      exact (ih (putR r a)).trans (put_same as)
  exact this as []
theorem redIn_id {k : Int} {as : List At} (h : POk k as) (r : Red as) : redIn as = as :=
  red_same (redIn_ok h) h (redIn_red as) r (redIn_same as)
theorem redIn_eq {k : Int} {as bs : List At} (h : POk k as) (g : POk k bs) (s : Same as bs) : redIn as = redIn bs :=
  red_same (redIn_ok h) (redIn_ok g) (redIn_red _) (redIn_red _) ((redIn_same as).trans (s.trans (redIn_same bs).symm))
end DL
end

section
set_option Elab.async false
set_option linter.all false
set_option maxRecDepth 100000
set_option maxHeartbeats 4000000
/-! S1: products: what their dens promise. -/
namespace DL
open PySem L2 Fz
def At.d : At → D
  | .one l => .tuple [.str "one", .int l]
  | .any ls => .tuple [.str "any", W ls]
def AL (as : List At) : D := .tuple (as.map At.d)
@[simp] theorem At.d_one {l : Int} : (At.one l).d = .tuple [.str "one", .int l] := rfl
@[simp] theorem At.d_any {ls : List Int} : (At.any ls).d = .tuple [.str "any", W ls] := rfl
theorem str_ne : (("any" : Str) == ("one" : Str)) = false := by decide
@[simp] theorem str_neP : (Str.ofString "any" = Str.ofString "one") = False := eq_false (by decide)
@[simp] theorem str_neP' : (Str.ofString "one" = Str.ofString "any") = False := eq_false (by decide)
theorem str_ne' : (("one" : Str) == ("any" : Str)) = false := by decide
@[simp] theorem eqv_At {a b : At} : PyData.eqv a.d b.d = decide (a = b) := by
  cases a <;> cases b <;> simp [str_ne, str_ne']
theorem smalAt {k : Nat} {a : At} (h : a.ls.length ≤ 10000000) : Smal (k + 2) a.d := by
  cases a with
  | one l => exact .tup (by simp) (.cons (.str (by decide +kernel)) (.cons .int .nil))
  | any ls => exact .tup (by simp) (.cons (.str (by decide +kernel)) (.cons (smalW h) .nil))

@[simp] theorem wItems_AL {as : List At} {k : List D → Prop} : wItems (AL as) k = k (as.map At.d) := rfl
@[simp] theorem dTyp_AL {as : List At} : dTyp (AL as) = "tuple" := rfl
@[simp] theorem dTyp_At {a : At} : dTyp a.d = "tuple" := by cases a <;> rfl
@[simp] theorem tuple_AL {as : List At} : PyData.tuple (as.map At.d) = AL as := rfl
section
variable {Q : D → FS → Prop} {QV : SV → FS → Prop} {S : FS} {as bs : List At} {a : At} {i : Int}
@[simp] theorem wE_pLen_AL : wE (pLen (AL as) S) Q = Q (.int as.length) S := by unfold AL; rw [wE_pLen_t, List.length_map]
theorem atI_mapf {α : Type} {f : α → D} {xs : List α} : atI (xs.map f) i = (atI xs i).map f := by
  unfold atI
  rw [List.length_map]
  cases ixN xs.length i <;> simp
@[simp] theorem wE_pIx_AL : wE (pIx (AL as) (.int i) S) Q = wO (atI as i) fun a => Q a.d S := by
  unfold AL
  rw [wE_pIx_t, atI_mapf]
  cases atI as i <;> rfl
@[simp] theorem wE_pSl_AL {x y : Option Int} : wE (pSl (AL as) x y S) QV = QV (.d (AL (cutL as x y))) S := by
  unfold AL; rw [wE_pSl_t, cutL_map]
@[simp] theorem wE_pAdd_AL : wE (pAdd (AL as) (AL bs) S) QV = (as.length + bs.length ≤ sizeLine ∧ QV (.d (AL (as ++ bs))) S) := by
  unfold AL; rw [wE_pAdd_t]; simp only [List.length_map, List.map_append]
@[simp] theorem wE_pAdd_AL1 : wE (pAdd (AL as) (.tuple [a.d]) S) QV = (as.length + 1 ≤ sizeLine ∧ QV (.d (AL (as ++ [a]))) S) := by
  unfold AL; rw [wE_pAdd_t]; simp only [List.length_map, List.length_cons, List.length_nil, List.map_append, List.map_cons, List.map_nil]
@[simp] theorem AL_nil : AL [] = .tuple [] := rfl
theorem eqvAll_ats : ∀ {as bs : List At}, PyData.eqvAll (as.map At.d) (bs.map At.d) = decide (as = bs)
  | [], [] => by simp [PyData.eqvAll]
  | [], _ :: _ => by simp [PyData.eqvAll]
  | _ :: _, [] => by simp [PyData.eqvAll]
  | x :: xs, y :: ys => by
    simp only [List.map_cons, PyData.eqvAll, eqv_At, eqvAll_ats (as := xs) (bs := ys), List.cons.injEq]
    by_cases h : x = y <;> by_cases g : xs = ys <;> simp [h, g]
@[simp] theorem eqv_AL : PyData.eqv (AL as) (AL bs) = decide (as = bs) := by
  unfold AL; simp only [PyData.eqv]; exact eqvAll_ats
def ASz (a : At) : Prop := a.ls.length ≤ 1000
def PSz (as : List At) : Prop := as.length ≤ 1000 ∧ ∀ a ∈ as, ASz a
theorem smalA {k : Nat} {a : At} (h : ASz a) : Smal (k + 2) a.d := smalAt (Nat.le_trans h (by decide))
theorem smalAL {k : Nat} {as : List At} (h : PSz as) : Smal (k + 3) (AL as) := .tup (by rw [List.length_map]; exact Nat.le_trans h.1 (by decide)) (SmalL.of fun d hd => by
  obtain ⟨a, ha, rfl⟩ := List.mem_map.mp hd
  exact smalA (h.2 a ha))
end
def ascB : List Int → Bool
  | x :: y :: r => decide (x < y) && ascB (y :: r)
  | _ => true
theorem ascB_iff : ∀ {xs : List Int}, ascB xs = true ↔ Asc xs
  | [] => by simp [ascB, Asc]
  | [x] => by simp [ascB, Asc]
  | x :: y :: r => by
    have ih := ascB_iff (xs := y :: r)
    simp only [ascB, Bool.and_eq_true, decide_eq_true_eq, ih]
    unfold Asc
    rw [List.pairwise_cons (a := x)]
    constructor
    · rintro ⟨h, g⟩
      refine ⟨fun z hz => ?_, g⟩
      rcases List.mem_cons.mp hz with e | hz
      · rw [e]; exact h
      · have := (List.pairwise_cons.mp g).1 z hz; omega
    · rintro ⟨h, g⟩
      exact ⟨h y (by simp), g⟩
theorem zipD_ints : ∀ {xs ys : List Int}, zipD (xs.map .int) (ys.map .int) = (xs.zip ys).map fun p => .tuple [.int p.1, .int p.2] := by
  intro xs ys
  unfold zipD
  rw [List.zip_map, List.map_map]
  rfl
theorem asc_zip : ∀ {xs : List Int}, ((xs.zip (xs.drop 1)).all fun p => decide (p.1 < p.2)) = ascB xs
  | [] => rfl
  | [x] => rfl
  | x :: y :: r => by
    have ih := asc_zip (xs := y :: r)
    simp only [List.drop_succ_cons, List.drop_zero] at ih
    simp only [List.drop_succ_cons, List.drop_zero, List.zip_cons_cons, List.all_cons, ascB, ih]
theorem is_ascending_w {xs : List Int} {Q : SV → List SV → Prop} (h : Q (.d (.bool (ascB xs))) [.d (W xs)]) : wC (d_is_ascending [.d (W xs)]) Q := by
  unfold d_is_ascending
  rw [wC_denOf]
  simp [b_is_ascending]
  rw [← List.drop_one]
  unfold W
  simp only [wZip_t]
  rw [zipD_ints]
  refine any_w (fun p => decide (p.1 < p.2)) (fun S => S = [some (.d (W xs)), none, none]) rfl ?_ ?_
  · rintro ⟨x, y⟩ hp S rfl
    simp
  · rintro S rfl
    simp only [Bool.false_eq_true, if_false]
    rw [asc_zip]
    simpa using h
@[simp] theorem wE_pIx0_At {a : At} {S : FS} {Q : D → FS → Prop} : Fz.wE (pIx a.d (.int 0) S) Q = Q (.str (if a.star = true then "any" else "one")) S := by cases a <;> simp [At.star]
theorem fits_mem {x : Int} {b : At} : fitsB (.one x) b = decide (x ∈ b.ls) := by
  cases b with
  | one l => simp [fitsB, At.ls]
  | any ls =>
    show ([x].all fun y => decide (y ∈ ls)) = decide (x ∈ ls)
    simp
@[simp] theorem wE_pRev_AL {as : List At} {S : FS} {QV : SV → FS → Prop} : Fz.wE (pRev (AL as) S) QV = QV (.d (AL as.reverse)) S := by unfold AL; rw [wE_pRev_t, List.map_reverse]
end DL
end

section
set_option Elab.async false
set_option linter.all false
set_option maxRecDepth 100000
set_option maxHeartbeats 4000000
/-! S2: products: what their dens promise. -/
namespace DL
open PySem L2 Fz
theorem is_atom_w {k : Int} {a : At} (ha : AOk k a) {Q : SV → List SV → Prop} (h : Q (.d (.bool true)) [.d (.int k), .d a.d]) : wC (d_is_atom [.d (.int k), .d a.d]) Q := by
  unfold d_is_atom
  rw [wC_denOf]
  cases a with
  | one l =>
    have hl := ha.2.1 l (by simp [At.ls])
    simp [b_is_atom, wE_callD]
    refine is_below_w hl.1 hl.2 ?_
    simpa using h
  | any ls =>
    have hne : ls ≠ [] := ha.1
    have hlen : ¬ (ls.length : Int) = 0 := by
      have := List.length_pos_iff.mpr hne
      omega
    simp [b_is_atom, wE_callD, str_ne, hne]
    refine any_w (fun _ => true) (fun S => S = [some (.d (.int k)), some (.d (.tuple [.str "any", W ls])), none]) rfl ?_ ?_
    · rintro x hx S rfl
      have hl := ha.2.1 x hx
      simp [wE_callD]
      refine is_below_w hl.1 hl.2 ?_
      simp
    · rintro S rfl
      simp
      refine is_ascending_w ?_
      have e : ascB ls = true := ascB_iff.mpr ha.2.2
      rw [e]
      simpa using h
theorem are_atoms_w {k : Int} {as : List At} (ha : POk k as) {Q : SV → List SV → Prop} (h : Q (.d (.bool true)) [.d (.int k), .d (AL as)]) : wC (d_are_atoms [.d (.int k), .d (AL as)]) Q := by
  unfold d_are_atoms
  rw [wC_denOf]
  simp [b_are_atoms]
  refine any_w (fun _ => true) (fun S => S = [some (.d (.int k)), some (.d (AL as)), none]) rfl ?_ ?_
  · rintro x hx S rfl
    simp [wE_callD]
    refine is_atom_w (ha x hx) ?_
    simp
  · rintro S rfl
    simpa using h
theorem fits_w {a b : At} (ha : ASz a) (hb : ASz b) {Q : SV → List SV → Prop} (h : Q (.d (.bool (fitsB a b))) [.d a.d, .d b.d]) : wC (d_fits [.d a.d, .d b.d]) Q := by
  unfold d_fits
  rw [wC_denOf]
  have he : eqOk a.d b.d = true := (smalA (k := 0) ha).eqOk (smalA hb) (by decide)
  cases b with
  | one l =>
    simp only [At.d_one] at he h ⊢
    simp [b_fits, he]
    rw [show PyData.eqv a.d (.tuple [.str "one", .int l]) = fitsB a (.one l) from eqv_At (b := .one l)]
    exact h
  | any ls =>
    have fin : ∀ (xs : List Int) (it : FS → Res (List D)) (e : fitsB a (.any ls) = xs.all fun x => decide (x ∈ ls)), Fz.wE (anyF false (gN 2) (fC true) (fOpN pIn 2 (fOpN pIx 1 (fC (.int 1)))) [2] (xs.map .int) [some (.d a.d), some (.d (.tuple [.str "any", W ls])), none])
        fun b S2 => wO (Fz.pinsAt [.d a.d, .d (.tuple [.str "any", W ls])] S2) fun l => Q (.d (.bool b)) l := fun xs it e => by
      refine any_w (fun x => decide (x ∈ ls)) (fun S => S = [some (.d a.d), some (.d (.tuple [.str "any", W ls])), none]) rfl ?_ ?_
      · rintro x hx S rfl
        simp
      · rintro S rfl
        rw [e] at h
        simpa using h
    cases a with
    | one l =>
      have := fin [l] (fC []) (by simp [fitsB, At.ls])
      simp [b_fits, str_ne]
      simpa using this
    | any ks =>
      have := fin ks (fC []) (by simp [fitsB, At.ls])
      simp [b_fits, str_ne]
      simpa using this
theorem takes_up_w {a b : At} (ha : ASz a) (hb : ASz b) {Q : SV → List SV → Prop} (h : Q (.d (.bool (takes a b))) [.d a.d, .d b.d]) : wC (d_takes_up [.d a.d, .d b.d]) Q := by
  unfold d_takes_up
  rw [wC_denOf]
  cases a with
  | one l => simp [b_takes_up, str_ne']; simpa [takes, At.star] using h
  | any ls =>
    simp [b_takes_up, wE_callD]
    rw [← At.d_any]
    refine fits_w hb ha ?_
    simp
    simpa [takes, At.star] using h
theorem putR_map {r : List At} {a : At} : (putR r a).length ≤ r.length + 1 := put_len
theorem ASz_last {r : List At} {b : At} (h : PSz (r ++ [b])) : ASz b := h.2 b (by simp)
theorem drop_w {a : At} {Q : FS → Prop} (ha : ASz a) : ∀ {r : List At}, PSz r.reverse → (Q [some (.d (AL (r.dropWhile (takes a)).reverse)), some (.d a.d)]) →
    wS (whileF (fAndT (fT (fOp pGt (fCall (one pLen) (fCons (fPeek 0) (fC []))) (fC (.int 0)))) (fTru (fFrz (fCallP d_takes_up 2 (fAD (fVar 1) (fAD (fOpN pIx 0 (bnd (fC (.int 1)) pNeg)) (fC []))))))) (fSet 0 (fSlN 0 (fC none) (fPart (bnd (fC (.int 1)) pNeg)))) [some (.d (AL r.reverse)), some (.d a.d)]) Q (fun _ _ => False) (fun _ => False) (fun _ => False) := by
  intro r hr hq
  refine wS_while (fun m S => ∃ r' : List At, m = r'.length ∧ PSz r'.reverse ∧ r'.dropWhile (takes a) = r.dropWhile (takes a) ∧ S = [some (.d (AL r'.reverse)), some (.d a.d)]) r.length ⟨r, rfl, hr, rfl, rfl⟩ ?_
  rintro m S ⟨r', rfl, hr', e, rfl⟩
  cases r' with
  | nil =>
    simp
    rw [← e] at hq
    simpa using hq
  | cons b r' =>
    have hb : ASz b := ASz_last (r := r'.reverse) (by simpa using hr')
    simp [wE_callD]
    refine takes_up_w ha hb ?_
    simp
    refine ⟨fun ht => ⟨r'.length, by omega, r', rfl, ?_, ?_, by simp⟩, fun ht => ?_⟩
    · refine ⟨?_, fun c hc => hr'.2 c (by simp at hc ⊢; first | exact .inl hc | exact .inr hc)⟩
      have := hr'.1
      simp at this ⊢; omega
    · rw [← e, List.dropWhile_cons, if_pos ht]
    · rw [← e, List.dropWhile_cons, if_neg (by simp [ht])] at hq
      simpa using hq
theorem put_behind_w {r : List At} {a : At} (ha : ASz a) (hr : PSz r.reverse) {Q : SV → List SV → Prop} (h : Q (.d (AL (putR r a).reverse)) [.d (AL r.reverse), .d a.d]) : wC (d_put_behind [.d (AL r.reverse), .d a.d]) Q := by
  unfold d_put_behind
  rw [wC_denOf]
  have tl : putR r a = a :: r.dropWhile (takes a) → wS (fSeq (whileF (fAndT (fT (fOp pGt (fCall (one pLen) (fCons (fPeek 0) (fC []))) (fC (.int 0)))) (fTru (fFrz (fCallP d_takes_up 2 (fAD (fVar 1) (fAD (fOpN pIx 0 (bnd (fC (.int 1)) pNeg)) (fC []))))))) (fSet 0 (fSlN 0 (fC none) (fPart (bnd (fC (.int 1)) pNeg)))))
        (fRet (fOpN pAdd 0 (fTup (fCons (fVar 1) (fC []))))) [some (.d (AL r.reverse)), some (.d a.d)]) (fun S => wO (Fz.pinsAt [.d (AL r.reverse), .d a.d] S) fun l => Q (.d .none) l) (fun v S => wO (Fz.pinsAt [.d (AL r.reverse), .d a.d] S) fun l => Q v l) (fun _ => False) (fun _ => False) := by
    intro e
    rw [wS_fSeq]
    refine wS.imp (drop_w ha hr (Q := fun S => S = [some (.d (AL (r.dropWhile (takes a)).reverse)), some (.d a.d)]) rfl) ?_ (fun _ _ z => z.elim) (fun _ z => z.elim) (fun _ z => z.elim)
    rintro S rfl
    have : (r.dropWhile (takes a)).length ≤ 1000 := by
      have a1 := (List.dropWhile_sublist (p := takes a) (l := r)).length_le
      have := hr.1
      simp at this; omega
    rw [e] at h
    simp
    exact ⟨szL (by omega), by simpa using h⟩
  cases r with
  | nil =>
    have := tl rfl
    simp only [startS_e, b_put_behind]
    simp only [wS_fSeq] at this
    simpa using this
  | cons b r =>
    have hb : ASz b := ASz_last (r := r.reverse) (by simpa using hr)
    have tl := tl
    simp only [startS_e, b_put_behind]
    simp only [wS_fSeq] at tl
    simp [wE_callD] at tl ⊢
    refine takes_up_w hb ha ?_
    simp
    refine ⟨fun ht => ?_, fun ht => ?_⟩
    · rw [putR_cons, if_pos ht] at h
      simpa using h
    · exact tl (by rw [putR_cons, if_neg (by simp [ht])])
theorem PSz.of {as bs : List At} (h : PSz as) (hl : bs.length ≤ as.length) (hm : ∀ a ∈ bs, a ∈ as) : PSz bs := ⟨Nat.le_trans hl h.1, fun a ha => h.2 a (hm a ha)⟩
theorem reduced_in_w {as : List At} (hs : PSz as) {Q : SV → List SV → Prop} (h : Q (.d (AL (redIn as))) [.d (AL as)]) : wC (d_reduced_in [.d (AL as)]) Q := by
  unfold d_reduced_in
  rw [wC_denOf]
  simp [b_reduced_in]
  refine wS_forP (fun p r S => ∃ c, S = [some (.d (AL as)), some (.d (AL (redR p).reverse)), c]) ⟨none, rfl⟩ ?_ ?_
  · rintro p x r S e ⟨c, rfl⟩
    simp [wE_callD]
    refine put_behind_w (hs.2 x (by rw [e]; simp)) ?_ ?_
    · refine hs.of ?_ fun a ha => ?_
      · have := redIn_len p
        have e2 := congrArg List.length e
        simp [redIn] at this e2 ⊢; omega
      · rw [e]
        exact List.mem_append.mpr (.inl (redIn_mem ha))
    · simp [redR, List.foldl_append]
  · rintro S ⟨c, rfl⟩
    simpa [redIn] using h
theorem is_product_of_w {k : Int} {as : List At} (ha : POk k as) (hs : PSz as) (hr : Red as) {Q : SV → List SV → Prop} (h : Q (.d (.bool true)) [.d (.int k), .d (AL as)]) : wC (d_is_product_of [.d (.int k), .d (AL as)]) Q := by
  unfold d_is_product_of
  rw [wC_denOf]
  simp [b_is_product_of, wE_callD]
  refine are_atoms_w ha ?_
  simp
  refine reduced_in_w hs ?_
  rw [redIn_id ha hr]
  simp [(smalAL (k := 0) hs).eqOk (smalAL hs) (by decide)]
  exact h
theorem check_product_w {k : Int} {as : List At} (ha : POk k as) (hs : PSz as) (hr : Red as) {Q : SV → List SV → Prop} (h : Q (.d .none) [.d (.int k), .d (AL as)]) : wC (d_check_product [.d (.int k), .d (AL as)]) Q := by
  unfold d_check_product
  rw [wC_denOf]
  simp [b_check_product, wE_callD]
  refine is_product_of_w ha hs hr ?_
  simpa using h
theorem check_k_w {k : Int} (h1 : 1 ≤ k) (h3 : k ≤ 3) {Q : SV → List SV → Prop} (h : Q (.d .none) [.d (.int k)]) : wC (d_check_k [.d (.int k)]) Q := by
  unfold d_check_k
  rw [wC_denOf]
  simp [b_check_k, wE_callD]
  unfold d_is_k
  rw [wC_denOf]
  simp [b_is_k, wE_callD]
  unfold d_is_between
  rw [wC_denOf]
  simp [b_is_between, wE_callD]
  refine is_integer_w ?_
  simpa [h1, h3] using h
theorem reduced_w {k : Int} (h1 : 1 ≤ k) (h3 : k ≤ 3) {as : List At} (ha : POk k as) (hs : PSz as) {Q : SV → List SV → Prop} (h : Q (.d (AL (redIn as))) [.d (.int k), .d (AL as)]) : wC (d_reduced [.d (.int k), .d (AL as)]) Q := by
  unfold d_reduced
  rw [wC_denOf]
  simp [b_reduced, wE_callD]
  refine check_k_w h1 h3 ?_
  simp
  refine are_atoms_w ha ?_
  simp
  refine reduced_in_w hs ?_
  simpa using h
end DL
end

section
set_option Elab.async false
set_option linter.all false
set_option maxRecDepth 100000
set_option maxHeartbeats 4000000
/-! S3: words of products. -/
namespace DL
open PySem L2 Fz
/-- the place behind a letter, from a place on -/
def restAt (as : List At) (at_ : Nat) (x : Int) : Option Nat := (seek (.one x) (as.drop at_)).map fun t => as.length - t.length
theorem seek_one_len {x : Int} : ∀ {bs bs' : List At}, seek (.one x) bs = some bs' → bs'.length ≤ bs.length := fun h => (seek_suffix h).length_le
def optI : Option Nat → D
  | some i => .int (i : Int)
  | none => .none
theorem ASz_one {x : Int} : ASz (.one x) := by simp [ASz, At.ls]
theorem rest_behind_w {as : List At} (hs : PSz as) {at_ : Nat} {x : Int} (hat : at_ ≤ as.length) {Q : SV → List SV → Prop} (h : Q (.d (optI (restAt as at_ x))) [.d (AL as), .d (.int at_), .d (.int x)]) : wC (d_rest_behind [.d (AL as), .d (.int at_), .d (.int x)]) Q := by
  unfold d_rest_behind
  rw [wC_denOf]
  simp [b_rest_behind]
  refine wS_while (fun m S => ∃ a : Nat, a ≤ as.length ∧ m = as.length - a ∧ restAt as a x = restAt as at_ x ∧ S = [some (.d (AL as)), some (.d (.int a)), some (.d (.int x))]) _ ⟨at_, hat, rfl, rfl, rfl⟩ ?_
  rintro m S ⟨a, ha, rfl, e, rfl⟩
  simp [wE_callD]
  refine ⟨fun hlt => ?_, fun hge => ?_⟩
  · have e1 : as[a]? = some as[a] := List.getElem?_eq_getElem hlt
    have ed : as.drop a = as[a] :: as.drop (a + 1) := List.drop_eq_getElem_cons hlt
    have hb : ASz as[a] := hs.2 _ (List.getElem_mem hlt)
    rw [e1]
    simp only [wO_some]
    rw [← At.d_one]
    refine fits_w ASz_one hb ?_
    simp
    rw [e1]
    generalize as[a] = b at *
    simp only [wO_some]
    have hd : restAt as a x = if fitsB (.one x) b = true then some (if b.star then a else a + 1) else restAt as (a + 1) x := by
      unfold restAt
      rw [ed, seek]
      split
      · rename_i hf
        rw [Option.map_some]
        split
        · rw [← ed, List.length_drop]; congr 1; omega
        · rw [List.length_drop]; congr 1; omega
      · rfl
    rw [e] at hd
    refine ⟨fun hf => ?_, fun hf => ⟨as.length - (a + 1), by omega, a + 1, by omega, rfl, ?_, by simp⟩⟩
    · rw [if_pos hf] at hd
      rw [hd] at h
      cases b with
      | one l => simpa [optI, At.star, eqOk_str] using h
      | any ls =>
        simp [At.star, str_ne]
        simpa [optI, At.star] using h
    · rw [hd, if_neg (by simp [hf])]
  · have : a = as.length := by omega
    subst this
    have : restAt as as.length x = none := by simp [restAt, seek]
    rw [← e, this] at h
    exact h
theorem restAt_some {as : List At} {a b : Nat} {x : Int} (h : restAt as a x = some b) : seek (.one x) (as.drop a) = some (as.drop b) ∧ b ≤ as.length := by
  unfold restAt at h
  obtain ⟨t, h1, rfl⟩ := Option.map_eq_some_iff.mp h
  refine ⟨?_, by omega⟩
  rw [h1]
  have hs : t <:+ as := (seek_suffix h1).trans (List.drop_suffix _ _)
  obtain ⟨p, rfl⟩ := hs
  simp
theorem restAt_none {as : List At} {a : Nat} {x : Int} (h : restAt as a x = none) : seek (.one x) (as.drop a) = none := by
  unfold restAt at h
  simpa using h
theorem product_has_in_w {as : List At} (hs : PSz as) {w : List Int} {Q : SV → List SV → Prop} (h : Q (.d (.bool (hasG as w))) [.d (AL as), .d (W w)]) : wC (d_product_has_in [.d (AL as), .d (W w)]) Q := by
  unfold d_product_has_in
  rw [wC_denOf]
  simp [b_product_has_in]
  refine wS_forM (fun r S => ∃ a c, a ≤ as.length ∧ hasG as w = hasG (as.drop a) r ∧ S = [some (.d (AL as)), some (.d (W w)), some (.d (.int (a : Nat))), c]) ⟨0, none, Nat.zero_le _, by simp, rfl⟩ ?_ ?_
  · rintro x r S ⟨a, c, ha, e, rfl⟩
    simp [wE_callD]
    refine rest_behind_w hs ha ?_
    have e2 : hasG (as.drop a) (x :: r) = match seek (.one x) (as.drop a) with
      | none => false
      | some as' => hasG as' r := rfl
    cases hr : restAt as a x with
    | none =>
      rw [e, e2, restAt_none hr] at h
      simpa [optI] using h
    | some b =>
      obtain ⟨h1, h2⟩ := restAt_some hr
      rw [h1] at e2
      simp [optI]
      exact ⟨b, h2, by rw [e, e2], rfl⟩
  · rintro S ⟨a, c, ha, e, rfl⟩
    rw [e] at h
    simpa [hasG] using h
theorem product_has_w {as : List At} (ha : POk 3 as) (hs : PSz as) (hr : Red as) {w : List Int} (hw : IsW 3 w) {Q : SV → List SV → Prop} (h : Q (.d (.bool (hasG as w))) [.d (AL as), .d (W w)]) : wC (d_product_has [.d (AL as), .d (W w)]) Q := by
  unfold d_product_has
  rw [wC_denOf]
  simp [b_product_has, wE_callD]
  refine check_product_w ha hs hr ?_
  simp
  refine check_word_w hw ?_
  simp
  refine product_has_in_w hs ?_
  simpa using h
end DL
end

section
set_option Elab.async false
set_option linter.all false
set_option maxRecDepth 100000
set_option maxHeartbeats 4000000
/-! S4: the laws' own helpers about words, products. -/
namespace DL
open PySem L2 Fz
def LW (ws : List (List Int)) : List D := ws.map W
def ext1 (k : Nat) (w : List Int) : List (List Int) := (List.range k).map fun i : Nat => w ++ [(i : Int)]
def layW (k : Nat) : Nat → List (List Int)
  | 0 => [[]]
  | n + 1 => (layW k n).flatMap (ext1 k)
def allW (k : Nat) : Nat → List (List Int)
  | 0 => [[]]
  | n + 1 => allW k n ++ layW k (n + 1)
theorem ext1_len {k : Nat} {w : List Int} : (ext1 k w).length = k := by simp [ext1]
theorem flat_len {k : Nat} : ∀ {ws : List (List Int)}, (ws.flatMap (ext1 k)).length = ws.length * k
  | [] => by simp
  | w :: ws => by rw [List.flatMap_cons, List.length_append, flat_len, ext1_len, List.length_cons, Nat.succ_mul]; omega
theorem layW_len {k : Nat} : ∀ {n : Nat}, (layW k n).length = k ^ n
  | 0 => rfl
  | n + 1 => by rw [layW, flat_len, layW_len, Nat.pow_succ]
theorem layW_big {k n : Nat} (hk : k ≤ 3) (hn : n ≤ 9) : (layW k n).length ≤ 20000 := by
  rw [layW_len]
  have a : k ^ n ≤ 3 ^ n := Nat.pow_le_pow_left hk n
  have b : 3 ^ n ≤ 3 ^ 9 := Nat.pow_le_pow_right (by decide) hn
  have c : 3 ^ 9 ≤ 20000 := by decide
  omega
theorem allW_big {k n : Nat} (hk : k ≤ 3) (hn : n ≤ 9) : (allW k n).length ≤ 20000 * (n + 1) := by
  induction n with
  | zero => simp [allW]
  | succ n ih =>
    have := layW_big hk hn
    have := ih (by omega)
    rw [allW, List.length_append]; omega
theorem layW_mem {k : Nat} {w : List Int} : ∀ {n : Nat}, w ∈ layW k n ↔ w.length = n ∧ IsW k w := by
  intro n
  induction n generalizing w with
  | zero =>
    simp [layW]
    intro e; subst e
    exact fun x hx => absurd hx (by simp)
  | succ n ih =>
    simp only [layW, List.mem_flatMap, ext1, List.mem_map, List.mem_range]
    constructor
    · rintro ⟨v, hv, i, hi, rfl⟩
      obtain ⟨h1, h2⟩ := ih.mp hv
      refine ⟨by simp [h1], fun x hx => ?_⟩
      rcases List.mem_append.mp hx with hx | hx
      · exact h2 x hx
      · rw [List.mem_singleton.mp hx]; omega
    · rintro ⟨h1, h2⟩
      have hne : w ≠ [] := fun e => by rw [e] at h1; simp at h1
      have hl := h2 _ (List.getLast_mem hne)
      refine ⟨w.dropLast, ih.mpr ⟨by simp [h1], fun x hx => h2 x (List.dropLast_subset _ hx)⟩, (w.getLast hne).toNat, by omega, ?_⟩
      rw [Int.toNat_of_nonneg hl.1]
      exact List.dropLast_concat_getLast hne
theorem allW_mem {k : Nat} {w : List Int} : ∀ {n : Nat}, w ∈ allW k n ↔ w.length ≤ n ∧ IsW k w := by
  intro n
  induction n with
  | zero =>
    have := layW_mem (k := k) (w := w) (n := 0)
    simp only [layW, allW] at this ⊢
    rw [this]
    constructor <;> (rintro ⟨a, b⟩; exact ⟨by omega, b⟩)
  | succ n ih =>
    rw [allW, List.mem_append, ih, layW_mem]
    constructor
    · rintro (⟨a, b⟩ | ⟨a, b⟩) <;> exact ⟨by omega, b⟩
    · rintro ⟨a, b⟩
      by_cases h : w.length ≤ n
      · exact .inl ⟨h, b⟩
      · exact .inr ⟨by omega, b⟩
theorem law_all_w {k n : Nat} (hk : k ≤ 3) (hn : n ≤ 8) {Q : SV → List SV → Prop} (h : Q (.d (.list (LW (allW k n)))) [.d (.int k), .d (.int n)]) : wC (d__law_all [.d (.int k), .d (.int n)]) Q := by
  unfold d__law_all
  rw [wC_denOf]
  simp [b__law_all]
  refine ⟨by omega, ?_⟩
  rw [rng0]
  refine wS_forP (fun p r S => ∃ sv c4 c5 c6 c7, (sv = .own (.lst (LW (layW k p.length))) ∨ sv = .d (.list (LW (layW k p.length)))) ∧ p.length ≤ n ∧ S = [some (.d (.int k)), some (.d (.int n)), some (.own (.lst (LW (allW k p.length)))), some sv, c4, c5, c6, c7]) ⟨_, none, none, none, none, .inl rfl, Nat.zero_le _, rfl⟩ ?_ ?_
  · rintro p x r S e ⟨sv, c4, c5, c6, c7, hsv, hp, rfl⟩
    have hp2 : p.length + 1 ≤ n := by
      have := congrArg List.length e
      simp at this; omega
    have body : ∀ c4 c6 c7, wS (forF (gN 6) (fExtend 5 (fLc (fRange1 (fVar 0)) (gN 7) (fC true) (fFrz (fOpN pAdd 6 (fTup (fCons (fVar 7) (fC []))))) [7])) (LW (layW k p.length)) [some (.d (.int k)), some (.d (.int n)), some (.own (.lst (LW (allW k p.length)))), some (.d (.list (LW (layW k p.length)))), c4, some (.own (.lst [])), c6, c7])
        (fun S => ∃ c6 c7, S = [some (.d (.int k)), some (.d (.int n)), some (.own (.lst (LW (allW k p.length)))), some (.d (.list (LW (layW k p.length)))), c4, some (.own (.lst (LW (layW k (p.length + 1))))), c6, c7]) (fun _ _ => False) (fun _ => False) (fun _ => False) := by
      intro c4 c6 c7
      unfold LW
      refine wS_forP (fun q r S => ∃ c6 c7, S = [some (.d (.int k)), some (.d (.int n)), some (.own (.lst (LW (allW k p.length)))), some (.d (.list (LW (layW k p.length)))), c4, some (.own (.lst (LW (q.flatMap (ext1 k))))), c6, c7]) ⟨c6, c7, rfl⟩ ?_ ?_
      · rintro q w r S e ⟨c6, c7, rfl⟩
        have hw : w.length = p.length := (layW_mem.mp (by rw [e]; simp)).1
        simp
        refine ⟨by omega, ?_⟩
        rw [rng0]
        refine lc_w (fun _ => true) (fun i : Nat => W (w ++ [(i : Int)])) (fun S => ∃ c7, S = [some (.d (.int k)), some (.d (.int n)), some (.own (.lst (LW (allW k p.length)))), some (.d (.list (LW (layW k p.length)))), c4, some (.own (.lst (LW (q.flatMap (ext1 k))))), some (.d (W w)), c7]) ⟨_, rfl⟩ (by simp; omega) ?_ ?_
        · rintro i hi S ⟨c7, rfl⟩
          simp
          have h8 : w.length + 1 ≤ 16000000 := by omega
          exact szL h8
        · rintro S ⟨c7, rfl⟩
          simp
          refine ⟨szL ?_, ?_⟩
          · have := layW_big (k := k) (n := p.length + 1) hk (by omega)
            rw [layW, e, List.flatMap_append, List.length_append, List.flatMap_cons, List.length_append, ext1_len] at this
            simp only [LW, List.length_map]; omega
          · simp [LW, ext1]
      · rintro S ⟨c6, c7, rfl⟩
        exact ⟨c6, c7, rfl⟩
    rcases hsv with rfl | rfl
    all_goals
      simp
      refine (body _ _ _).imp ?_ (fun _ _ z => z.elim) (fun _ z => z.elim) (fun _ z => z.elim)
      rintro S ⟨c6, c7, rfl⟩
      simp
      have b1 := layW_big (k := k) (n := p.length + 1) hk (by omega)
      have b2 := allW_big (k := k) (n := p.length) hk (by omega)
      have b3 : (LW (allW k p.length)).length + (LW (layW k (p.length + 1))).length ≤ 16000000 := by
        simp only [LW, List.length_map]
        have : 20000 * (p.length + 1) ≤ 20000 * 10 := Nat.mul_le_mul_left _ (by omega)
        omega
      exact ⟨szL b3, hp2, by simp [LW, allW]⟩
  · rintro S ⟨sv, c4, c5, c6, c7, hsv, hp, rfl⟩
    simp
    simpa using h
end DL
end

section
set_option Elab.async false
set_option linter.all false
set_option maxRecDepth 100000
set_option maxHeartbeats 4000000
/-! M2: words sorted, least words: the plain theory. -/
namespace DL
open PySem L2 Fz SrtO
/-! ### sorting, generally -/
theorem insG_map {α β : Type} {lt : β → β → Bool} (f : α → β) (x : α) : ∀ l : List α, insG lt (f x) (l.map f) = (insG (fun a b => lt (f a) (f b)) x l).map f
  | [] => rfl
  | y :: l => by
    simp only [List.map_cons, insG]
    split
    · rw [insG_map f x l]; rfl
    · rfl
theorem sortG_map {α β : Type} {lt : β → β → Bool} (f : α → β) : ∀ l : List α, sortG lt (l.map f) = (sortG (fun a b => lt (f a) (f b)) l).map f
  | [] => rfl
  | x :: l => by
    show insG lt (f x) (sortG lt (l.map f)) = _
    rw [sortG_map f l, insG_map]
    rfl
theorem sortD_G : ∀ l : List D, sortD l = sortG ltE l
  | [] => rfl
  | x :: l => by
    show insD x (sortD l) = insG ltE x (sortG ltE l)
    rw [sortD_G l]
    generalize sortG ltE l = m
    induction m with
    | nil => rfl
    | cons y m ih =>
      unfold insD insG
      rw [ih]
/-- total: sorted lists of the same things are the same -/
theorem sortG_perm {α : Type} {lt : α → α → Bool} (O : Swo lt) (tot : ∀ x y, lt x y = false → lt y x = false → x = y) {a b : List α} (h : a.Perm b) : sortG lt a = sortG lt b := by
  obtain ⟨s1, t1⟩ := sortG_ok O a
  obtain ⟨s2, t2⟩ := sortG_ok O b
  refine stb_uniq O s1 s2 ⟨(t1.perm.trans h).trans t2.perm.symm, fun x => ?_⟩
  rw [t1.cls, t2.cls]
  have all : ∀ l : List α, ∀ y ∈ l.filter (eqv lt x), y = x := fun l y hy => by
    obtain ⟨_, hy⟩ := List.mem_filter.mp hy
    obtain ⟨p, q⟩ := eqv_iff.mp hy
    exact (tot x y p q).symm
  have e : ∀ l : List α, l.filter (eqv lt x) = List.replicate (l.filter (eqv lt x)).length x := fun l => List.eq_replicate_iff.mpr ⟨rfl, all l⟩
  rw [e a, e b, (h.filter _).length_eq]
theorem sortG_mem {α : Type} {lt : α → α → Bool} (O : Swo lt) {l : List α} {x : α} : x ∈ sortG lt l ↔ x ∈ l := (sortG_ok O l).2.perm.mem_iff
/-! ### the orders of words -/
theorem encL_inj : ∀ {xs ys : List Int}, encL (xs.map .int) = encL (ys.map .int) → xs = ys
  | [], [], _ => rfl
  | [], _ :: _, h => by simp [encL] at h
  | _ :: _, [], h => by simp [encL] at h
  | x :: xs, y :: ys, h => by
    simp only [List.map_cons, encL, enc, List.cons_append, List.nil_append, List.cons.injEq, true_and] at h
    rw [h.1, encL_inj h.2]
abbrev ltW (x y : List Int) : Bool := ltE (W x) (W y)
theorem ltW_swo : Swo ltW := lx_swo fun x => enc (W x)
theorem ltW_tot (x y : List Int) (h : ltW x y = false) (g : ltW y x = false) : x = y := by
  have e : enc (W x) = enc (W y) := lx_tri h g
  unfold W at e
  simp only [enc, List.cons.injEq, true_and] at e
  exact encL_inj e
def keyD (w : List Int) : D := .tuple [.int (w.length : Int), W w]
abbrev ltS (x y : List Int) : Bool := ltE (keyD x) (keyD y)
theorem ltS_swo : Swo ltS := lx_swo fun x => enc (keyD x)
theorem plain_ints : ∀ xs : List Int, plainL (xs.map .int) = true
  | [] => rfl
  | x :: xs => by simp only [List.map_cons, plainL, plainD, plain_ints xs]; rfl
theorem plain_W {xs : List Int} : plainD (W xs) = true := by unfold W; simp only [plainD]; exact plain_ints xs
theorem plain_key {xs : List Int} : plainD (keyD xs) = true := by unfold keyD; simp only [plainD, plainL, plain_W]; rfl
theorem ltL_ints : ∀ xs ys : List Int, (ltL (xs.map .int) (ys.map .int)).isSome = true
  | [], [] => rfl
  | [], _ :: _ => rfl
  | _ :: _, [] => rfl
  | x :: xs, y :: ys => by
    simp only [List.map_cons, ltL]
    split
    · exact ltL_ints xs ys
    · rfl
theorem ltD_W {xs ys : List Int} : (ltD (W xs) (W ys)).isSome = true := by unfold W; simp only [ltD]; exact ltL_ints xs ys
theorem ltD_key {xs ys : List Int} : (ltD (keyD xs) (keyD ys)).isSome = true := by
  unfold keyD
  simp only [ltD, ltL]
  split
  · split
    · rfl
    · exact ltD_W
  · rfl
theorem ltS_len {xs ys : List Int} (h : xs.length < ys.length) : ltS xs ys = true := by
  have e : ltD (keyD xs) (keyD ys) = some true := by
    unfold keyD
    simp only [ltD, ltL]
    have n : PyData.eqv (.int (xs.length : Int)) (.int (ys.length : Int)) = false := by
      simp only [PyData.eqv]
      simp; omega
    rw [n]
    simp; omega
  exact (ltD_lx plain_key plain_key e).symm
theorem smal_key {w : List Int} (h : w.length ≤ 10000000) : SeqAt.shaped (keyD w) = true :=
  shaped_of_tup (k := 1) (.cons .int (.cons (smalW h) .nil)) (by omega)
theorem shaped_W {w : List Int} (h : w.length ≤ 10000000) : SeqAt.shaped (W w) = true := shaped_of_tup (k := 0) smalInts (by omega)
theorem sortOk_LW {ws : List (List Int)} (h : ∀ w ∈ ws, w.length ≤ 10000000) : SortOk (LW ws) := by
  refine ⟨fun d hd => ?_, fun d hd e he => ?_⟩
  · obtain ⟨w, hw, rfl⟩ := List.mem_map.mp hd
    exact ⟨plain_W, shaped_W (h w hw)⟩
  · obtain ⟨w, hw, rfl⟩ := List.mem_map.mp hd
    obtain ⟨v, hv, rfl⟩ := List.mem_map.mp he
    exact ltD_W
theorem sortOk_key {ws : List (List Int)} (h : ∀ w ∈ ws, w.length ≤ 10000000) : SortOk (ws.map keyD) := by
  refine ⟨fun d hd => ?_, fun d hd e he => ?_⟩
  · obtain ⟨w, hw, rfl⟩ := List.mem_map.mp hd
    exact ⟨plain_key, smal_key (h w hw)⟩
  · obtain ⟨w, hw, rfl⟩ := List.mem_map.mp hd
    obtain ⟨v, hv, rfl⟩ := List.mem_map.mp he
    exact ltD_key
def sortW (ws : List (List Int)) : List (List Int) := sortG ltW ws
def sortS (ws : List (List Int)) : List (List Int) := sortG ltS ws
theorem sortD_LW {ws : List (List Int)} : sortD (LW ws) = LW (sortW ws) := by
  rw [sortD_G]
  exact sortG_map W ws
theorem sortK_LW {ws : List (List Int)} : sortK (ws.map keyD) (LW ws) = LW (sortS ws) := by
  unfold sortK LW
  have e : (ws.map keyD).zip (ws.map W) = ws.map fun w => (keyD w, W w) := by
    rw [List.zip_map']
  rw [e, sortG_map, List.map_map]
  rfl
theorem sortW_perm {a b : List (List Int)} (h : a.Perm b) : sortW a = sortW b := sortG_perm ltW_swo ltW_tot h
theorem sortW_mem {ws : List (List Int)} {w : List Int} : w ∈ sortW ws ↔ w ∈ ws := sortG_mem ltW_swo
theorem sortS_mem {ws : List (List Int)} {w : List Int} : w ∈ sortS ws ↔ w ∈ ws := sortG_mem ltS_swo
/-! ### least words -/
/-- no other word of ws is strewn in w -/
def minOf (ws : List (List Int)) (w : List Int) : Bool := !ws.any fun o => decide (o ≠ w) && strewn o w
theorem minOf_iff {ws : List (List Int)} {w : List Int} : minOf ws w = true ↔ ∀ o ∈ ws, o ≠ w → strewn o w = false := by
  unfold minOf
  rw [Bool.not_eq_true', List.any_eq_false]
  constructor
  · intro h o ho hn
    have := h o ho
    simpa [hn] using this
  · intro h o ho
    by_cases e : o = w
    · simp [e]
    · simp [e, h o ho e]
/-- the least words as they are first met -/
def addN (ws : List (List Int)) (w : List Int) : List (List Int) := if w ∈ ws then ws else ws ++ [w]
def bL (ws : List (List Int)) : List (List Int) → List (List Int) → List (List Int)
  | acc, [] => acc
  | acc, w :: r => bL ws (if minOf ws w = true then addN acc w else acc) r
def base (ws : List (List Int)) : List (List Int) := bL ws [] ws
theorem addN_mem {ws : List (List Int)} {v w : List Int} : v ∈ addN ws w ↔ v ∈ ws ∨ v = w := by
  unfold addN
  split
  · rename_i h
    constructor
    · exact .inl
    · rintro (h2 | rfl)
      · exact h2
      · exact h
  · simp
theorem addN_nodup {ws : List (List Int)} {w : List Int} (h : ws.Nodup) : (addN ws w).Nodup := by
  unfold addN
  split
  · exact h
  · rename_i n
    exact List.nodup_append.mpr ⟨h, by simp, fun a ha b hb => by
      rw [List.mem_singleton.mp hb]
      intro e; subst e; exact n ha⟩
theorem bL_mem {ws : List (List Int)} {v : List Int} : ∀ {r acc : List (List Int)}, v ∈ bL ws acc r ↔ v ∈ acc ∨ (v ∈ r ∧ minOf ws v = true)
  | [], acc => by simp [bL]
  | w :: r, acc => by
    rw [bL, bL_mem]
    split
    · rename_i h
      rw [addN_mem]
      constructor
      · rintro ((h1 | rfl) | ⟨h1, h2⟩)
        · exact .inl h1
        · exact .inr ⟨by simp, h⟩
        · exact .inr ⟨by simp [h1], h2⟩
      · rintro (h1 | ⟨h1, h2⟩)
        · exact .inl (.inl h1)
        · rcases List.mem_cons.mp h1 with rfl | h1
          · exact .inl (.inr rfl)
          · exact .inr ⟨h1, h2⟩
    · rename_i h
      constructor
      · rintro (h1 | ⟨h1, h2⟩)
        · exact .inl h1
        · exact .inr ⟨by simp [h1], h2⟩
      · rintro (h1 | ⟨h1, h2⟩)
        · exact .inl h1
        · rcases List.mem_cons.mp h1 with rfl | h1
          · exact absurd h2 h
          · exact .inr ⟨h1, h2⟩
theorem bL_nodup {ws : List (List Int)} : ∀ {r acc : List (List Int)}, acc.Nodup → (bL ws acc r).Nodup
  | [], acc, h => h
  | w :: r, acc, h => by
    rw [bL]
    refine bL_nodup ?_
    split
    · exact addN_nodup h
    · exact h
theorem base_mem {ws : List (List Int)} {v : List Int} : v ∈ base ws ↔ v ∈ ws ∧ minOf ws v = true := by
  unfold base
  rw [bL_mem]
  simp
theorem base_nodup {ws : List (List Int)} : (base ws).Nodup := bL_nodup List.nodup_nil
/-- the words kept, the shortest first -/
def keepL : List (List Int) → List (List Int) → List (List Int)
  | kept, [] => kept
  | kept, w :: r => keepL (if (kept.any fun k => strewn k w) = true then kept else kept ++ [w]) r
theorem strewn_refl {w : List Int} : strewn w w = true := strewn_iff.mpr (List.Sublist.refl w)
theorem strewn_trans {a b c : List Int} (h : strewn a b = true) (g : strewn b c = true) : strewn a c = true := strewn_iff.mpr ((strewn_iff.mp h).trans (strewn_iff.mp g))
theorem strewn_len {a b : List Int} (h : strewn a b = true) (n : a ≠ b) : a.length < b.length := by
  have s := strewn_iff.mp h
  rcases Nat.lt_or_ge a.length b.length with z | z
  · exact z
  · exact absurd (s.eq_of_length (Nat.le_antisymm s.length_le z)) n
theorem keepL_ok {ws : List (List Int)} : ∀ {r p kept : List (List Int)}, sortS ws = p ++ r → kept.Nodup → (∀ k ∈ kept, k ∈ p ∧ minOf ws k = true) → (∀ w ∈ p, ∃ k ∈ kept, strewn k w = true) →
    (keepL kept r).Nodup ∧ (∀ k ∈ keepL kept r, k ∈ ws ∧ minOf ws k = true) ∧ ∀ w ∈ ws, ∃ k ∈ keepL kept r, strewn k w = true
  | [], p, kept, e, n, h1, h2 => by
    rw [List.append_nil] at e
    refine ⟨n, fun k hk => ⟨sortS_mem.mp (by rw [e]; exact (h1 k hk).1), (h1 k hk).2⟩, fun w hw => h2 w (by rw [← e]; exact sortS_mem.mpr hw)⟩
  | w :: r, p, kept, e, n, h1, h2 => by
    rw [keepL]
    have e' : sortS ws = (p ++ [w]) ++ r := by rw [e]; simp
    by_cases ha : (kept.any fun k => strewn k w) = true
    · rw [if_pos ha]
      refine keepL_ok e' n (fun k hk => ⟨List.mem_append_left _ (h1 k hk).1, (h1 k hk).2⟩) fun v hv => ?_
      rcases List.mem_append.mp hv with hv | hv
      · exact h2 v hv
      · rw [List.mem_singleton.mp hv]
        obtain ⟨k, hk, hs⟩ := List.any_eq_true.mp ha
        exact ⟨k, hk, hs⟩
    · rw [if_neg ha]
      have hn : ∀ k ∈ kept, strewn k w = false := fun k hk => by
        cases hs : strewn k w with
        | false => rfl
        | true => exact absurd (List.any_eq_true.mpr ⟨k, hk, hs⟩) ha
      have srt := (sortG_ok ltS_swo ws).1
      refine keepL_ok e' (List.nodup_append.mpr ⟨n, by simp, fun a hka b hb => ?_⟩) (fun k hk => ?_) fun v hv => ?_
      · rw [List.mem_singleton.mp hb]
        intro z; subst z
        have := hn a hka
        rw [strewn_refl] at this; cases this
      · rcases List.mem_append.mp hk with hk | hk
        · exact ⟨List.mem_append_left _ (h1 k hk).1, (h1 k hk).2⟩
        · rw [List.mem_singleton.mp hk]
          refine ⟨by simp, minOf_iff.mpr fun o ho hne => ?_⟩
          cases hs : strewn o w with
          | false => rfl
          | true =>
            exfalso
            have hl := ltS_len (strewn_len hs hne)
            have hm : o ∈ sortS ws := sortS_mem.mpr ho
            have s2 : Srtd ltS (sortS ws) := srt
            rw [e] at hm s2
            obtain ⟨_, s3, s4⟩ := srtd_app.mp s2
            rcases List.mem_append.mp hm with hp | hp
            · obtain ⟨k, hk, hks⟩ := h2 o hp
              have := hn k hk
              rw [strewn_trans hks hs] at this; cases this
            · rcases List.mem_cons.mp hp with rfl | hp
              · exact hne rfl
              · have := srtd_head s3 o hp
                rw [hl] at this; cases this
      · rcases List.mem_append.mp hv with hv | hv
        · obtain ⟨k, hk, hs⟩ := h2 v hv
          exact ⟨k, List.mem_append_left _ hk, hs⟩
        · rw [List.mem_singleton.mp hv]
          exact ⟨w, by simp, strewn_refl⟩
/-- both roads tell the same -/
theorem least_is_base {ws : List (List Int)} : sortW (keepL [] (sortS ws)) = sortW (base ws) := by
  obtain ⟨n, h1, h2⟩ := keepL_ok (ws := ws) (r := sortS ws) (p := []) (kept := []) rfl List.nodup_nil (fun _ h => absurd h (by simp)) (fun _ h => absurd h (by simp))
  refine sortW_perm ((List.perm_ext_iff_of_nodup n base_nodup).mpr fun w => ?_)
  rw [base_mem]
  constructor
  · exact h1 w
  · rintro ⟨hw, hm⟩
    obtain ⟨k, hk, hs⟩ := h2 w hw
    by_cases e : k = w
    · rw [← e]; exact hk
    · have := minOf_iff.mp hm k (h1 k hk).1 e
      rw [hs] at this; cases this
/-- it hangs on the words alone -/
theorem base_congr {ws vs : List (List Int)} (h : ∀ w, w ∈ ws ↔ w ∈ vs) : sortW (base ws) = sortW (base vs) := by
  have e : ∀ w, minOf ws w = minOf vs w := fun w => by
    rw [Bool.eq_iff_iff, minOf_iff, minOf_iff]
    exact ⟨fun z o ho => z o ((h o).mpr ho), fun z o ho => z o ((h o).mp ho)⟩
  refine sortW_perm ((List.perm_ext_iff_of_nodup base_nodup base_nodup).mpr fun w => ?_)
  rw [base_mem, base_mem, h w, e w]
theorem base_least {ws : List (List Int)} {w : List Int} (hw : w ∈ ws) : ∃ k ∈ base ws, strewn k w = true := by
  obtain ⟨n, h1, h2⟩ := keepL_ok (ws := ws) (r := sortS ws) (p := []) (kept := []) rfl List.nodup_nil (fun _ h => absurd h (by simp)) (fun _ h => absurd h (by simp))
  obtain ⟨k, hk, hs⟩ := h2 w hw
  exact ⟨k, base_mem.mpr (h1 k hk), hs⟩
theorem base_base {ws : List (List Int)} : sortW (base (sortW (base ws))) = sortW (base ws) := by
  refine sortW_perm ((List.perm_ext_iff_of_nodup base_nodup base_nodup).mpr fun w => ?_)
  rw [base_mem, sortW_mem]
  constructor
  · exact fun h => h.1
  · intro h
    refine ⟨h, minOf_iff.mpr fun o ho hn => ?_⟩
    have ho' := base_mem.mp (sortW_mem.mp ho)
    exact minOf_iff.mp (base_mem.mp h).2 o ho'.1 hn
theorem base_any {ws : List (List Int)} {w : List Int} : ((sortW (base ws)).any fun o => strewn o w) = ws.any fun o => strewn o w := by
  rw [Bool.eq_iff_iff, List.any_eq_true, List.any_eq_true]
  constructor
  · rintro ⟨o, ho, hs⟩
    exact ⟨o, (base_mem.mp (sortW_mem.mp ho)).1, hs⟩
  · rintro ⟨o, ho, hs⟩
    obtain ⟨k, hk, hks⟩ := base_least ho
    exact ⟨k, sortW_mem.mpr hk, strewn_trans hks hs⟩
end DL
end

section
set_option Elab.async false
set_option linter.all false
set_option maxRecDepth 100000
set_option maxHeartbeats 4000000
/-! M3: the order of words, leaders: the plain theory. -/
namespace DL
open PySem L2 Fz
/-- less, letter by letter, an end before all -/
def ltI : List Int → List Int → Bool
  | [], [] => false
  | [], _ :: _ => true
  | _ :: _, [] => false
  | x :: xs, y :: ys => if x = y then ltI xs ys else decide (x < y)
theorem tupC_lt : ∀ xs ys : List Int, tupC (fun i j => decide (i < j)) (fun n m => decide (n < m)) xs ys = ltI xs ys
  | [], [] => by rw [tupC_nil_l]; rfl
  | [], y :: ys => by rw [tupC_nil_l]; simp [ltI]
  | x :: xs, [] => by rw [tupC_nil_r]; simp [ltI]
  | x :: xs, y :: ys => by
    rw [tupC_cons (fun n m => by simp)]
    unfold ltI
    rw [tupC_lt xs ys]
theorem tupC_ge : ∀ xs ys : List Int, tupC (fun i j => decide (j ≤ i)) (fun n m => decide (n ≥ m)) xs ys = !ltI xs ys
  | [], [] => by rw [tupC_nil_l]; simp [ltI]
  | [], y :: ys => by rw [tupC_nil_l]; simp [ltI]
  | x :: xs, [] => by rw [tupC_nil_r]; simp [ltI]
  | x :: xs, y :: ys => by
    rw [tupC_cons (fun n m => by simp)]
    unfold ltI
    rw [tupC_ge xs ys]
    by_cases h : x = y
    · rw [if_pos h, if_pos h]
    · rw [if_neg h, if_neg h]
      by_cases h2 : x < y
      · have : ¬ y ≤ x := by omega
        simp [h2, this]
      · have : y ≤ x := by omega
        simp [h2, this]
theorem ltI_irr : ∀ xs : List Int, ltI xs xs = false
  | [] => rfl
  | x :: xs => by unfold ltI; rw [if_pos rfl]; exact ltI_irr xs
theorem ltI_tri : ∀ {xs ys : List Int}, ltI xs ys = false → ltI ys xs = false → xs = ys
  | [], [], _, _ => rfl
  | [], y :: ys, h, _ => by simp [ltI] at h
  | x :: xs, [], _, h => by simp [ltI] at h
  | x :: xs, y :: ys, h, g => by
    unfold ltI at h g
    by_cases e : x = y
    · subst e
      rw [if_pos rfl] at h g
      rw [ltI_tri h g]
    · rw [if_neg e] at h
      rw [if_neg fun z => e z.symm] at g
      simp at h g; omega
theorem ltI_tr : ∀ {xs ys zs : List Int}, ltI xs ys = true → ltI ys zs = true → ltI xs zs = true
  | [], [], _, h, _ => by simp [ltI] at h
  | [], _ :: _, [], _, g => by simp [ltI] at g
  | [], _ :: _, _ :: _, _, _ => rfl
  | _ :: _, [], _, h, _ => by simp [ltI] at h
  | _ :: _, _ :: _, [], _, g => by simp [ltI] at g
  | x :: xs, y :: ys, z :: zs, h, g => by
    unfold ltI at h g ⊢
    by_cases e : x = y
    · subst e
      rw [if_pos rfl] at h
      by_cases e2 : x = z
      · subst e2; rw [if_pos rfl] at g ⊢; exact ltI_tr h g
      · rw [if_neg e2] at g ⊢; exact g
    · rw [if_neg e] at h
      by_cases e2 : y = z
      · subst e2; rw [if_neg e]; exact h
      · rw [if_neg e2] at g
        simp at h g
        have : ¬ x = z := by omega
        rw [if_neg this]
        simp; omega
/-- a difference within -/
theorem ltI_app : ∀ {xs ys : List Int} (us vs : List Int), ltI xs ys = true → ¬ xs <+: ys → ltI (xs ++ us) (ys ++ vs) = true
  | [], ys, us, vs, _, n => absurd (List.nil_prefix) n
  | x :: xs, [], us, vs, h, _ => by simp [ltI] at h
  | x :: xs, y :: ys, us, vs, h, n => by
    simp only [List.cons_append]
    unfold ltI at h ⊢
    by_cases e : x = y
    · subst e
      rw [if_pos rfl] at h ⊢
      exact ltI_app us vs h fun z => n (by simpa using z)
    · rw [if_neg e] at h ⊢; exact h
theorem ltI_pre : ∀ {us : List Int} {xs ys : List Int}, ltI (us ++ xs) (us ++ ys) = ltI xs ys
  | [], _, _ => rfl
  | u :: us, xs, ys => by simp only [List.cons_append]; rw [ltI, if_pos rfl]; exact ltI_pre
theorem ltI_prefix : ∀ {xs ys : List Int}, ys <+: xs → ltI xs ys = false
  | xs, [], _ => by cases xs <;> rfl
  | [], y :: ys, h => by simp at h
  | x :: xs, y :: ys, h => by
    have := List.cons_prefix_cons.mp h
    rw [ltI, if_pos this.1.symm]
    exact ltI_prefix this.2
/-- the order by codes is this one -/
theorem lx_ints : ∀ xs ys : List Int, lx (encL (xs.map .int)) (encL (ys.map .int)) = ltI xs ys
  | [], [] => by simp [encL, HT.lexLt_cons, ltI, lx]; rfl
  | [], y :: ys => by simp [encL, HT.lexLt_cons, ltI, lx]
  | x :: xs, [] => by simp [encL, HT.lexLt_cons, ltI, lx]
  | x :: xs, y :: ys => by
    have ih := lx_ints xs ys
    simp only [List.map_cons, encL, enc, List.cons_append, List.nil_append, lx, HT.lexLt_cons, if_true] at ih ⊢
    unfold ltI
    rw [ih]
theorem ltW_I (xs ys : List Int) : ltW xs ys = ltI xs ys := by
  have h := lx_ints xs ys
  show lx (enc (W xs)) (enc (W ys)) = _
  unfold W
  simp only [enc, lx, HT.lexLt_cons, if_true] at h ⊢
  exact h
/-- a leader: less than each of its proper ends -/
def Lyn (w : List Int) : Prop := w ≠ [] ∧ ∀ n, 0 < n → n < w.length → ltI w (w.drop n) = true
theorem ltI_asym {xs ys : List Int} (h : ltI xs ys = true) : ltI ys xs = false := by
  cases e : ltI ys xs with
  | false => rfl
  | true => have := ltI_tr h e; rw [ltI_irr] at this; cases this
theorem not_prefix_len {xs ys : List Int} (h : ys.length < xs.length) : ¬ xs <+: ys := fun z => by have := z.length_le; omega
/-- two leaders, the less one ahead, make one -/
theorem Lyn.app {u v : List Int} (hu : Lyn u) (hv : Lyn v) (h : ltI u v = true) : Lyn (u ++ v) := by
  have hv0 : 0 < v.length := List.length_pos_iff.mpr hv.1
  have main : ltI (u ++ v) v = true := by
    by_cases hp : u <+: v
    · obtain ⟨v', rfl⟩ := hp
      rw [ltI_pre]
      cases v' with
      | nil => rw [List.append_nil, ltI_irr] at h; cases h
      | cons a v' =>
        have hu0 : 0 < u.length := List.length_pos_iff.mpr hu.1
        have := hv.2 u.length hu0 (by simp)
        rwa [List.drop_left] at this
    · have := ltI_app v [] h hp
      rwa [List.append_nil] at this
  refine ⟨by simp [hu.1], fun n h0 hn => ?_⟩
  rw [List.length_append] at hn
  by_cases h1 : n < u.length
  · have hd : (u ++ v).drop n = u.drop n ++ v := by rw [List.drop_append_of_le_length (by omega)]
    rw [hd]
    exact ltI_app v v (hu.2 n h0 h1) (not_prefix_len (by rw [List.length_drop]; omega))
  · by_cases h2 : n = u.length
    · subst h2
      rw [List.drop_left]
      exact main
    · have hd : (u ++ v).drop n = v.drop (n - u.length) := by
        rw [List.drop_append, List.drop_of_length_le (by omega)]; simp
      rw [hd]
      exact ltI_tr main (hv.2 _ (by omega) (by omega))
/-- the last piece of what stands ahead in a row -/
theorem last_piece : ∀ {r : List (List Int)} {s : List Int}, s ≠ [] → s <+: r.flatten → ∃ x ∈ r, ∃ n, n < s.length ∧ s.drop n <+: x
  | [], s, hs, h => absurd (by simpa using h) hs
  | x :: r, s, hs, h => by
    rw [List.flatten_cons] at h
    rcases List.prefix_or_prefix_of_prefix h (List.prefix_append x r.flatten) with h1 | h1
    · exact ⟨x, by simp, 0, List.length_pos_iff.mpr hs, by simpa using h1⟩
    · obtain ⟨s', rfl⟩ := h1
      by_cases e : s' = []
      · subst e
        exact ⟨x, by simp, 0, List.length_pos_iff.mpr hs, by simp⟩
      · have h2 : s' <+: r.flatten := by simpa using h
        obtain ⟨y, hy, n, hn, hp⟩ := last_piece e h2
        refine ⟨y, by simp [hy], x.length + n, by rw [List.length_append]; omega, ?_⟩
        rw [List.drop_append, List.drop_of_length_le (by omega)]
        simpa using hp
theorem ltI_le_tr {x y z : List Int} (h : ltI y x = false) (g : ltI y z = true) : ltI x z = true := by
  cases e : ltI x z with
  | true => rfl
  | false =>
    by_cases e2 : x = y
    · subst e2; rw [g] at e; cases e
    · have h2 : ltI x y = true := by
        cases q : ltI x y with
        | true => rfl
        | false => exact absurd (ltI_tri q h) e2
      rw [ltI_tr h2 g] at e; cases e
/-- a row's first leader is the longest one at the front -/
theorem row_first {l : List Int} {r : List (List Int)} (hd : ∀ x ∈ r, ltI l x = false) {p : List Int} (hp : Lyn p) (hpre : p <+: l ++ r.flatten) (hl0 : l ≠ []) : p.length ≤ l.length := by
  rcases Nat.lt_or_ge l.length p.length with hlt | hge
  · exfalso
    have h1 : l <+: p := List.prefix_of_prefix_length_le (List.prefix_append l r.flatten) hpre (by omega)
    obtain ⟨s, rfl⟩ := h1
    have hs : s ≠ [] := fun z => by subst z; simp at hlt
    have h2 : s <+: r.flatten := by simpa using hpre
    obtain ⟨x, hx, n, hn, hq⟩ := last_piece hs h2
    have h3 := hp.2 (l.length + n) (by have := List.length_pos_iff.mpr hl0; omega) (by rw [List.length_append]; omega)
    have h4 : (l ++ s).drop (l.length + n) = s.drop n := by rw [List.drop_append]; simp
    rw [h4] at h3
    -- p < s' <= x <= l <= p
    have h5 : ltI x (s.drop n) = false := ltI_prefix hq
    have h6 : ltI (l ++ s) l = false := ltI_prefix (List.prefix_append l s)
    have h7 : ltI l (s.drop n) = true := ltI_le_tr h6 h3
    have h8 : ltI x (s.drop n) = true := ltI_le_tr (hd x hx) h7
    rw [h5] at h8; cases h8
  · exact hge
/-- less than each word that it is turned round to: the same -/
theorem lyn_turned {w : List Int} : Lyn w ↔ w ≠ [] ∧ ∀ n, 0 < n → n < w.length → ltI w (w.drop n ++ w.take n) = true := by
  constructor
  · intro h
    refine ⟨h.1, fun n h0 hn => ?_⟩
    have := ltI_app [] (w.take n) (h.2 n h0 hn) (not_prefix_len (by rw [List.length_drop]; omega))
    rwa [List.append_nil] at this
  · intro ⟨h0, h⟩
    refine ⟨h0, fun n hn0 hn => ?_⟩
    cases e : ltI w (w.drop n) with
    | true => rfl
    | false =>
      exfalso
      have hne : w.drop n ≠ w := fun z => by
        have := congrArg List.length z
        rw [List.length_drop] at this; omega
      have hlt : ltI (w.drop n) w = true := by
        cases q : ltI (w.drop n) w with
        | true => rfl
        | false => exact absurd (ltI_tri q e) hne
      have hr := h n hn0 hn
      by_cases hp : w.drop n <+: w
      · obtain ⟨t, ht⟩ := hp
        have hl : t.length = n := by
          have := congrArg List.length ht
          rw [List.length_append, List.length_drop] at this; omega
        -- w = v t = u v, v = w.drop n, u = w.take n
        have r1 : ltI t (w.take n) = true := by
          rw [← ltI_pre (us := w.drop n), ht]; exact hr
        have r2 := h (w.length - n) (by omega) (by omega)
        have d1 : w.drop (w.length - n) = t := by
          have := List.drop_left (l₁ := w.drop n) (l₂ := t)
          rwa [ht, List.length_drop] at this
        have d2 : w.take (w.length - n) = w.drop n := by
          have := List.take_left (l₁ := w.drop n) (l₂ := t)
          rwa [ht, List.length_drop] at this
        rw [d1, d2] at r2
        have r3 : ltI (t ++ w.drop n) (w.take n ++ w.drop n) = true := ltI_app _ _ r1 fun hpp => by
          have := hpp.eq_of_length (by rw [hl, List.length_take]; omega)
          rw [this, ltI_irr] at r1; cases r1
        rw [List.take_append_drop] at r3
        have := ltI_asym r2
        rw [r3] at this; cases this
      · have := ltI_app (w.take n) [] hlt hp
        rw [List.append_nil] at this
        have a := ltI_asym hr
        rw [this] at a; cases a
end DL
end

section
set_option Elab.async false
set_option linter.all false
set_option maxRecDepth 100000
set_option maxHeartbeats 4000000
/-! M4: rows of leaders: there is just one. -/
namespace DL
open PySem L2 Fz
def lynB (w : List Int) : Bool := decide (w ≠ []) && (List.range w.length).all fun n => n == 0 || ltI w (w.drop n)
theorem lynB_iff {w : List Int} : lynB w = true ↔ Lyn w := by
  unfold lynB Lyn
  rw [Bool.and_eq_true, decide_eq_true_eq, List.all_eq_true]
  refine and_congr Iff.rfl ⟨fun h n h0 hn => ?_, fun h n hn => ?_⟩
  · have := h n (List.mem_range.mpr hn)
    simpa [show n ≠ 0 by omega] using this
  · by_cases h0 : n = 0
    · simp [h0]
    · have := h n (by omega) (List.mem_range.mp hn)
      simp [this]
theorem lyn_one {x : Int} : Lyn [x] := ⟨by simp, fun n h0 hn => by simp at hn; omega⟩
/-- a row: of leaders, none less than the next one -/
def Row : List (List Int) → Prop
  | [] => True
  | l :: r => Lyn l ∧ (∀ x, r.head? = some x → ltI l x = false) ∧ Row r
theorem Row.le {l : List Int} : ∀ {r : List (List Int)}, Row (l :: r) → ∀ x ∈ r, ltI l x = false
  | [], _, x, h => nomatch h
  | y :: r, h, x, hx => by
    have h1 := h.2.1 y rfl
    rcases List.mem_cons.mp hx with rfl | hx
    · exact h1
    · have h2 := Row.le h.2.2 x hx
      cases e : ltI l x with
      | false => rfl
      | true => rw [ltI_le_tr h1 e] at h2; cases h2
theorem Row.ne {r : List (List Int)} (h : Row r) : ∀ x ∈ r, x ≠ [] := by
  induction r with
  | nil => intro x hx; cases hx
  | cons l r ih =>
    intro x hx
    rcases List.mem_cons.mp hx with rfl | hx
    · exact h.1.1
    · exact ih h.2.2 x hx
/-- rows are told by what they come to -/
theorem row_uniq : ∀ {r s : List (List Int)}, Row r → Row s → r.flatten = s.flatten → r = s
  | [], [], _, _, _ => rfl
  | [], m :: s, _, h, e => by
    simp at e
    exact absurd e.1 h.1.1
  | l :: r, [], h, _, e => by
    simp at e
    exact absurd e.1 h.1.1
  | l :: r, m :: s, h, g, e => by
    rw [List.flatten_cons, List.flatten_cons] at e
    have h1 : m.length ≤ l.length := row_first (Row.le h) g.1 (by rw [e]; exact List.prefix_append _ _) h.1.1
    have h2 : l.length ≤ m.length := row_first (Row.le g) h.1 (by rw [← e]; exact List.prefix_append _ _) g.1.1
    obtain ⟨e1, e2⟩ := List.append_inj e (by omega)
    subst e1
    rw [row_uniq h.2.2 g.2.2 e2]
/-- the sizes of the leaders at the front -/
def fronts (w : List Int) : List Nat := (List.range' 1 w.length).filter fun n => lynB (w.take n)
theorem fronts_mem {w : List Int} {n : Nat} : n ∈ fronts w ↔ (1 ≤ n ∧ n ≤ w.length) ∧ Lyn (w.take n) := by
  unfold fronts
  rw [List.mem_filter, List.mem_range'_1, lynB_iff]
  constructor <;> (rintro ⟨⟨a, b⟩, c⟩; exact ⟨⟨by omega, by omega⟩, c⟩)
def longest (w : List Int) : Nat := (fronts w).foldl max 1
theorem foldl_max : ∀ (l : List Nat) (m : Nat), (l.foldl max m = m ∨ l.foldl max m ∈ l) ∧ m ≤ l.foldl max m ∧ ∀ x ∈ l, x ≤ l.foldl max m
  | [], m => ⟨.inl rfl, Nat.le_refl m, fun _ h => nomatch h⟩
  | y :: l, m => by
    obtain ⟨h1, h2, h3⟩ := foldl_max l (max m y)
    rw [List.foldl_cons]
    refine ⟨?_, by omega, fun x hx => ?_⟩
    · rcases h1 with h1 | h1
      · rw [h1]
        by_cases h : y ≤ m
        · exact .inl (by omega)
        · exact .inr (by simp; omega)
      · exact .inr (by simp [h1])
    · rcases List.mem_cons.mp hx with rfl | hx
      · omega
      · exact h3 x hx
theorem longest_ok {w : List Int} (h : w ≠ []) : longest w ∈ fronts w ∧ ∀ n ∈ fronts w, n ≤ longest w := by
  obtain ⟨h1, h2, h3⟩ := foldl_max (fronts w) 1
  refine ⟨?_, h3⟩
  unfold longest
  rcases h1 with h1 | h1
  · rw [h1]
    cases w with
    | nil => exact absurd rfl h
    | cons x w => exact fronts_mem.mpr ⟨⟨by omega, by simp⟩, by simpa using lyn_one⟩
  · exact h1
/-- the row as the program tells it -/
def rowG : Nat → List Int → List (List Int)
  | _, [] => []
  | 0, _ => []
  | k + 1, w => w.take (longest w) :: rowG k (w.drop (longest w))
theorem rowG_cons {k : Nat} {w : List Int} (h : w ≠ []) : rowG (k + 1) w = w.take (longest w) :: rowG k (w.drop (longest w)) := by
  cases w with
  | nil => exact absurd rfl h
  | cons x w => rfl
theorem rowG_ok : ∀ (k : Nat) (w : List Int), w.length ≤ k → (rowG k w).flatten = w ∧ Row (rowG k w)
  | k, [], _ => by cases k <;> simp [rowG, Row]
  | 0, _ :: _, h => by simp at h
  | k + 1, x :: w, h => by
    have hne : (x :: w) ≠ [] := by simp
    obtain ⟨h1, h2⟩ := longest_ok hne
    obtain ⟨⟨h3, h4⟩, h5⟩ := fronts_mem.mp h1
    rw [rowG_cons hne]
    obtain ⟨i1, i2⟩ := rowG_ok k ((x :: w).drop (longest (x :: w))) (by rw [List.length_drop]; simp at h ⊢; omega)
    refine ⟨by rw [List.flatten_cons, i1, List.take_append_drop], h5, fun y hy => ?_, i2⟩
    cases e : ltI ((x :: w).take (longest (x :: w))) y with
    | false => rfl
    | true =>
      exfalso
      cases hr : rowG k ((x :: w).drop (longest (x :: w))) with
      | nil => rw [hr] at hy; cases hy
      | cons z r =>
        rw [hr] at hy i1 i2
        cases hy
        have hL := h5.app i2.1 e
        rw [List.flatten_cons] at i1
        have hp : (x :: w).take (longest (x :: w) + y.length) = (x :: w).take (longest (x :: w)) ++ y := by
          rw [List.take_add]
          congr 1
          rw [← i1]
          simp
        have hyl : 0 < y.length := List.length_pos_iff.mpr i2.1.1
        have hle : longest (x :: w) + y.length ≤ (x :: w).length := by
          have := congrArg List.length i1
          rw [List.length_append, List.length_drop] at this
          omega
        have := h2 (longest (x :: w) + y.length) (fronts_mem.mpr ⟨⟨by omega, hle⟩, by rw [hp]; exact hL⟩)
        omega
end DL
end

section
set_option Elab.async false
set_option linter.all false
set_option maxRecDepth 100000
set_option maxHeartbeats 4000000
/-! M5: cuts of a word; the layers ascend. -/
namespace DL
open PySem L2 Fz SrtO
def attach (x : Int) : List (List Int) → List (List Int)
  | [] => [[x]]
  | p :: ps => (x :: p) :: ps
/-- a word cut behind the places that f tells -/
def cutF (f : Nat → Bool) : Nat → List Int → List (List Int)
  | _, [] => []
  | i, x :: w => if w = [] then [[x]] else if f i then [x] :: cutF f (i + 1) w else attach x (cutF f (i + 1) w)
theorem cutF_ne {f : Nat → Bool} {i : Nat} {x : Int} {w : List Int} : ∃ y p ps, cutF f i (x :: w) = (y :: p) :: ps := by
  unfold cutF
  split
  · exact ⟨_, _, _, rfl⟩
  · split
    · exact ⟨_, _, _, rfl⟩
    · unfold attach
      split <;> exact ⟨_, _, _, rfl⟩
theorem cutF_flat {f : Nat → Bool} : ∀ {w : List Int} {i : Nat}, (cutF f i w).flatten = w
  | [], i => rfl
  | x :: w, i => by
    have ih := cutF_flat (f := f) (w := w) (i := i + 1)
    unfold cutF
    split
    · rename_i h; subst h; rfl
    · split
      · simp [ih]
      · cases w with
        | nil => exact absurd rfl (by assumption)
        | cons y w =>
          obtain ⟨z, p, ps, e⟩ := cutF_ne (f := f) (i := i + 1) (x := y) (w := w)
          rw [e] at ih ⊢
          simp only [attach, List.flatten_cons] at ih ⊢
          rw [← ih]; rfl
/-- each row of pieces is cut out by just one number of bits -/
theorem cut_one : ∀ {w : List Int} {i : Nat} {r : List (List Int)}, w ≠ [] → (∀ p ∈ r, p ≠ []) → r.flatten = w → ∃ m, m < 2 ^ (w.length - 1) ∧ ∀ f : Nat → Bool, cutF f i w = r ↔ ∀ j, j < w.length - 1 → f (i + j) = m.testBit j
  | [], _, _, h, _, _ => absurd rfl h
  | [x], i, r, _, hr, hf => by
    refine ⟨0, by simp, fun f => ⟨fun _ j hj => absurd hj (by simp), fun _ => ?_⟩⟩
    cases r with
    | nil => simp at hf
    | cons p ps =>
      have hp := hr p (by simp)
      cases p with
      | nil => exact absurd rfl hp
      | cons y p =>
        simp only [List.flatten_cons, List.cons_append, List.cons.injEq] at hf
        obtain ⟨rfl, hf⟩ := hf
        have h1 : p = [] := by cases p with | nil => rfl | cons _ _ => simp at hf
        subst h1
        cases ps with
        | nil => simp [cutF]
        | cons q qs =>
          have hq := hr q (by simp)
          cases q with
          | nil => exact absurd rfl hq
          | cons _ _ => simp at hf
  | x :: y :: w, i, r, _, hr, hf => by
    cases r with
    | nil => simp at hf
    | cons p ps =>
      have hp := hr p (by simp)
      cases p with
      | nil => exact absurd rfl hp
      | cons x' p =>
        simp only [List.flatten_cons, List.cons_append, List.cons.injEq] at hf
        obtain ⟨rfl, hf⟩ := hf
        have hne : (y :: w) ≠ [] := by simp
        have hl : (x' :: y :: w).length - 1 = ((y :: w).length - 1) + 1 := by simp
        have hpow : 2 ^ (((y :: w).length - 1) + 1) = 2 * 2 ^ ((y :: w).length - 1) := by rw [Nat.pow_succ, Nat.mul_comm]
        cases p with
        | nil =>
          obtain ⟨m, hm, h⟩ := cut_one (w := y :: w) (i := i + 1) (r := ps) hne (fun q hq => hr q (by simp [hq])) (by simpa using hf)
          refine ⟨2 * m + 1, by rw [hl, hpow]; omega, fun f => ?_⟩
          have e : cutF f i (x' :: y :: w) = [x'] :: ps ↔ f i = true ∧ cutF f (i + 1) (y :: w) = ps := by
            rw [cutF, if_neg hne]
            cases hfi : f i with
            | true => simp
            | false =>
              obtain ⟨z, q, qs, e2⟩ := cutF_ne (f := f) (i := i + 1) (x := y) (w := w)
              rw [e2]
              simp [attach]
          rw [e, h f, hl]
          constructor
          · rintro ⟨h0, h1⟩ j hj
            cases j with
            | zero => simp [h0]
            | succ j =>
              have := h1 j (by omega)
              rw [Nat.testBit_succ, show (2 * m + 1) / 2 = m by omega, ← this]
              congr 1; omega
          · intro h1
            refine ⟨?_, fun j hj => ?_⟩
            · have := h1 0 (by omega)
              simpa using this
            · have := h1 (j + 1) (by omega)
              rw [Nat.testBit_succ, show (2 * m + 1) / 2 = m by omega] at this
              rw [← this]
              congr 1; omega
        | cons z p =>
          obtain ⟨m, hm, h⟩ := cut_one (w := y :: w) (i := i + 1) (r := (z :: p) :: ps) hne (fun q hq => by
            rcases List.mem_cons.mp hq with rfl | hq
            · simp
            · exact hr q (by simp [hq])) (by simpa using hf)
          refine ⟨2 * m, by rw [hl, hpow]; omega, fun f => ?_⟩
          have e : cutF f i (x' :: y :: w) = (x' :: z :: p) :: ps ↔ f i = false ∧ cutF f (i + 1) (y :: w) = (z :: p) :: ps := by
            rw [cutF, if_neg hne]
            cases hfi : f i with
            | true => simp
            | false =>
              obtain ⟨z2, q, qs, e2⟩ := cutF_ne (f := f) (i := i + 1) (x := y) (w := w)
              rw [e2]
              simp [attach]
          rw [e, h f, hl]
          constructor
          · rintro ⟨h0, h1⟩ j hj
            cases j with
            | zero => simp [h0]
            | succ j =>
              have := h1 j (by omega)
              rw [Nat.testBit_succ, show (2 * m) / 2 = m by omega, ← this]
              congr 1; omega
          · intro h1
            refine ⟨?_, fun j hj => ?_⟩
            · have := h1 0 (by omega)
              simpa using this
            · have := h1 (j + 1) (by omega)
              rw [Nat.testBit_succ, show (2 * m) / 2 = m by omega] at this
              rw [← this]
              congr 1; omega
theorem filter_one {n m : Nat} {p : Nat → Bool} (hm : m < n) (h : ∀ b, b < n → (p b = true ↔ b = m)) : (List.range n).filter p = [m] := by
  induction n with
  | zero => omega
  | succ n ih =>
    rw [List.range_succ, List.filter_append]
    by_cases e : m = n
    · subst e
      have h0 : (List.range m).filter p = [] := List.filter_eq_nil_iff.mpr fun b hb => by
        have hb := List.mem_range.mp hb
        intro q
        have := (h b (by omega)).mp q
        omega
      have : p m = true := (h m (by omega)).mpr rfl
      rw [h0]
      simp [this]
    · rw [ih (by omega) fun b hb => h b (by omega)]
      have : p n = false := by
        cases q : p n with
        | false => rfl
        | true => exact absurd ((h n (by omega)).mp q).symm e
      simp [this]
/-- of all cuts of a word just one is a given row -/
theorem cuts_row {w : List Int} {r : List (List Int)} {q : List (List Int) → Bool} (hr : ∀ p ∈ r, p ≠ []) (hf : r.flatten = w) (hq : ∀ c, c.flatten = w → (q c = true ↔ c = r)) :
    ((List.range (2 ^ (w.length - 1))).map fun b => cutF (fun j => b.testBit j) 0 w).filter q = [r] := by
  cases w with
  | nil =>
    have e : r = [] := by
      cases r with
      | nil => rfl
      | cons p ps =>
        have := hr p (by simp)
        simp at hf
        exact absurd hf.1 this
    subst e
    have : q [] = true := (hq [] rfl).mpr rfl
    simp [cutF, this]
  | cons x w =>
    obtain ⟨m, hm, h⟩ := cut_one (w := x :: w) (i := 0) (r := r) (by simp) hr hf
    rw [List.filter_map, filter_one (m := m) hm fun b hb => ?_]
    · have := (h fun j => m.testBit j).mpr fun j _ => by simp
      simp [this]
    · show q _ = true ↔ _
      rw [hq _ cutF_flat, h]
      constructor
      · intro g
        refine Nat.eq_of_testBit_eq fun j => ?_
        by_cases hj : j < (x :: w).length - 1
        · simpa using g j hj
        · have p : 2 ^ ((x :: w).length - 1) ≤ 2 ^ j := Nat.pow_le_pow_right (by decide) (by omega)
          rw [Nat.testBit_lt_two_pow (by omega), Nat.testBit_lt_two_pow (by omega)]
      · rintro rfl j _
        simp
/-! the layers ascend -/
theorem ltI_snoc {a : List Int} {i j : Int} (h : i < j) : ltI (a ++ [i]) (a ++ [j]) = true := by
  rw [ltI_pre]
  have : ¬ i = j := by omega
  simp [ltI, this, h]
theorem ltI_same {a b u v : List Int} (hl : a.length = b.length) (h : ltI a b = true) : ltI (a ++ u) (b ++ v) = true :=
  ltI_app u v h fun z => by
    have := z.eq_of_length hl
    subst this
    rw [ltI_irr] at h; cases h
theorem layW_asc {k : Nat} : ∀ {n : Nat}, (layW k n).Pairwise fun a b => ltI a b = true
  | 0 => by simp [layW]
  | n + 1 => by
    rw [layW, List.pairwise_flatMap]
    refine ⟨fun a _ => ?_, ?_⟩
    · unfold ext1
      rw [List.pairwise_map]
      refine List.pairwise_lt_range.imp fun h => ?_
      exact ltI_snoc (by omega)
    · refine List.Pairwise.imp_of_mem (fun {a b} ha hb h => ?_) (layW_asc (n := n))
      intro x hx y hy
      obtain ⟨i, _, rfl⟩ := List.mem_map.mp hx
      obtain ⟨j, _, rfl⟩ := List.mem_map.mp hy
      exact ltI_same ((layW_mem.mp ha).1.trans (layW_mem.mp hb).1.symm) h
theorem strict_uniq : ∀ {a b : List (List Int)}, (a.Pairwise fun x y => ltI x y = true) → (b.Pairwise fun x y => ltI x y = true) → (∀ x, x ∈ a ↔ x ∈ b) → a = b
  | [], [], _, _, _ => rfl
  | [], y :: b, _, _, h => absurd ((h y).mpr (by simp)) (by simp)
  | x :: a, [], _, _, h => absurd ((h x).mp (by simp)) (by simp)
  | x :: a, y :: b, ha, hb, h => by
    obtain ⟨a1, a2⟩ := List.pairwise_cons.mp ha
    obtain ⟨b1, b2⟩ := List.pairwise_cons.mp hb
    have e : x = y := by
      rcases List.mem_cons.mp ((h x).mp (by simp)) with e | hx
      · exact e
      · rcases List.mem_cons.mp ((h y).mpr (by simp)) with e | hy
        · exact e.symm
        · have p := a1 y hy
          have q := b1 x hx
          rw [ltI_asym q] at p; cases p
    subst e
    have ne : ∀ {l : List (List Int)}, (∀ z ∈ l, ltI x z = true) → x ∉ l := fun g z => by
      have := g x z
      rw [ltI_irr] at this; cases this
    rw [strict_uniq a2 b2 fun z => ?_]
    constructor
    · intro hz
      rcases List.mem_cons.mp ((h z).mp (by simp [hz])) with e | q
      · subst e; exact absurd hz (ne a1)
      · exact q
    · intro hz
      rcases List.mem_cons.mp ((h z).mpr (by simp [hz])) with e | q
      · subst e; exact absurd hz (ne b1)
      · exact q
theorem strict_nodup {a : List (List Int)} (h : a.Pairwise fun x y => ltI x y = true) : a.Nodup :=
  h.imp fun {x y} h e => by subst e; rw [ltI_irr] at h; cases h
theorem allW_nodup {k : Nat} : ∀ {n : Nat}, (allW k n).Nodup
  | 0 => by simp [allW]
  | n + 1 => by
    rw [allW, List.nodup_append]
    refine ⟨allW_nodup, strict_nodup layW_asc, fun a ha b hb e => ?_⟩
    have h1 := (allW_mem.mp ha).1
    have h2 := (layW_mem.mp hb).1
    rw [e] at h1; omega
theorem sortW_strict {ws : List (List Int)} (h : ws.Nodup) : (sortW ws).Pairwise fun x y => ltI x y = true := by
  obtain ⟨s, t⟩ := sortG_ok ltW_swo ws
  have nd : (sortW ws).Nodup := t.perm.nodup_iff.mpr h
  refine List.Pairwise.imp (R := fun x y => x ≠ y ∧ ltW y x = false) (fun {x y} g => ?_) (nd.and s)
  obtain ⟨g1, g2⟩ := g
  rw [ltW_I] at g2
  cases e : ltI x y with
  | true => rfl
  | false => exact absurd (ltI_tri e g2) g1
/-- the words of a length, out of all the sorted ones -/
theorem lay_sorted {k n : Nat} {q : List Int → Bool} : (sortW (allW k n)).filter (fun w => decide (w.length = n) && q w) = (layW k n).filter q := by
  refine strict_uniq ((sortW_strict allW_nodup).filter _) (layW_asc.filter _) fun w => ?_
  rw [List.mem_filter, List.mem_filter, sortW_mem, allW_mem, layW_mem, Bool.and_eq_true, decide_eq_true_eq]
  constructor
  · rintro ⟨⟨_, h2⟩, h3, h4⟩; exact ⟨⟨h3, h2⟩, h4⟩
  · rintro ⟨⟨h1, h2⟩, h3⟩; exact ⟨⟨by omega, h2⟩, h1, h3⟩
/-! rows, looked at -/
def rowB (r : List (List Int)) : Bool := r.all lynB && (List.range (r.length - 1)).all fun i => !ltI (r.getD i []) (r.getD (i + 1) [])
theorem row_at : ∀ {r : List (List Int)}, Row r ↔ (∀ l ∈ r, Lyn l) ∧ ∀ i, i + 1 < r.length → ltI (r.getD i []) (r.getD (i + 1) []) = false
  | [] => by simp [Row]
  | l :: r => by
    rw [Row, row_at (r := r)]
    constructor
    · rintro ⟨h1, h2, h3, h4⟩
      refine ⟨fun x hx => ?_, fun i hi => ?_⟩
      · rcases List.mem_cons.mp hx with rfl | hx
        · exact h1
        · exact h3 x hx
      · cases i with
        | zero =>
          cases r with
          | nil => simp at hi
          | cons y r => simpa using h2 y rfl
        | succ i =>
          have := h4 i (by simp at hi; omega)
          simpa using this
    · rintro ⟨h1, h2⟩
      refine ⟨h1 l (by simp), fun x hx => ?_, fun x hx => h1 x (by simp [hx]), fun i hi => ?_⟩
      · cases r with
        | nil => cases hx
        | cons y r =>
          cases hx
          simpa using h2 0 (by simp)
      · have := h2 (i + 1) (by simp; omega)
        simpa using this
theorem rowB_iff {r : List (List Int)} : rowB r = true ↔ Row r := by
  unfold rowB
  rw [row_at, Bool.and_eq_true, List.all_eq_true, List.all_eq_true]
  refine and_congr ⟨fun h l hl => lynB_iff.mp (h l hl), fun h l hl => lynB_iff.mpr (h l hl)⟩ ⟨fun h i hi => ?_, fun h i hi => ?_⟩
  · simpa using h i (List.mem_range.mpr (by omega))
  · have := List.mem_range.mp hi
    simpa using h i (by omega)
theorem row_of_flat {r : List (List Int)} {w : List Int} (hr : Row r) (hf : r.flatten = w) : r = rowG w.length w := by
  obtain ⟨h1, h2⟩ := rowG_ok w.length w (Nat.le_refl _)
  exact row_uniq hr h2 (hf.trans h1.symm)
/-- a word is a leader exactly if its row has one -/
theorem lyn_row {w : List Int} : lynB w = decide ((rowG w.length w).length = 1) := by
  obtain ⟨h1, h2⟩ := rowG_ok w.length w (Nat.le_refl _)
  by_cases h : Lyn w
  · have : [w] = rowG w.length w := row_of_flat (r := [w]) (by simp [Row, h]) (by simp)
    rw [← this, lynB_iff.mpr h]; rfl
  · have e : lynB w = false := by
      cases q : lynB w with
      | false => rfl
      | true => exact absurd (lynB_iff.mp q) h
    rw [e]
    symm
    rw [decide_eq_false_iff_not]
    intro hl
    match hg : rowG w.length w, hl with
    | [l], _ =>
      rw [hg] at h1 h2
      simp at h1
      subst h1
      exact h h2.1
end DL
end

section
set_option Elab.async false
set_option linter.all false
set_option maxRecDepth 100000
set_option maxHeartbeats 4000000
/-! dens, new with k19 -/
namespace DL
open PySem L2 Fz
/-- slots: 0 well, 1 product, 2 found, 3 atom, 4 some, 5 turn, 6 letters, 7 at, 8 letter -/
noncomputable def b__law_filled : FS → SRes :=
 fSeq (fSet 2 (fLst (fC [])))
        (fSeq (fFor (fItems (fVar 1)) (gN 3) (fSeq (fSet 4 (fLst (fC [])))
        (fSeq (fIf (fT (fOp pEq (fOpN pIx 3 (fC (.int 0))) (fC (.str "any")))) (fFor (fRange1 (fFrz (fCallP d__law_take 2 (fAS 0 (fAD (fC (.int 3)) (fC [])))))) (gN 5) (fSeq (fSet 6 (fLc (fItems (fOpN pIx 3 (fC (.int 1)))) (gN 8) (fT (fOp pEq (fFrz (fCallP d__law_take 2 (fAS 0 (fAD (fC (.int 2)) (fC []))))) (fC (.int 0)))) (fVar 8) [8]))
        (fAppend 4 (fIte (fT (fOpN pNe 6 (fFrz (fLst (fC []))))) (fTup (fCons (fC (.str "any")) (fCons (fCall (one pTuple) (fCons (fPeek 6) (fC []))) (fC [])))) (fTup (fCons (fC (.str "one")) (fCons (fOp pIx (fOpN pIx 3 (fC (.int 1))) (fFrz (fCallP d__law_take 2 (fAS 0 (fAD (fCall (one pLen) (fCons (fOpN pIx 3 (fC (.int 1))) (fC []))) (fC [])))))) (fC [])))))))) (fun S => .nx S))
        (fSeq (fSet 7 (fCallP d__law_take 2 (fAS 0 (fAD (fFrz (fOp pAdd (fCall (one pLen) (fCons (fPeek 4) (fC []))) (fC (.int 1)))) (fC [])))))
        (fSet 2 (fOp pAdd (fFrz (fOp pAdd (fFrz (fOpN pAdd 2 (fFrz (fSlN 4 (fC none) (fPart (fVar 7)))))) (fFrz (fLst (fCons (fVar 3) (fC [])))))) (fFrz (fSlN 4 (fPart (fVar 7)) (fC none)))))))))
        (fRetD (fCall (one pTuple) (fCons (fPeek 2) (fC [])))))
@[irreducible] noncomputable def d__law_filled : Den := denOf 9 b__law_filled
/-- slots: 0 value -/
noncomputable def b_check_natural : FS → SRes :=
 fIf (fNotT (fTru (fFrz (fCallP d_is_natural 1 (fAD (fVar 0) (fC [])))))) (fun _ => .bad) (fun S => .nx S)
@[irreducible] noncomputable def d_check_natural : Den := denOf 1 b_check_natural
/-- slots: 0 product, 1 many, 2 found, 3 sort, 4 told -/
noncomputable def b_long_word : FS → SRes :=
 fSeq (fDrop (fCallP d_check_product 2 (fAD (fC (.int 3)) (fAD (fVar 0) (fC [])))))
        (fSeq (fDrop (fCallP d_check_natural 1 (fAD (fVar 1) (fC []))))
        (fSeq (fSetD 2 (fTup (fC [])))
        (fSeq (fFor (fItems (fVar 0)) (gTp 2 (gCs (gN 3) (gCs (gN 4) (gNl)))) (fAug .d 2 pAug (fIte (fT (fOpN pEq 3 (fC (.str "one")))) (fTup (fCons (fVar 4) (fC []))) (fFrz (fOpN pMulG 4 (fPeek 1))))))
        (fRetD (fVar 2)))))
@[irreducible] noncomputable def d_long_word : Den := denOf 5 b_long_word
/-- slots: 0 one, 1 other, 2 found, 3 at, 4 atom -/
noncomputable def b_placed_in : FS → SRes :=
 fSeq (fPars [2, 3] (fConsV (fLst (fC [])) (fConsV (fV (fC (.int 0))) (fC []))))
        (fSeq (fFor (fItems (fVar 0)) (gN 4) (fSeq (whileF (fAndT (fT (fOpN pLt 3 (fCall (one pLen) (fCons (fPeek 1) (fC []))))) (fNotT (fTru (fFrz (fCallP d_fits 2 (fAD (fVar 4) (fAD (fOpN pIx 1 (fVar 3)) (fC [])))))))) (fAug .d 3 (pInt fun i j => some (i + j)) (fC (.int 1))))
        (fSeq (fIf (fT (fOpN pEq 3 (fCall (one pLen) (fCons (fPeek 1) (fC []))))) (fRetD (fC .none)) (fun S => .nx S))
        (fSeq (fAppend 2 (fVar 3))
        (fIf (fT (fOp pEq (fOp pIx (fOpN pIx 1 (fVar 3)) (fC (.int 0))) (fC (.str "one")))) (fAug .d 3 (pInt fun i j => some (i + j)) (fC (.int 1))) (fun S => .nx S))))))
        (fRetD (fCall (one pTuple) (fCons (fPeek 2) (fC [])))))
@[irreducible] noncomputable def d_placed_in : Den := denOf 5 b_placed_in
/-- slots: 0 one, 1 other -/
noncomputable def b_placing : FS → SRes :=
 fSeq (fDrop (fCallP d_check_product 2 (fAD (fC (.int 3)) (fAD (fVar 0) (fC [])))))
        (fSeq (fDrop (fCallP d_check_product 2 (fAD (fC (.int 3)) (fAD (fVar 1) (fC [])))))
        (fRet (fCallP d_placed_in 2 (fAD (fVar 0) (fAD (fVar 1) (fC []))))))
@[irreducible] noncomputable def d_placing : Den := denOf 2 b_placing
/-- slots: 0 script, 1 at, 2 well, 3 turn, 4 k, 5 one, 6 other, 7 place, 8 words, 9 told -/
noncomputable def b_law19 : FS → SRes :=
 fSeq (fFor (fRange1 (fCall (two pMax2) (fCons (fC (.int 1)) (fCons (fCall (two pMin2) (fCons (fC (.int 2)) (fCons (fCall (one pLen) (fCons (fPeek 0) (fC []))) (fC [])))) (fC []))))) (gN 1) (fSeq (fSet 2 (fCallP d__law_well 2 (fAD (fVar 0) (fAD (fVar 1) (fC [])))))
        (fFor (fRange1 (fC (.int 5))) (gN 3) (fSeq (fSet 4 (fOp pAdd (fC (.int 1)) (fFrz (fCallP d__law_take 2 (fAS 2 (fAD (fC (.int 3)) (fC [])))))))
        (fSeq (fSet 5 (fCallP d_reduced 2 (fAD (fVar 4) (fAD (fFrz (fCallP d__law_atoms 3 (fAS 2 (fAD (fVar 4) (fAD (fC (.int 4)) (fC [])))))) (fC [])))))
        (fSeq (fIf (fNotT (fTru (fFrz (fCallP (d__law_same 24) 2 (fAD (fFrz (fCallP d_reduced 2 (fAD (fVar 4) (fAD (fFrz (fCallP d__law_filled 2 (fAS 2 (fAD (fVar 5) (fC []))))) (fC []))))) (fAD (fVar 5) (fC []))))))) (fRetD (fC (.bool false))) (fun S => .nx S))
        (fSeq (fSet 6 (fCallP d_reduced 2 (fAD (fVar 4) (fAD (fFrz (fCallP d__law_atoms 3 (fAS 2 (fAD (fVar 4) (fAD (fC (.int 4)) (fC [])))))) (fC [])))))
        (fSeq (fIf (fAndT (fT (fOpN pNe 5 (fTup (fC [])))) (fT (fOp pEq (fFrz (fCallP d__law_take 2 (fAS 2 (fAD (fC (.int 2)) (fC []))))) (fC (.int 0))))) (fSeq (fSet 7 (fCallP d__law_take 2 (fAS 2 (fAD (fCall (one pLen) (fCons (fPeek 5) (fC []))) (fC [])))))
        (fSet 6 (fCallP d_reduced 2 (fAD (fVar 4) (fAD (fFrz (fOp pAdd (fFrz (fOp pAdd (fFrz (fSlN 5 (fC none) (fPart (fVar 7)))) (fFrz (fCallP d__law_atoms 3 (fAS 2 (fAD (fVar 4) (fAD (fC (.int 1)) (fC [])))))))) (fFrz (fSlN 5 (fPart (fFrz (fOpN pAdd 7 (fC (.int 1))))) (fC none))))) (fC [])))))) (fun S => .nx S))
        (fSeq (fSet 8 (fLst (fCons (fFrz (fCallP d_long_word 2 (fAD (fVar 5) (fAD (fFrz (fOp pAdd (fOp pMul (fC (.int 2)) (fCall (one pLen) (fCons (fPeek 6) (fC [])))) (fC (.int 1)))) (fC []))))) (fCons (fFrz (fCallP d_long_word 2 (fAD (fVar 6) (fAD (fFrz (fOp pAdd (fOp pMul (fC (.int 2)) (fCall (one pLen) (fCons (fPeek 5) (fC [])))) (fC (.int 1)))) (fC []))))) (fC [])))))
        (fSeq (fSet 9 (fLst (fCons (fFrz (fCallP d_product_has 2 (fAD (fVar 6) (fAD (fOpN pIx 8 (fC (.int 0))) (fC []))))) (fCons (fFrz (fCallP d_product_has 2 (fAD (fVar 5) (fAD (fOpN pIx 8 (fC (.int 1))) (fC []))))) (fC [])))))
        (fSeq (fIf (fNotT (fTru (fFrz (fCallP (d__law_same 24) 2 (fAD (fFrz (fLst (fCons (fOp pIsNotB (fFrz (fCallP d_placing 2 (fAD (fVar 5) (fAD (fVar 6) (fC []))))) (fC .none)) (fCons (fOp pIsNotB (fFrz (fCallP d_placing 2 (fAD (fVar 6) (fAD (fVar 5) (fC []))))) (fC .none)) (fC []))))) (fAD (fVar 9) (fC []))))))) (fRetD (fC (.bool false))) (fun S => .nx S))
        (fIf (fT (fOp pNe (fOpN pEq 9 (fFrz (fLst (fCons (fC (.bool true)) (fCons (fC (.bool true)) (fC [])))))) (fOpN pEq 5 (fPeek 6)))) (fRetD (fC (.bool false))) (fun S => .nx S)))))))))))))
        (fRetD (fC (.bool true)))
@[irreducible] noncomputable def d_law19 : Den := denOf 10 b_law19
end DL
end

section
set_option Elab.async false
set_option linter.all false
set_option maxRecDepth 100000
set_option maxHeartbeats 4000000
/-! dens, new with k15 -/
namespace DL
open PySem L2 Fz
/-- slots: 0 well, 1 k, 2 atoms, 3 odd -/
noncomputable def b__law_bent : FS → SRes :=
 fSeq (fSet 3 (fLst (fCons (fC .none) (fCons (fFrz (fCall (one pList) (fCons (fPeek 2) (fC [])))) (fCons (fFrz (fOpN pAdd 2 (fTup (fCons (fC .none) (fC []))))) (fCons (fFrz (fOpN pAdd 2 (fTup (fCons (fTup (fCons (fC (.str "one")) (fCons (fVar 1) (fC [])))) (fC []))))) (fCons (fFrz (fOpN pAdd 2 (fTup (fCons (fTup (fCons (fC (.str "any")) (fCons (fTup (fC [])) (fC [])))) (fC []))))) (fCons (fFrz (fOpN pAdd 2 (fTup (fCons (fTup (fCons (fC (.str "any")) (fCons (fTup (fCons (fVar 1) (fC []))) (fC [])))) (fC []))))) (fCons (fFrz (fOpN pAdd 2 (fTup (fCons (fTup (fCons (fC (.str "one")) (fCons (fTup (fCons (fC (.int 0)) (fC []))) (fC [])))) (fC []))))) (fC []))))))))))
        (fSeq (fSet 3 (fOpN pAdd 3 (fFrz (fLst (fCons (fFrz (fOpN pAdd 2 (fTup (fCons (fTup (fCons (fC (.str "any")) (fCons (fC (.int 0)) (fC [])))) (fC []))))) (fCons (fFrz (fOpN pAdd 2 (fTup (fCons (fTup (fCons (fC (.str "some")) (fCons (fC (.int 0)) (fC [])))) (fC []))))) (fCons (fFrz (fOpN pAdd 2 (fTup (fCons (fFrz (fLst (fCons (fC (.str "one")) (fCons (fC (.int 0)) (fC []))))) (fC []))))) (fCons (fFrz (fOpN pAdd 2 (fTup (fCons (fTup (fCons (fC (.str "one")) (fCons (fC (.bool true)) (fC [])))) (fC []))))) (fCons (fFrz (fOpN pAdd 2 (fTup (fCons (fTup (fCons (fC (.str "any")) (fCons (fFrz (fLst (fCons (fC (.int 0)) (fC [])))) (fC [])))) (fC []))))) (fC []))))))))))
        (fSeq (fSet 3 (fOpN pAdd 3 (fFrz (fLst (fCons (fFrz (fOpN pAdd 2 (fTup (fCons (fTup (fCons (fC (.str "any")) (fCons (fTup (fCons (fC (.int 0)) (fCons (fC (.int 0)) (fC [])))) (fC [])))) (fC []))))) (fCons (fFrz (fOpN pAdd 2 (fTup (fCons (fTup (fCons (fC (.str "one")) (fC []))) (fC []))))) (fCons (fFrz (fOpN pAdd 2 (fTup (fCons (fTup (fCons (fC (.str "one")) (fCons (fC (.int 0)) (fCons (fC (.int 0)) (fC []))))) (fC []))))) (fCons (fTup (fCons (fTup (fCons (fC (.str "any")) (fCons (fTup (fCons (fC (.int 0)) (fC []))) (fC [])))) (fCons (fTup (fCons (fC (.str "one")) (fCons (fC (.int 0)) (fC [])))) (fC [])))) (fCons (fTup (fCons (fTup (fCons (fC (.str "any")) (fCons (fTup (fCons (fC (.int 0)) (fC []))) (fC [])))) (fCons (fTup (fCons (fC (.str "any")) (fCons (fTup (fCons (fC (.int 0)) (fC []))) (fC [])))) (fC [])))) (fC []))))))))))
        (fSeq (fSet 3 (fOpN pAdd 3 (fFrz (fLst (fCons (fFrz (fOpN pAdd 2 (fTup (fCons (fTup (fCons (fC (.int 0)) (fCons (fC (.str "one")) (fC [])))) (fC []))))) (fCons (fC (.str "product")) (fCons (fTup (fCons (fC (.str "one")) (fCons (fC (.int 0)) (fC [])))) (fC []))))))))
        (fRetD (fOpN pIx 3 (fFrz (fCallP d__law_take 2 (fAS 0 (fAD (fCall (one pLen) (fCons (fPeek 3) (fC []))) (fC []))))))))))
@[irreducible] noncomputable def d__law_bent : Den := denOf 4 b__law_bent
/-- slots: 0 star, 1 atom, 2 letter -/
noncomputable def b__law_takes_up : FS → SRes :=
 fRetD (fAndV (fOp pEq (fOpN pIx 0 (fC (.int 0))) (fC (.str "any"))) (fCall (one pAll) (fCons (fFrz (fLc (fItems (fFrz (fCallP d__law_letters 1 (fAD (fVar 1) (fC []))))) (gN 2) (fC true) (fOpN pIn 2 (fOpN pIx 0 (fC (.int 1)))) [2])) (fC []))))
@[irreducible] noncomputable def d__law_takes_up : Den := denOf 3 b__law_takes_up
/-- slots: 0 atoms, 1 found, 2 grown, 3 at, 4 ahead, 5 behind -/
noncomputable def b__law_reduced : FS → SRes :=
 fSeq (fPars [1, 2] (fConsV (fCall (one pList) (fCons (fPeek 0) (fC []))) (fConsV (fV (fC (.bool true))) (fC []))))
        (fSeq (whileF (fTru (fPeek 2)) (fSeq (fSetD 2 (fC (.bool false)))
        (fFor (fRange1 (fCall (one pLen) (fCons (fPeek 1) (fC [])))) (gN 3) (fSeq (fSetD 4 (fAndV (fOpN pGt 3 (fC (.int 0))) (fFrz (fCallP d__law_takes_up 2 (fAD (fOpN pIx 1 (fOpN pSub 3 (fC (.int 1)))) (fAD (fOpN pIx 1 (fVar 3)) (fC [])))))))
        (fSeq (fSetD 5 (fAndV (fOp pLt (fFrz (fOpN pAdd 3 (fC (.int 1)))) (fCall (one pLen) (fCons (fPeek 1) (fC [])))) (fFrz (fCallP d__law_takes_up 2 (fAD (fOpN pIx 1 (fFrz (fOpN pAdd 3 (fC (.int 1))))) (fAD (fOpN pIx 1 (fVar 3)) (fC [])))))))
        (fIf (fOrT (fTru (fPeek 4)) (fTru (fPeek 5))) (fSeq (fPars [1, 2] (fConsV (fOp pAdd (fFrz (fSlN 1 (fC none) (fPart (fVar 3)))) (fFrz (fSlN 1 (fPart (fFrz (fOpN pAdd 3 (fC (.int 1))))) (fC none)))) (fConsV (fV (fC (.bool true))) (fC []))))
        (fun S => .bk S)) (fun S => .nx S)))))))
        (fRetD (fCall (one pTuple) (fCons (fPeek 1) (fC [])))))
@[irreducible] noncomputable def d__law_reduced : Den := denOf 6 b__law_reduced
/-- slots: 0 k, 1 told -/
noncomputable def b_is_product : FS → SRes :=
 fSeq (fDrop (fCallP d_check_k 1 (fAD (fVar 0) (fC []))))
        (fRet (fCallP d_is_product_of 2 (fAD (fVar 0) (fAD (fVar 1) (fC [])))))
@[irreducible] noncomputable def d_is_product : Den := denOf 2 b_is_product
/-- slots: 0 script, 1 at, 2 well, 3 turn, 4 k, 5 atoms, 6 due, 7 kept, 8 told, 9 word, 10 held -/
noncomputable def b_law15 : FS → SRes :=
 fSeq (fFor (fRange1 (fCall (two pMax2) (fCons (fC (.int 1)) (fCons (fCall (two pMin2) (fCons (fC (.int 2)) (fCons (fCall (one pLen) (fCons (fPeek 0) (fC []))) (fC [])))) (fC []))))) (gN 1) (fSeq (fSet 2 (fCallP d__law_well 2 (fAD (fVar 0) (fAD (fVar 1) (fC [])))))
        (fFor (fRange1 (fC (.int 6))) (gN 3) (fSeq (fSet 4 (fOp pAdd (fC (.int 1)) (fFrz (fCallP d__law_take 2 (fAS 2 (fAD (fC (.int 3)) (fC [])))))))
        (fSeq (fSet 5 (fCallP d__law_atoms 3 (fAS 2 (fAD (fVar 4) (fAD (fC (.int 6)) (fC []))))))
        (fSeq (fPars [6, 7] (fConsV (fCallP d__law_reduced 1 (fAD (fVar 5) (fC []))) (fConsV (fV (fCall (one pRepr) (fCons (fPeek 5) (fC [])))) (fC []))))
        (fSeq (fSet 8 (fLst (fCons (fFrz (fCallP d_reduced 2 (fAD (fVar 4) (fAD (fVar 5) (fC []))))) (fCons (fFrz (fCallK d_reduced 2 0 2 [1, 0] (fC []) (fAD (fVar 5) (fAD (fVar 4) (fC []))))) (fCons (fFrz (fRev (fFrz (fCallP d__law_reduced 1 (fAD (fFrz (fRev (fPeek 5))) (fC [])))))) (fCons (fFrz (fCallP d_reduced 2 (fAD (fVar 4) (fAD (fVar 6) (fC []))))) (fC [])))))))
        (fSeq (fIf (fOrT (fNotT (fTru (fFrz (fCallP (d__law_same 24) 2 (fAD (fVar 8) (fAD (fFrz (fOp pMulS (fFrz (fLst (fCons (fVar 6) (fC [])))) (fC (.int 4)))) (fC []))))))) (fT (fOp pNe (fCall (one pRepr) (fCons (fPeek 5) (fC []))) (fPeek 7)))) (fRetD (fC (.bool false))) (fun S => .nx S))
        (fSeq (fSet 8 (fLst (fCons (fFrz (fCallP d_is_product 2 (fAD (fVar 4) (fAD (fVar 6) (fC []))))) (fCons (fFrz (fCallK d_is_product 2 0 2 [1, 0] (fC []) (fAD (fVar 5) (fAD (fVar 4) (fC []))))) (fCons (fFrz (fCallP d_is_product 2 (fAD (fVar 4) (fAD (fFrz (fCallP d__law_bent 3 (fAS 2 (fAD (fVar 4) (fAD (fVar 5) (fC [])))))) (fC []))))) (fC []))))))
        (fSeq (fIf (fNotT (fTru (fFrz (fCallP (d__law_same 24) 2 (fAD (fVar 8) (fAD (fFrz (fLst (fCons (fC (.bool true)) (fCons (fOpN pEq 6 (fPeek 5)) (fCons (fC (.bool false)) (fC [])))))) (fC []))))))) (fRetD (fC (.bool false))) (fun S => .nx S))
        (fFor (fItems (fFrz (fCallP d__law_all 2 (fAD (fVar 4) (fAD (fOp pIx (fFrz (fLst (fCons (fC (.int 0)) (fCons (fC (.int 7)) (fCons (fC (.int 5)) (fCons (fC (.int 3)) (fC []))))))) (fVar 4)) (fC [])))))) (gN 9) (fSeq (fSet 10 (fCallP d__law_has 2 (fAD (fVar 5) (fAD (fVar 9) (fC [])))))
        (fIf (fNotT (fTru (fFrz (fCallP (d__law_same 24) 2 (fAD (fFrz (fLst (fCons (fFrz (fCallP d_product_has 2 (fAD (fVar 6) (fAD (fVar 9) (fC []))))) (fCons (fFrz (fCallP d__law_has 2 (fAD (fVar 6) (fAD (fVar 9) (fC []))))) (fC []))))) (fAD (fFrz (fLst (fCons (fVar 10) (fCons (fVar 10) (fC []))))) (fC []))))))) (fRetD (fC (.bool false))) (fun S => .nx S))))))))))))))
        (fRetD (fC (.bool true)))
@[irreducible] noncomputable def d_law15 : Den := denOf 11 b_law15
end DL
end

section
set_option Elab.async false
set_option linter.all false
set_option maxRecDepth 100000
set_option maxHeartbeats 4000000
/-! dens, new with k03 -/
namespace DL
open PySem L2 Fz
/-- slots: 0 one, 1 other, 2 left, 3 at -/
noncomputable def b__law_strewn : FS → SRes :=
 fSeq (fSetD 2 (fCall (one pLen) (fCons (fPeek 0) (fC []))))
        (fSeq (fFor (fRange1 (fCall (one pLen) (fCons (fPeek 1) (fC [])))) (gN 3) (fIf (fAndT (fT (fOpN pGt 2 (fC (.int 0)))) (fT (fOp pEq (fOpN pIx 1 (fOp pSub (fOp pSub (fCall (one pLen) (fCons (fPeek 1) (fC []))) (fC (.int 1))) (fPeek 3))) (fOpN pIx 0 (fOpN pSub 2 (fC (.int 1))))))) (fSetD 2 (fOpN pSub 2 (fC (.int 1)))) (fun S => .nx S)))
        (fRetD (fOpN pEq 2 (fC (.int 0)))))
@[irreducible] noncomputable def d__law_strewn : Den := denOf 4 b__law_strewn
/-- slots: 0 words, 1 found, 2 word, 3 other -/
noncomputable def b__law_base : FS → SRes :=
 fSeq (fSet 1 (fDNew))
        (fSeq (fFor (fItems (fVar 0)) (gN 2) (fIf (fNotT (fTru (fCall (one pAny) (fCons (fFrz (fLc (fItems (fVar 0)) (gN 3) (fC true) (fAndV (fOpN pNe 3 (fPeek 2)) (fFrz (fCallP d__law_strewn 2 (fAD (fVar 3) (fAD (fVar 2) (fC [])))))) [3])) (fC []))))) (fDPut 1 (fC (.bool true)) (fVar 2)) (fun S => .nx S)))
        (fRetD (fCall (one pTuple) (fCons (fFrz (fSortDic 1)) (fC [])))))
@[irreducible] noncomputable def d__law_base : Den := denOf 4 b__law_base
/-- slots: 0 well, 1 k, 2 found, 3 turn, 4 way, 5 one, 6 letter -/
noncomputable def b__law_list : FS → SRes :=
 fSeq (fSet 2 (fLst (fC [])))
        (fSeq (fFor (fRange1 (fFrz (fCallP d__law_take 2 (fAS 0 (fAD (fC (.int 8)) (fC [])))))) (gN 3) (fSeq (fSet 4 (fCallP d__law_take 2 (fAS 0 (fAD (fC (.int 4)) (fC [])))))
        (fIf (fAndT (fT (fOpN pEq 4 (fC (.int 0)))) (fT (fOpN pNe 2 (fFrz (fLst (fC [])))))) (fAppend 2 (fOpN pIx 2 (fFrz (fCallP d__law_take 2 (fAS 0 (fAD (fCall (one pLen) (fCons (fPeek 2) (fC []))) (fC []))))))) (fIf (fAndT (fT (fOpN pEq 4 (fC (.int 1)))) (fT (fOpN pNe 2 (fFrz (fLst (fC [])))))) (fSeq (fSetD 5 (fOpN pIx 2 (fFrz (fCallP d__law_take 2 (fAS 0 (fAD (fCall (one pLen) (fCons (fPeek 2) (fC []))) (fC [])))))))
        (fAppend 2 (fCall (one pTuple) (fCons (fFrz (fLc (fItems (fVar 5)) (gN 6) (fT (fOp pEq (fFrz (fCallP d__law_take 2 (fAS 0 (fAD (fC (.int 2)) (fC []))))) (fC (.int 0)))) (fVar 6) [6])) (fC []))))) (fAppend 2 (fFrz (fCallP d__law_word 3 (fAS 0 (fAD (fVar 1) (fAD (fC (.int 5)) (fC [])))))))))))
        (fRetD (fVar 2)))
@[irreducible] noncomputable def d__law_list : Den := denOf 7 b__law_list
/-- slots: 0 word -/
noncomputable def b_word_key : FS → SRes :=
 fRetD (fTup (fCons (fCall (one pLen) (fCons (fPeek 0) (fC []))) (fCons (fVar 0) (fC []))))
@[irreducible] noncomputable def d_word_key : Den := denOf 1 b_word_key
/-- slots: 0 words, 1 kept, 2 word, 3 less -/
noncomputable def b_least_of_words : FS → SRes :=
 fSeq (fSet 1 (fLst (fC [])))
        (fSeq (fFor (fItems (fFrz (fSortK d_word_key (fPeek 0)))) (gN 2) (fIf (fNotT (fTru (fThawD 1 (fAny true (fItems (fVar 1)) (gN 3) (fC true) (fFrz (fCallP d_strewn_in 2 (fAD (fVar 3) (fAD (fVar 2) (fC []))))) [3])))) (fAppend 1 (fVar 2)) (fun S => .nx S)))
        (fRetD (fCall (one pTuple) (fCons (fFrz (fCall (one pSorted) (fCons (fPeek 1) (fC [])))) (fC [])))))
@[irreducible] noncomputable def d_least_of_words : Den := denOf 4 b_least_of_words
/-- slots: 0 words, 1 word -/
noncomputable def b_least_words : FS → SRes :=
 fSeq (fIf (fOrT (fNotT (fTru (fIsi2 "list" "tuple" (fPeek 0)))) (fNotT (fTru (fAny false (fItems (fVar 0)) (gN 1) (fC true) (fFrz (fCallP d_is_word_of 2 (fAD (fC (.int 3)) (fAD (fVar 1) (fC []))))) [1])))) (fun _ => .bad) (fun S => .nx S))
        (fRet (fCallP d_least_of_words 1 (fAD (fVar 0) (fC []))))
@[irreducible] noncomputable def d_least_words : Den := denOf 2 b_least_words
/-- slots: 0 script, 1 at, 2 well, 3 turn, 4 k, 5 words, 6 due, 7 kept, 8 told, 9 one, 10 word, 11 other -/
noncomputable def b_law03 : FS → SRes :=
 fSeq (fFor (fRange1 (fCall (two pMax2) (fCons (fC (.int 1)) (fCons (fCall (two pMin2) (fCons (fC (.int 2)) (fCons (fCall (one pLen) (fCons (fPeek 0) (fC []))) (fC [])))) (fC []))))) (gN 1) (fSeq (fSet 2 (fCallP d__law_well 2 (fAD (fVar 0) (fAD (fVar 1) (fC [])))))
        (fFor (fRange1 (fC (.int 4))) (gN 3) (fSeq (fSet 4 (fOp pAdd (fC (.int 1)) (fFrz (fCallP d__law_take 2 (fAS 2 (fAD (fC (.int 3)) (fC [])))))))
        (fSeq (fSet 5 (fCallP d__law_list 2 (fAS 2 (fAD (fVar 4) (fC [])))))
        (fSeq (fPars [6, 7] (fConsV (fCallP d__law_base 1 (fAD (fVar 5) (fC []))) (fConsV (fV (fCall (one pRepr) (fCons (fPeek 5) (fC [])))) (fC []))))
        (fSeq (fSet 8 (fLst (fCons (fFrz (fCallP d_least_words 1 (fAD (fVar 5) (fC [])))) (fCons (fFrz (fCallK d_least_words 1 0 1 [0] (fC []) (fAD (fCall (one pTuple) (fCons (fPeek 5) (fC []))) (fC [])))) (fCons (fFrz (fCallP d_least_words 1 (fAD (fFrz (fRev (fPeek 5))) (fC [])))) (fCons (fFrz (fCallP d_least_words 1 (fAD (fVar 6) (fC [])))) (fC [])))))))
        (fSeq (fIf (fOrT (fNotT (fTru (fFrz (fCallP (d__law_same 24) 2 (fAD (fVar 8) (fAD (fFrz (fOp pMulS (fFrz (fLst (fCons (fVar 6) (fC [])))) (fC (.int 4)))) (fC []))))))) (fT (fOp pNe (fCall (one pRepr) (fCons (fPeek 5) (fC []))) (fPeek 7)))) (fRetD (fC (.bool false))) (fun S => .nx S))
        (fSeq (fFor (fItems (fVar 6)) (gN 9) (fIf (fT (fOp pNe (fFrz (fLc (fItems (fVar 6)) (gN 11) (fAndT (fT (fOpN pNe 11 (fPeek 9))) (fTru (fFrz (fCallP d__law_strewn 2 (fAD (fVar 11) (fAD (fVar 9) (fC []))))))) (fVar 11) [11])) (fFrz (fLst (fC []))))) (fRetD (fC (.bool false))) (fun S => .nx S)))
        (fFor (fItems (fFrz (fCallP d__law_all 2 (fAD (fVar 4) (fAD (fC (.int 4)) (fC [])))))) (gN 10) (fIf (fT (fOp pNe (fCall (one pAny) (fCons (fFrz (fLc (fItems (fVar 6)) (gN 9) (fC true) (fFrz (fCallP d__law_strewn 2 (fAD (fVar 9) (fAD (fVar 10) (fC []))))) [9])) (fC []))) (fCall (one pAny) (fCons (fFrz (fLc (fItems (fVar 5)) (gN 9) (fC true) (fFrz (fCallP d__law_strewn 2 (fAD (fVar 9) (fAD (fVar 10) (fC []))))) [9])) (fC []))))) (fRetD (fC (.bool false))) (fun S => .nx S))))))))))))
        (fRetD (fC (.bool true)))
@[irreducible] noncomputable def d_law03 : Den := denOf 12 b_law03
end DL
end

section
set_option Elab.async false
set_option linter.all false
set_option maxRecDepth 100000
set_option maxHeartbeats 4000000
/-! S11: strewn from the behind, the least words. -/
namespace DL
open PySem L2 Fz SrtO
/-- what is left of xs when ys has gone by -/
def lb : List Int → List Int → List Int
  | xs, [] => xs
  | [], _ :: _ => []
  | x :: xs, y :: ys => if y = x then lb xs ys else lb (x :: xs) ys
theorem lb_end (xs : List Int) : lb xs [] = xs := by cases xs <;> rfl
theorem lb_nil : ∀ ys : List Int, lb [] ys = []
  | [] => rfl
  | _ :: _ => rfl
theorem lb_sub : ∀ ys xs : List Int, lb xs ys = [] ↔ xs.Sublist ys
  | [], xs => by
    cases xs with
    | nil => simp [lb]
    | cons x xs => simp [lb]
  | y :: ys, [] => by simp [lb]
  | y :: ys, x :: xs => by
    unfold lb
    by_cases h : y = x
    · subst h
      rw [if_pos rfl, lb_sub ys xs]
      simp
    · rw [if_neg h, lb_sub ys (x :: xs), List.sublist_cons_iff]
      constructor
      · exact .inl
      · rintro (h1 | ⟨r, h1, _⟩)
        · exact h1
        · cases h1; exact absurd rfl h
theorem take_rev {one : List Int} {m : Nat} (h : m + 1 ≤ one.length) : (one.take (m + 1)).reverse = one[m] :: (one.take m).reverse := by
  rw [List.take_add_one, List.getElem?_eq_getElem (by omega)]
  simp
theorem law_strewn_w {xs ys : List Int} (hx : xs.length ≤ 1000) (hy : ys.length ≤ 1000) {Q : SV → List SV → Prop} (h : Q (.d (.bool (strewn xs ys))) [.d (W xs), .d (W ys)]) : wC (d__law_strewn [.d (W xs), .d (W ys)]) Q := by
  unfold d__law_strewn
  rw [wC_denOf]
  simp [b__law_strewn]
  refine ⟨by omega, ?_⟩
  rw [rng0]
  refine wS_forP (fun p r S => ∃ (m : Nat) (c : Option SV), S = [some (.d (W xs)), some (.d (W ys)), some (.d (.int (m : Int))), c] ∧ m ≤ xs.length ∧ p.length ≤ ys.length ∧ lb xs.reverse ys.reverse = lb (xs.take m).reverse (ys.reverse.drop p.length)) ?_ ?_ ?_
  · exact ⟨xs.length, none, rfl, by omega, by simp, by simp⟩
  · rintro p i r S e ⟨m, c, rfl, hm, hp, hlb⟩
    obtain ⟨rfl, hlt⟩ := range_at e
    have hd : ys.reverse.drop p.length = ys[ys.length - 1 - p.length] :: ys.reverse.drop (p.length + 1) := by
      rw [List.drop_eq_getElem_cons (by simpa using hlt), List.getElem_reverse]
    simp
    refine ⟨fun h0 => ?_, fun h0 => ?_⟩
    · obtain ⟨m', rfl⟩ : ∃ m', m = m' + 1 := ⟨m - 1, by omega⟩
      have e1 : ((ys.length : Int) - 1 - (p.length : Int)) = ((ys.length - 1 - p.length : Nat) : Int) := by omega
      have e2 : (((m' + 1 : Nat) : Int) - 1) = (m' : Int) := by omega
      have g1 : ys[ys.length - 1 - p.length]? = some ys[ys.length - 1 - p.length] := List.getElem?_eq_getElem (by omega)
      have g2 : xs[m']? = some xs[m'] := List.getElem?_eq_getElem (by omega)
      rw [e1, e2, Fz.atI_nat, Fz.atI_nat, g1, g2]
      simp only [wO_some]
      have hb : lb xs.reverse ys.reverse = if ys[ys.length - 1 - p.length] = xs[m'] then lb (xs.take m').reverse (ys.reverse.drop (p.length + 1)) else lb (xs.take (m' + 1)).reverse (ys.reverse.drop (p.length + 1)) := by
        rw [hlb, take_rev hm, hd]
        rfl
      refine ⟨fun he => ⟨m', rfl, by omega, hlt, ?_⟩, fun he => ⟨m' + 1, rfl, hm, hlt, ?_⟩⟩
      · rw [hb, if_pos he]
      · rw [hb, if_neg he]
    · have hm0 : m = 0 := by omega
      subst hm0
      refine ⟨0, rfl, by omega, hlt, ?_⟩
      rw [hlb]
      simp [lb_nil]
  · rintro S ⟨m, c, rfl, hm, hp, hlb⟩
    simp
    have e2 : (decide (m = 0)) = strewn xs ys := by
      rw [List.length_range, show ys.length = ys.reverse.length by simp, List.drop_length] at hlb
      have hb : lb xs.reverse ys.reverse = [] ↔ m = 0 := by
        rw [hlb, lb_end, List.reverse_eq_nil_iff, List.take_eq_nil_iff]
        constructor
        · rintro (z | z)
          · exact z
          · rw [z] at hm; simp at hm; exact hm
        · exact .inl
      have := lb_sub ys.reverse xs.reverse
      rw [hb, List.reverse_sublist] at this
      rw [Bool.eq_iff_iff, decide_eq_true_eq, strewn_iff]
      exact this
    rw [e2]
    exact h
/-- a dict that marks words -/
def KS (ws : List (List Int)) : List (D × D) := ws.map fun w => (W w, .bool true)
theorem KS_KW (ws : List (List Int)) : KS ws = KW (fun _ : Unit => PyData.bool true) (ws.map fun w => (w, ())) := by
  unfold KS KW
  rw [List.map_map]
  rfl
theorem kOk_KS {ws : List (List Int)} {w : List Int} : kOk (KS ws) (W w) = true := by rw [KS_KW]; exact kOk_KW
theorem aAt_unit {w : List Int} : ∀ {ws : List (List Int)}, (aAt (ws.map fun w => (w, ())) w).isSome = decide (w ∈ ws)
  | [] => rfl
  | v :: ws => by
    have ih := aAt_unit (w := w) (ws := ws)
    unfold aAt at ih ⊢
    by_cases h : v = w
    · simp [List.find?_cons, h]
    · have h2 : ¬ w = v := fun z => h z.symm
      simp only [List.map_cons, List.find?_cons, h, decide_false, List.mem_cons, h2, false_or]
      exact ih
theorem dPut_KS {ws : List (List Int)} {w : List Int} : dPut (KS ws) (W w) (.bool true) = KS (addN ws w) := by
  rw [KS_KW, dPut_KW (g := fun _ : Unit => PyData.bool true) (v := ()), KS_KW]
  unfold aPut addN
  rw [aAt_unit]
  by_cases h : w ∈ ws
  · simp only [h, decide_true, if_true]
    congr 1
    rw [List.map_map]
    refine List.map_congr_left fun v _ => ?_
    simp only [Function.comp]
    split <;> rfl
  · simp only [h, decide_false, if_false, List.map_append, List.map_cons, List.map_nil]
    rfl
theorem dHas_KS {ws : List (List Int)} {w : List Int} : dHas (KS ws) (W w) = decide (w ∈ ws) := by rw [KS_KW, dHas_KW, aAt_unit]
theorem KS_keys {ws : List (List Int)} : (KS ws).map (·.1) = LW ws := by
  unfold KS LW
  rw [List.map_map]
  rfl
@[simp] theorem KS_len {ws : List (List Int)} : (KS ws).length = ws.length := by simp [KS]
theorem addN_len {ws : List (List Int)} {w : List Int} : (addN ws w).length ≤ ws.length + 1 := by
  unfold addN; split <;> simp
theorem eqW {x y : List Int} : PyData.eqv (W x) (W y) = decide (x = y) := by
  unfold W
  simp only [PyData.eqv]
  exact eqvAll_ints
theorem law_base_w {ws : List (List Int)} (hn : ws.length ≤ 1000) (hl : ∀ w ∈ ws, w.length ≤ 1000) {Q : SV → List SV → Prop} (h : Q (.d (.tuple (LW (sortW (base ws))))) [.d (.list (LW ws))]) : wC (d__law_base [.d (.list (LW ws))]) Q := by
  unfold d__law_base
  rw [wC_denOf]
  simp [b__law_base]
  unfold LW
  refine wS_forP (fun p r S => ∃ (acc : List (List Int)) (c c3 : Option SV), S = [some (.d (.list (LW ws))), some (.own (.dic (KS acc))), c, c3] ∧ acc.length ≤ p.length ∧ p.length ≤ ws.length ∧ base ws = bL ws acc r ∧ ∀ w ∈ acc, w ∈ ws) ⟨[], none, none, by simp [KS, LW], by simp, by simp, rfl, fun _ h => absurd h (by simp)⟩ ?_ ?_
  · rintro p w r S e ⟨acc, c, c3, rfl, ha, hp, hb, hm⟩
    have hw : w ∈ ws := by rw [e]; simp
    have hp2 : p.length + 1 ≤ ws.length := by
      have := congrArg List.length e
      simp at this; omega
    simp
    unfold LW
    refine lc_w (fun _ => true) (fun o => PyData.bool (decide (o ≠ w) && strewn o w)) (fun S => ∃ c3, S = [some (.d (.list (LW ws))), some (.own (.dic (KS acc))), some (.d (W w)), c3]) ⟨c3, rfl⟩ (by omega) ?_ ?_
    · rintro o ho S ⟨c3, rfl⟩
      simp [wE_callD, eqW]
      refine ⟨fun hne => ?_, fun he => ?_⟩
      · refine law_strewn_w (hl o ho) (hl w hw) ?_
        simp [hne]
      · simp [he]
    · rintro S ⟨c3, rfl⟩
      have eb : ∀ l : List (List Int), bls ((l.filter fun _ => true).map fun o => PyData.bool (decide (o ≠ w) && strewn o w)) = some (l.map fun o => decide (o ≠ w) && strewn o w) := fun l => by
        induction l with
        | nil => rfl
        | cons o l ih => simpa using ih
      have em : ((ws.map fun o => decide (o ≠ w) && strewn o w).any id) = !minOf ws w := by
        unfold minOf
        rw [Bool.not_not, List.any_map]
        rfl
      simp only [wFrz_own, wE_pAny, eb, wO_some, em]
      simp [kOk_KS, dPut_KS]
      refine ⟨fun hmin => ⟨szS (by omega), addN acc w, ⟨rfl, rfl⟩, ?_, hp2, ?_, ?_⟩, fun hmin => ⟨acc, ⟨rfl, rfl⟩, by omega, hp2, ?_, hm⟩⟩
      · have := addN_len (ws := acc) (w := w); omega
      · rw [hb, bL, if_pos hmin]
      · intro v hv
        rcases addN_mem.mp hv with hv | rfl
        · exact hm v hv
        · exact hw
      · rw [hb, bL, if_neg (by simp [hmin])]
  · rintro S ⟨acc, c, c3, rfl, ha, hp, hb, hm⟩
    simp
    have e1 : List.map (fun x => x.fst) (KS acc) = LW acc := KS_keys
    have e2 : base ws = acc := hb
    rw [e1, sortD_LW, ← e2]
    refine ⟨sortOk_LW fun w hw => ?_, h⟩
    have := hl w (base_mem.mp hw).1
    omega
end DL
end

section
set_option Elab.async false
set_option linter.all false
set_option maxRecDepth 100000
set_option maxHeartbeats 4000000
/-! S7: the shell of a law. -/
namespace DL
open PySem L2 Fz
noncomputable def shellF (m : Int) (body : FS → SRes) : FS → SRes :=
  fSeq (fFor (fRange1 (fCall (two pMax2) (fCons (fC (.int 1)) (fCons (fCall (two pMin2) (fCons (fC (.int m)) (fCons (fCall (one pLen) (fCons (fPeek 0) (fC []))) (fC [])))) (fC []))))) (gN 1) (fSeq (fSet 2 (fCallP d__law_well 2 (fAD (fVar 0) (fAD (fVar 1) (fC []))))) body))
        (fRetD (fC (.bool true)))
theorem shell {n : Nat} {m : Int} {body : FS → SRes} {ns : List Int} (hm : 1 ≤ m) (hm2 : m ≤ 63) (h : ns.length ≤ 63)
    (hb : ∀ (at_ : Nat) (o : Ob) (r : FS), at_ < 63 → Wl o → r.length = n → wS (body (some (.d (scriptD ns)) :: some (.d (.int at_)) :: some (.own o) :: r)) (fun S => ∃ b c r', r'.length = n ∧ S = some (.d (scriptD ns)) :: b :: c :: r') (fun _ _ => False) (fun _ => False) (fun _ => False)) :
    ∃ l, denOf (n + 3) (shellF m body) [.d (scriptD ns)] = .ok (.d (.bool true)) l := by
  suffices wC (denOf (n + 3) (shellF m body) [.d (scriptD ns)]) fun v l => v = .d (.bool true) by
    obtain ⟨v, l, e, rfl⟩ := this.ok
    exact ⟨l, e⟩
  rw [wC_denOf]
  unfold shellF
  simp only [wS_fSeq]
  refine wS.imp (N := fun S => ∃ b c r, r.length = n ∧ S = some (.d (scriptD ns)) :: b :: c :: r) ?_ ?_ (fun _ _ z => z) (fun _ z => z) (fun _ z => z)
  · have hq : ∃ q : Int, (if 1 < if (ns.length : Int) < m then (ns.length : Int) else m then if (ns.length : Int) < m then (ns.length : Int) else m else 1) = q ∧ 0 ≤ q ∧ q ≤ 63 := ⟨_, rfl, by split <;> (try split) <;> omega, by split <;> (try split) <;> omega⟩
    obtain ⟨q, e, hq0, hq1⟩ := hq
    simp [scriptD, e]
    refine ⟨by omega, ?_⟩
    rw [rng0]
    refine wS_forP (fun _ _ S => ∃ b c r, r.length = n ∧ S = some (.d (scriptD ns)) :: b :: c :: r) ⟨none, none, List.replicate n none, by simp, rfl⟩ ?_ ?_
    · rintro p x r S ee ⟨b, c, r', hr, rfl⟩
      have wo : ∀ {g : Option FS} {x : FS} {k : FS → Prop}, g = some x → k x → wO g k := fun e h => by rw [e]; exact h
      have hx : x < 63 := by
        obtain ⟨rfl, h2⟩ := range_at ee
        omega
      refine wo (x := some (.d (scriptD ns)) :: some (.d (.int (x : Nat))) :: c :: r') rfl ?_
      rw [wS_fSeq]
      refine wS.imp (N := fun S => ∃ o, Wl o ∧ S = some (.d (scriptD ns)) :: some (.d (.int (x : Nat))) :: some (.own o) :: r') ?_ ?_ (fun _ _ z => z) (fun _ z => z) (fun _ z => z)
      · simp [wE_callD]
        refine well_w (by omega) (by omega) h ?_
        intro o ho
        simp
        exact ho
      · rintro S ⟨o, ho, rfl⟩
        exact wS.imp (hb x o r' (by omega) ho hr) (fun _ z => z) (fun _ _ z => z.elim) (fun _ z => z.elim) (fun _ z => z.elim)
    · rintro S ⟨b, c, r', hr, rfl⟩
      exact ⟨_, _, _, hr, rfl⟩
  · rintro S ⟨b, c, r, hr, rfl⟩
    simp [scriptD]
/-- the turns of a law: the well in slot 2, the turn in slot 3 -/
theorem turns {n N : Nat} {body : FS → SRes} {s0 s1 : Option SV} {o : Ob} {r : FS} {C B : FS → Prop} {R : SV → FS → Prop} {Nx : FS → Prop} (hN : N ≤ 1000) (ho : Wl o) (hr : r.length = n + 1)
    (hb : ∀ (t : Nat) (o : Ob) (r : FS), t < N → Wl o → r.length = n → wS (body (s0 :: s1 :: some (.own o) :: some (.d (.int t)) :: r)) (fun S => ∃ o' c r', Wl o' ∧ r'.length = n ∧ S = s0 :: s1 :: some (.own o') :: c :: r') (fun _ _ => False) (fun _ => False) (fun _ => False))
    (hn : ∀ o r, Wl o → r.length = n + 1 → Nx (s0 :: s1 :: some (.own o) :: r)) :
    wS (fFor (fRange1 (fC (.int N))) (gN 3) body (s0 :: s1 :: some (.own o) :: r)) Nx R B C := by
  have wo : ∀ {g : Option FS} {x : FS} {k : FS → Prop}, g = some x → k x → wO g k := fun e h => by rw [e]; exact h
  simp
  refine ⟨by omega, ?_⟩
  rw [rng0]
  refine wS_forP (fun _ _ S => ∃ o r, Wl o ∧ r.length = n + 1 ∧ S = s0 :: s1 :: some (.own o) :: r) ⟨o, r, ho, hr, rfl⟩ ?_ ?_
  · rintro p x r S e ⟨o, r, ho, hr, rfl⟩
    obtain ⟨rfl, hx⟩ := range_at e
    obtain ⟨c, r, rfl⟩ : ∃ c r', r = c :: r' := by
      cases r with
      | nil => simp at hr
      | cons c r => exact ⟨c, r, rfl⟩
    refine wo (x := s0 :: s1 :: some (.own o) :: some (.d (.int (p.length : Nat))) :: r) rfl ?_
    refine wS.imp (hb p.length o r hx ho (by simpa using hr)) ?_ (fun _ _ z => z.elim) (fun _ z => z.elim) (fun _ z => z.elim)
    rintro S ⟨o', c', r', h1, h2, rfl⟩
    exact ⟨o', c' :: r', h1, by simp [h2], rfl⟩
  · rintro S ⟨o, r, ho, hr, rfl⟩
    exact hn o r ho hr
end DL
end

section
set_option Elab.async false
set_option linter.all false
set_option maxRecDepth 100000
set_option maxHeartbeats 4000000
/-! S12: lists of words drawn, least_words. -/
namespace DL
open PySem L2 Fz SrtO
theorem eqv_LW0 {ws : List (List Int)} : PyData.eqv (.list (LW ws)) (.list []) = decide (ws = []) := by
  cases ws with
  | nil => simp [LW, PyData.eqv, PyData.eqvAll]
  | cons w ws => simp [LW]
theorem smalLW {ws : List (List Int)} (hl : ws.length ≤ 10000000) (h : ∀ w ∈ ws, w.length ≤ 10000000) {k : Nat} : SmalL (k + 1) (LW ws) := SmalL.of fun d hd => by
  obtain ⟨w, hw, rfl⟩ := List.mem_map.mp hd
  exact smalW (h w hw)
theorem eqOk_LW0 {ws : List (List Int)} (hl : ws.length ≤ 1000) (h : ∀ w ∈ ws, w.length ≤ 1000) : eqOk (.list (LW ws)) (.list []) = true :=
  Smal.eqOk (k := 2) (.lst (by simp [LW]; omega) (smalLW (by omega) fun w hw => by have := h w hw; omega)) (.lst (by simp) .nil) (by omega)
theorem law_list_w {o : Ob} {k : Int} (ho : Wl o) (hk : 1 ≤ k) (hk2 : k ≤ 3) {Q : SV → List SV → Prop} (h : ∀ o' ws, Wl o' → ws.length ≤ 7 → (∀ w ∈ ws, IsW k w ∧ w.length ≤ 5) → Q (.d (.list (LW ws))) [.pin o', .d (.int k)]) : wC (d__law_list [.pin o, .d (.int k)]) Q := by
  unfold d__law_list
  rw [wC_denOf]
  simp [b__law_list, wE_callD]
  refine take_w ho (by omega) (by omega) ?_
  intro o1 n ho1 hn0 hn1
  simp
  refine ⟨by omega, ?_⟩
  rw [rng0]
  refine wS_forP (fun p r S => ∃ (o : Ob) (ws : List (List Int)) (c3 c4 c5 c6 : Option SV), S = [some (.pin o), some (.d (.int k)), some (.own (.lst (LW ws))), c3, c4, c5, c6] ∧ Wl o ∧ ws.length ≤ p.length ∧ p.length ≤ n.toNat ∧ ∀ w ∈ ws, IsW k w ∧ w.length ≤ 5) ⟨o1, [], none, none, none, none, by simp [LW], ho1, by simp, by simp, fun _ h => absurd h (by simp)⟩ ?_ ?_
  · rintro p i r S e ⟨o, ws, c3, c4, c5, c6, rfl, ho, hl, hp, hw⟩
    obtain ⟨rfl, hlt⟩ := range_at e
    have h7 : ws.length ≤ 7 := by omega
    have hok : eqOk (.list (LW ws)) (.list []) = true := eqOk_LW0 (by omega) fun w hm => by have := (hw w hm).2; omega
    have len : (LW ws).length = ws.length := by simp [LW]
    simp [wE_callD]
    refine take_w ho (by omega) (by omega) ?_
    intro o2 way ho2 hw0 hw1
    have ne0 : ∀ {P : Prop}, LW ws ≠ [] → (0 < ws.length → P) → P := fun hne f => f (List.length_pos_iff.mpr fun z => hne (by rw [z]; rfl))
    have good : ∀ (o3 : Ob) (xs : List Int), Wl o3 → IsW k xs → xs.length ≤ 5 → (LW ws).length < sizeLine ∧ ∃ (o : Ob) (ws' : List (List Int)), (o3 = o ∧ LW ws ++ [W xs] = LW ws') ∧ Wl o ∧ ws'.length ≤ p.length + 1 ∧ p.length + 1 ≤ n.toNat ∧ ∀ w ∈ ws', IsW k w ∧ w.length ≤ 5 := by
      intro o3 xs h3 hx hxl
      refine ⟨by rw [len]; exact szS (by omega), o3, ws ++ [xs], ⟨rfl, by simp [LW]⟩, h3, by simp; omega, by omega, fun w hm => ?_⟩
      rcases List.mem_append.mp hm with hm | hm
      · exact hw w hm
      · rw [List.mem_singleton.mp hm]; exact ⟨hx, hxl⟩
    have word : ∀ {K : SV → List SV → Prop}, (∀ o3 xs, Wl o3 → IsW k xs → xs.length ≤ 5 → K (.d (W xs)) [.pin o3, .d (.int k), .d (.int 5)]) → wC (d__law_word [.pin o2, .d (.int k), .d (.int 5)]) K := fun hK =>
      law_word_w ho2 hk hk2 (by omega) (by omega) fun o3 xs a b c => hK o3 xs a b (by simpa using c)
    have pick : ∀ {K : SV → List SV → Prop}, 0 < ws.length → (∀ o3 (j : Nat) (hj : j < ws.length), Wl o3 → K (.d (.int (j : Int))) [.pin o3, .d (.int ((LW ws).length : Int))]) → wC (d__law_take [.pin o2, .d (.int ((LW ws).length : Int))]) K := fun hpos hK => by
      rw [len] at hK ⊢
      refine take_w ho2 (by omega) (by omega) ?_
      intro o3 r h3 r0 r1
      have := hK o3 r.toNat (by omega) h3
      rwa [Int.toNat_of_nonneg r0] at this
    have at_ : ∀ j, j < ws.length → ∃ w, (LW ws)[j]? = some (W w) ∧ w ∈ ws := fun j hj => ⟨ws[j], by simp [LW, hj], List.getElem_mem hj⟩
    have one : LW ws ≠ [] → wC (d__law_take [SV.pin o2, SV.d (PyData.int ((LW ws).length : Int))]) fun ret svs' => ∃ o3 w, Wl o3 ∧ w ∈ ws ∧ ∃ j : Nat, ret = .d (.int (j : Int)) ∧ (LW ws)[j]? = some (W w) ∧ svs' = [.pin o3, .d (.int ((LW ws).length : Int))] := fun hne => by
      refine ne0 hne fun hpos => pick hpos fun o3 j hj h3 => ?_
      obtain ⟨w, hw1, hw2⟩ := at_ j hj
      exact ⟨o3, w, h3, hw2, j, rfl, hw1, rfl⟩
    simp [hok, eqv_LW0]
    refine ⟨fun _ => ⟨fun hne => (one hne).mono ?_, fun he => ⟨fun _ => ⟨fun hne => absurd he hne, fun _ => word fun o3 xs h3 hx hxl => ?_⟩, fun _ => word fun o3 xs h3 hx hxl => ?_⟩⟩, fun _ => ⟨fun _ => ⟨fun hne => (one hne).mono ?_, fun _ => word fun o3 xs h3 hx hxl => ?_⟩, fun _ => word fun o3 xs h3 hx hxl => ?_⟩⟩
    · rintro ret svs' ⟨o3, w, h3, hm, j, rfl, hj, rfl⟩
      simp [Fz.atI_nat, hj]
      exact good o3 w h3 (hw w hm).1 (hw w hm).2
    · simp
      exact good o3 xs h3 hx hxl
    · simp
      exact good o3 xs h3 hx hxl
    · rintro ret svs' ⟨o3, w, h3, hm, j, rfl, hj, rfl⟩
      simp [Fz.atI_nat, hj]
      refine wE_lcF (fun i acc S => ∃ o' ys c6, Wl o' ∧ acc = ys.map .int ∧ IsW k ys ∧ ys.length ≤ i ∧ i ≤ w.length ∧ S = [some (.pin o'), some (.d (.int k)), some (.own (.lst (LW ws))), some (.d (.int (p.length : Int))), some (.d (.int way)), some (.d (W w)), c6]) ⟨o3, [], c6, h3, rfl, fun _ h => absurd h (by simp), by simp, by omega, rfl⟩ ?_ ?_
      · rintro i d acc S hd ⟨o', ys, c6, h4, rfl, hy, hyl, hi, rfl⟩
        obtain ⟨z, hz, rfl⟩ := Option.map_eq_some_iff.mp (by rw [List.getElem?_map] at hd; exact hd)
        obtain ⟨q1, q2⟩ := List.getElem?_eq_some_iff.mp hz
        simp [wE_callD]
        refine take_w h4 (by omega) (by omega) ?_
        intro o5 r h5 r0 r1
        have hw5 := (hw w hm).2
        simp
        refine ⟨fun _ => ⟨o5, h5, ys, rfl, hy, by omega, q1, rfl⟩, fun _ => ⟨szS (by omega), o5, h5, ys ++ [z], by simp, ?_, by simp; omega, q1, rfl⟩⟩
        intro x hx2
        rcases List.mem_append.mp hx2 with q | q
        · exact hy x q
        · rw [List.mem_singleton.mp q, ← q2]; exact (hw w hm).1 _ (List.getElem_mem q1)
      · rintro acc S ⟨o', ys, c6, h4, rfl, hy, hyl, hi, rfl⟩
        have hw5 := (hw w hm).2
        simp
        exact good o' ys h4 hy (by simp at hyl; omega)
    · simp
      exact good o3 xs h3 hx hxl
    · simp
      exact good o3 xs h3 hx hxl
  · rintro S ⟨o, ws, c3, c4, c5, c6, rfl, ho, hl, hp, hw⟩
    simp
    exact h o ws ho (by simp at hl; omega) hw
end DL
end

section
set_option Elab.async false
set_option linter.all false
set_option maxRecDepth 100000
set_option maxHeartbeats 4000000
/-! S13: least_words. -/
namespace DL
open PySem L2 Fz SrtO
theorem word_key_ok {w : List Int} : ∃ l, d_word_key [.d (W w)] = .ok (.d (keyD w)) l := by
  have : wC (d_word_key [.d (W w)]) fun v l => v = .d (keyD w) := by
    unfold d_word_key
    rw [wC_denOf]
    simp [b_word_key, keyD]
  obtain ⟨v, l, e, rfl⟩ := this.ok
  exact ⟨l, e⟩
theorem keys_LW : ∀ ws : List (List Int), keysF d_word_key (LW ws) = some (ws.map keyD)
  | [] => rfl
  | w :: ws => by
    obtain ⟨l, e⟩ := word_key_ok (w := w)
    have ih := keys_LW ws
    unfold LW at ih ⊢
    rw [List.map_cons, keysF, e]
    simp only [ih]
    rfl
theorem noLs_ints : ∀ xs : List Int, noLs (xs.map .int) = true
  | [] => rfl
  | x :: xs => by simp only [List.map_cons, noLs, noL, noLs_ints xs]; rfl
@[simp] theorem noL_W {xs : List Int} : noL (W xs) = true := by unfold W; simp only [noL]; exact noLs_ints xs
@[simp] theorem noLs_LW : ∀ {ws : List (List Int)}, noLs (LW ws) = true
  | [] => rfl
  | w :: ws => by
    have ih := noLs_LW (ws := ws)
    unfold LW at ih ⊢
    simp only [List.map_cons, noLs, noL_W, ih]; rfl
theorem least_of_words_w {ws : List (List Int)} {x : D} (hx : x = .list (LW ws) ∨ x = .tuple (LW ws)) (hn : ws.length ≤ 1000) (hl : ∀ w ∈ ws, w.length ≤ 1000) {Q : SV → List SV → Prop} (h : Q (.d (.tuple (LW (sortW (base ws))))) [.d x]) : wC (d_least_of_words [.d x]) Q := by
  have hseq : seqD x = some (LW ws) := by rcases hx with rfl | rfl <;> rfl
  have sl : (sortS ws).length = ws.length := (sortG_ok ltS_swo ws).2.perm.length_eq
  unfold d_least_of_words
  rw [wC_denOf]
  simp [b_least_of_words, hseq, keys_LW]
  refine ⟨sortOk_key fun w hw => by have := hl w hw; omega, ?_⟩
  rw [sortK_LW]
  unfold LW
  refine wS_forP (fun p r S => ∃ (kept : List (List Int)) (c : Option SV), S = [some (.d x), some (.own (.lst (LW kept))), c, none] ∧ noLSv c = true ∧ kept.length ≤ p.length ∧ p.length ≤ ws.length ∧ keepL [] (sortS ws) = keepL kept r ∧ ∀ w ∈ kept, w ∈ ws) ⟨[], none, by simp [LW], rfl, by simp, by simp, rfl, fun _ h => absurd h (by simp)⟩ ?_ ?_
  · rintro p w r S e ⟨kept, c, rfl, hc, hk, hp, hb, hm⟩
    have hw : w ∈ ws := sortS_mem.mp (by rw [e]; simp)
    have hp2 : p.length + 1 ≤ ws.length := by
      have := congrArg List.length e
      simp at this; omega
    simp
    refine thaw_w (ds := LW kept) rfl ?_ ?_
    · simp [noLS, noLSv, noLOb]
    · simp
      unfold LW
      refine any_w (fun k => strewn k w) (fun S => S = [some (.d x), some (.d (.list (LW kept))), some (.d (W w)), none]) rfl ?_ ?_
      · rintro k hk2 S rfl
        simp [wE_callD]
        refine strewn_in_w (hl k (hm k hk2)) (hl w hw) ?_
        simp
      · rintro S rfl
        simp [noL]
        refine ⟨rfl, fun hno => ⟨szS (by omega), kept ++ [w], _, ⟨by simp, rfl⟩, rfl, by simp; omega, hp2, ?_, ?_⟩, fun k hk2 hs => ⟨kept, _, ⟨rfl, rfl⟩, rfl, by omega, hp2, ?_, hm⟩⟩
        · have ha : (kept.any fun k => strewn k w) = false := List.any_eq_false.mpr fun k hk2 => by rw [hno k hk2]; simp
          rw [hb, keepL, ha]
          rfl
        · intro v hv
          rcases List.mem_append.mp hv with hv | hv
          · exact hm v hv
          · rw [List.mem_singleton.mp hv]; exact hw
        · have ha : (kept.any fun k => strewn k w) = true := List.any_eq_true.mpr ⟨k, hk2, hs⟩
          rw [hb, keepL, if_pos ha]
  · rintro S ⟨kept, c, rfl, hc, hk, hp, hb, hm⟩
    simp
    have e : keepL [] (sortS ws) = kept := hb
    refine ⟨sortOk_LW fun w hw => by have := hl w (hm w hw); omega, ?_⟩
    rw [sortD_LW, ← e, least_is_base]
    exact h
theorem isT_seq {x : D} {ws : List (List Int)} (hx : x = .list (LW ws) ∨ x = .tuple (LW ws)) : (isT (dTyp x) "list" || isT (dTyp x) "tuple") = true := by
  rcases hx with rfl | rfl <;> rfl
theorem least_words_w {ws : List (List Int)} {x : D} (hx : x = .list (LW ws) ∨ x = .tuple (LW ws)) (hn : ws.length ≤ 1000) (hl : ∀ w ∈ ws, w.length ≤ 1000) (h3 : ∀ w ∈ ws, IsW 3 w) {Q : SV → List SV → Prop} (h : Q (.d (.tuple (LW (sortW (base ws))))) [.d x]) : wC (d_least_words [.d x]) Q := by
  unfold d_least_words
  rw [wC_denOf]
  have fin : wC (d_least_of_words [.d x]) fun ret svs' => ret = .d (.tuple (LW (sortW (base ws)))) ∧ svs' = [.d x] := least_of_words_w hx hn hl ⟨rfl, rfl⟩
  rcases hx with rfl | rfl
  all_goals
    simp [b_least_words, wE_callD]
    unfold LW
    refine any_w (fun _ => true) (fun S => ∃ c, S = [some (.d _), c]) ⟨none, rfl⟩ ?_ ?_
    · rintro w hw S ⟨c, rfl⟩
      simp [wE_callD]
      unfold d_is_word_of
      rw [wC_denOf]
      simp [b_is_word_of, wE_callD]
      refine is_letters_w (h3 w hw) ?_
      simp
    · rintro S ⟨c, rfl⟩
      simp
      refine fin.mono ?_
      rintro ret svs' ⟨rfl, rfl⟩
      simp
      exact h
end DL
end

section
set_option Elab.async false
set_option linter.all false
set_option maxRecDepth 100000
set_option maxHeartbeats 4000000
/-! dens, new with k18 -/
namespace DL
open PySem L2 Fz
/-- slots: 0 word, 1 bits, 2 found, 3 begin, 4 at -/
noncomputable def b__law_cut : FS → SRes :=
 fSeq (fPars [2, 3] (fConsV (fLst (fC [])) (fConsV (fV (fC (.int 0))) (fC []))))
        (fSeq (fFor (fRange1 (fCall (one pLen) (fCons (fPeek 0) (fC [])))) (gN 4) (fIf (fOrT (fT (fOp pEq (fFrz (fOpN pAdd 4 (fC (.int 1)))) (fCall (one pLen) (fCons (fPeek 0) (fC []))))) (fT (fOp pEq (fOp pAnd (fOpN pShr 1 (fPeek 4)) (fC (.int 1))) (fC (.int 1))))) (fSeq (fAppend 2 (fFrz (fSlN 0 (fPart (fVar 3)) (fPart (fFrz (fOpN pAdd 4 (fC (.int 1))))))))
        (fSet 3 (fOpN pAdd 4 (fC (.int 1))))) (fun S => .nx S)))
        (fRetD (fCall (one pTuple) (fCons (fPeek 2) (fC [])))))
@[irreducible] noncomputable def d__law_cut : Den := denOf 5 b__law_cut
/-- slots: 0 word, 1 at -/
noncomputable def b__law_leads : FS → SRes :=
 fRetD (fAndV (fOpN pNe 0 (fTup (fC []))) (fCall (one pAll) (fCons (fFrz (fLc (fRange2 (fC (.int 1)) (fCall (one pLen) (fCons (fPeek 0) (fC [])))) (gN 1) (fC true) (fOpN pLtG 0 (fFrz (fOp pAdd (fFrz (fSlN 0 (fPart (fVar 1)) (fC none))) (fFrz (fSlN 0 (fC none) (fPart (fVar 1))))))) [1])) (fC []))))
@[irreducible] noncomputable def d__law_leads : Den := denOf 2 b__law_leads
/-- slots: 0 row, 1 own, 2 at -/
noncomputable def b__law_is_row : FS → SRes :=
 fRetD (fAndV (fCall (one pAll) (fCons (fFrz (fLc (fItems (fVar 0)) (gN 1) (fC true) (fFrz (fCallP d__law_leads 1 (fAD (fVar 1) (fC [])))) [1])) (fC []))) (fCall (one pAll) (fCons (fFrz (fLc (fRange1 (fOp pSub (fCall (one pLen) (fCons (fPeek 0) (fC []))) (fC (.int 1)))) (gN 2) (fC true) (fOp pGeG (fOpN pIx 0 (fVar 2)) (fOpN pIx 0 (fFrz (fOpN pAdd 2 (fC (.int 1)))))) [2])) (fC []))))
@[irreducible] noncomputable def d__law_is_row : Den := denOf 3 b__law_is_row
/-- slots: 0 word, 1 at -/
noncomputable def b_is_leader_in : FS → SRes :=
 fRetD (fAndV (fOp pGt (fCall (one pLen) (fCons (fPeek 0) (fC []))) (fC (.int 0))) (fAny false (fRange2 (fC (.int 1)) (fCall (one pLen) (fCons (fPeek 0) (fC [])))) (gN 1) (fC true) (fOpN pLtG 0 (fFrz (fSlN 0 (fPart (fVar 1)) (fC none)))) [1]))
@[irreducible] noncomputable def d_is_leader_in : Den := denOf 2 b_is_leader_in
/-- slots: 0 word -/
noncomputable def b_is_leader : FS → SRes :=
 fSeq (fDrop (fCallP d_check_word 2 (fAD (fC (.int 3)) (fAD (fVar 0) (fC [])))))
        (fRet (fCallP d_is_leader_in 1 (fAD (fVar 0) (fC []))))
@[irreducible] noncomputable def d_is_leader : Den := denOf 1 b_is_leader
/-- slots: 0 word, 1 found, 2 size -/
noncomputable def b_row_in : FS → SRes :=
 fSeq (fSet 1 (fLst (fC [])))
        (fSeq (whileF (fT (fOp pGt (fCall (one pLen) (fCons (fPeek 0) (fC []))) (fC (.int 0)))) (fSeq (fSetD 2 (fCall (one pMaxI) (fCons (fFrz (fLc (fRange2 (fC (.int 1)) (fFrz (fOp pAdd (fCall (one pLen) (fCons (fPeek 0) (fC []))) (fC (.int 1))))) (gN 2) (fTru (fFrz (fCallP d_is_leader_in 1 (fAD (fFrz (fSlN 0 (fC none) (fPart (fVar 2)))) (fC []))))) (fVar 2) [2])) (fC []))))
        (fSeq (fAppend 1 (fFrz (fSlN 0 (fC none) (fPart (fVar 2)))))
        (fSet 0 (fSlN 0 (fPart (fVar 2)) (fC none))))))
        (fRetD (fCall (one pTuple) (fCons (fPeek 1) (fC [])))))
@[irreducible] noncomputable def d_row_in : Den := denOf 3 b_row_in
/-- slots: 0 word -/
noncomputable def b_row_of_leaders : FS → SRes :=
 fSeq (fDrop (fCallP d_check_word 2 (fAD (fC (.int 3)) (fAD (fVar 0) (fC [])))))
        (fRet (fCallP d_row_in 1 (fAD (fVar 0) (fC []))))
@[irreducible] noncomputable def d_row_of_leaders : Den := denOf 1 b_row_of_leaders
/-- slots: 0 well, 1 k, 2 short, 3 more, 4 end, 5 words, 6 first, 7 middle, 8 last, 9 many, 10 word, 11 row, 12 together, 13 own, 14 step -/
noncomputable def b__law_long_right : FS → SRes :=
 fSeq (fSet 1 (fOp pAdd (fC (.int 1)) (fFrz (fCallP d__law_take 2 (fAS 0 (fAD (fC (.int 3)) (fC [])))))))
        (fSeq (fPars [2, 3, 4] (fConsV (fCallP d__law_word 3 (fAS 0 (fAD (fVar 1) (fAD (fC (.int 6)) (fC []))))) (fConsV (fOp pAdd (fC (.int 1)) (fFrz (fCallP d__law_take 2 (fAS 0 (fAD (fC (.int 6)) (fC [])))))) (fConsV (fCallP d__law_word 3 (fAS 0 (fAD (fVar 1) (fAD (fC (.int 4)) (fC []))))) (fC [])))))
        (fSeq (fSet 5 (fLst (fCons (fFrz (fOp pAdd (fFrz (fOpN pMulG 2 (fPeek 3))) (fPeek 4))) (fC []))))
        (fSeq (fPars [6, 7, 8, 9] (fConsV (fCallP d__law_take 2 (fAS 0 (fAD (fVar 1) (fC [])))) (fConsV (fCallP d__law_take 2 (fAS 0 (fAD (fVar 1) (fC [])))) (fConsV (fCallP d__law_take 2 (fAS 0 (fAD (fVar 1) (fC [])))) (fConsV (fCallP d__law_take 2 (fAS 0 (fAD (fC (.int 39)) (fC [])))) (fC []))))))
        (fSeq (fAppend 5 (fFrz (fOp pAdd (fFrz (fOp pAdd (fTup (fCons (fVar 6) (fC []))) (fFrz (fOp pMulG (fTup (fCons (fVar 7) (fC []))) (fPeek 9))))) (fTup (fCons (fVar 8) (fC []))))))
        (fSeq (fAppend 5 (fFrz (fOp pAdd (fTup (fCons (fC (.int 0)) (fC []))) (fCall (one pTuple) (fCons (fFrz (fLc (fRange1 (fFrz (fOp pAdd (fC (.int 13)) (fFrz (fCallP d__law_take 2 (fAS 0 (fAD (fC (.int 26)) (fC [])))))))) (gN 14) (fC true) (fFrz (fCallP d__law_take 2 (fAS 0 (fAD (fVar 1) (fC []))))) [14])) (fC []))))))
        (fSeq (fFor (fItems (fVar 5)) (gN 10) (fSeq (fPars [11, 12] (fConsV (fCallP d_row_of_leaders 1 (fAD (fVar 10) (fC []))) (fConsV (fV (fTup (fC []))) (fC []))))
        (fSeq (fFor (fItems (fVar 11)) (gN 13) (fSet 12 (fOpN pAdd 12 (fPeek 13))))
        (fIf (fOrT (fT (fOpN pNe 12 (fPeek 10))) (fOrT (fNotT (fTru (fFrz (fCallP d__law_is_row 1 (fAD (fVar 11) (fC [])))))) (fOrT (fNotT (fTru (fFrz (fCallP (d__law_same 24) 2 (fAD (fFrz (fCallP d_is_leader 1 (fAD (fVar 10) (fC [])))) (fAD (fOp pEq (fCall (one pLen) (fCons (fPeek 11) (fC []))) (fC (.int 1))) (fC []))))))) (fT (fOp pNe (fFrz (fCallP d__law_leads 1 (fAD (fVar 10) (fC [])))) (fOp pEq (fCall (one pLen) (fCons (fPeek 11) (fC []))) (fC (.int 1)))))))) (fRetD (fC (.bool false))) (fun S => .nx S)))))
        (fRetD (fC (.bool true)))))))))
@[irreducible] noncomputable def d__law_long_right : Den := denOf 15 b__law_long_right
/-- slots: 0 k, 1 words, 2 word, 3 letter -/
noncomputable def b_longer : FS → SRes :=
 fRet (fLc2 (fItems (fVar 1)) (gN 2) (fC true) (fRange1 (fVar 0)) (gN 3) (fC true) (fFrz (fOpN pAdd 2 (fTup (fCons (fVar 3) (fC []))))) [2, 3] [3])
@[irreducible] noncomputable def d_longer : Den := denOf 4 b_longer
/-- slots: 0 k, 1 length, 2 words, 3 _, 4 word -/
noncomputable def b_leaders : FS → SRes :=
 fSeq (fDrop (fCallP d_check_k 1 (fAD (fVar 0) (fC []))))
        (fSeq (fIf (fOrT (fNotT (fTru (fFrz (fCallP d_is_natural 1 (fAD (fVar 1) (fC [])))))) (fT (fOpN pEq 1 (fC (.int 0))))) (fun _ => .bad) (fun S => .nx S))
        (fSeq (fSet 2 (fLst (fCons (fTup (fC [])) (fC []))))
        (fSeq (fFor (fRange1 (fVar 1)) (gN 3) (fSet 2 (fCallP d_longer 2 (fAD (fVar 0) (fAD (fVar 2) (fC []))))))
        (fRet (fLc (fItems (fVar 2)) (gN 4) (fTru (fFrz (fCallP d_is_leader_in 1 (fAD (fVar 4) (fC []))))) (fVar 4) [4])))))
@[irreducible] noncomputable def d_leaders : Den := denOf 5 b_leaders
/-- slots: 0 script, 1 at, 2 well, 3 turn, 4 k, 5 word, 6 together, 7 row, 8 own, 9 short, 10 rows, 11 length, 12 due, 13 told, 14 bits -/
noncomputable def b_law18 : FS → SRes :=
 fSeq (fFor (fRange1 (fCall (two pMax2) (fCons (fC (.int 1)) (fCons (fCall (two pMin2) (fCons (fC (.int 2)) (fCons (fCall (one pLen) (fCons (fPeek 0) (fC []))) (fC [])))) (fC []))))) (gN 1) (fSeq (fSet 2 (fCallP d__law_well 2 (fAD (fVar 0) (fAD (fVar 1) (fC [])))))
        (fSeq (fFor (fRange1 (fC (.int 6))) (gN 3) (fSeq (fSet 4 (fOp pAdd (fC (.int 1)) (fFrz (fCallP d__law_take 2 (fAS 2 (fAD (fC (.int 3)) (fC [])))))))
        (fSeq (fPars [5, 6] (fConsV (fCallP d__law_word 3 (fAS 2 (fAD (fVar 4) (fAD (fC (.int 12)) (fC []))))) (fConsV (fV (fTup (fC []))) (fC []))))
        (fSeq (fSet 7 (fCallP d_row_of_leaders 1 (fAD (fVar 5) (fC []))))
        (fSeq (fFor (fItems (fVar 7)) (gN 8) (fSet 6 (fOpN pAdd 6 (fPeek 8))))
        (fSeq (fIf (fOrT (fNotT (fTru (fFrz (fCallP (d__law_same 24) 2 (fAD (fFrz (fLst (fCons (fFrz (fCallK d_row_of_leaders 1 0 1 [0] (fC []) (fAD (fVar 5) (fC [])))) (fCons (fFrz (fCallP d_is_leader 1 (fAD (fVar 5) (fC [])))) (fCons (fFrz (fCallK d_is_leader 1 0 1 [0] (fC []) (fAD (fVar 5) (fC [])))) (fC [])))))) (fAD (fFrz (fLst (fCons (fVar 7) (fCons (fFrz (fCallP d__law_leads 1 (fAD (fVar 5) (fC [])))) (fCons (fFrz (fCallP d__law_leads 1 (fAD (fVar 5) (fC [])))) (fC [])))))) (fC []))))))) (fOrT (fT (fOpN pNe 6 (fPeek 5))) (fNotT (fTru (fFrz (fCallP d__law_is_row 1 (fAD (fVar 7) (fC [])))))))) (fRetD (fC (.bool false))) (fun S => .nx S))
        (fSeq (fIf (fT (fOp pNe (fFrz (fCallP d__law_leads 1 (fAD (fVar 5) (fC [])))) (fOp pEq (fCall (one pLen) (fCons (fPeek 7) (fC []))) (fC (.int 1))))) (fRetD (fC (.bool false))) (fun S => .nx S))
        (fSeq (fSet 9 (fSlN 5 (fC none) (fPart (fC (.int 6)))))
        (fSeq (fSet 10 (fLc (fRange1 (fOp pShl (fC (.int 1)) (fCall (two pMax2) (fCons (fC (.int 0)) (fCons (fOp pSub (fCall (one pLen) (fCons (fPeek 9) (fC []))) (fC (.int 1))) (fC [])))))) (gN 14) (fC true) (fFrz (fCallP d__law_cut 2 (fAD (fVar 9) (fAD (fVar 14) (fC []))))) [14]))
        (fSeq (fIf (fNotT (fTru (fFrz (fCallP (d__law_same 24) 2 (fAD (fFrz (fLc (fItems (fVar 10)) (gN 8) (fTru (fFrz (fCallP d__law_is_row 1 (fAD (fVar 8) (fC []))))) (fVar 8) [8])) (fAD (fFrz (fLst (fCons (fFrz (fCallP d_row_of_leaders 1 (fAD (fVar 9) (fC [])))) (fC [])))) (fC []))))))) (fRetD (fC (.bool false))) (fun S => .nx S))
        (fSeq (fSet 11 (fOp pAdd (fC (.int 1)) (fFrz (fCallP d__law_take 2 (fAS 2 (fAD (fOp pIx (fFrz (fLst (fCons (fC (.int 0)) (fCons (fC (.int 8)) (fCons (fC (.int 6)) (fCons (fC (.int 4)) (fC []))))))) (fVar 4)) (fC [])))))))
        (fSeq (fSet 12 (fLc (fItems (fFrz (fCall (one pSorted) (fCons (fFrz (fCallP d__law_all 2 (fAD (fVar 4) (fAD (fVar 11) (fC []))))) (fC []))))) (gN 8) (fAndT (fT (fOp pEq (fCall (one pLen) (fCons (fPeek 8) (fC []))) (fPeek 11))) (fTru (fFrz (fCallP d__law_leads 1 (fAD (fVar 8) (fC [])))))) (fVar 8) [8]))
        (fSeq (fSet 13 (fCallP d_leaders 2 (fAD (fVar 4) (fAD (fVar 11) (fC [])))))
        (fSeq (fIf (fThawU 13 (fNotT (fTru (fFrz (fCallP (d__law_same 24) 2 (fAD (fFrz (fLst (fCons (fVar 13) (fCons (fFrz (fCallK d_leaders 2 0 2 [1, 0] (fC []) (fAD (fVar 11) (fAD (fVar 4) (fC []))))) (fC []))))) (fAD (fFrz (fLst (fCons (fVar 12) (fCons (fVar 12) (fC []))))) (fC [])))))))) (fRetD (fC (.bool false))) (fun S => .nx S))
        (fSeq (fAppend 13 (fC .none))
        (fIf (fNotT (fTru (fFrz (fCallP (d__law_same 24) 2 (fAD (fFrz (fCallP d_leaders 2 (fAD (fVar 4) (fAD (fVar 11) (fC []))))) (fAD (fVar 12) (fC []))))))) (fRetD (fC (.bool false))) (fun S => .nx S)))))))))))))))))
        (fIf (fNotT (fTru (fFrz (fCallP d__law_long_right 1 (fAS 2 (fC [])))))) (fRetD (fC (.bool false))) (fun S => .nx S)))))
        (fRetD (fC (.bool true)))
@[irreducible] noncomputable def d_law18 : Den := denOf 15 b_law18
end DL
end

section
set_option Elab.async false
set_option linter.all false
set_option maxRecDepth 100000
set_option maxHeartbeats 4000000
/-! F49: comprehensions of two clauses, pure: what they give. -/
namespace Fz
open PySem L2
section
variable {α β : Type} {f : α → D} {f1 : α → β → D} {vs vs1 : List Nat}
theorem lcIn_w {f : α → D} {g : D → FS → Option FS} {t : FS → Res Bool} {fe : FS → Res D} {Q : List D → FS → Prop} (q : α → Bool) (h : α → D) (I : FS → Prop) : ∀ (xs : List α) (S : FS) (acc : List D), I S → acc.length + xs.length ≤ 16000000 →
    (∀ x, x ∈ xs → ∀ S, I S → wO (g (f x) (wipeS S vs)) fun S1 => wE (t S1) fun k S2 => k = q x ∧ (k = false → I (restS S S2 vs)) ∧ (k = true → wE (fe S2) fun y S3 => y = h x ∧ I (restS S S3 vs))) →
    (∀ S, I S → Q (acc ++ (xs.filter q).map h) S) → wE (lcIn g t fe vs (xs.map f) S acc) Q
  | [], S, acc, h0, _, _, hQ => by
    have := hQ S h0
    simpa [lcIn] using this
  | x :: xs, S, acc, h0, hl, step, hQ => by
    have st := step x (by simp) S h0
    simp only [List.map_cons, lcIn]
    cases hg : g (f x) (wipeS S vs) with
    | none => rw [hg] at st; exact st.elim
    | some S1 =>
      rw [hg] at st
      have st : wE (t S1) _ := st
      simp only
      cases ht : t S1 with
      | exn _ _ => rw [ht] at st; exact st.elim
      | bad => rw [ht] at st; exact st.elim
      | ok k S2 =>
        rw [ht] at st
        obtain ⟨e, s1, s2⟩ := st
        rw [List.length_cons] at hl
        cases k with
        | false =>
          refine lcIn_w q h I xs _ acc (s1 rfl) (by omega) (fun z hz => step z (by simp [hz])) fun S h1 => ?_
          have := hQ S h1
          simpa [← e] using this
        | true =>
          have s3 := s2 rfl
          cases hf : fe S2 with
          | exn _ _ => rw [hf] at s3; exact s3.elim
          | bad => rw [hf] at s3; exact s3.elim
          | ok y S3 =>
            rw [hf] at s3
            obtain ⟨rfl, h3⟩ := s3
            simp only [hf]
            rw [if_pos (szS (by omega))]
            refine lcIn_w q h I xs _ (acc ++ [h x]) h3 (by rw [List.length_append, List.length_singleton]; omega) (fun z hz => step z (by simp [hz])) fun S h1 => ?_
            have := hQ S h1
            simpa [← e] using this
/-- two clauses: res x is what the inner turns give for x -/
theorem lc2_w {g g1 : D → FS → Option FS} {t t1 : FS → Res Bool} {it1 : FS → Res (List D)} {fe : FS → Res D} {Q : SV → FS → Prop} (q : α → Bool) (res : α → List D) (I : FS → Prop) (N : Nat) : ∀ (xs : List α) (S : FS) (acc : List D), I S → acc.length + ((xs.filter q).flatMap res).length ≤ N →
    (∀ x, x ∈ xs → ∀ S, I S → wO (g (f x) (wipeS S vs)) fun S1 => wE (t S1) fun k S2 => k = q x ∧ (k = false → I (restS S S2 vs)) ∧
      (k = true → wE (it1 S2) fun ds1 S3 => ∀ acc, acc.length + (res x).length ≤ N → wE (lcIn g1 t1 fe vs1 ds1 S3 acc) fun acc2 S4 => acc2 = acc ++ res x ∧ I (restS S S4 vs))) →
    (∀ S, I S → Q (.own (.lst (acc ++ (xs.filter q).flatMap res))) S) → wE (lc2F g t it1 g1 t1 fe vs vs1 (xs.map f) S acc) Q
  | [], S, acc, h0, _, _, hQ => by
    have := hQ S h0
    simpa [lc2F] using this
  | x :: xs, S, acc, h0, hl, step, hQ => by
    have st := step x (by simp) S h0
    simp only [List.map_cons, lc2F]
    cases hg : g (f x) (wipeS S vs) with
    | none => rw [hg] at st; exact st.elim
    | some S1 =>
      rw [hg] at st
      have st : wE (t S1) _ := st
      simp only
      cases ht : t S1 with
      | exn _ _ => rw [ht] at st; exact st.elim
      | bad => rw [ht] at st; exact st.elim
      | ok k S2 =>
        rw [ht] at st
        obtain ⟨e, s1, s2⟩ := st
        cases k with
        | false =>
          rw [List.filter_cons, ← e] at hl
          refine lc2_w q res I N xs _ acc (s1 rfl) (by simpa using hl) (fun z hz => step z (by simp [hz])) fun S h1 => ?_
          have := hQ S h1
          simpa [← e] using this
        | true =>
          have s3 := s2 rfl
          cases hf : it1 S2 with
          | exn _ _ => rw [hf] at s3; exact s3.elim
          | bad => rw [hf] at s3; exact s3.elim
          | ok ds1 S3 =>
            rw [hf] at s3
            rw [List.filter_cons, ← e] at hl
            simp only [if_true, List.flatMap_cons, List.length_append] at hl
            have s4 := s3 acc (by omega)
            simp only [hf]
            cases hi : lcIn g1 t1 fe vs1 ds1 S3 acc with
            | exn _ _ => rw [hi] at s4; exact s4.elim
            | bad => rw [hi] at s4; exact s4.elim
            | ok acc2 S4 =>
              rw [hi] at s4
              obtain ⟨rfl, h3⟩ := s4
              simp only [hi]
              refine lc2_w q res I N xs _ (acc ++ res x) h3 (by rw [List.length_append]; omega) (fun z hz => step z (by simp [hz])) fun S h1 => ?_
              have := hQ S h1
              simpa [← e] using this
end
end Fz
end

section
set_option Elab.async false
set_option linter.all false
set_option maxRecDepth 100000
set_option maxHeartbeats 4000000
/-! S14: leaders and rows. -/
namespace DL
open PySem L2 Fz SrtO
theorem rngN {lo n : Nat} : rngD (lo : Int) n = (List.range n).map fun i : Nat => PyData.int ((lo + i : Nat) : Int) := by
  unfold rngD
  refine List.map_congr_left fun i _ => ?_
  simp
theorem rng1 {n : Nat} : rngD 1 n = (List.range n).map fun i : Nat => PyData.int ((1 + i : Nat) : Int) := rngN (lo := 1)
theorem lyn_all {w : List Int} (h : w ≠ []) : lynB w = (List.range (w.length - 1)).all fun i => ltI w (w.drop (1 + i)) := by
  unfold lynB
  rw [decide_eq_true h, Bool.true_and, Bool.eq_iff_iff, List.all_eq_true, List.all_eq_true]
  have hl := List.length_pos_iff.mpr h
  constructor
  · intro g i hi
    have := g (1 + i) (List.mem_range.mpr (by have := List.mem_range.mp hi; omega))
    simpa using this
  · intro g i hi
    have := List.mem_range.mp hi
    cases i with
    | zero => simp
    | succ i =>
      have := g i (List.mem_range.mpr (by omega))
      rw [Nat.add_comm] at this
      simp [this]
theorem lyn_nil : lynB [] = false := rfl
theorem is_leader_in_w {w : List Int} (hl : w.length ≤ 1000) {Q : SV → List SV → Prop} (h : Q (.d (.bool (lynB w))) [.d (W w)]) : wC (d_is_leader_in [.d (W w)]) Q := by
  unfold d_is_leader_in
  rw [wC_denOf]
  simp [b_is_leader_in]
  refine ⟨fun hp => ⟨by omega, ?_⟩, fun he => ?_⟩
  · rw [rng1]
    refine any_w (fun i : Nat => ltI w (w.drop (1 + i))) (fun S => S = [some (.d (W w)), none]) rfl ?_ ?_
    · rintro i hi S rfl
      generalize 1 + i = m
      simp [pLtG, tupC_lt, cutL_drop]
    · rintro S rfl
      rw [lyn_all (List.length_pos_iff.mp hp)] at h
      simpa using h
  · subst he; exact h
theorem lyn_turn {w : List Int} (h : w ≠ []) : lynB w = (List.range (w.length - 1)).all fun i => ltI w (w.drop (1 + i) ++ w.take (1 + i)) := by
  rw [Bool.eq_iff_iff, lynB_iff, lyn_turned, List.all_eq_true]
  have hl := List.length_pos_iff.mpr h
  constructor
  · rintro ⟨_, g⟩ i hi
    have := List.mem_range.mp hi
    exact g (1 + i) (by omega) (by omega)
  · intro g
    refine ⟨h, fun n h0 hn => ?_⟩
    have := g (n - 1) (List.mem_range.mpr (by omega))
    rwa [show 1 + (n - 1) = n by omega] at this
theorem bls_f {α : Type} {l : List α} {f : α → Bool} : bls ((l.filter fun _ => true).map fun o => PyData.bool (f o)) = some (l.map f) := by
  induction l with
  | nil => rfl
  | cons o l ih => simpa using ih
theorem all_f {α : Type} {l : List α} {f : α → Bool} : (l.map f).all id = l.all f := by rw [List.all_map]; rfl
theorem law_leads_w {w : List Int} (hl : w.length ≤ 1000) {Q : SV → List SV → Prop} (h : Q (.d (.bool (lynB w))) [.d (W w)]) : wC (d__law_leads [.d (W w)]) Q := by
  unfold d__law_leads
  rw [wC_denOf]
  simp [b__law_leads]
  refine ⟨fun hp => ⟨by omega, ?_⟩, fun he => ?_⟩
  · rw [rng1]
    refine lc_w (fun _ => true) (fun i : Nat => PyData.bool (ltI w (w.drop (1 + i) ++ w.take (1 + i)))) (fun S => S = [some (.d (W w)), none]) rfl (by simp; omega) ?_ ?_
    · rintro i hi S rfl
      generalize 1 + i = m
      simp [pLtG, tupC_lt, cutL_drop, cutL_take]
      refine szL ?_
      omega
    · rintro S rfl
      simp only [wFrz_own, wE_pAll, bls_f, wO_some, all_f]
      rw [lyn_turn hp] at h
      simpa using h
  · subst he; exact h
theorem cutL_mid {α : Type} {xs : List α} {a b : Nat} : cutL xs (some (a : Int)) (some (b : Int)) = (xs.take b).drop a := by
  unfold cutL
  rw [HT.sIx_nat, HT.sIx_nat, List.drop_take]
  by_cases ha : a ≤ xs.length
  · rw [Nat.min_eq_left ha]
    by_cases hb : b ≤ xs.length
    · rw [Nat.min_eq_left hb]
    · rw [Nat.min_eq_right (by omega), List.take_of_length_le (by simp), List.take_of_length_le (by simp; omega)]
  · have e1 : xs.drop a = [] := List.drop_of_length_le (by omega)
    have e2 : xs.drop (min a xs.length) = [] := List.drop_of_length_le (by omega)
    rw [e1, e2]; simp
theorem and1 {n : Nat} : Builtin.bitAnd (n : Int) 1 = 1 ↔ n % 2 = 1 := by
  have : Builtin.bitAnd (n : Int) 1 = ((n &&& 1 : Nat) : Int) := by
    unfold Builtin.bitAnd
    simp
  rw [this, Nat.and_one_is_mod]
  omega
theorem bit_test {b j : Nat} : Builtin.bitAnd ((b : Int) / 2 ^ j) 1 = 1 ↔ b.testBit j = true := by
  rw [show (b : Int) / 2 ^ j = ((b / 2 ^ j : Nat) : Int) by simp, and1, Nat.testBit_eq_decide_div_mod_eq, decide_eq_true_eq]
/-- what comes of a piece that is begun -/
def joinP (p : List Int) : List (List Int) → List (List Int)
  | [] => []
  | q :: qs => (p ++ q) :: qs
theorem joinP_nil : ∀ c : List (List Int), joinP [] c = c
  | [] => rfl
  | _ :: _ => rfl
theorem cut_end {f : Nat → Bool} {w : List Int} {n bg : Nat} (hn : n < w.length) (hb : bg ≤ n) (h : n + 1 = w.length ∨ f n = true) :
    joinP ((w.take n).drop bg) (cutF f n (w.drop n)) = [(w.take (n + 1)).drop bg] ++ joinP ((w.take (n + 1)).drop (n + 1)) (cutF f (n + 1) (w.drop (n + 1))) := by
  have e : (w.take (n + 1)).drop bg = (w.take n).drop bg ++ [w[n]] := by
    rw [List.take_add_one, List.getElem?_eq_getElem hn, List.drop_append_of_le_length (by rw [List.length_take]; omega)]; rfl
  have e2 : (w.take (n + 1)).drop (n + 1) = [] := List.drop_of_length_le (by rw [List.length_take]; omega)
  rw [e, e2, joinP_nil, List.drop_eq_getElem_cons hn]
  generalize w[n] = x
  generalize hr : w.drop (n + 1) = r
  rw [show cutF f n (x :: r) = if r = [] then [[x]] else if f n then [x] :: cutF f (n + 1) r else attach x (cutF f (n + 1) r) by rw [cutF]]
  by_cases h0 : r = []
  · rw [if_pos h0, h0]; simp [joinP, cutF]
  · rw [if_neg h0]
    have hf : f n = true := by
      rcases h with h | h
      · exfalso; apply h0; rw [← hr]; exact List.drop_of_length_le (by omega)
      · exact h
    rw [hf]
    simp [joinP]
theorem cut_go {f : Nat → Bool} {w : List Int} {n bg : Nat} (hn : n + 1 < w.length) (hb : bg ≤ n) (h : f n = false) :
    joinP ((w.take n).drop bg) (cutF f n (w.drop n)) = joinP ((w.take (n + 1)).drop bg) (cutF f (n + 1) (w.drop (n + 1))) := by
  have e : (w.take (n + 1)).drop bg = (w.take n).drop bg ++ [w[n]] := by
    rw [List.take_add_one, List.getElem?_eq_getElem (by omega), List.drop_append_of_le_length (by rw [List.length_take]; omega)]; rfl
  rw [e, List.drop_eq_getElem_cons (by omega : n < w.length), List.drop_eq_getElem_cons hn]
  generalize w[n] = x
  generalize w[n + 1] = y
  generalize w.drop (n + 1 + 1) = r
  rw [cutF, if_neg (by simp), h]
  obtain ⟨z, p, ps, e2⟩ := cutF_ne (f := f) (i := n + 1) (x := y) (w := r)
  rw [e2]
  simp [attach, joinP]
theorem law_cut_w {w : List Int} {b : Nat} (hl : w.length ≤ 1000) {Q : SV → List SV → Prop} (h : Q (.d (.tuple (LW (cutF (fun j => b.testBit j) 0 w)))) [.d (W w), .d (.int b)]) : wC (d__law_cut [.d (W w), .d (.int b)]) Q := by
  unfold d__law_cut
  rw [wC_denOf]
  simp [b__law_cut]
  refine ⟨by omega, ?_⟩
  rw [rng0]
  refine wS_forP (fun p r S => ∃ (fd : List (List Int)) (bg : Nat) (c4 : Option SV), bg ≤ p.length ∧ p.length ≤ w.length ∧ fd.length ≤ p.length ∧ (p.length < w.length ∨ bg = p.length) ∧ cutF (fun j => b.testBit j) 0 w = fd ++ joinP ((w.take p.length).drop bg) (cutF (fun j => b.testBit j) p.length (w.drop p.length)) ∧ S = [some (.d (W w)), some (.d (.int b)), some (.own (.lst (LW fd))), some (.d (.int (bg : Nat))), c4]) ⟨[], 0, none, by simp, by simp, by simp, by simp, by simp [joinP_nil], by simp [LW]⟩ ?_ ?_
  · rintro p x r S e ⟨fd, bg, c4, h1, h2, h3, h4, h5, rfl⟩
    obtain ⟨rfl, hx⟩ := range_at e
    have ec : cutL w (some (bg : Int)) (some ((p.length : Int) + 1)) = (w.take (p.length + 1)).drop bg := by
      rw [show (p.length : Int) + 1 = ((p.length + 1 : Nat) : Int) by simp, cutL_mid]
    have le : (LW fd).length < sizeLine := szS (by simp [LW]; omega)
    simp [ec, bit_test]
    have good : (p.length + 1 = w.length ∨ b.testBit p.length = true) → ∃ fd_1 bg_1, bg_1 ≤ p.length + 1 ∧ p.length + 1 ≤ w.length ∧ fd_1.length ≤ p.length + 1 ∧ (p.length + 1 < w.length ∨ bg_1 = p.length + 1) ∧
        cutF (fun j => b.testBit j) 0 w = fd_1 ++ joinP (List.drop bg_1 (List.take (p.length + 1) w)) (cutF (fun j => b.testBit j) (p.length + 1) (List.drop (p.length + 1) w)) ∧
        LW fd ++ [W ((w.take (p.length + 1)).drop bg)] = LW fd_1 ∧ (p.length : Int) + 1 = (bg_1 : Nat) := fun hf => by
      refine ⟨fd ++ [(w.take (p.length + 1)).drop bg], p.length + 1, Nat.le_refl _, by omega, by simp; omega, .inr rfl, ?_, by simp [LW], by simp⟩
      rw [h5, cut_end hx h1 hf, List.append_assoc]
    refine ⟨fun he => ⟨le, good (.inl (by omega))⟩, fun hne => ⟨fun hb => ⟨le, good (.inr hb)⟩, fun hb => ?_⟩⟩
    refine ⟨fd, bg, by omega, by omega, by omega, .inl (by omega), ?_, rfl, rfl⟩
    rw [h5, cut_go (by omega) h1 hb]
  · rintro S ⟨fd, bg, c4, h1, h2, h3, h4, h5, rfl⟩
    simp [cutF] at h1 h2 h3 h4 h5 ⊢
    rw [h5] at h
    simpa [joinP] using h
theorem at_LW {r : List (List Int)} {i : Nat} (h : i < r.length) : (LW r)[i]? = some (W (r.getD i [])) := by
  simp [LW, h]
theorem is_row_w {r : List (List Int)} (hl : ∀ w ∈ r, w.length ≤ 1000) (hn : r.length ≤ 1000) {Q : SV → List SV → Prop} (h : Q (.d (.bool (rowB r))) [.d (.tuple (LW r))]) : wC (d__law_is_row [.d (.tuple (LW r))]) Q := by
  unfold d__law_is_row
  rw [wC_denOf]
  simp [b__law_is_row]
  unfold LW
  refine lc_w (fun _ => true) (fun w => PyData.bool (lynB w)) (fun S => S = [some (.d (.tuple (LW r))), none, none]) rfl (by omega) ?_ ?_
  · rintro w hw S rfl
    simp [wE_callD]
    refine law_leads_w (hl w hw) ?_
    simp
  · rintro S rfl
    simp only [wFrz_own, wE_pAll, bls_f, wO_some, all_f]
    simp
    refine ⟨fun hall => ⟨by simp [LW]; omega, ?_⟩, fun x hx hlx => ?_⟩
    · rw [show (LW r).length = r.length by simp [LW], rng0]
      refine lc_w (fun _ => true) (fun i : Nat => PyData.bool (!ltI (r.getD i []) (r.getD (i + 1) []))) (fun S => S = [some (.d (.tuple (LW r))), none, none]) rfl (by simp; omega) ?_ ?_
      · rintro i hi S rfl
        have := List.mem_range.mp hi
        simp
        rw [show (i : Int) + 1 = ((i + 1 : Nat) : Int) by simp, atI_cast, at_LW (by omega), at_LW (by omega)]
        simp [tupC_ge]
      · rintro S rfl
        simp only [wFrz_own, wE_pAll, bls_f, wO_some, all_f]
        have e : rowB r = (List.range (r.length - 1)).all fun i => !ltI (r.getD i []) (r.getD (i + 1) []) := by
          unfold rowB
          rw [List.all_eq_true.mpr hall, Bool.true_and]
        rw [e] at h
        simpa [LW] using h
    · have e : rowB r = false := by
        unfold rowB
        rw [List.all_eq_false.mpr ⟨x, hx, by simp [hlx]⟩, Bool.false_and]
      rw [e] at h
      exact h
theorem maxI_fold : ∀ (l : List Nat) (m : Nat), maxI (m : Int) (l.map fun n : Nat => (n : Int)) = ((l.foldl max m : Nat) : Int) := by
  intro l
  induction l with
  | nil => intro m; simp [maxI]
  | cons n l ih =>
    intro m
    rw [List.map_cons, maxI, List.foldl_cons, ← ih]
    congr 1
    split <;> omega
theorem fronts_eq {w : List Int} : fronts w = ((List.range w.length).filter fun i => lynB (w.take (1 + i))).map fun i => 1 + i := by
  unfold fronts
  rw [List.range'_eq_map_range, List.filter_map]
  rfl
theorem row_in_w {w : List Int} (hl : w.length ≤ 1000) {Q : SV → List SV → Prop} (h : Q (.d (.tuple (LW (rowG w.length w)))) [.d (W w)]) : wC (d_row_in [.d (W w)]) Q := by
  unfold d_row_in
  rw [wC_denOf]
  simp [b_row_in]
  refine wS_while (fun m S => ∃ (fd : List (List Int)) (w' : List Int) (c : Option SV), m = w'.length ∧ fd.length + w'.length ≤ w.length ∧ rowG w.length w = fd ++ rowG m w' ∧ S = [some (.d (W w')), some (.own (.lst (LW fd))), c]) w.length ⟨[], w, none, rfl, by simp, by simp, by simp [LW]⟩ ?_
  rintro m S ⟨fd, w', c, rfl, h1, h2, rfl⟩
  simp
  refine ⟨fun hp => ⟨by omega, ?_⟩, fun he => ?_⟩
  · have hne : w' ≠ [] := List.length_pos_iff.mp hp
    rw [rng1]
    refine lc_w (fun i : Nat => lynB (w'.take (1 + i))) (fun i : Nat => PyData.int ((1 + i : Nat) : Int)) (fun S => ∃ c, S = [some (.d (W w')), some (.own (.lst (LW fd))), c]) ⟨c, rfl⟩ (by simp; omega) ?_ ?_
    · rintro i hi S ⟨c, rfl⟩
      have := List.mem_range.mp hi
      generalize 1 + i = m
      simp [wE_callD, cutL_take]
      refine is_leader_in_w (by rw [List.length_take]; omega) ?_
      simp
    · rintro S ⟨c, rfl⟩
      have e1 : ((List.range w'.length).filter fun i => lynB (w'.take (1 + i))).map (fun i : Nat => PyData.int ((1 + i : Nat) : Int)) = ((fronts w').map fun n : Nat => (n : Int)).map .int := by
        rw [fronts_eq, List.map_map, List.map_map]; rfl
      rw [e1]
      obtain ⟨k1, k2⟩ := longest_ok hne
      obtain ⟨⟨k3, k4⟩, k5⟩ := fronts_mem.mp k1
      have e2 : ∃ n ns, fronts w' = n :: ns ∧ maxI (n : Int) (ns.map fun n : Nat => (n : Int)) = ((longest w' : Nat) : Int) := by
        cases hf : fronts w' with
        | nil => rw [hf] at k1; cases k1
        | cons n ns =>
          refine ⟨n, ns, rfl, ?_⟩
          have hn : 1 ≤ n := (fronts_mem.mp (by rw [hf]; simp : n ∈ fronts w')).1.1
          rw [maxI_fold, longest, hf, List.foldl_cons, Nat.max_eq_right hn]
      obtain ⟨n, ns, e3, e4⟩ := e2
      rw [e3, List.map_cons]
      simp only [wFrz_own, wE_pMaxI, e4]
      generalize hL : longest w' = L at *
      simp [cutL_take, cutL_drop]
      refine ⟨szS (by simp [LW]; omega), (w'.drop L).length, ?_, fd ++ [w'.take L], w'.drop L, rfl, ?_, ?_, ?_⟩
      rotate_right
      · simp [LW]
      · rw [List.length_drop]; omega
      · rw [List.length_append, List.length_singleton, List.length_drop]; omega
      · rw [h2]
        cases w' with
        | nil => exact absurd rfl hne
        | cons x w'' =>
          have hk : ((x :: w'').drop L).length ≤ w''.length := by rw [List.length_drop, List.length_cons]; omega
          obtain ⟨g1, g2⟩ := rowG_ok w''.length _ hk
          rw [List.length_cons, rowG_cons hne, hL, row_of_flat g2 g1]
          simp
  · subst he
    simp [rowG] at h2
    rw [h2] at h
    simpa using h
theorem row_of_leaders_w {w : List Int} (h3 : IsW 3 w) (hl : w.length ≤ 1000) {Q : SV → List SV → Prop} (h : Q (.d (.tuple (LW (rowG w.length w)))) [.d (W w)]) : wC (d_row_of_leaders [.d (W w)]) Q := by
  unfold d_row_of_leaders
  rw [wC_denOf]
  simp [b_row_of_leaders, wE_callD]
  refine check_word_w h3 ?_
  simp
  refine row_in_w hl ?_
  simpa using h
theorem is_leader_w {w : List Int} (h3 : IsW 3 w) (hl : w.length ≤ 1000) {Q : SV → List SV → Prop} (h : Q (.d (.bool (lynB w))) [.d (W w)]) : wC (d_is_leader [.d (W w)]) Q := by
  unfold d_is_leader
  rw [wC_denOf]
  simp [b_is_leader, wE_callD]
  refine check_word_w h3 ?_
  simp
  refine is_leader_in_w hl ?_
  simpa using h
theorem flat_ext {k : Nat} {ws : List (List Int)} : (ws.flatMap fun w => (List.range k).map fun i : Nat => W (w ++ [(i : Int)])) = LW (ws.flatMap (ext1 k)) := by
  unfold LW
  rw [List.map_flatMap]
  refine congrArg (fun f => List.flatMap f ws) (funext fun w => ?_)
  unfold ext1
  rw [List.map_map]; rfl
theorem longer_w {k : Nat} {ws : List (List Int)} (hk : k ≤ 3) (hn : ws.length ≤ 1000000) (hl : ∀ w ∈ ws, w.length ≤ 1000) {Q : SV → List SV → Prop} (h : Q (.own (.lst (LW (ws.flatMap (ext1 k))))) [.d (.int k), .d (.list (LW ws))]) : wC (d_longer [.d (.int k), .d (.list (LW ws))]) Q := by
  unfold d_longer
  rw [wC_denOf]
  simp [b_longer]
  unfold fLc2
  rw [wE_bnd]
  simp
  have hN : (ws.flatMap (ext1 k)).length ≤ 16000000 := by
    rw [flat_len]
    have : ws.length * k ≤ 1000000 * 3 := Nat.mul_le_mul hn hk
    omega
  have eW : LW ws = ws.map W := rfl
  rw [eW]
  refine lc2_w (fun _ => true) (fun w => (List.range k).map fun i : Nat => W (w ++ [(i : Int)])) (fun S => S = [some (.d (.int k)), some (.d (.list (ws.map W))), none, none]) 16000000 ws _ [] rfl ?_ ?_ ?_
  · have e := congrArg List.length (flat_ext (k := k) (ws := ws))
    rw [filter_tt, e]
    simp only [LW, List.length_map, List.length_nil, Nat.zero_add]
    exact hN
  · rintro w hw S rfl
    have hl1 := hl w hw
    simp
    refine ⟨by omega, fun acc ha => ?_⟩
    rw [rng0]
    refine lcIn_w (fun _ => true) (fun i : Nat => W (w ++ [(i : Int)])) (fun S => ∃ c, S = [some (.d (.int k)), some (.d (.list (ws.map W))), some (.d (W w)), c]) _ _ _ ⟨none, rfl⟩ (by simpa using ha) ?_ ?_
    · rintro i hi S ⟨c, rfl⟩
      simp
      exact szL (by omega)
    · rintro S ⟨c, rfl⟩
      simp
  · rintro S rfl
    simp [flat_ext]
    exact h
theorem leaders_w {k n : Nat} (hk1 : 1 ≤ k) (hk : k ≤ 3) (hn1 : 1 ≤ n) (hn : n ≤ 8) {Q : SV → List SV → Prop} (h : Q (.own (.lst (LW ((layW k n).filter lynB)))) [.d (.int k), .d (.int n)]) : wC (d_leaders [.d (.int k), .d (.int n)]) Q := by
  unfold d_leaders
  rw [wC_denOf]
  simp [b_leaders, wE_callD]
  refine check_k_w (by omega) (by omega) ?_
  simp
  refine is_natural_w (by omega) ?_
  have hz : ¬ (n : Int) = 0 := by omega
  simp [hz]
  refine ⟨by omega, fun _ => ⟨by omega, ?_⟩⟩
  rw [rng0]
  refine wS_forP (fun p r S => ∃ (c3 : Option SV) (ws : SV), p.length ≤ n ∧ (ws = .own (.lst (LW (layW k p.length))) ∨ ws = .d (.list (LW (layW k p.length)))) ∧ S = [some (.d (.int k)), some (.d (.int n)), some ws, c3, none]) ?_ ?_ ?_
  · exact ⟨none, .own (.lst (LW (layW k 0))), by simp, .inl rfl, by simp [LW, layW, W]⟩
  · rintro p x r S e ⟨c3, ws, hp, hw, rfl⟩
    obtain ⟨rfl, hx⟩ := range_at e
    have key : ∀ {K : SV → List SV → Prop}, K (.own (.lst (LW (layW k (p.length + 1))))) [.d (.int k), .d (.list (LW (layW k p.length)))] → wC (d_longer [.d (.int k), .d (.list (LW (layW k p.length)))]) K := fun {K} hK =>
      longer_w hk (by have := layW_big (k := k) (n := p.length) hk (by omega); omega) (fun w hw => by have := (layW_mem.mp hw).1; omega) hK
    rcases hw with rfl | rfl
    all_goals
      simp [wE_callD]
      refine key ?_
      simp
      omega
  · rintro S ⟨c3, ws, hp, hw, rfl⟩
    have len : (List.range n).length = n := by simp
    rw [len] at hw
    have key : ∀ {s2 : Option SV} {c3 : Option SV}, Fz.wE (lcF (gN 4) (fTru (fFrz (fCallP d_is_leader_in 1 (fAD (fVar 4) (fC []))))) (fVar 4) [4] (LW (layW k n)) [some (.d (.int k)), some (.d (.int n)), s2, c3, none] [])
        (fun v S => wO (Fz.pinsAt [SV.d (PyData.int k), SV.d (PyData.int n)] S) fun l => Q v l) := fun {s2 c3} => by
      have eW : LW (layW k n) = (layW k n).map W := rfl
      rw [eW]
      refine lc_w lynB W (fun S => S = [some (.d (.int k)), some (.d (.int n)), s2, c3, none]) rfl (by have := layW_big (k := k) (n := n) hk (by omega); omega) ?_ ?_
      · rintro w hw S rfl
        have := (layW_mem.mp hw).1
        simp [wE_callD]
        refine is_leader_in_w (by omega) ?_
        simp
      · rintro S rfl
        simpa [LW] using h
    rcases hw with rfl | rfl
    all_goals
      simp
      exact key
end DL
end

section
set_option Elab.async false
set_option linter.all false
set_option maxRecDepth 100000
set_option maxHeartbeats 4000000
/-! S15: the shell and the turns of a law, where no slot holds a list of lists. -/
namespace DL
open PySem L2 Fz
abbrev Cl (r : FS) : Prop := noLS r = true
theorem Cl.rep {n : Nat} : Cl (List.replicate n none) := by
  unfold Cl noLS
  rw [List.all_eq_true]
  intro x hx
  rw [List.eq_of_mem_replicate hx]; rfl
theorem shellI {n : Nat} {m : Int} {body : FS → SRes} {ns : List Int} (hm : 1 ≤ m) (hm2 : m ≤ 63) (h : ns.length ≤ 63)
    (hb : ∀ (at_ : Nat) (o : Ob) (r : FS), at_ < 63 → Wl o → r.length = n → Cl r → wS (body (some (.d (scriptD ns)) :: some (.d (.int at_)) :: some (.own o) :: r)) (fun S => ∃ b c r', r'.length = n ∧ Cl r' ∧ S = some (.d (scriptD ns)) :: b :: c :: r') (fun _ _ => False) (fun _ => False) (fun _ => False)) :
    ∃ l, denOf (n + 3) (shellF m body) [.d (scriptD ns)] = .ok (.d (.bool true)) l := by
  suffices wC (denOf (n + 3) (shellF m body) [.d (scriptD ns)]) fun v l => v = .d (.bool true) by
    obtain ⟨v, l, e, rfl⟩ := this.ok
    exact ⟨l, e⟩
  rw [wC_denOf]
  unfold shellF
  simp only [wS_fSeq]
  refine wS.imp (N := fun S => ∃ b c r, r.length = n ∧ Cl r ∧ S = some (.d (scriptD ns)) :: b :: c :: r) ?_ ?_ (fun _ _ z => z) (fun _ z => z) (fun _ z => z)
  · have hq : ∃ q : Int, (if 1 < if (ns.length : Int) < m then (ns.length : Int) else m then if (ns.length : Int) < m then (ns.length : Int) else m else 1) = q ∧ 0 ≤ q ∧ q ≤ 63 := ⟨_, rfl, by split <;> (try split) <;> omega, by split <;> (try split) <;> omega⟩
    obtain ⟨q, e, hq0, hq1⟩ := hq
    simp [scriptD, e]
    refine ⟨by omega, ?_⟩
    rw [rng0]
    refine wS_forP (fun _ _ S => ∃ b c r, r.length = n ∧ Cl r ∧ S = some (.d (scriptD ns)) :: b :: c :: r) ⟨none, none, List.replicate n none, by simp, Cl.rep, rfl⟩ ?_ ?_
    · rintro p x r S ee ⟨b, c, r', hr, hc, rfl⟩
      have wo : ∀ {g : Option FS} {x : FS} {k : FS → Prop}, g = some x → k x → wO g k := fun e h => by rw [e]; exact h
      have hx : x < 63 := by
        obtain ⟨rfl, h2⟩ := range_at ee
        omega
      refine wo (x := some (.d (scriptD ns)) :: some (.d (.int (x : Nat))) :: c :: r') rfl ?_
      rw [wS_fSeq]
      refine wS.imp (N := fun S => ∃ o, Wl o ∧ S = some (.d (scriptD ns)) :: some (.d (.int (x : Nat))) :: some (.own o) :: r') ?_ ?_ (fun _ _ z => z) (fun _ z => z) (fun _ z => z)
      · simp [wE_callD]
        refine well_w (by omega) (by omega) h ?_
        intro o ho
        simp
        exact ho
      · rintro S ⟨o, ho, rfl⟩
        exact wS.imp (hb x o r' (by omega) ho hr hc) (fun _ z => z) (fun _ _ z => z.elim) (fun _ z => z.elim) (fun _ z => z.elim)
    · rintro S ⟨b, c, r', hr, hc, rfl⟩
      exact ⟨_, _, _, hr, hc, rfl⟩
  · rintro S ⟨b, c, r, hr, hc, rfl⟩
    simp [scriptD]
/-- the turns of a law: the well in slot 2, the turn in slot 3 -/
theorem turnsI {n N : Nat} {body : FS → SRes} {s0 s1 : Option SV} {o : Ob} {r : FS} {C B : FS → Prop} {R : SV → FS → Prop} {Nx : FS → Prop} (hN : N ≤ 1000) (ho : Wl o) (hr : r.length = n + 1) (hc : Cl r)
    (hb : ∀ (t : Nat) (o : Ob) (r : FS), t < N → Wl o → r.length = n → Cl r → wS (body (s0 :: s1 :: some (.own o) :: some (.d (.int t)) :: r)) (fun S => ∃ o' t' r', Wl o' ∧ r'.length = n ∧ Cl r' ∧ S = s0 :: s1 :: some (.own o') :: some (.d t') :: r') (fun _ _ => False) (fun _ => False) (fun _ => False))
    (hn : ∀ o r, Wl o → r.length = n + 1 → Cl r → Nx (s0 :: s1 :: some (.own o) :: r)) :
    wS (fFor (fRange1 (fC (.int N))) (gN 3) body (s0 :: s1 :: some (.own o) :: r)) Nx R B C := by
  have wo : ∀ {g : Option FS} {x : FS} {k : FS → Prop}, g = some x → k x → wO g k := fun e h => by rw [e]; exact h
  simp
  refine ⟨by omega, ?_⟩
  rw [rng0]
  refine wS_forP (fun _ _ S => ∃ o r, Wl o ∧ r.length = n + 1 ∧ Cl r ∧ S = s0 :: s1 :: some (.own o) :: r) ⟨o, r, ho, hr, hc, rfl⟩ ?_ ?_
  · rintro p x r S e ⟨o, r, ho, hr, hc, rfl⟩
    obtain ⟨rfl, hx⟩ := range_at e
    obtain ⟨c, r, rfl⟩ : ∃ c r', r = c :: r' := by
      cases r with
      | nil => simp at hr
      | cons c r => exact ⟨c, r, rfl⟩
    have hc2 : Cl r := by
      unfold Cl noLS at hc ⊢
      rw [List.all_cons, Bool.and_eq_true] at hc
      exact hc.2
    refine wo (x := s0 :: s1 :: some (.own o) :: some (.d (.int (p.length : Nat))) :: r) rfl ?_
    refine wS.imp (hb p.length o r hx ho (by simpa using hr) hc2) ?_ (fun _ _ z => z.elim) (fun _ z => z.elim) (fun _ z => z.elim)
    rintro S ⟨o', t', r', h1, h2, h3, rfl⟩
    refine ⟨o', some (.d t') :: r', h1, by simp [h2], ?_, rfl⟩
    unfold Cl noLS at h3 ⊢
    rw [List.all_cons, h3]; rfl
  · rintro S ⟨o, r, ho, hr, hc, rfl⟩
    exact hn o r ho hr hc
theorem wl_noL {o : Ob} (h : Wl o) : noLOb o = true := by
  obtain ⟨a, b, rfl, _⟩ := h
  rfl
@[simp] theorem noLSv_d {d : D} : noLSv (some (.d d)) = true := rfl
@[simp] theorem noLSv_n : noLSv none = true := rfl
@[simp] theorem keepD_noL {c : Option SV} : noLSv (keepD c) = true := by
  cases c with
  | none => rfl
  | some v => cases v <;> rfl
end DL
end

section
set_option Elab.async false
set_option linter.all false
set_option maxRecDepth 100000
set_option maxHeartbeats 4000000
/-! S9: what repr asks of small data. -/
namespace DL
open PySem L2 Fz
structure ShowB (n : Nat) (d : D) : Prop where
  ok : d.showable = true
  nd : d.hasDict = false
  len : d.shown.length ≤ n
theorem ShowB.up {n m : Nat} {d : D} (h : ShowB n d) (l : n ≤ m) : ShowB m d := ⟨h.ok, h.nd, Nat.le_trans h.len l⟩
theorem join_len {c : Nat} : ∀ ts : List Str, (∀ t ∈ ts, t.length ≤ c) → (Str.join ", " ts).length ≤ (c + 2) * ts.length
  | [], _ => by rw [Str.join.eq_1]; exact Nat.zero_le _
  | [t], h => by rw [Str.join.eq_2]; have := h t (by simp); simp; omega
  | t :: u :: ts, h => by
    have a := join_len (u :: ts) (fun x hx => h x (List.mem_cons_of_mem _ hx))
    have b := h t (by simp)
    have e : (", " : Str).length = 2 := by decide
    rw [Str.join.eq_3 _ _ _ (by simp), Str.length_append, Str.length_append, e]
    rw [List.length_cons, Nat.mul_succ]
    omega
theorem showAll {n : Nat} : ∀ {ds : List D}, (∀ d ∈ ds, ShowB n d) → PyData.showableAll ds = true ∧ PyData.hasDictAll ds = false ∧ (PyData.shownAll ds).length = ds.length ∧ ∀ t ∈ PyData.shownAll ds, t.length ≤ n
  | [], _ => ⟨rfl, rfl, rfl, fun t ht => by simp [PyData.shownAll] at ht⟩
  | d :: ds, h => by
    obtain ⟨a, b, c, e⟩ := showAll (n := n) (ds := ds) fun x hx => h x (List.mem_cons_of_mem _ hx)
    have hd := h d (by simp)
    refine ⟨by simp only [PyData.showableAll, hd.ok, a]; rfl, by simp only [PyData.hasDictAll, hd.nd, b]; rfl, by simp only [PyData.shownAll, List.length_cons, c], fun t ht => ?_⟩
    simp only [PyData.shownAll] at ht
    rcases List.mem_cons.mp ht with rfl | q
    · exact hd.len
    · exact e t q
theorem ShowB.tup {n : Nat} {ds : List D} (h : ∀ d ∈ ds, ShowB n d) : ShowB ((n + 2) * ds.length + 3) (.tuple ds) := by
  obtain ⟨a, b, c, e⟩ := showAll h
  refine ⟨by simpa only [PyData.showable] using a, by simpa only [PyData.hasDict] using b, ?_⟩
  have j := join_len _ e
  rw [c] at j
  simp only [PyData.shown, tupleText]
  rw [Str.length_append, Str.length_append]
  have e1 : (Str.ofString "(").length = 1 := by decide
  have e2 : ∀ c : Bool, (Str.ofString (if c = true then ",)" else ")")).length ≤ 2 := by decide
  have := e2 ((PyData.shownAll ds).length == 1)
  rw [e1]
  omega
theorem sum_len {c : Nat} : ∀ ts : List Str, (∀ t ∈ ts, t.length ≤ c) → (ts.map Str.length).sum ≤ c * ts.length
  | [], _ => by simp
  | t :: ts, h => by
    have a := sum_len ts (fun x hx => h x (List.mem_cons_of_mem _ hx))
    have b := h t (by simp)
    simp only [List.map_cons, List.sum_cons, List.length_cons, Nat.mul_succ]
    omega
theorem ShowB.lst {n : Nat} {ds : List D} (h : ∀ d ∈ ds, ShowB n d) : ShowB ((n + 2) * ds.length + 3) (.list ds) := by
  obtain ⟨a, b, c, e⟩ := showAll h
  refine ⟨by simpa only [PyData.showable] using a, by simpa only [PyData.hasDict] using b, ?_⟩
  have l := textFrom_len_le (PyData.shownAll ds) 0 (Str.ofString "[")
  have s : ((PyData.shownAll ds).map fun x => x.length).sum ≤ n * (PyData.shownAll ds).length := sum_len _ e
  rw [c] at s
  simp only [PyData.shown, listText, Str.length_append]
  have e1 : (Str.ofString "[").length = 1 := by decide
  have e2 : (Str.ofString "]").length = 1 := by decide
  rw [e1] at l
  rw [e2]
  rw [c] at l
  rw [Nat.add_mul]
  omega
theorem ShowB.nat {i : Int} (h0 : 0 ≤ i) (h : i < 1000) : ShowB 3 (.int i) := by
  have key : ∀ j : Fin 1000, (PyData.showable (.int ((j : Nat) : Int)) = true ∧ PyData.hasDict (.int ((j : Nat) : Int)) = false ∧ (PyData.shown (.int ((j : Nat) : Int))).length ≤ 3) := by decide +kernel
  obtain ⟨j, rfl⟩ : ∃ j : Nat, i = (j : Int) := ⟨i.toNat, by omega⟩
  obtain ⟨a, b, c⟩ := key ⟨j, by omega⟩
  exact ⟨a, b, c⟩
theorem ShowB.W {w : List Int} (h : ∀ x ∈ w, 0 ≤ x ∧ x < 1000) : ShowB (5 * w.length + 3) (W w) := by
  have := ShowB.tup (n := 3) (ds := w.map .int) fun d hd => by
    obtain ⟨x, hx, rfl⟩ := List.mem_map.mp hd
    exact ShowB.nat (h x hx).1 (h x hx).2
  rw [List.length_map] at this
  exact this
theorem ShowB.showOk {n k : Nat} {d : D} (h : ShowB n d) (hn : n ≤ 16000000) (hs : Smal k d) (hk : k ≤ 60) : Fz.showOk d := ⟨h.ok, h.nd, Nat.le_trans h.len (szL hn), by have := hs.lay.2; omega⟩
end DL
end

section
set_option Elab.async false
set_option linter.all false
set_option maxRecDepth 100000
set_option maxHeartbeats 4000000
namespace K18
open PySem L2 Fz SrtO DL
theorem wE_pAdd_1W {S : FS} {QV : SV → FS → Prop} {i : Int} {xs : List Int} : Fz.wE (pAdd (.tuple [.int i]) (W xs) S) QV = (1 + xs.length ≤ sizeLine ∧ QV (.d (W (i :: xs))) S) := by
  unfold W
  rw [wE_pAdd_t]
  simp
theorem isW3 {k : Int} {w : List Int} (hk : k ≤ 3) (h : IsW k w) : IsW 3 w := fun x hx => ⟨(h x hx).1, by have := (h x hx).2; omega⟩
theorem W_nil : W [] = .tuple [] := rfl
theorem eqOkW {x y : List Int} (hx : x.length ≤ 1000) (hy : y.length ≤ 1000) : eqOk (W x) (W y) = true := (smalW (k := 0) (by omega)).eqOk (smalW (k := 0) (by omega)) (by omega)
theorem cutF_pieces {f : Nat → Bool} : ∀ {w : List Int} {i : Nat}, ∀ p ∈ cutF f i w, p ≠ []
  | [], i, p, hp => by simp [cutF] at hp
  | x :: w, i, p, hp => by
    have ih := cutF_pieces (f := f) (w := w) (i := i + 1)
    rw [cutF] at hp
    split at hp
    · simp at hp; subst hp; simp
    · split at hp
      · rcases List.mem_cons.mp hp with rfl | hp
        · simp
        · exact ih p hp
      · unfold attach at hp
        split at hp
        · simp at hp; subst hp; simp
        · rename_i q qs e
          rcases List.mem_cons.mp hp with rfl | hp
          · simp
          · exact ih p (by rw [e]; simp [hp])
theorem sizes_of {r : List (List Int)} (h : ∀ x ∈ r, x ≠ []) : (∀ l ∈ r, l.length ≤ r.flatten.length) ∧ r.length ≤ r.flatten.length := by
  rw [List.length_flatten]
  constructor
  · intro l hm
    clear h
    induction r with
    | nil => cases hm
    | cons x r ih =>
      simp only [List.map_cons, List.sum_cons]
      rcases List.mem_cons.mp hm with rfl | z
      · omega
      · have := ih z; omega
  · induction r with
    | nil => simp
    | cons x r ih =>
      have := List.length_pos_iff.mpr (h x (by simp))
      have := ih fun y hy => h y (by simp [hy])
      simp only [List.length_cons, List.map_cons, List.sum_cons]
      omega
theorem row_sizes {w : List Int} : (∀ l ∈ rowG w.length w, l.length ≤ w.length) ∧ (rowG w.length w).length ≤ w.length := by
  obtain ⟨h1, h2⟩ := rowG_ok w.length w (Nat.le_refl _)
  have hl := congrArg List.length h1
  rw [List.length_flatten] at hl
  constructor
  · intro l hm
    have key : ∀ r : List (List Int), l ∈ r → l.length ≤ (r.map List.length).sum := by
      intro r
      induction r with
      | nil => intro z; cases z
      | cons x r ih =>
        intro z
        simp only [List.map_cons, List.sum_cons]
        rcases List.mem_cons.mp z with rfl | z
        · omega
        · have := ih z; omega
    have := key _ hm
    omega
  · have key : ∀ r : List (List Int), (∀ x ∈ r, x ≠ []) → r.length ≤ (r.map List.length).sum := by
      intro r
      induction r with
      | nil => intro _; simp
      | cons x r ih =>
        intro h
        have := List.length_pos_iff.mpr (h x (by simp))
        have := ih fun y hy => h y (by simp [hy])
        simp only [List.length_cons, List.map_cons, List.sum_cons]
        omega
    have := key _ h2.ne
    omega
theorem long_right_w {o : Ob} (ho : Wl o) {Q : SV → List SV → Prop} (h : ∀ o', Wl o' → Q (.d (.bool true)) [.pin o']) : wC (d__law_long_right [.pin o]) Q := by
  unfold d__law_long_right
  rw [wC_denOf]
  simp [b__law_long_right, wE_callD]
  refine take_w ho (by omega) (by omega) ?_
  intro o1 k0 ho1 hk0 hk1
  simp
  obtain ⟨k, hk⟩ : ∃ k : Nat, (1 + k0 : Int) = (k : Int) := ⟨(1 + k0).toNat, by omega⟩
  have hkl : 1 ≤ k := by omega
  have hku : k ≤ 3 := by omega
  rw [hk]
  refine law_word_w ho1 (by omega) (by omega) (by omega) (by omega) ?_
  intro o2 short ho2 hs hsl
  simp
  refine take_w ho2 (by omega) (by omega) ?_
  intro o3 more ho3 hm0 hm1
  simp
  refine law_word_w ho3 (by omega) (by omega) (by omega) (by omega) ?_
  intro o4 en ho4 he hel
  simp
  obtain ⟨m, hm⟩ : ∃ m : Nat, (1 + more : Int) = (m : Int) := ⟨(1 + more).toNat, by omega⟩
  rw [hm]
  simp at hsl hel ⊢
  have hml : short.length * m ≤ 6 * 6 := Nat.mul_le_mul hsl (by omega)
  have hml2 : m * short.length ≤ 36 := by rw [Nat.mul_comm]; exact hml
  refine ⟨⟨by omega, szL (by omega)⟩, szL (by omega), ?_⟩
  refine take_w ho4 (by omega) (by omega) ?_
  intro o5 first ho5 hf0 hf1
  simp
  refine take_w ho5 (by omega) (by omega) ?_
  intro o6 middle ho6 hg0 hg1
  simp
  refine take_w ho6 (by omega) (by omega) ?_
  intro o7 last ho7 hl0 hl1
  simp
  refine take_w ho7 (by omega) (by omega) ?_
  intro o8 many0 ho8 hn0 hn1
  obtain ⟨many, rfl⟩ : ∃ n : Nat, many0 = (n : Int) := ⟨many0.toNat, by omega⟩
  simp
  have s1 : many ≤ sizeLine := szL (by omega)
  have s2 : many + 1 ≤ sizeLine := szL (by omega)
  have s3 : many + 1 + 1 ≤ sizeLine := szL (by omega)
  have s4 : 1 < sizeLine := szS (by omega)
  simp [s1, s2, s3]
  refine ⟨by omega, szL (by omega), s4, ?_⟩
  refine take_w ho8 (by omega) (by omega) ?_
  intro o9 z ho9 hz0 hz1
  simp
  refine ⟨by omega, ?_⟩
  have w1 : IsW 3 ((List.replicate m short).flatten ++ en) := fun x hx => by
    rcases List.mem_append.mp hx with q | q
    · obtain ⟨l, h1, h2⟩ := List.mem_flatten.mp q
      rw [List.eq_of_mem_replicate h1] at h2
      exact isW3 (by omega) hs x h2
    · exact isW3 (by omega) he x q
  have w2 : IsW 3 (first :: (List.replicate many middle ++ [last])) := fun x hx => by
    simp only [List.mem_cons, List.mem_append, List.mem_singleton, List.mem_replicate, List.not_mem_nil, or_false] at hx
    rcases hx with rfl | ⟨_, rfl⟩ | rfl <;> omega
  have e2 : PyData.tuple (PyData.int first :: (List.replicate many (PyData.int middle) ++ [PyData.int last])) = W (first :: (List.replicate many middle ++ [last])) := by simp [W]
  rw [e2]
  have l1 : ((List.replicate m short).flatten ++ en).length ≤ 100 := by
    simp; omega
  have l2 : (first :: (List.replicate many middle ++ [last])).length ≤ 100 := by simp; omega
  generalize (List.replicate m short).flatten ++ en = W1 at w1 l1 ⊢
  generalize first :: (List.replicate many middle ++ [last]) = W2 at w2 l2 ⊢
  refine wE_lcF (fun i acc S => ∃ o' xs c, Wl o' ∧ acc = xs.map .int ∧ IsW k xs ∧ xs.length = i ∧ i ≤ (13 + z).toNat ∧ S = [some (.pin o'), some (.d (.int k)), some (.d (W short)), some (.d (.int m)), some (.d (W en)), some (.own (.lst [W W1, W W2])), some (.d (.int first)), some (.d (.int middle)), some (.d (.int last)), some (.d (.int many)), none, none, none, none, c]) ?_ ?_ ?_
  · exact ⟨o9, [], none, ho9, rfl, fun _ h => absurd h (by simp), rfl, by omega, rfl⟩
  · rintro i d acc S hd ⟨o', xs, c, ho', rfl, hx, hxl, hi, rfl⟩
    obtain ⟨h1, rfl⟩ := rngD_get hd
    simp [wE_callD]
    refine take_w ho' (by omega) (by omega) ?_
    intro o2 r ho2 hr0 hr1
    simp
    refine ⟨szS (by omega), o2, ho2, xs ++ [r], by simp, ?_, by simp [hxl], ?_⟩
    · intro x hx2
      rcases List.mem_append.mp hx2 with z | z
      · exact hx x z
      · rw [List.mem_singleton.mp z]; exact ⟨hr0, hr1⟩
    · exact ⟨by omega, rfl⟩
  · rintro acc S ⟨o', xs, c, ho', rfl, hx, hxl, hi, rfl⟩
    simp at hxl
    have w3 : IsW 3 (0 :: xs) := fun x hx2 => by
      rcases List.mem_cons.mp hx2 with rfl | q
      · omega
      · exact isW3 (by omega) hx x q
    have l3 : (0 :: xs).length ≤ 100 := by simp; omega
    simp [wE_pAdd_1W]
    refine ⟨szL (by omega), szS (by omega), ?_⟩
    generalize (0 :: xs) = W3 at w3 l3 ⊢
    have hws : ∀ w ∈ [W1, W2, W3], IsW 3 w ∧ w.length ≤ 100 := by
      intro w hw
      simp only [List.mem_cons, List.not_mem_nil, or_false] at hw
      rcases hw with rfl | rfl | rfl
      · exact ⟨w1, l1⟩
      · exact ⟨w2, l2⟩
      · exact ⟨w3, l3⟩
    have ew : [W W1, W W2, W W3] = [W1, W2, W3].map W := rfl
    rw [ew]
    generalize [W1, W2, W3] = ws at hws ⊢
    refine wS_forP (fun p r S => ∃ c10 c11 c12 c13, S = [some (.pin o'), some (.d (.int k)), some (.d (W short)), some (.d (.int m)), some (.d (W en)), some (.d (.list (ws.map W))), some (.d (.int first)), some (.d (.int middle)), some (.d (.int last)), some (.d (.int many)), c10, c11, c12, c13, c]) ⟨_, _, _, _, rfl⟩ ?_ ?_
    · rintro p w r S e ⟨c10, c11, c12, c13, rfl⟩
      obtain ⟨h3, hl⟩ := hws w (by rw [e]; simp)
      simp [wE_callD]
      refine row_of_leaders_w h3 (by omega) ?_
      obtain ⟨r1, r2⟩ := rowG_ok w.length w (Nat.le_refl _)
      obtain ⟨r3, r4⟩ := row_sizes (w := w)
      have r5 := lyn_row (w := w)
      have r6 := rowB_iff.mpr r2
      generalize hR : rowG w.length w = R at r1 r2 r3 r4 r5 r6 ⊢
      simp
      rw [← W_nil]
      unfold LW
      refine wS_forP (fun p r S => ∃ c13, p.flatten.length ≤ w.length ∧ S = [some (.pin o'), some (.d (.int k)), some (.d (W short)), some (.d (.int m)), some (.d (W en)), some (.d (.list (ws.map W))), some (.d (.int first)), some (.d (.int middle)), some (.d (.int last)), some (.d (.int many)), some (.d (W w)), some (.d (.tuple (LW R))), some (.d (W p.flatten)), c13, c]) ⟨_, by simp, rfl⟩ ?_ ?_
      · rintro q x r' S e2 ⟨c13, hq, rfl⟩
        have hl2 : q.flatten.length + x.length ≤ w.length := by
          rw [← r1, e2]
          simp only [List.flatten_append, List.flatten_cons, List.length_append]
          omega
        rw [List.length_flatten] at hl2
        simp
        exact ⟨szL (by omega), by omega⟩
      · rintro S ⟨c13, hq, rfl⟩
        rw [r1]
        simp [eqW, wE_callD, eqOkW (show w.length ≤ 1000 by omega) (show w.length ≤ 1000 by omega)]
        refine is_row_w (fun l hl' => by have := r3 l hl'; omega) (by omega) ?_
        rw [r6]
        simp
        refine is_leader_w h3 (by omega) ?_
        rw [r5]
        have eL : (LW R).length = R.length := by simp [LW]
        have eI : ((R.length : Int) = 1) = (R.length = 1) := propext ⟨by omega, by omega⟩
        simp [eL, eI]
        refine same_w (k := 1) .bl (by omega) ?_
        simp
        refine law_leads_w (by omega) ?_
        rw [r5]
        simp [eL, eI]
    · rintro S ⟨c10, c11, c12, c13, rfl⟩
      simp
      exact h o' ho'
theorem the_law (ns : List Int) (h : ns.length ≤ 63) (hb : ∀ z ∈ ns, Builtin.Int.intBits z ≤ 1048576) : ∃ l, d_law18 [.d (scriptD ns)] = .ok (.d (.bool true)) l := by
  unfold d_law18
  refine shellI (n := 12) (m := 2) (by decide) (by decide) h ?_
  intro at_ o r hat ho hr hcl
  rw [wS_fSeq]
  refine turnsI (n := 11) (N := 6) (by decide) ho hr hcl ?_ ?_
  · intro t o r ht ho hr hcl
    obtain ⟨c4, c5, c6, c7, c8, c9, c10, c11, c12, c13, c14, rfl⟩ : ∃ c4 c5 c6 c7 c8 c9 c10 c11 c12 c13 c14, r = [c4, c5, c6, c7, c8, c9, c10, c11, c12, c13, c14] := by
      match r, hr with
      | [c4, c5, c6, c7, c8, c9, c10, c11, c12, c13, c14], _ => exact ⟨_, _, _, _, _, _, _, _, _, _, _, rfl⟩
    simp [Cl, noLS] at hcl
    obtain ⟨n4, n5, n6, n7, n8, n9, n10, n11, n12, n13, n14⟩ := hcl
    simp [wE_callD]
    refine take_w ho (by omega) (by omega) ?_
    intro o1 k0 ho1 hk0 hk1
    simp
    obtain ⟨k, hk⟩ : ∃ k : Nat, (1 + k0 : Int) = (k : Int) := ⟨(1 + k0).toNat, by omega⟩
    have hkl : 1 ≤ k := by omega
    have hku : k ≤ 3 := by omega
    rw [hk]
    refine law_word_w ho1 (by omega) (by omega) (by omega) (by omega) ?_
    intro o2 w ho2 hw hwl
    have h3 := isW3 (by omega) hw
    simp at hwl
    simp
    refine row_of_leaders_w h3 (by omega) ?_
    obtain ⟨r1, r2⟩ := rowG_ok w.length w (Nat.le_refl _)
    obtain ⟨r3, r4⟩ := row_sizes (w := w)
    have r5 := lyn_row (w := w)
    have r6 := rowB_iff.mpr r2
    generalize hR : rowG w.length w = R at r1 r2 r3 r4 r5 r6 ⊢
    have row : ∀ {K : SV → List SV → Prop}, K (.d (.tuple (LW R))) [.d (W w)] → wC (d_row_of_leaders [.d (W w)]) K := fun {K} hK => row_of_leaders_w h3 (by omega) (by rw [hR]; exact hK)
    simp
    rw [← W_nil]
    unfold LW
    refine wS_forP (fun p r S => ∃ c8, noLSv c8 = true ∧ p.flatten.length ≤ w.length ∧ S = [some (.d (scriptD ns)), some (.d (.int at_)), some (.own o2), some (.d (.int t)), some (.d (.int k)), some (.d (W w)), some (.d (W p.flatten)), some (.d (.tuple (LW R))), c8, c9, c10, c11, c12, c13, c14]) ⟨_, n8, by simp, rfl⟩ ?_ ?_
    · rintro q x r' S e2 ⟨c8, n8, hq, rfl⟩
      have hl2 : q.flatten.length + x.length ≤ w.length := by
        rw [← r1, e2]
        simp only [List.flatten_append, List.flatten_cons, List.length_append]
        omega
      rw [List.length_flatten] at hl2
      simp
      exact ⟨szL (by omega), by omega⟩
    · rintro S ⟨c8, n8, hq, rfl⟩
      rw [r1]
      have eL : (LW R).length = R.length := by simp [LW]
      have eI : ((R.length : Int) = 1) = (R.length = 1) := propext ⟨by omega, by omega⟩
      have e1 : ∀ {a b : Bool}, eqOk (.bool a) (.bool b) = true := fun {a b} => (Smal.bl (k := 1)).eqOk .bl (by omega)
      have e2 : ∀ {a b : Int}, eqOk (.int a) (.int b) = true := fun {a b} => (Smal.int (k := 1)).eqOk .int (by omega)
      have smR : Smal 2 (.tuple (LW R)) := .tup (by omega) (smalLW (by omega) fun l hl => by have := r3 l hl; omega)
      simp
      refine row ?_
      simp
      refine is_leader_w h3 (by omega) ?_
      simp
      refine is_leader_w h3 (by omega) ?_
      simp
      refine law_leads_w (by omega) ?_
      simp
      refine law_leads_w (by omega) ?_
      simp
      refine same_w (k := 3) (.lst (by simp) (.cons smR (.cons .bl (.cons .bl .nil)))) (by omega) ?_
      simp [eqW, eqOkW (show w.length ≤ 1000 by omega) (show w.length ≤ 1000 by omega)]
      refine is_row_w (fun l hl' => by have := r3 l hl'; omega) (by omega) ?_
      rw [r6]
      simp
      refine law_leads_w (by omega) ?_
      rw [r5]
      have e6 : cutL w none (some 6) = w.take 6 := cutL_take w 6
      have hs6 : (cutL w none (some 6)).length ≤ 6 := by rw [e6, List.length_take]; omega
      have hs3 : IsW 3 (cutL w none (some 6)) := fun x hx => h3 x (List.mem_of_mem_take (by rw [e6] at hx; exact hx))
      clear e6
      simp [eL, eI, e1, e2]
      generalize cutL w none (some 6) = sh at hs6 hs3 ⊢
      obtain ⟨x1, hx1, hx2⟩ : ∃ x1 : Nat, (if 1 < (sh.length : Int) then (sh.length : Int) - 1 else 0) = (x1 : Int) ∧ x1 = sh.length - 1 := ⟨sh.length - 1, by split <;> omega, rfl⟩
      simp [hx1]
      have hp32 : 2 ^ x1 ≤ 32 := Nat.pow_le_pow_right (n := 2) (by decide) (show x1 ≤ 5 by omega)
      have hpi : (2 : Int) ^ x1 = ((2 ^ x1 : Nat) : Int) := by simp
      have hpt : ((2 : Int) ^ x1).toNat = 2 ^ x1 := by rw [hpi, Int.toNat_natCast]
      refine ⟨powW (by omega) (by omega) (by omega), ⟨by rw [hpi]; omega, by rw [hpi]; omega⟩, ?_⟩
      try rw [hpt]
      have hgen : ∀ b : Nat, (∀ p ∈ cutF (fun j => b.testBit j) 0 sh, p ≠ []) ∧ (cutF (fun j => b.testBit j) 0 sh).flatten = sh := fun b => ⟨cutF_pieces, cutF_flat⟩
      rw [rng0]
      refine lc_w (fun _ => true) (fun b : Nat => PyData.tuple (LW (cutF (fun j => b.testBit j) 0 sh))) (fun S => ∃ c14, noLSv c14 = true ∧ S = [some (.d (scriptD ns)), some (.d (.int at_)), some (.own o2), some (.d (.int t)), some (.d (.int k)), some (.d (W w)), some (.d (W w)), some (.d (.tuple (LW R))), c8, some (.d (W sh)), c10, c11, c12, c13, c14]) ⟨c14, n14, rfl⟩ (by simp; omega) ?_ ?_
      · rintro b hb S ⟨c14, n14, rfl⟩
        simp [wE_callD]
        refine law_cut_w (by omega) ?_
        simp
      · rintro S ⟨c14, n14, rfl⟩
        simp
        have ecut : (List.range (2 ^ x1)).map (fun b : Nat => PyData.tuple (LW (cutF (fun j => b.testBit j) 0 sh))) = ((List.range (2 ^ (sh.length - 1))).map fun b => cutF (fun j => b.testBit j) 0 sh).map fun c => PyData.tuple (LW c) := by
          rw [hx2, List.map_map]; rfl
        rw [ecut]
        obtain ⟨t1, t2⟩ := rowG_ok sh.length sh (Nat.le_refl _)
        have eone := cuts_row (w := sh) (r := rowG sh.length sh) (q := rowB) t2.ne t1 fun c hc => by
          rw [rowB_iff]
          exact ⟨fun z => row_of_flat z hc, fun z => by rw [z]; exact t2⟩
        have hcs : ∀ c ∈ (List.range (2 ^ (sh.length - 1))).map fun b => cutF (fun j => b.testBit j) 0 sh, (∀ l ∈ c, l.length ≤ 6) ∧ c.length ≤ 6 := fun c hc => by
          obtain ⟨b, _, rfl⟩ := List.mem_map.mp hc
          obtain ⟨u1, u2⟩ := sizes_of (hgen b).1
          rw [(hgen b).2] at u1 u2
          exact ⟨fun l hl => by have := u1 l hl; omega, by omega⟩
        have hcn : ((List.range (2 ^ (sh.length - 1))).map fun b => cutF (fun j => b.testBit j) 0 sh).length ≤ 32 := by rw [List.length_map, List.length_range, ← hx2]; exact hp32
        have st2 : (∀ l ∈ rowG sh.length sh, l.length ≤ 6) ∧ (rowG sh.length sh).length ≤ 6 := by
          obtain ⟨u1, u2⟩ := sizes_of t2.ne
          rw [t1] at u1 u2
          exact ⟨fun l hl => by have := u1 l hl; omega, by omega⟩
        generalize ((List.range (2 ^ (sh.length - 1))).map fun b => cutF (fun j => b.testBit j) 0 sh) = cs at eone hcs hcn ⊢
        refine lc_w rowB (fun c => PyData.tuple (LW c)) (fun S => ∃ c8, noLSv c8 = true ∧ S = [some (.d (scriptD ns)), some (.d (.int at_)), some (.own o2), some (.d (.int t)), some (.d (.int k)), some (.d (W w)), some (.d (W w)), some (.d (.tuple (LW R))), c8, some (.d (W sh)), some (.d (.list (cs.map fun c => PyData.tuple (LW c)))), c11, c12, c13, c14]) ⟨c8, n8, rfl⟩ (by omega) ?_ ?_
        · rintro c hc S ⟨c8, n8, rfl⟩
          obtain ⟨v1, v2⟩ := hcs c hc
          simp [wE_callD]
          refine is_row_w (fun l hl => by have := v1 l hl; omega) (by omega) ?_
          simp
        · rintro S ⟨c8, n8, rfl⟩
          rw [eone]
          simp
          refine row_of_leaders_w hs3 (by omega) ?_
          simp
          have smS : Smal 2 (.tuple (LW (rowG sh.length sh))) := .tup (by simp [LW]; omega) (smalLW (by omega) fun l hl => by have := st2.1 l hl; omega)
          refine same_w (k := 3) (.lst (by simp) (.cons smS .nil)) (by omega) ?_
          simp
          obtain ⟨M, hM1, hM2, hM3⟩ : ∃ M : Nat, [PyData.int 0, PyData.int 8, PyData.int 6, PyData.int 4][k]? = some (.int (M : Int)) ∧ 1 ≤ M ∧ M ≤ 8 := by
            have : k = 1 ∨ k = 2 ∨ k = 3 := by omega
            rcases this with rfl | rfl | rfl
            · exact ⟨8, rfl, by omega, by omega⟩
            · exact ⟨6, rfl, by omega, by omega⟩
            · exact ⟨4, rfl, by omega, by omega⟩
          rw [hM1]
          simp
          refine take_w ho2 (by omega) (by omega) ?_
          intro o3 z ho3 hz0 hz1
          obtain ⟨n, hn⟩ : ∃ n : Nat, (1 + z : Int) = (n : Int) := ⟨(1 + z).toNat, by omega⟩
          simp
          rw [hn]
          refine law_all_w hku (by omega) ?_
          simp
          refine ⟨sortOk_LW fun l hl => by have := (allW_mem.mp hl).1; omega, ?_⟩
          rw [sortD_LW]
          have hal : (sortW (allW k n)).length ≤ 1000000 := by
            have e1 : (sortW (allW k n)).length = (allW k n).length := (sortG_ok ltW_swo (allW k n)).2.perm.length_eq
            have := allW_big (k := k) (n := n) hku (by omega)
            have : 20000 * (n + 1) ≤ 20000 * 10 := Nat.mul_le_mul_left _ (by omega)
            omega
          have eWm : LW (sortW (allW k n)) = (sortW (allW k n)).map W := rfl
          rw [eWm]
          refine lc_w (fun l => decide (l.length = n) && lynB l) W (fun S => ∃ c8, noLSv c8 = true ∧ S = [some (.d (scriptD ns)), some (.d (.int at_)), some (.own o3), some (.d (.int t)), some (.d (.int k)), some (.d (W w)), some (.d (W w)), some (.d (.tuple (LW R))), c8, some (.d (W sh)), some (.d (.list (cs.map fun c => PyData.tuple (LW c)))), some (.d (.int n)), c12, c13, c14]) ⟨c8, n8, rfl⟩ (by omega) ?_ ?_
          · rintro l hl S ⟨c8, n8, rfl⟩
            have hll := (allW_mem.mp (sortW_mem.mp hl)).1
            simp [e2]
            refine ⟨fun hln => ?_, fun hln => ?_⟩
            · have hln : l.length = n := by omega
              simp [wE_callD]
              refine law_leads_w (by omega) ?_
              simp [hln]
            · have hln : ¬ l.length = n := by omega
              simp [hln, n8]
          · rintro S ⟨c8, n8, rfl⟩
            rw [lay_sorted]
            have eWl : ((layW k n).filter lynB).map W = LW ((layW k n).filter lynB) := rfl
            rw [eWl]
            have hdn : ((layW k n).filter lynB).length ≤ 20000 := Nat.le_trans (List.length_filter_le _ _) (layW_big hku (by omega))
            have hdl : ∀ l ∈ (layW k n).filter lynB, l.length ≤ 1000 := fun l hl => by
              have := (layW_mem.mp (List.mem_filter.mp hl).1).1; omega
            have ldr : ∀ {K : SV → List SV → Prop}, K (.own (.lst (LW ((layW k n).filter lynB)))) [.d (.int k), .d (.int n)] → wC (d_leaders [.d (.int k), .d (.int n)]) K := fun {K} hK => leaders_w hkl hku (by omega) (by omega) hK
            generalize (layW k n).filter lynB = due at hdn hdl ldr ⊢
            have hlen : (LW due).length = due.length := by simp [LW]
            have smD : Smal 2 (.list (LW due)) := .lst (by omega) (smalLW (by omega) fun l hl => by have := hdl l hl; omega)
            simp
            refine ldr ?_
            simp
            refine thawU_w (ds := LW due) rfl ?_ ?_
            · have q3 : noLSv (some (.own o3)) = true := wl_noL ho3
              have q12 : noLSv (some (.own (.lst (LW due)))) = true := noLs_LW
              simp [noLS, q3, q12, n8, n14]
            simp [wE_callD]
            refine ldr ?_
            simp
            refine same_w (k := 3) (.lst (by simp) (.cons smD (.cons smD .nil))) (by omega) ?_
            simp
            refine ⟨by simp [frzd], szS (by omega), ?_⟩
            refine ldr ?_
            simp
            refine same_w (k := 2) smD (by omega) ?_
            simp
            refine ⟨o3, ho3, .int t, [some (.d (.int k)), some (.d (W w)), some (.d (W w)), some (.d (.tuple (LW R))), c8, some (.d (W sh)), some (.d (.list (cs.map fun c => PyData.tuple (LW c)))), some (.d (.int n)), some (.d (.list (LW due))), some (.own (.lst (LW due ++ [PyData.none]))), c14], rfl, ?_, rfl, rfl, rfl⟩
            have q13 : noLSv (some (.own (.lst (LW due ++ [PyData.none])))) = true := by
              show noLs (LW due ++ [PyData.none]) = true
              have key : ∀ l : List D, noLs l = true → noLs (l ++ [PyData.none]) = true := by
                intro l
                induction l with
                | nil => intro _; rfl
                | cons d l ih =>
                  intro hq
                  simp only [noLs, Bool.and_eq_true, List.cons_append] at hq ⊢
                  exact ⟨hq.1, ih hq.2⟩
              exact key _ noLs_LW
            simp [Cl, noLS, q13, n8, n14]
  · intro o r ho hr hcl
    simp [wE_callD]
    refine long_right_w ho ?_
    intro o' ho'
    simp
    exact ⟨_, _, r, hr, hcl, rfl, rfl, rfl⟩
end K18
end

section
set_option Elab.async false
set_option linter.all false
set_option maxRecDepth 100000
set_option maxHeartbeats 4000000

/-! the text: its defs -/
namespace K18
open PySem PySem.Spec PyProof.Rows L2 Fz DL
def top (i : Nat) : Stmt := PySem.Challenge.pw_wholestrewn_k18_whole_leaders_and_their.main.body.getD i (.Pass ⟨0, 0, 0, 0⟩)
def D__law_all : He.DefD := ⟨("_law_all", none), "_law_all", "_law_all", defArgs (top 28), defBody (top 28), defScope (top 28), [], []⟩
def D__law_cut : He.DefD := ⟨("_law_cut", none), "_law_cut", "_law_cut", defArgs (top 30), defBody (top 30), defScope (top 30), [], []⟩
def D__law_leads : He.DefD := ⟨("_law_leads", none), "_law_leads", "_law_leads", defArgs (top 29), defBody (top 29), defScope (top 29), [], []⟩
def D__law_is_row : He.DefD := ⟨("_law_is_row", none), "_law_is_row", "_law_is_row", defArgs (top 31), defBody (top 31), defScope (top 31), [], []⟩
def D__law_same : He.DefD := ⟨("_law_same", none), "_law_same", "_law_same", defArgs (top 26), defBody (top 26), defScope (top 26), [], []⟩
def D__law_take : He.DefD := ⟨("_law_take", none), "_law_take", "_law_take", defArgs (top 25), defBody (top 25), defScope (top 25), [], []⟩
def D__law_word : He.DefD := ⟨("_law_word", none), "_law_word", "_law_word", defArgs (top 27), defBody (top 27), defScope (top 27), [], []⟩
def D_is_integer : He.DefD := ⟨("is_integer", none), "is_integer", "is_integer", defArgs (top 6), defBody (top 6), defScope (top 6), [], []⟩
def D_is_natural : He.DefD := ⟨("is_natural", none), "is_natural", "is_natural", defArgs (top 7), defBody (top 7), defScope (top 7), [], []⟩
def D_is_below : He.DefD := ⟨("is_below", none), "is_below", "is_below", defArgs (top 8), defBody (top 8), defScope (top 8), [], []⟩
def D_is_letters : He.DefD := ⟨("is_letters", none), "is_letters", "is_letters", defArgs (top 11), defBody (top 11), defScope (top 11), [], []⟩
def D_is_word_of : He.DefD := ⟨("is_word_of", none), "is_word_of", "is_word_of", defArgs (top 14), defBody (top 14), defScope (top 14), [], []⟩
def D_check_word : He.DefD := ⟨("check_word", none), "check_word", "check_word", defArgs (top 15), defBody (top 15), defScope (top 15), [], []⟩
def D_is_leader_in : He.DefD := ⟨("is_leader_in", none), "is_leader_in", "is_leader_in", defArgs (top 18), defBody (top 18), defScope (top 18), [], []⟩
def D_is_leader : He.DefD := ⟨("is_leader", none), "is_leader", "is_leader", defArgs (top 20), defBody (top 20), defScope (top 20), [], []⟩
def D_row_in : He.DefD := ⟨("row_in", none), "row_in", "row_in", defArgs (top 19), defBody (top 19), defScope (top 19), [], []⟩
def D_row_of_leaders : He.DefD := ⟨("row_of_leaders", none), "row_of_leaders", "row_of_leaders", defArgs (top 22), defBody (top 22), defScope (top 22), [], []⟩
def D__law_long_right : He.DefD := ⟨("_law_long_right", none), "_law_long_right", "_law_long_right", defArgs (top 32), defBody (top 32), defScope (top 32), [], []⟩
def D__law_well : He.DefD := ⟨("_law_well", none), "_law_well", "_law_well", defArgs (top 24), defBody (top 24), defScope (top 24), [], []⟩
def D_is_between : He.DefD := ⟨("is_between", none), "is_between", "is_between", defArgs (top 9), defBody (top 9), defScope (top 9), [], []⟩
def D_is_k : He.DefD := ⟨("is_k", none), "is_k", "is_k", defArgs (top 10), defBody (top 10), defScope (top 10), [], []⟩
def D_check_k : He.DefD := ⟨("check_k", none), "check_k", "check_k", defArgs (top 12), defBody (top 12), defScope (top 12), [], []⟩
def D_longer : He.DefD := ⟨("longer", none), "longer", "longer", defArgs (top 16), defBody (top 16), defScope (top 16), [], []⟩
def D_leaders : He.DefD := ⟨("leaders", none), "leaders", "leaders", defArgs (top 21), defBody (top 21), defScope (top 21), [], []⟩
def D_law : He.DefD := ⟨("law", none), "law", "law", defArgs (top 33), defBody (top 33), defScope (top 33), [], []⟩
def fn : List He.DefD := [D__law_all, D__law_cut, D__law_leads, D__law_is_row, D__law_same, D__law_take, D__law_word, D_is_integer, D_is_natural, D_is_below, D_is_letters, D_is_word_of, D_check_word, D_is_leader_in, D_is_leader, D_row_in, D_row_of_leaders, D__law_long_right, D__law_well, D_is_between, D_is_k, D_check_k, D_longer, D_leaders, D_law]
def fa : List He.Fa := [.glo "_law_all", .glo "_law_cut", .glo "_law_leads", .glo "_law_is_row", .glo "_law_same", .glo "_law_take", .glo "_law_word", .glo "is_integer", .glo "is_natural", .glo "is_below", .glo "is_letters", .glo "is_word_of", .glo "check_word", .glo "is_leader_in", .glo "is_leader", .glo "row_in", .glo "row_of_leaders", .glo "_law_long_right", .glo "_law_well", .glo "is_between", .glo "is_k", .glo "check_k", .glo "longer", .glo "leaders", .glo "law", .free "range", .free "len", .free "tuple", .free "all", .free "isinstance", .free "bool", .free "int", .free "str", .free "list", .int "MOST_LETTERS" 3, .free "max", .free "abs", .free "min", .free "sorted"]
def ts : List DP := [("is_letters", none), ("is_leader_in", none)]
/-! derivations -/
section
variable {P : Program} {w : World} {K : Fg} {mg : Str → Option Value} {base : Heap} {T : List Addr}
theorem sc__law_all : FnScope ["k", "most", "found", "layer", "length", "longer_v", "word", "letter"] ["k", "most"] D__law_all.scope := ⟨rfl, rfl, rfl, by decide +kernel, rfl, by decide +kernel, by decide +kernel⟩
theorem f__law_all (C : HeadC fa fn ts K mg base T) : FnF P w K mg base T 1 D__law_all "_law_all" ["k", "most"] 2 d__law_all := by
  unfold d__law_all
  refine fn_mk C 0 0 sc__law_all fun cdv A outer s H E1 H0 pins E hr => ?_
  exact s_cons (s_par2 rfl sc__law_all.nd rfl rfl (by decide) rfl rfl (av_cons (e_lst (a_cons (e_tup (a_nil)) (a_nil))) (av_cons (e_lst (a_cons (e_tup (a_nil)) (a_nil))) (av_nil) (fun _ _ => av_nil)) (fun _ _ => av_cons (e_lst (a_cons (e_tup (a_nil)) (a_nil))) (av_nil) (fun _ _ => av_nil))) rfl)
        (s_cons (s_for PassesOwn.never rfl (i_range1 rfl (C.free 25) (e_var (pv 1))) (g_name sc__law_all.nd rfl (.inl rfl)) (s_cons (s_set sc__law_all.nd rfl (.inl rfl) (e_lst (a_nil)))
        (s_cons (s_for PassesOwn.never rfl (i_seq (e_var (pv 3))) (g_name sc__law_all.nd rfl (.inr rfl)) (s_one (s_ext (pv 5) (e_lc (own := [("letter", 7)]) rfl sc__law_all.nd (i_range1 rfl (C.free 25) (e_var (pv 0))) (blkOk_by (by kernel_rfl)) (by decide) (fun _ _ _ _ _ _ _ => g_name sc__law_all.nd rfl (.inl rfl)) (fun _ _ _ _ _ _ _ => ts_nil) (fun _ _ _ _ _ _ _ => EV.frz (e_opN op_addF (pv 6) (ED.q (e_tup (a_cons (e_var (pv 7)) (a_nil))))))))))
        (s_cons (s_setD sc__law_all.nd rfl (.inl rfl) (e_var (pv 5)))
        (s_one (s_set sc__law_all.nd rfl (.inl rfl) (e_opN op_addF (pv 2) (e_peek (pv 3)))))))))
        (s_one (s_retD (e_var (pv 2)))))
theorem g__law_all (C : HeadC fa fn ts K mg base T) : Fn P w K mg base T 1 "_law_all" ["k", "most"] 2 d__law_all := (f__law_all C).toFn (fun _ _ _ _ _ _ us hl => match us, hl with | [_, _], _ => rfl)
theorem sc__law_cut : FnScope ["word", "bits", "found", "begin", "at"] ["word", "bits"] D__law_cut.scope := ⟨rfl, rfl, rfl, by decide +kernel, rfl, by decide +kernel, by decide +kernel⟩
theorem f__law_cut (C : HeadC fa fn ts K mg base T) : FnF P w K mg base T 1 D__law_cut "_law_cut" ["word", "bits"] 2 d__law_cut := by
  unfold d__law_cut
  refine fn_mk C 1 1 sc__law_cut fun cdv A outer s H E1 H0 pins E hr => ?_
  exact s_cons (s_par2 rfl sc__law_cut.nd rfl rfl (by decide) rfl rfl (av_cons (e_lst (a_nil)) (av_cons (ED.v (e_int)) (av_nil) (fun _ _ => av_nil)) (fun _ _ => av_cons (ED.v (e_int)) (av_nil) (fun _ _ => av_nil))) rfl)
        (s_cons (s_for PassesOwn.never rfl (i_range1 rfl (C.free 25) (e_callB c_len rfl (C.free 26) bt_len (a_last (e_peek (pv 0))))) (g_name sc__law_cut.nd rfl (.inl rfl)) (s_one (s_if (t_bool (w_or (t_cmp (op_eqF hr.rm.units) (EV.frz (e_opN op_addF (pv 4) (ED.q (e_int)))) (ED.q (e_callB c_len rfl (C.free 26) bt_len (a_last (e_peek (pv 0))))) (nomark _)) (w_or1 (t_cmp (op_eqF hr.rm.units) (e_op op_andF (e_opN op_shrF (pv 1) (e_peek (pv 4))) (ED.q (e_int))) (ED.q (e_int)) (nomark _))))) (s_cons (s_app (pv 2) (EV.frz (e_slN (pv 0) (o_some (e_var (pv 3))) (o_some (EV.frz (e_opN op_addF (pv 4) (ED.q (e_int))))))))
        (s_one (s_set sc__law_cut.nd rfl (.inl rfl) (e_opN op_addF (pv 4) (ED.q (e_int)))))) (s_nil))))
        (s_one (s_retD (e_callTy c_tuple rfl (C.free 27) bt_tuple (a_last (e_peek (pv 2)))))))
theorem g__law_cut (C : HeadC fa fn ts K mg base T) : Fn P w K mg base T 1 "_law_cut" ["word", "bits"] 2 d__law_cut := (f__law_cut C).toFn (fun _ _ _ _ _ _ us hl => match us, hl with | [_, _], _ => rfl)
theorem sc__law_leads : FnScope ["word", "at"] ["word"] D__law_leads.scope := ⟨rfl, rfl, rfl, by decide +kernel, rfl, by decide +kernel, by decide +kernel⟩
theorem f__law_leads (C : HeadC fa fn ts K mg base T) : FnF P w K mg base T 1 D__law_leads "_law_leads" ["word"] 1 d__law_leads := by
  unfold d__law_leads
  refine fn_mk C 2 2 sc__law_leads fun cdv A outer s H E1 H0 pins E hr => ?_
  exact s_one (s_retD (Fz.v_and (e_cmpN (op_neF hr.rm.units) (pv 0) (ED.q (e_tup (a_nil))) (nomark _)) (Fz.v_one (e_callB (c_all rfl) rfl (C.free 28) bt_all (a_last (EV.q (e_lc (own := [("at", 1)]) rfl sc__law_leads.nd (i_range2 rfl (C.free 25) (e_int) (e_callB c_len rfl (C.free 26) bt_len (a_last (e_peek (pv 0))))) (blkOk_by (by kernel_rfl)) (by decide) (fun _ _ _ _ _ _ _ => g_name sc__law_leads.nd rfl (.inl rfl)) (fun _ _ _ _ _ _ _ => ts_nil) (fun _ _ _ _ _ _ _ => e_cmpN (op_ltG hr.rm.units) (pv 0) (EV.q (e_op op_addF (EV.frz (e_slN (pv 0) (o_some (e_var (pv 1))) (o_none))) (EV.q (e_slN (pv 0) (o_none) (o_some (e_var (pv 1))))))) (nomark _)))))))))
theorem g__law_leads (C : HeadC fa fn ts K mg base T) : Fn P w K mg base T 1 "_law_leads" ["word"] 1 d__law_leads := (f__law_leads C).toFn (fun _ _ _ _ _ _ us hl => match us, hl with | [_], _ => rfl)
theorem sc__law_is_row : FnScope ["row", "own", "at"] ["row"] D__law_is_row.scope := ⟨rfl, rfl, rfl, by decide +kernel, rfl, by decide +kernel, by decide +kernel⟩
theorem f__law_is_row (C : HeadC fa fn ts K mg base T) : FnF P w K mg base T 2 D__law_is_row "_law_is_row" ["row"] 1 d__law_is_row := by
  unfold d__law_is_row
  refine fn_mk C 3 3 sc__law_is_row fun cdv A outer s H E1 H0 pins E hr => ?_
  exact s_one (s_retD (Fz.v_and (e_callB (c_all rfl) rfl (C.free 28) bt_all (a_last (EV.q (e_lc (own := [("own", 1)]) rfl sc__law_is_row.nd (i_seq (e_var (pv 0))) (blkOk_by (by kernel_rfl)) (by decide) (fun _ _ _ _ _ _ _ => g_name sc__law_is_row.nd rfl (.inl rfl)) (fun _ _ _ _ _ _ _ => ts_nil) (fun _ _ _ _ _ _ _ => EV.frz (e_call (g__law_leads C) hr (by decide) rfl (as_d (e_var (pv 1)) (as_nil)))))))) (Fz.v_one (e_callB (c_all rfl) rfl (C.free 28) bt_all (a_last (EV.q (e_lc (own := [("at", 2)]) rfl sc__law_is_row.nd (i_range1 rfl (C.free 25) (e_op op_subF (e_callB c_len rfl (C.free 26) bt_len (a_last (e_peek (pv 0)))) (ED.q (e_int)))) (blkOk_by (by kernel_rfl)) (by decide) (fun _ _ _ _ _ _ _ => g_name sc__law_is_row.nd rfl (.inl rfl)) (fun _ _ _ _ _ _ _ => ts_nil) (fun _ _ _ _ _ _ _ => e_cmp (op_geG hr.rm.units) (e_ixN (pv 0) (e_var (pv 2))) (ED.q (e_ixN (pv 0) (EV.frz (e_opN op_addF (pv 2) (ED.q (e_int)))))) (nomark _)))))))))
theorem g__law_is_row (C : HeadC fa fn ts K mg base T) : Fn P w K mg base T 2 "_law_is_row" ["row"] 1 d__law_is_row := (f__law_is_row C).toFn (fun _ _ _ _ _ _ us hl => match us, hl with | [_], _ => rfl)
theorem sc__law_same : FnScope ["told", "due", "at"] ["told", "due"] D__law_same.scope := ⟨rfl, rfl, rfl, by decide +kernel, rfl, by decide +kernel, by decide +kernel⟩
theorem f__law_same (C : HeadC fa fn ts K mg base T) : ∀ k, FnF P w K mg base T (0 + k + 1) D__law_same "_law_same" ["told", "due"] 2 (d__law_same k)
  | 0 => by
    rw [d__law_same_0]
    exact fn_bad C 4 4
  | k + 1 => by
    have ih := (f__law_same C k).toFn (fun _ _ _ _ _ _ us hl => match us, hl with | [_, _], _ => rfl)
    rw [d__law_same_s]
    refine fn_mk C 4 4 sc__law_same fun cdv A outer s H E1 H0 pins E hr => ?_
    exact s_cons (s_if (t_cmpN op_isBF (pv 1) (ED.q (e_non)) (nomark _)) (s_one (s_retD (e_cmpN op_isBF (pv 0) (ED.q (e_non)) (nomark _)))) (s_nil))
        (s_cons (s_if (t_tru (ED.q (e_isi rfl (C.free 29) bt_isinstance (e_peek (pv 1)) rfl (C.free 30) bt_bool))) (s_one (s_retD (e_ite (t_tru (e_peek (pv 1))) (e_cmpN op_isBF (pv 0) (ED.q (e_bl)) (nomark _)) (e_cmpN op_isBF (pv 0) (ED.q (e_bl)) (nomark _))))) (s_nil))
        (s_cons (s_if (t_tru (ED.q (e_isi rfl (C.free 29) bt_isinstance (e_peek (pv 1)) rfl (C.free 31) bt_int))) (s_one (s_retD (Fz.v_and (e_isi rfl (C.free 29) bt_isinstance (e_peek (pv 0)) rfl (C.free 31) bt_int) (Fz.v_and (Fz.v_not (ED.q (e_isi rfl (C.free 29) bt_isinstance (e_peek (pv 0)) rfl (C.free 30) bt_bool))) (Fz.v_one (e_cmpN (op_eqF hr.rm.units) (pv 0) (e_peek (pv 1)) (nomark _))))))) (s_nil))
        (s_cons (s_if (t_tru (ED.q (e_isi rfl (C.free 29) bt_isinstance (e_peek (pv 1)) rfl (C.free 32) bt_str))) (s_one (s_retD (Fz.v_and (e_isi rfl (C.free 29) bt_isinstance (e_peek (pv 0)) rfl (C.free 32) bt_str) (Fz.v_one (e_cmpN (op_eqF hr.rm.units) (pv 0) (e_peek (pv 1)) (nomark _)))))) (s_nil))
        (s_cons (s_if (t_bool (w_or (t_cmp (op_neF hr.rm.units) (e_isi rfl (C.free 29) bt_isinstance (e_peek (pv 1)) rfl (C.free 27) bt_tuple) (ED.q (e_isi rfl (C.free 29) bt_isinstance (e_peek (pv 0)) rfl (C.free 27) bt_tuple)) (nomark _)) (w_or1 (t_cmp (op_neF hr.rm.units) (e_isi rfl (C.free 29) bt_isinstance (e_peek (pv 1)) rfl (C.free 33) bt_list) (ED.q (e_isi rfl (C.free 29) bt_isinstance (e_peek (pv 0)) rfl (C.free 33) bt_list)) (nomark _))))) (s_one (s_retD (e_bl))) (s_nil))
        (s_one (s_retD (Fz.v_and (e_cmp (op_eqF hr.rm.units) (e_callB c_len rfl (C.free 26) bt_len (a_last (e_peek (pv 0)))) (ED.q (e_callB c_len rfl (C.free 26) bt_len (a_last (e_peek (pv 1))))) (nomark _)) (Fz.v_one (e_callB (c_all rfl) rfl (C.free 28) bt_all (a_last (EV.q (e_lc (own := [("at", 2)]) rfl sc__law_same.nd (i_range1 rfl (C.free 25) (e_callB c_len rfl (C.free 26) bt_len (a_last (e_peek (pv 1))))) (blkOk_by (by kernel_rfl)) (by decide) (fun _ _ _ _ _ _ _ => g_name sc__law_same.nd rfl (.inl rfl)) (fun _ _ _ _ _ _ _ => ts_nil) (fun _ _ _ _ _ _ _ => EV.frz (e_call ih hr (by omega) rfl (as_d (e_ixN (pv 0) (e_var (pv 2))) (as_d (e_ixN (pv 1) (e_var (pv 2))) (as_nil)))))))))))))))))
theorem g__law_same (C : HeadC fa fn ts K mg base T) (k : Nat) : Fn P w K mg base T (0 + k + 1) "_law_same" ["told", "due"] 2 (d__law_same k) := (f__law_same C k).toFn (fun _ _ _ _ _ _ us hl => match us, hl with | [_, _], _ => rfl)
theorem sc__law_take : FnScope ["well", "many", "found", "mixed"] ["well", "many"] D__law_take.scope := ⟨rfl, rfl, rfl, by decide +kernel, rfl, by decide +kernel, by decide +kernel⟩
theorem f__law_take (C : HeadC fa fn ts K mg base T) : FnF P w K mg base T 1 D__law_take "_law_take" ["well", "many"] 2 d__law_take := by
  unfold d__law_take
  refine fn_mk C 5 5 sc__law_take fun cdv A outer s H E1 H0 pins E hr => ?_
  exact s_cons (s_if (t_cmp op_gtF (e_ixN (pv 0) (e_int)) (ED.q (e_int)) (nomark _)) (s_cons (s_setD sc__law_take.nd rfl (.inl rfl) (e_op op_modF (e_callTy c_int rfl (C.free 31) bt_int (a_last (ED.q (e_ixN (pv 0) (e_int))))) (e_peek (pv 1))))
        (s_cons (s_setIx (pv 0) (e_op op_divF (e_ixN (pv 0) (e_int)) (e_peek (pv 1))) (e_int) (fun _ => rfl))
        (s_one (s_retD (e_var (pv 2)))))) (s_nil))
        (s_cons (s_setIx (pv 0) (e_op op_modF (e_callTy c_int rfl (C.free 31) bt_int (a_last (EV.q (e_op op_addF (e_op op_mulF (e_ixN (pv 0) (e_int)) (ED.q (e_int))) (ED.q (e_int)))))) (EV.q (e_op op_addF (e_op op_powF (e_int) (ED.q (e_int))) (ED.q (e_int))))) (e_int) (fun _ => rfl))
        (s_cons (s_setD sc__law_take.nd rfl (.inl rfl) (e_op op_modF (e_callTy c_int rfl (C.free 31) bt_int (a_last (EV.q (e_op op_addF (e_op op_divF (e_op op_mulF (e_ixN (pv 0) (e_int)) (ED.q (e_ixN (pv 0) (e_int)))) (ED.q (e_int))) (ED.q (e_ixN (pv 0) (e_int))))))) (ED.q (e_int))))
        (s_one (s_retD (e_op op_modF (e_callTy c_int rfl (C.free 31) bt_int (a_last (ED.q (e_opN op_divF (pv 3) (ED.q (e_int)))))) (e_peek (pv 1)))))))
theorem g__law_take (C : HeadC fa fn ts K mg base T) : Fn P w K mg base T 1 "_law_take" ["well", "many"] 2 d__law_take := (f__law_take C).toFn (fun _ _ _ _ _ _ us hl => match us, hl with | [_, _], _ => rfl)
theorem sc__law_word : FnScope ["well", "k", "most", "at"] ["well", "k", "most"] D__law_word.scope := ⟨rfl, rfl, rfl, by decide +kernel, rfl, by decide +kernel, by decide +kernel⟩
theorem f__law_word (C : HeadC fa fn ts K mg base T) : FnF P w K mg base T 2 D__law_word "_law_word" ["well", "k", "most"] 3 d__law_word := by
  unfold d__law_word
  refine fn_mk C 6 6 sc__law_word fun cdv A outer s H E1 H0 pins E hr => ?_
  exact s_one (s_retD (e_callTy c_tuple rfl (C.free 27) bt_tuple (a_last (EV.q (e_lc (own := [("at", 3)]) rfl sc__law_word.nd (i_range1 rfl (C.free 25) (EV.frz (e_call (g__law_take C) hr (by decide) rfl (as_s (pv 0) (as_d (EV.frz (e_opN op_addF (pv 2) (ED.q (e_int)))) (as_nil)))))) (blkOk_by (by kernel_rfl)) (by decide) (fun _ _ _ _ _ _ _ => g_name sc__law_word.nd rfl (.inl rfl)) (fun _ _ _ _ _ _ _ => ts_nil) (fun _ _ _ _ _ _ _ => EV.frz (e_call (g__law_take C) hr (by decide) rfl (as_s (pv 0) (as_d (e_var (pv 1)) (as_nil))))))))))
theorem g__law_word (C : HeadC fa fn ts K mg base T) : Fn P w K mg base T 2 "_law_word" ["well", "k", "most"] 3 d__law_word := (f__law_word C).toFn (fun _ _ _ _ _ _ us hl => match us, hl with | [_, _, _], _ => rfl)
theorem sc_is_integer : FnScope ["value"] ["value"] D_is_integer.scope := ⟨rfl, rfl, rfl, by decide +kernel, rfl, by decide +kernel, by decide +kernel⟩
theorem f_is_integer (C : HeadC fa fn ts K mg base T) : FnF P w K mg base T 1 D_is_integer "is_integer" ["value"] 1 d_is_integer := by
  unfold d_is_integer
  refine fn_mk C 7 7 sc_is_integer fun cdv A outer s H E1 H0 pins E hr => ?_
  exact s_one (s_retD (Fz.v_and (e_isi rfl (C.free 29) bt_isinstance (e_peek (pv 0)) rfl (C.free 31) bt_int) (Fz.v_one (Fz.v_not (ED.q (e_isi rfl (C.free 29) bt_isinstance (e_peek (pv 0)) rfl (C.free 30) bt_bool))))))
theorem g_is_integer (C : HeadC fa fn ts K mg base T) : Fn P w K mg base T 1 "is_integer" ["value"] 1 d_is_integer := (f_is_integer C).toFn (fun _ _ _ _ _ _ us hl => match us, hl with | [_], _ => rfl)
theorem sc_is_natural : FnScope ["value"] ["value"] D_is_natural.scope := ⟨rfl, rfl, rfl, by decide +kernel, rfl, by decide +kernel, by decide +kernel⟩
theorem f_is_natural (C : HeadC fa fn ts K mg base T) : FnF P w K mg base T 2 D_is_natural "is_natural" ["value"] 1 d_is_natural := by
  unfold d_is_natural
  refine fn_mk C 8 8 sc_is_natural fun cdv A outer s H E1 H0 pins E hr => ?_
  exact s_one (s_retD (Fz.v_and (EV.frz (e_call (g_is_integer C) hr (by decide) rfl (as_d (e_var (pv 0)) (as_nil)))) (Fz.v_one (e_cmpN op_geF (pv 0) (ED.q (e_int)) (nomark _)))))
theorem g_is_natural (C : HeadC fa fn ts K mg base T) : Fn P w K mg base T 2 "is_natural" ["value"] 1 d_is_natural := (f_is_natural C).toFn (fun _ _ _ _ _ _ us hl => match us, hl with | [_], _ => rfl)
theorem sc_is_below : FnScope ["value", "many"] ["value", "many"] D_is_below.scope := ⟨rfl, rfl, rfl, by decide +kernel, rfl, by decide +kernel, by decide +kernel⟩
theorem f_is_below (C : HeadC fa fn ts K mg base T) : FnF P w K mg base T 3 D_is_below "is_below" ["value", "many"] 2 d_is_below := by
  unfold d_is_below
  refine fn_mk C 9 9 sc_is_below fun cdv A outer s H E1 H0 pins E hr => ?_
  exact s_one (s_retD (Fz.v_and (EV.frz (e_call (g_is_natural C) hr (by decide) rfl (as_d (e_var (pv 0)) (as_nil)))) (Fz.v_one (e_cmpN op_ltF (pv 0) (e_peek (pv 1)) (nomark _)))))
theorem g_is_below (C : HeadC fa fn ts K mg base T) : Fn P w K mg base T 3 "is_below" ["value", "many"] 2 d_is_below := (f_is_below C).toFn (fun _ _ _ _ _ _ us hl => match us, hl with | [_, _], _ => rfl)
theorem sc_is_letters : FnScope ["k", "value", "letter"] ["k", "value"] D_is_letters.scope := ⟨rfl, rfl, rfl, by decide +kernel, rfl, by decide +kernel, by decide +kernel⟩
theorem f_is_letters (C : HeadC fa fn ts K mg base T) : FnF P w K mg base T 5 D_is_letters "is_letters" ["k", "value"] 2 d_is_letters := by
  unfold d_is_letters
  refine fn_mkC C 10 10 0 sc_is_letters fun A outer s H E1 H0 pins E hr => ?_
  exact s_one (s_retD (Fz.v_and (e_isi rfl (C.free 29) bt_isinstance (e_peek (pv 1)) rfl (C.free 27) bt_tuple) (Fz.v_one (e_any (own := [("letter", 2)]) false hr rfl sc_is_letters.nd rfl (C.free 28) (C.tab 0).1 rfl (C.tab 0).2 (i_seq (e_var (pv 1))) (blkOk_by (by kernel_rfl)) ⟨rfl, by decide +kernel, rfl⟩ (by decide) (fun _ _ _ _ _ _ _ _ hr => g_name sc_is_letters.nd rfl (.inl rfl)) (fun _ _ _ _ _ _ _ _ hr => ts_nil) (fun _ _ _ _ _ _ _ _ hr => EV.frz (e_call (g_is_below C) hr (by decide) rfl (as_d (e_var (pv 2)) (as_d (e_var (pv 0)) (as_nil)))))))))
theorem g_is_letters (C : HeadC fa fn ts K mg base T) : Fn P w K mg base T 5 "is_letters" ["k", "value"] 2 d_is_letters := (f_is_letters C).toFn (fun _ _ _ _ _ _ us hl => match us, hl with | [_, _], _ => rfl)
theorem sc_is_word_of : FnScope ["k", "told"] ["k", "told"] D_is_word_of.scope := ⟨rfl, rfl, rfl, by decide +kernel, rfl, by decide +kernel, by decide +kernel⟩
theorem f_is_word_of (C : HeadC fa fn ts K mg base T) : FnF P w K mg base T 6 D_is_word_of "is_word_of" ["k", "told"] 2 d_is_word_of := by
  unfold d_is_word_of
  refine fn_mk C 11 11 sc_is_word_of fun cdv A outer s H E1 H0 pins E hr => ?_
  exact s_one (s_ret (e_call (g_is_letters C) hr (by decide) rfl (as_d (e_var (pv 0)) (as_d (e_var (pv 1)) (as_nil)))))
theorem g_is_word_of (C : HeadC fa fn ts K mg base T) : Fn P w K mg base T 6 "is_word_of" ["k", "told"] 2 d_is_word_of := (f_is_word_of C).toFn (fun _ _ _ _ _ _ us hl => match us, hl with | [_, _], _ => rfl)
theorem sc_check_word : FnScope ["k", "word"] ["k", "word"] D_check_word.scope := ⟨rfl, rfl, rfl, by decide +kernel, rfl, by decide +kernel, by decide +kernel⟩
theorem f_check_word (C : HeadC fa fn ts K mg base T) : FnF P w K mg base T 7 D_check_word "check_word" ["k", "word"] 2 d_check_word := by
  unfold d_check_word
  refine fn_mk C 12 12 sc_check_word fun cdv A outer s H E1 H0 pins E hr => ?_
  exact s_one (s_if (t_not (t_tru (EV.q (e_call (g_is_word_of C) hr (by decide) rfl (as_d (e_var (pv 0)) (as_d (e_var (pv 1)) (as_nil))))))) (s_one (s_never)) (s_nil))
theorem g_check_word (C : HeadC fa fn ts K mg base T) : Fn P w K mg base T 7 "check_word" ["k", "word"] 2 d_check_word := (f_check_word C).toFn (fun _ _ _ _ _ _ us hl => match us, hl with | [_, _], _ => rfl)
theorem sc_is_leader_in : FnScope ["word", "at"] ["word"] D_is_leader_in.scope := ⟨rfl, rfl, rfl, by decide +kernel, rfl, by decide +kernel, by decide +kernel⟩
theorem f_is_leader_in (C : HeadC fa fn ts K mg base T) : FnF P w K mg base T 2 D_is_leader_in "is_leader_in" ["word"] 1 d_is_leader_in := by
  unfold d_is_leader_in
  refine fn_mkC C 13 13 1 sc_is_leader_in fun A outer s H E1 H0 pins E hr => ?_
  exact s_one (s_retD (Fz.v_and (e_cmp op_gtF (e_callB c_len rfl (C.free 26) bt_len (a_last (e_peek (pv 0)))) (ED.q (e_int)) (nomark _)) (Fz.v_one (e_any (own := [("at", 1)]) false hr rfl sc_is_leader_in.nd rfl (C.free 28) (C.tab 1).1 rfl (C.tab 1).2 (i_range2 rfl (C.free 25) (e_int) (e_callB c_len rfl (C.free 26) bt_len (a_last (e_peek (pv 0))))) (blkOk_by (by kernel_rfl)) ⟨rfl, by decide +kernel, rfl⟩ (by decide) (fun _ _ _ _ _ _ _ _ hr => g_name sc_is_leader_in.nd rfl (.inl rfl)) (fun _ _ _ _ _ _ _ _ hr => ts_nil) (fun _ _ _ _ _ _ _ _ hr => e_cmpN (op_ltG hr.rm.units) (pv 0) (EV.q (e_slN (pv 0) (o_some (e_var (pv 1))) (o_none))) (nomark _))))))
theorem g_is_leader_in (C : HeadC fa fn ts K mg base T) : Fn P w K mg base T 2 "is_leader_in" ["word"] 1 d_is_leader_in := (f_is_leader_in C).toFn (fun _ _ _ _ _ _ us hl => match us, hl with | [_], _ => rfl)
theorem sc_is_leader : FnScope ["word"] ["word"] D_is_leader.scope := ⟨rfl, rfl, rfl, by decide +kernel, rfl, by decide +kernel, by decide +kernel⟩
theorem f_is_leader (C : HeadC fa fn ts K mg base T) : FnF P w K mg base T 8 D_is_leader "is_leader" ["word"] 1 d_is_leader := by
  unfold d_is_leader
  refine fn_mk C 14 14 sc_is_leader fun cdv A outer s H E1 H0 pins E hr => ?_
  exact s_cons (s_expr (e_call (g_check_word C) hr (by decide) rfl (as_d (e_gint rfl (C.int 34)) (as_d (e_var (pv 0)) (as_nil)))))
        (s_one (s_ret (e_call (g_is_leader_in C) hr (by decide) rfl (as_d (e_var (pv 0)) (as_nil)))))
theorem g_is_leader (C : HeadC fa fn ts K mg base T) : Fn P w K mg base T 8 "is_leader" ["word"] 1 d_is_leader := (f_is_leader C).toFn (fun _ _ _ _ _ _ us hl => match us, hl with | [_], _ => rfl)
theorem k_is_leader_0_word (C : HeadC fa fn ts K mg base T) : FnK P w K mg base T 8 "is_leader" ["word"] 1 d_is_leader 0 ["word"] [0] := (f_is_leader C).toFnK fun _ _ _ _ _ _ us ws h1 h2 => match us, ws, h1, h2 with | [], [_], _, _ => rfl
theorem sc_row_in : FnScope ["word", "found", "size"] ["word"] D_row_in.scope := ⟨rfl, rfl, rfl, by decide +kernel, rfl, by decide +kernel, by decide +kernel⟩
theorem f_row_in (C : HeadC fa fn ts K mg base T) : FnF P w K mg base T 3 D_row_in "row_in" ["word"] 1 d_row_in := by
  unfold d_row_in
  refine fn_mk C 15 15 sc_row_in fun cdv A outer s H E1 H0 pins E hr => ?_
  exact s_cons (s_set sc_row_in.nd rfl (.inl rfl) (e_lst (a_nil)))
        (s_cons (s_while PassesOwn.never (t_cmp op_gtF (e_callB c_len rfl (C.free 26) bt_len (a_last (e_peek (pv 0)))) (ED.q (e_int)) (nomark _)) (s_cons (s_setD sc_row_in.nd rfl (.inl rfl) (e_callB (c_maxI rfl) rfl (C.free 35) bt_max (a_last (EV.q (e_lc (own := [("size", 2)]) rfl sc_row_in.nd (i_range2 rfl (C.free 25) (e_int) (EV.frz (e_op op_addF (e_callB c_len rfl (C.free 26) bt_len (a_last (e_peek (pv 0)))) (ED.q (e_int))))) (blkOk_by (by kernel_rfl)) (by decide) (fun _ _ _ _ _ _ _ => g_name sc_row_in.nd rfl (.inl rfl)) (fun _ _ _ _ _ _ _ => ts_one (t_tru (EV.q (e_call (g_is_leader_in C) hr (by decide) rfl (as_d (EV.frz (e_slN (pv 0) (o_none) (o_some (e_var (pv 2))))) (as_nil)))))) (fun _ _ _ _ _ _ _ => e_var (pv 2)))))))
        (s_cons (s_app (pv 1) (EV.frz (e_slN (pv 0) (o_none) (o_some (e_var (pv 2))))))
        (s_one (s_set sc_row_in.nd rfl (.inr rfl) (e_slN (pv 0) (o_some (e_var (pv 2))) (o_none)))))))
        (s_one (s_retD (e_callTy c_tuple rfl (C.free 27) bt_tuple (a_last (e_peek (pv 1)))))))
theorem g_row_in (C : HeadC fa fn ts K mg base T) : Fn P w K mg base T 3 "row_in" ["word"] 1 d_row_in := (f_row_in C).toFn (fun _ _ _ _ _ _ us hl => match us, hl with | [_], _ => rfl)
theorem sc_row_of_leaders : FnScope ["word"] ["word"] D_row_of_leaders.scope := ⟨rfl, rfl, rfl, by decide +kernel, rfl, by decide +kernel, by decide +kernel⟩
theorem f_row_of_leaders (C : HeadC fa fn ts K mg base T) : FnF P w K mg base T 8 D_row_of_leaders "row_of_leaders" ["word"] 1 d_row_of_leaders := by
  unfold d_row_of_leaders
  refine fn_mk C 16 16 sc_row_of_leaders fun cdv A outer s H E1 H0 pins E hr => ?_
  exact s_cons (s_expr (e_call (g_check_word C) hr (by decide) rfl (as_d (e_gint rfl (C.int 34)) (as_d (e_var (pv 0)) (as_nil)))))
        (s_one (s_ret (e_call (g_row_in C) hr (by decide) rfl (as_d (e_var (pv 0)) (as_nil)))))
theorem g_row_of_leaders (C : HeadC fa fn ts K mg base T) : Fn P w K mg base T 8 "row_of_leaders" ["word"] 1 d_row_of_leaders := (f_row_of_leaders C).toFn (fun _ _ _ _ _ _ us hl => match us, hl with | [_], _ => rfl)
theorem k_row_of_leaders_0_word (C : HeadC fa fn ts K mg base T) : FnK P w K mg base T 8 "row_of_leaders" ["word"] 1 d_row_of_leaders 0 ["word"] [0] := (f_row_of_leaders C).toFnK fun _ _ _ _ _ _ us ws h1 h2 => match us, ws, h1, h2 with | [], [_], _, _ => rfl
theorem sc__law_long_right : FnScope ["well", "k", "short", "more", "end", "words", "first", "middle", "last", "many", "word", "row", "together", "own", "step"] ["well"] D__law_long_right.scope := ⟨rfl, rfl, rfl, by decide +kernel, rfl, by decide +kernel, by decide +kernel⟩
theorem f__law_long_right (C : HeadC fa fn ts K mg base T) : FnF P w K mg base T 26 D__law_long_right "_law_long_right" ["well"] 1 d__law_long_right := by
  unfold d__law_long_right
  refine fn_mk C 17 17 sc__law_long_right fun cdv A outer s H E1 H0 pins E hr => ?_
  exact s_cons (s_set sc__law_long_right.nd rfl (.inr rfl) (e_op op_addF (e_int) (EV.q (e_call (g__law_take C) hr (by decide) rfl (as_s (pv 0) (as_d (e_int) (as_nil)))))))
        (s_cons (s_par3 rfl sc__law_long_right.nd rfl rfl rfl (by decide) (by decide) (by decide) rfl rfl rfl (av_cons (e_call (g__law_word C) hr (by decide) rfl (as_s (pv 0) (as_d (e_var (pv 1)) (as_d (e_int) (as_nil))))) (av_cons (e_op op_addF (e_int) (EV.q (e_call (g__law_take C) hr (by decide) rfl (as_s (pv 0) (as_d (e_int) (as_nil)))))) (av_cons (e_call (g__law_word C) hr (by decide) rfl (as_s (pv 0) (as_d (e_var (pv 1)) (as_d (e_int) (as_nil))))) (av_nil) (fun _ _ => av_nil)) (fun _ _ => av_cons (e_call (g__law_word C) hr (by decide) rfl (as_s (pv 0) (as_d (e_var (pv 1)) (as_d (e_int) (as_nil))))) (av_nil) (fun _ _ => av_nil))) (fun _ _ => av_cons (e_op op_addF (e_int) (EV.q (e_call (g__law_take C) hr (by decide) rfl (as_s (pv 0) (as_d (e_int) (as_nil)))))) (av_cons (e_call (g__law_word C) hr (by decide) rfl (as_s (pv 0) (as_d (e_var (pv 1)) (as_d (e_int) (as_nil))))) (av_nil) (fun _ _ => av_nil)) (fun _ _ => av_cons (e_call (g__law_word C) hr (by decide) rfl (as_s (pv 0) (as_d (e_var (pv 1)) (as_d (e_int) (as_nil))))) (av_nil) (fun _ _ => av_nil)))) rfl)
        (s_cons (s_set sc__law_long_right.nd rfl (.inl rfl) (e_lst (a_cons (EV.frz (e_op op_addF (EV.frz (e_opN op_mulG (pv 2) (e_peek (pv 3)))) (e_peek (pv 4)))) (a_nil))))
        (s_cons (s_pars rfl (by decide) (av_cons (e_call (g__law_take C) hr (by decide) rfl (as_s (pv 0) (as_d (e_var (pv 1)) (as_nil)))) (av_cons (e_call (g__law_take C) hr (by decide) rfl (as_s (pv 0) (as_d (e_var (pv 1)) (as_nil)))) (av_cons (e_call (g__law_take C) hr (by decide) rfl (as_s (pv 0) (as_d (e_var (pv 1)) (as_nil)))) (av_cons (e_call (g__law_take C) hr (by decide) rfl (as_s (pv 0) (as_d (e_int) (as_nil)))) (av_nil) (fun _ _ => av_nil)) (fun _ _ => av_cons (e_call (g__law_take C) hr (by decide) rfl (as_s (pv 0) (as_d (e_int) (as_nil)))) (av_nil) (fun _ _ => av_nil))) (fun _ _ => av_cons (e_call (g__law_take C) hr (by decide) rfl (as_s (pv 0) (as_d (e_var (pv 1)) (as_nil)))) (av_cons (e_call (g__law_take C) hr (by decide) rfl (as_s (pv 0) (as_d (e_int) (as_nil)))) (av_nil) (fun _ _ => av_nil)) (fun _ _ => av_cons (e_call (g__law_take C) hr (by decide) rfl (as_s (pv 0) (as_d (e_int) (as_nil)))) (av_nil) (fun _ _ => av_nil)))) (fun _ _ => av_cons (e_call (g__law_take C) hr (by decide) rfl (as_s (pv 0) (as_d (e_var (pv 1)) (as_nil)))) (av_cons (e_call (g__law_take C) hr (by decide) rfl (as_s (pv 0) (as_d (e_var (pv 1)) (as_nil)))) (av_cons (e_call (g__law_take C) hr (by decide) rfl (as_s (pv 0) (as_d (e_int) (as_nil)))) (av_nil) (fun _ _ => av_nil)) (fun _ _ => av_cons (e_call (g__law_take C) hr (by decide) rfl (as_s (pv 0) (as_d (e_int) (as_nil)))) (av_nil) (fun _ _ => av_nil))) (fun _ _ => av_cons (e_call (g__law_take C) hr (by decide) rfl (as_s (pv 0) (as_d (e_var (pv 1)) (as_nil)))) (av_cons (e_call (g__law_take C) hr (by decide) rfl (as_s (pv 0) (as_d (e_int) (as_nil)))) (av_nil) (fun _ _ => av_nil)) (fun _ _ => av_cons (e_call (g__law_take C) hr (by decide) rfl (as_s (pv 0) (as_d (e_int) (as_nil)))) (av_nil) (fun _ _ => av_nil))))) (pgs_cons (pg_name (i := 6) sc__law_long_right.nd rfl (.inl rfl)) (pgs_cons (pg_name (i := 7) sc__law_long_right.nd rfl (.inl rfl)) (pgs_cons (pg_name (i := 8) sc__law_long_right.nd rfl (.inl rfl)) (pgs_cons (pg_name (i := 9) sc__law_long_right.nd rfl (.inl rfl)) (pgs_nil))))))
        (s_cons (s_app (pv 5) (EV.frz (e_op op_addF (EV.frz (e_op op_addF (e_tup (a_cons (e_var (pv 6)) (a_nil))) (EV.q (e_op op_mulG (e_tup (a_cons (e_var (pv 7)) (a_nil))) (e_peek (pv 9)))))) (ED.q (e_tup (a_cons (e_var (pv 8)) (a_nil)))))))
        (s_cons (s_app (pv 5) (EV.frz (e_op op_addF (e_tup (a_cons (e_int) (a_nil))) (ED.q (e_callTy c_tuple rfl (C.free 27) bt_tuple (a_last (EV.q (e_lc (own := [("step", 14)]) rfl sc__law_long_right.nd (i_range1 rfl (C.free 25) (EV.frz (e_op op_addF (e_int) (EV.q (e_call (g__law_take C) hr (by decide) rfl (as_s (pv 0) (as_d (e_int) (as_nil)))))))) (blkOk_by (by kernel_rfl)) (by decide) (fun _ _ _ _ _ _ _ => g_name sc__law_long_right.nd rfl (.inl rfl)) (fun _ _ _ _ _ _ _ => ts_nil) (fun _ _ _ _ _ _ _ => EV.frz (e_call (g__law_take C) hr (by decide) rfl (as_s (pv 0) (as_d (e_var (pv 1)) (as_nil)))))))))))))
        (s_cons (s_for PassesOwn.never rfl (i_seq (e_var (pv 5))) (g_name sc__law_long_right.nd rfl (.inl rfl)) (s_cons (s_par2 rfl sc__law_long_right.nd rfl rfl (by decide) rfl rfl (av_cons (e_call (g_row_of_leaders C) hr (by decide) rfl (as_d (e_var (pv 10)) (as_nil))) (av_cons (ED.v (e_tup (a_nil))) (av_nil) (fun _ _ => av_nil)) (fun _ _ => av_cons (ED.v (e_tup (a_nil))) (av_nil) (fun _ _ => av_nil))) rfl)
        (s_cons (s_for PassesOwn.never rfl (i_seq (e_var (pv 11))) (g_name sc__law_long_right.nd rfl (.inl rfl)) (s_one (s_set sc__law_long_right.nd rfl (.inl rfl) (e_opN op_addF (pv 12) (e_peek (pv 13))))))
        (s_one (s_if (t_bool (w_or (t_cmpN (op_neF hr.rm.units) (pv 12) (e_peek (pv 10)) (nomark _)) (w_or (t_not (t_tru (EV.q (e_call (g__law_is_row C) hr (by decide) rfl (as_d (e_var (pv 11)) (as_nil)))))) (w_or (t_not (t_tru (EV.q (e_call (g__law_same C 24) hr (by decide) rfl (as_d (EV.frz (e_call (g_is_leader C) hr (by decide) rfl (as_d (e_var (pv 10)) (as_nil)))) (as_d (e_cmp (op_eqF hr.rm.units) (e_callB c_len rfl (C.free 26) bt_len (a_last (e_peek (pv 11)))) (ED.q (e_int)) (nomark _)) (as_nil))))))) (w_or1 (t_cmp (op_neF hr.rm.units) (EV.frz (e_call (g__law_leads C) hr (by decide) rfl (as_d (e_var (pv 10)) (as_nil)))) (ED.q (e_cmp (op_eqF hr.rm.units) (e_callB c_len rfl (C.free 26) bt_len (a_last (e_peek (pv 11)))) (ED.q (e_int)) (nomark _))) (nomark _))))))) (s_one (s_retD (e_bl))) (s_nil))))))
        (s_one (s_retD (e_bl)))))))))
theorem g__law_long_right (C : HeadC fa fn ts K mg base T) : Fn P w K mg base T 26 "_law_long_right" ["well"] 1 d__law_long_right := (f__law_long_right C).toFn (fun _ _ _ _ _ _ us hl => match us, hl with | [_], _ => rfl)
theorem sc__law_well : FnScope ["script", "at", "mixed", "cell", "digits"] ["script", "at"] D__law_well.scope := ⟨rfl, rfl, rfl, by decide +kernel, rfl, by decide +kernel, by decide +kernel⟩
theorem f__law_well (C : HeadC fa fn ts K mg base T) : FnF P w K mg base T 1 D__law_well "_law_well" ["script", "at"] 2 d__law_well := by
  unfold d__law_well
  refine fn_mk C 18 18 sc__law_well fun cdv A outer s H E1 H0 pins E hr => ?_
  exact s_cons (s_set sc__law_well.nd rfl (.inl rfl) (e_op op_addF (e_int) (ED.q (e_callB c_len rfl (C.free 26) bt_len (a_last (EV.q (e_slN (pv 0) (o_none) (o_some (e_int)))))))))
        (s_cons (s_for PassesOwn.never rfl (i_seq (EV.frz (e_slN (pv 0) (o_none) (o_some (e_int))))) (g_name sc__law_well.nd rfl (.inl rfl)) (s_one (s_setD sc__law_well.nd rfl (.inl rfl) (e_op op_modF (e_callTy c_int rfl (C.free 31) bt_int (a_last (EV.q (e_op op_addF (EV.frz (e_op op_addF (e_opN op_mulF (pv 2) (ED.q (e_int))) (ED.q (e_op op_modF (e_callTy c_int rfl (C.free 31) bt_int (a_last (e_peek (pv 3)))) (EV.q (e_op op_addF (e_op op_powF (e_int) (ED.q (e_int))) (ED.q (e_int)))))))) (ED.q (e_int)))))) (EV.q (e_op op_addF (e_op op_powF (e_int) (ED.q (e_int))) (ED.q (e_int))))))))
        (s_cons (s_setD sc__law_well.nd rfl (.inl rfl) (e_op op_modF (e_callTy c_int rfl (C.free 31) bt_int (a_last (EV.q (e_op op_addF (EV.frz (e_op op_addF (e_opN op_mulF (pv 2) (ED.q (e_int))) (ED.q (e_opN op_mulF (pv 1) (ED.q (e_int)))))) (ED.q (e_int)))))) (EV.q (e_op op_addF (e_op op_powF (e_int) (ED.q (e_int))) (ED.q (e_int))))))
        (s_cons (s_setD sc__law_well.nd rfl (.inl rfl) (e_int))
        (s_cons (s_if (t_cmpN op_ltF (pv 1) (ED.q (e_callB c_len rfl (C.free 26) bt_len (a_last (e_peek (pv 0))))) (nomark _)) (s_one (s_setD sc__law_well.nd rfl (.inl rfl) (e_callB (c_max2 rfl) rfl (C.free 35) bt_max (a_consQ (e_int) (a_last (ED.q (e_op op_subF (e_callB c_abs rfl (C.free 36) bt_abs (a_last (ED.q (e_callTy c_int rfl (C.free 31) bt_int (a_last (ED.q (e_ixN (pv 0) (e_var (pv 1))))))))) (ED.q (e_op op_powF (e_int) (ED.q (e_int))))))))))) (s_nil))
        (s_one (s_ret (e_lst (a_cons (e_var (pv 4)) (a_cons (e_var (pv 2)) (a_nil))))))))))
theorem g__law_well (C : HeadC fa fn ts K mg base T) : Fn P w K mg base T 1 "_law_well" ["script", "at"] 2 d__law_well := (f__law_well C).toFn (fun _ _ _ _ _ _ us hl => match us, hl with | [_, _], _ => rfl)
theorem sc_is_between : FnScope ["value", "low", "high"] ["value", "low", "high"] D_is_between.scope := ⟨rfl, rfl, rfl, by decide +kernel, rfl, by decide +kernel, by decide +kernel⟩
theorem f_is_between (C : HeadC fa fn ts K mg base T) : FnF P w K mg base T 2 D_is_between "is_between" ["value", "low", "high"] 3 d_is_between := by
  unfold d_is_between
  refine fn_mk C 19 19 sc_is_between fun cdv A outer s H E1 H0 pins E hr => ?_
  exact s_one (s_retD (Fz.v_and (EV.frz (e_call (g_is_integer C) hr (by decide) rfl (as_d (e_var (pv 0)) (as_nil)))) (Fz.v_one (e_chain op_leF op_leF (e_var (pv 1)) (e_var (pv 0)) (e_peek (pv 2))))))
theorem g_is_between (C : HeadC fa fn ts K mg base T) : Fn P w K mg base T 2 "is_between" ["value", "low", "high"] 3 d_is_between := (f_is_between C).toFn (fun _ _ _ _ _ _ us hl => match us, hl with | [_, _, _], _ => rfl)
theorem sc_is_k : FnScope ["value"] ["value"] D_is_k.scope := ⟨rfl, rfl, rfl, by decide +kernel, rfl, by decide +kernel, by decide +kernel⟩
theorem f_is_k (C : HeadC fa fn ts K mg base T) : FnF P w K mg base T 3 D_is_k "is_k" ["value"] 1 d_is_k := by
  unfold d_is_k
  refine fn_mk C 20 20 sc_is_k fun cdv A outer s H E1 H0 pins E hr => ?_
  exact s_one (s_ret (e_call (g_is_between C) hr (by decide) rfl (as_d (e_var (pv 0)) (as_d (e_int) (as_d (e_gint rfl (C.int 34)) (as_nil))))))
theorem g_is_k (C : HeadC fa fn ts K mg base T) : Fn P w K mg base T 3 "is_k" ["value"] 1 d_is_k := (f_is_k C).toFn (fun _ _ _ _ _ _ us hl => match us, hl with | [_], _ => rfl)
theorem sc_check_k : FnScope ["k"] ["k"] D_check_k.scope := ⟨rfl, rfl, rfl, by decide +kernel, rfl, by decide +kernel, by decide +kernel⟩
theorem f_check_k (C : HeadC fa fn ts K mg base T) : FnF P w K mg base T 4 D_check_k "check_k" ["k"] 1 d_check_k := by
  unfold d_check_k
  refine fn_mk C 21 21 sc_check_k fun cdv A outer s H E1 H0 pins E hr => ?_
  exact s_one (s_if (t_not (t_tru (EV.q (e_call (g_is_k C) hr (by decide) rfl (as_d (e_var (pv 0)) (as_nil)))))) (s_one (s_never)) (s_nil))
theorem g_check_k (C : HeadC fa fn ts K mg base T) : Fn P w K mg base T 4 "check_k" ["k"] 1 d_check_k := (f_check_k C).toFn (fun _ _ _ _ _ _ us hl => match us, hl with | [_], _ => rfl)
theorem sc_longer : FnScope ["k", "words", "word", "letter"] ["k", "words"] D_longer.scope := ⟨rfl, rfl, rfl, by decide +kernel, rfl, by decide +kernel, by decide +kernel⟩
theorem f_longer (C : HeadC fa fn ts K mg base T) : FnF P w K mg base T 1 D_longer "longer" ["k", "words"] 2 d_longer := by
  unfold d_longer
  refine fn_mk C 22 22 sc_longer fun cdv A outer s H E1 H0 pins E hr => ?_
  exact s_one (s_ret (e_lc2 (own := [("word", 2), ("letter", 3)]) (vs1 := [3]) rfl sc_longer.nd (i_seq (e_var (pv 1))) (blkOk_by (by kernel_rfl)) (by decide) (by decide) (by decide) (fun _ _ _ _ _ _ _ => g_name sc_longer.nd rfl (.inl rfl)) (fun _ _ _ _ _ _ _ => ts_nil) (fun _ _ _ _ _ _ _ => i_range1 rfl (C.free 25) (e_var (pv 0))) (fun _ _ _ _ _ _ _ => g_name sc_longer.nd rfl (.inl rfl)) (fun _ _ _ _ _ _ _ => ts_nil) (fun _ _ _ _ _ _ _ => EV.frz (e_opN op_addF (pv 2) (ED.q (e_tup (a_cons (e_var (pv 3)) (a_nil))))))))
theorem g_longer (C : HeadC fa fn ts K mg base T) : Fn P w K mg base T 1 "longer" ["k", "words"] 2 d_longer := (f_longer C).toFn (fun _ _ _ _ _ _ us hl => match us, hl with | [_, _], _ => rfl)
theorem sc_leaders : FnScope ["k", "length", "words", "_", "word"] ["k", "length"] D_leaders.scope := ⟨rfl, rfl, rfl, by decide +kernel, rfl, by decide +kernel, by decide +kernel⟩
theorem f_leaders (C : HeadC fa fn ts K mg base T) : FnF P w K mg base T 5 D_leaders "leaders" ["k", "length"] 2 d_leaders := by
  unfold d_leaders
  refine fn_mk C 23 23 sc_leaders fun cdv A outer s H E1 H0 pins E hr => ?_
  exact s_cons (s_expr (e_call (g_check_k C) hr (by decide) rfl (as_d (e_var (pv 0)) (as_nil))))
        (s_cons (s_if (t_bool (w_or (t_not (t_tru (EV.q (e_call (g_is_natural C) hr (by decide) rfl (as_d (e_var (pv 1)) (as_nil)))))) (w_or1 (t_cmpN (op_eqF hr.rm.units) (pv 1) (ED.q (e_int)) (nomark _))))) (s_one (s_never)) (s_nil))
        (s_cons (s_set sc_leaders.nd rfl (.inl rfl) (e_lst (a_cons (e_tup (a_nil)) (a_nil))))
        (s_cons (s_for PassesOwn.never rfl (i_range1 rfl (C.free 25) (e_var (pv 1))) (g_name sc_leaders.nd rfl (.inl rfl)) (s_one (s_set sc_leaders.nd rfl (.inl rfl) (e_call (g_longer C) hr (by decide) rfl (as_d (e_var (pv 0)) (as_d (e_var (pv 2)) (as_nil)))))))
        (s_one (s_ret (e_lc (own := [("word", 4)]) rfl sc_leaders.nd (i_seq (e_var (pv 2))) (blkOk_by (by kernel_rfl)) (by decide) (fun _ _ _ _ _ _ _ => g_name sc_leaders.nd rfl (.inl rfl)) (fun _ _ _ _ _ _ _ => ts_one (t_tru (EV.q (e_call (g_is_leader_in C) hr (by decide) rfl (as_d (e_var (pv 4)) (as_nil)))))) (fun _ _ _ _ _ _ _ => e_var (pv 4))))))))
theorem g_leaders (C : HeadC fa fn ts K mg base T) : Fn P w K mg base T 5 "leaders" ["k", "length"] 2 d_leaders := (f_leaders C).toFn (fun _ _ _ _ _ _ us hl => match us, hl with | [_, _], _ => rfl)
theorem k_leaders_0_length_k (C : HeadC fa fn ts K mg base T) : FnK P w K mg base T 5 "leaders" ["k", "length"] 2 d_leaders 0 ["length", "k"] [1, 0] := (f_leaders C).toFnK fun _ _ _ _ _ _ us ws h1 h2 => match us, ws, h1, h2 with | [], [_, _], _, _ => rfl
theorem sc_law : FnScope ["script", "at", "well", "turn", "k", "word", "together", "row", "own", "short", "rows", "length", "due", "told", "bits"] ["script"] D_law.scope := ⟨rfl, rfl, rfl, by decide +kernel, rfl, by decide +kernel, by decide +kernel⟩
theorem f_law (C : HeadC fa fn ts K mg base T) : FnF P w K mg base T 27 D_law "law" ["script"] 1 d_law18 := by
  unfold d_law18
  refine fn_mk C 24 24 sc_law fun cdv A outer s H E1 H0 pins E hr => ?_
  exact s_cons (s_for PassesOwn.never rfl (i_range1 rfl (C.free 25) (e_callB (c_max2 rfl) rfl (C.free 35) bt_max (a_consQ (e_int) (a_last (ED.q (e_callB (c_min2 rfl) rfl (C.free 37) bt_min (a_consQ (e_int) (a_last (ED.q (e_callB c_len rfl (C.free 26) bt_len (a_last (e_peek (pv 0))))))))))))) (g_name sc_law.nd rfl (.inl rfl)) (s_cons (s_set sc_law.nd rfl (.inl rfl) (e_call (g__law_well C) hr (by decide) rfl (as_d (e_var (pv 0)) (as_d (e_var (pv 1)) (as_nil)))))
        (s_cons (s_for PassesOwn.never rfl (i_range1 rfl (C.free 25) (e_int)) (g_name sc_law.nd rfl (.inl rfl)) (s_cons (s_set sc_law.nd rfl (.inl rfl) (e_op op_addF (e_int) (EV.q (e_call (g__law_take C) hr (by decide) rfl (as_s (pv 2) (as_d (e_int) (as_nil)))))))
        (s_cons (s_par2 rfl sc_law.nd rfl rfl (by decide) rfl rfl (av_cons (e_call (g__law_word C) hr (by decide) rfl (as_s (pv 2) (as_d (e_var (pv 4)) (as_d (e_int) (as_nil))))) (av_cons (ED.v (e_tup (a_nil))) (av_nil) (fun _ _ => av_nil)) (fun _ _ => av_cons (ED.v (e_tup (a_nil))) (av_nil) (fun _ _ => av_nil))) rfl)
        (s_cons (s_set sc_law.nd rfl (.inl rfl) (e_call (g_row_of_leaders C) hr (by decide) rfl (as_d (e_var (pv 5)) (as_nil))))
        (s_cons (s_for PassesOwn.never rfl (i_seq (e_var (pv 7))) (g_name sc_law.nd rfl (.inl rfl)) (s_one (s_set sc_law.nd rfl (.inl rfl) (e_opN op_addF (pv 6) (e_peek (pv 8))))))
        (s_cons (s_if (t_bool (w_or (t_not (t_tru (EV.q (e_call (g__law_same C 24) hr (by decide) rfl (as_d (EV.frz (e_lst (a_cons (EV.frz (e_callK0 (k_row_of_leaders_0_word C) hr (by decide) rfl (ks_d (e_var (pv 5)) (ks_nil)))) (a_cons (EV.frz (e_call (g_is_leader C) hr (by decide) rfl (as_d (e_var (pv 5)) (as_nil)))) (a_cons (EV.frz (e_callK0 (k_is_leader_0_word C) hr (by decide) rfl (ks_d (e_var (pv 5)) (ks_nil)))) (a_nil)))))) (as_d (EV.frz (e_lst (a_cons (e_var (pv 7)) (a_cons (EV.frz (e_call (g__law_leads C) hr (by decide) rfl (as_d (e_var (pv 5)) (as_nil)))) (a_cons (EV.frz (e_call (g__law_leads C) hr (by decide) rfl (as_d (e_var (pv 5)) (as_nil)))) (a_nil)))))) (as_nil))))))) (w_or (t_cmpN (op_neF hr.rm.units) (pv 6) (e_peek (pv 5)) (nomark _)) (w_or1 (t_not (t_tru (EV.q (e_call (g__law_is_row C) hr (by decide) rfl (as_d (e_var (pv 7)) (as_nil)))))))))) (s_one (s_retD (e_bl))) (s_nil))
        (s_cons (s_if (t_cmp (op_neF hr.rm.units) (EV.frz (e_call (g__law_leads C) hr (by decide) rfl (as_d (e_var (pv 5)) (as_nil)))) (ED.q (e_cmp (op_eqF hr.rm.units) (e_callB c_len rfl (C.free 26) bt_len (a_last (e_peek (pv 7)))) (ED.q (e_int)) (nomark _))) (nomark _)) (s_one (s_retD (e_bl))) (s_nil))
        (s_cons (s_set sc_law.nd rfl (.inr rfl) (e_slN (pv 5) (o_none) (o_some (e_int))))
        (s_cons (s_setLc (own := [("bits", 14)]) rfl sc_law.nd rfl rfl (sw_true rfl rfl rfl rfl) (i_range1 rfl (C.free 25) (e_op op_shlF (e_int) (ED.q (e_callB (c_max2 rfl) rfl (C.free 35) bt_max (a_consQ (e_int) (a_last (ED.q (e_op op_subF (e_callB c_len rfl (C.free 26) bt_len (a_last (e_peek (pv 9)))) (ED.q (e_int)))))))))) (blkOk_by (by kernel_rfl)) (by decide) (fun _ _ _ _ _ _ _ => g_name sc_law.nd rfl (.inl rfl)) (fun _ _ _ _ _ _ _ => ts_nil) (fun _ _ _ _ _ _ _ => EV.frz (e_call (g__law_cut C) hr (by decide) rfl (as_d (e_var (pv 9)) (as_d (e_var (pv 14)) (as_nil))))))
        (s_cons (s_if (t_not (t_tru (EV.q (e_call (g__law_same C 24) hr (by decide) rfl (as_d (EV.frz (e_lc (own := [("own", 8)]) rfl sc_law.nd (i_seq (e_var (pv 10))) (blkOk_by (by kernel_rfl)) (by decide) (fun _ _ _ _ _ _ _ => g_name sc_law.nd rfl (.inl rfl)) (fun _ _ _ _ _ _ _ => ts_one (t_tru (EV.q (e_call (g__law_is_row C) hr (by decide) rfl (as_d (e_var (pv 8)) (as_nil)))))) (fun _ _ _ _ _ _ _ => e_var (pv 8)))) (as_d (EV.frz (e_lst (a_cons (EV.frz (e_call (g_row_of_leaders C) hr (by decide) rfl (as_d (e_var (pv 9)) (as_nil)))) (a_nil)))) (as_nil))))))) (s_one (s_retD (e_bl))) (s_nil))
        (s_cons (s_set sc_law.nd rfl (.inr rfl) (e_op op_addF (e_int) (EV.q (e_call (g__law_take C) hr (by decide) rfl (as_s (pv 2) (as_d (e_ix (EV.frz (e_lst (a_cons (e_int) (a_cons (e_int) (a_cons (e_int) (a_cons (e_int) (a_nil))))))) (e_var (pv 4))) (as_nil)))))))
        (s_cons (s_setLc (own := [("own", 8)]) rfl sc_law.nd rfl rfl (sw_true rfl rfl rfl rfl) (i_seq (EV.frz (e_callB (c_sorted (room70 hr.rm)) rfl (C.free 38) bt_sorted (a_last (EV.q (e_call (g__law_all C) hr (by decide) rfl (as_d (e_var (pv 4)) (as_d (e_var (pv 11)) (as_nil))))))))) (blkOk_by (by kernel_rfl)) (by decide) (fun _ _ _ _ _ _ _ => g_name sc_law.nd rfl (.inl rfl)) (fun _ _ _ _ _ _ _ => ts_one (t_bool (w_and (t_cmp (op_eqF hr.rm.units) (e_callB c_len rfl (C.free 26) bt_len (a_last (e_peek (pv 8)))) (e_peek (pv 11)) (nomark _)) (w_and1 (t_tru (EV.q (e_call (g__law_leads C) hr (by decide) rfl (as_d (e_var (pv 8)) (as_nil))))))))) (fun _ _ _ _ _ _ _ => e_var (pv 8)))
        (s_cons (s_set sc_law.nd rfl (.inl rfl) (e_call (g_leaders C) hr (by decide) rfl (as_d (e_var (pv 4)) (as_d (e_var (pv 11)) (as_nil)))))
        (s_cons (s_if (t_thawU (t_not (t_tru (EV.q (e_call (g__law_same C 24) hr (by decide) rfl (as_d (EV.frz (e_lst (a_cons (e_var (pv 13)) (a_cons (EV.frz (e_callK0 (k_leaders_0_length_k C) hr (by decide) rfl (ks_d (e_var (pv 11)) (ks_d (e_var (pv 4)) (ks_nil))))) (a_nil))))) (as_d (EV.frz (e_lst (a_cons (e_var (pv 12)) (a_cons (e_var (pv 12)) (a_nil))))) (as_nil)))))))) (s_one (s_retD (e_bl))) (s_nil))
        (s_cons (s_app (pv 13) (e_non))
        (s_one (s_if (t_not (t_tru (EV.q (e_call (g__law_same C 24) hr (by decide) rfl (as_d (EV.frz (e_call (g_leaders C) hr (by decide) rfl (as_d (e_var (pv 4)) (as_d (e_var (pv 11)) (as_nil))))) (as_d (e_var (pv 12)) (as_nil))))))) (s_one (s_retD (e_bl))) (s_nil))))))))))))))))))
        (s_one (s_if (t_not (t_tru (EV.q (e_call (g__law_long_right C) hr (by decide) rfl (as_s (pv 2) (as_nil)))))) (s_one (s_retD (e_bl))) (s_nil))))))
        (s_one (s_retD (e_bl)))
theorem g_law (C : HeadC fa fn ts K mg base T) : Fn P w K mg base T 27 "law" ["script"] 1 d_law18 := (f_law C).toFn (fun _ _ _ _ _ _ us hl => match us, hl with | [_], _ => rfl)
end
end K18
end

section
set_option Elab.async false
set_option linter.all false
set_option maxRecDepth 100000
set_option maxHeartbeats 0
namespace K18
open PySem PySem.Spec PyProof.Rows L2 Fz DL
abbrev R : PySem.W.OpenRow := PySem.W.OpenLaw.row PySem.Challenge.rw_wholestrewn_k18_whole_leaders_and_their
abbrev hk : PySem.W.Hook := hookC 4 fa fn ts
def ob (s : PySem.W.SharedT) : AlC := obsC 4 fa fn ts (HandSHeadRun.getT s)
theorem ob_eq (s : PySem.W.SharedT) : ob s = hk.obs s.abs := obsC_eq (HandSHeadRun.getT_eq s)
def loose0 : List Str := ["__name__", "StrewnError", "InvalidNumber", "InvalidWord", "MOST_LETTERS", "is_integer", "is_natural", "is_below", "is_between", "is_k", "is_letters", "check_k", "is_word_of", "check_word", "longer", "is_leader_in", "row_in", "is_leader", "leaders", "row_of_leaders"]
def loose1 : List Str := ["_law_well", "_law_take", "_law_same", "_law_word", "_law_all", "_law_leads", "_law_cut", "_law_is_row", "_law_long_right", "law"]
def loose : List Str := loose0 ++ loose1
theorem run (w : World) : HandSHeadRun.RunEq R (PySem.W.view R.prog [33]) hk ob 3000 loose w := by
  intro os
  kernel_rfl
end K18
open PySem PySem.W PySem.Calls PyProof.Rows
theorem PySem.Challenge.cw_wholestrewn_k18_whole_leaders_and_their_holds : PySem.Challenge.rw_wholestrewn_k18_whole_leaders_and_their.Holds := by
  w_on; o_law
  refine HandSHeadRun.head_any (r := K18.R) (q := view K18.R.prog [33]) (H := K18.hk) (ob := K18.ob) (M := 3000) (loose := K18.loose) (d := HandSHeadRun.topDef K18.R.prog 33) (kwd := []) K18.ob_eq
    (by kernel_rfl) (fun s => by kernel_rfl) K18.run (by kernel_rfl) (by kernel_rfl) (by kernel_rfl) (by rfl) (by first | assumption | decide +kernel) (by decide +kernel) ⟨rfl, rfl, rfl, rfl, rfl, by decide +kernel⟩ ?hw ?hc
  case hw => w_witness2
  case hc =>
    refine Fz.walk_F (lw := PySem.Challenge.rw_wholestrewn_k18_whole_leaders_and_their) (n := 63) (k := 27) (x := "script") rfl (by decide) (by kernel_rfl) ⟨⟨rfl, by decide, by decide⟩, rfl⟩ ?_
    intro w mg fa h Y G hmg0
    obtain ⟨K, KX, c, tb⟩ := Y
    have hmg : mg ("law" : PySem.Str) = some (.ref fa) := by
      have e : (HandSHeadRun.topDef K18.R.prog 33).name = ("law" : PySem.Str) := by kernel_rfl
      rw [← e]
      exact hmg0
    exact Fz.head_close (fa := K18.fa) (fn := K18.fn) (ts := K18.ts) (i := 24) (j := 24) (d := K18.D_law) (y := "law") KX G c tb (fun base C => K18.f_law C) K18.the_law (fun _ _ _ _ _ _ us hl => match us, hl with | [_], _ => rfl) hmg
end
