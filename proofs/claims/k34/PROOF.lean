import PyProof.Rows.All
import Wide.All
import OpenK.AllK
import Wide.FinOn
import KE.KStateDown
import HandS.ForMost
import HandS.ForExc
import HandS.Defaults
import KE.KeyNested
import KE.KDictCopyH
import KE.KDictDisplayH
import KE.KDictKeyed
import KE.GoesNew
import KE.GoesEnum
import HandS.TupAny
import HandS.TupMul
import HandS.IsInst
import HandS.Gcd
import HandS.TupLe
import HandS.RaiseMore
import KE.DataCmp
import PyProof.ReprRoads
import PyProof.ReprBulk
import PyProof.CallFns
import HandS.Wide
import HandS.WideBits
import KE.KTupSum
import HandS.More
import HandS.Style
import HandS.HeadEnd
import HandS.Words
import HandS.HeadHook1
import HandS.HeadHook2
import KE.DataMinMax
import KE.SortData
import PyProof.Rows.InDataRows
import HandS.TupSets
import HandS.Dict
import HandS.Conv
import KE.KDictSum
import OpenK.KEqL
import HandS.Head0
import HandS.Head1
import HandS.Head2
import HandS.Head3
import PySem.Challenge.RW_sumroads_k34_whole_paths_and_ends
set_option Elab.async false
set_option linter.all false
set_option maxRecDepth 100000
set_option maxHeartbeats 4000000
/-! VL: the value layer. Data that is known and never changes (Fz); locals as values (Env), some of them owned (lists that only this local knows). -/
namespace VL
open PySem PySem.Spec PyProof.Rows L2

abbrev D := PyData
abbrev Fr := PySem.W.Frag
abbrev St := L2.St

/-! ### heaps -/
/-- what never changes stays -/
def PK (H H' : Hp) : Prop := (∀ b xs, H b = some (.tup xs) → H' b = some (.tup xs)) ∧ ∀ b o u, H b = some (.frz o u) → H' b = some (.frz o u)
theorem PK.refl {H : Hp} : PK H H := ⟨fun _ _ h => h, fun _ _ _ h => h⟩
theorem PK.trans {H H1 H2 : Hp} (a : PK H H1) (b : PK H1 H2) : PK H H2 := ⟨fun c xs h => b.1 c xs (a.1 c xs h), fun c o u h => b.2 c o u (a.2 c o u h)⟩
theorem PK.same {H H' : Hp} (h : ∀ b o, H b = some o → H' b = some o) : PK H H' := ⟨fun b xs e => h b _ e, fun b o u e => h b _ e⟩
theorem PK.new {H : Hp} {p : Addr} {o : HO} (h : H p = none) : PK H (upd H p o) := .same fun b u e => by rw [upd_ne (ne_of_none e h)]; exact e
/-- what changes is mutable -/
theorem PK.mut {H : Hp} {p : Addr} {o u : HO} (h : H p = some u) (m : Mut (some u)) : PK H (upd H p o) := by
  refine ⟨fun b xs e => ?_, fun b ob v e => ?_⟩
  · rw [upd_ne fun z => by subst z; rw [h] at e; cases e; exact m]; exact e
  · rw [upd_ne fun z => by subst z; rw [h] at e; cases e; exact m]; exact e

/-- a list that is known and never changes -/
def FzL (K : Fr) (H : Hp) (a : Addr) (xs : List V) : Prop := (∃ o, H a = some (.frz o (.lst xs))) ∨
  ∃ (its : Array Value) (n : Nat), K.lookup a = some { cls := .type "list", data := .seq its n } ∧ its.size ≤ sizeLine ∧ Vals xs its.toList
theorem FzL.sq {K : Fr} {H : Hp} {a : Addr} {xs : List V} (h : FzL K H a xs) : SqL K H a xs := by
  rcases h with h | ⟨its, n, h1, h2, h3⟩
  · exact .inl (.inr h)
  · exact .inr ⟨_, its, n, h1, rfl, rfl, rfl, h2, h3⟩
theorem FzL.obj {X : Cx} {pins : List (Addr × Obj)} {σ : St} {H : Hp} {s : Shared} {a : Addr} {xs : List V} (I : Inv X pins σ H s) (h : FzL X.K H a xs) : ∃ (its : List Value) (n : Nat), Vals xs its ∧ s.heap.get? a = some { cls := .type "list", data := .seq its.toArray n } := by
  rcases h with ⟨o, h⟩ | ⟨its, n, h1, h2, h3⟩
  · obtain ⟨e, _, its, n, r, e2⟩ := (show s.heap.get? a = some o ∧ ObjOk X.prog X.w H s.heap a (.lst xs) from I.hok a _ h)
    exact ⟨its, n, r, e2⟩
  · exact ⟨its.toList, n, h3, by simpa using I.kIn a _ h1⟩
theorem FzL.mono {K : Fr} {H H' : Hp} {a : Addr} {xs : List V} (p : PK H H') (h : FzL K H a xs) : FzL K H' a xs := by
  rcases h with ⟨o, h⟩ | h
  · exact .inl ⟨o, p.2 _ _ _ h⟩
  · exact .inr h
theorem sqT_mono {K : Fr} {H H' : Hp} {a : Addr} {xs : List V} (p : PK H H') (h : SqT K H a xs) : SqT K H' a xs := by
  rcases h with (h | ⟨o, h⟩) | h
  · exact .inl (.inl (p.1 _ _ h))
  · exact .inl (.inr ⟨o, p.2 _ _ _ h⟩)
  · exact .inr h

mutual
/-- data that is known and never changes -/
inductive Fz (K : Fr) (H : Hp) : V → D → Prop
  | non : Fz K H .non .none
  | bl (b : Bool) : Fz K H (.bl b) (.bool b)
  | int (i : Int) : Fz K H (.int i) (.int i)
  | str (x : Str) : Fz K H (.str x) (.str x)
  | lst {a : Addr} {xs : List V} {ds : List D} : FzL K H a xs → FzA K H xs ds → Fz K H (.ref a) (.list ds)
  | tup {a : Addr} {xs : List V} {ds : List D} : SqT K H a xs → FzA K H xs ds → Fz K H (.ref a) (.tuple ds)
inductive FzA (K : Fr) (H : Hp) : List V → List D → Prop
  | nil : FzA K H [] []
  | cons {v : V} {vs : List V} {d : D} {ds : List D} : Fz K H v d → FzA K H vs ds → FzA K H (v :: vs) (d :: ds)
end
section
variable {K : Fr} {H H' : Hp}
mutual
theorem Fz.mono (p : PK H H') : ∀ (d : D) (v : V), Fz K H v d → Fz K H' v d
  | .none, v, h => by cases h; exact .non
  | .bool b, v, h => by cases h; exact .bl b
  | .int i, v, h => by cases h; exact .int i
  | .str x, v, h => by cases h; exact .str x
  | .list ds, v, h => by cases h with | lst a b => exact .lst (a.mono p) (FzA.mono p ds _ b)
  | .tuple ds, v, h => by cases h with | tup a b => exact .tup (sqT_mono p a) (FzA.mono p ds _ b)
  | .dict kvs, v, h => by cases h
theorem FzA.mono (p : PK H H') : ∀ (ds : List D) (vs : List V), FzA K H vs ds → FzA K H' vs ds
  | [], vs, h => by cases h; exact .nil
  | d :: ds, vs, h => by cases h with | cons a b => exact .cons (Fz.mono p d _ a) (FzA.mono p ds _ b)
end
mutual
theorem Fz.dp : ∀ (d : D) (v : V), Fz K H v d → Dp K H v d
  | .none, v, h => by cases h; exact .non
  | .bool b, v, h => by cases h; exact .bl b
  | .int i, v, h => by cases h; exact .int i
  | .str x, v, h => by cases h; exact .str x
  | .list ds, v, h => by cases h with | lst a b => exact .lst a.sq (FzA.dp ds _ b)
  | .tuple ds, v, h => by cases h with | tup a b => exact .tup a (FzA.dp ds _ b)
  | .dict kvs, v, h => by cases h
theorem FzA.dp : ∀ (ds : List D) (vs : List V), FzA K H vs ds → DpAll K H vs ds
  | [], vs, h => by cases h; exact .nil
  | d :: ds, vs, h => by cases h with | cons a b => exact .cons (Fz.dp d _ a) (FzA.dp ds _ b)
end
theorem FzA.length : ∀ {ds : List D} {vs : List V}, FzA K H vs ds → vs.length = ds.length
  | [], _, h => by cases h; rfl
  | _ :: ds, _, h => by cases h with | cons a b => exact congrArg Nat.succ (FzA.length b)
theorem FzA.append : ∀ {ds es : List D} {vs ws : List V}, FzA K H vs ds → FzA K H ws es → FzA K H (vs ++ ws) (ds ++ es)
  | [], _, _, _, h, h' => by cases h; exact h'
  | _ :: ds, _, _, _, h, h' => by cases h with | cons a b => exact .cons a (FzA.append b h')
theorem FzA.get {d : D} : ∀ {ds : List D} {vs : List V} (i : Nat), FzA K H vs ds → ds[i]? = some d → ∃ v, vs[i]? = some v ∧ Fz K H v d
  | [], _, _, h, e => by simp at e
  | _ :: ds, _, 0, h, e => by cases h with | cons a b => simp at e; subst e; exact ⟨_, rfl, a⟩
  | _ :: ds, _, i + 1, h, e => by
    cases h with
    | cons a b =>
      obtain ⟨v, e1, f⟩ := FzA.get (ds := ds) i b (by simpa using e)
      exact ⟨v, by simpa using e1, f⟩
theorem FzA.getV {v : V} : ∀ {ds : List D} {vs : List V} (i : Nat), FzA K H vs ds → vs[i]? = some v → ∃ d, ds[i]? = some d ∧ Fz K H v d
  | [], _, _, h, e => by cases h; simp at e
  | _ :: ds, _, 0, h, e => by cases h with | cons a b => simp at e; subst e; exact ⟨_, rfl, a⟩
  | _ :: ds, _, i + 1, h, e => by
    cases h with
    | cons a b =>
      obtain ⟨d, e1, f⟩ := FzA.getV (ds := ds) i b (by simpa using e)
      exact ⟨d, by simpa using e1, f⟩
theorem FzA.set {d : D} {v : V} (f : Fz K H v d) : ∀ {ds : List D} {vs : List V} (i : Nat), FzA K H vs ds → FzA K H (vs.set i v) (ds.set i d)
  | [], _, _, h => by cases h; exact .nil
  | _ :: ds, _, 0, h => by cases h with | cons a b => exact .cons f b
  | _ :: ds, _, i + 1, h => by cases h with | cons a b => exact .cons a (FzA.set f i b)
theorem FzA.take : ∀ {ds : List D} {vs : List V} (n : Nat), FzA K H vs ds → FzA K H (vs.take n) (ds.take n)
  | _, _, 0, _ => .nil
  | [], _, _ + 1, h => by cases h; exact .nil
  | _ :: ds, _, n + 1, h => by cases h with | cons a b => exact .cons a (FzA.take n b)
theorem FzA.drop : ∀ {ds : List D} {vs : List V} (n : Nat), FzA K H vs ds → FzA K H (vs.drop n) (ds.drop n)
  | _, _, 0, h => h
  | [], _, _ + 1, h => by cases h; exact .nil
  | _ :: ds, _, n + 1, h => by cases h with | cons a b => exact FzA.drop n b
theorem FzA.reverse : ∀ {ds : List D} {vs : List V}, FzA K H vs ds → FzA K H vs.reverse ds.reverse
  | [], _, h => by cases h; exact .nil
  | _ :: ds, _, h => by
    cases h with
    | cons a b =>
      rw [List.reverse_cons, List.reverse_cons]
      exact FzA.append (FzA.reverse b) (.cons a .nil)
theorem FzA.ints : ∀ (ns : List Int), FzA K H (ns.map V.int) (ns.map PyData.int)
  | [] => .nil
  | n :: ns => .cons (.int n) (FzA.ints ns)
end

/-! ### values of locals -/
/-! ### keys of dicts: whole numbers, bools, None, tuples of such -/
mutual
def nkey : D → Option NestedKey
  | .none => some .none
  | .bool b => some (.num (if b then 1 else 0))
  | .int i => some (.num i)
  | .tuple ds => (nkeys ds).map .tup
  | .str _ => none
  | .list _ => none
  | .dict _ => none
def nkeys : List D → Option (List NestedKey)
  | [] => some []
  | d :: ds => (nkey d).bind fun k => (nkeys ds).map fun ks => k :: ks
end
/-- an entry whose key is the data k, whatever the world's texts hash to -/
def HashOk (h : Int) (k : D) : Prop := ∃ nk, nkey k = some nk ∧ ∀ w, nk.hash w = h
/-- a dict by its entries -/
def dicO (a : Addr) (es : List DictEntry) : HO := .ext fun h => (a == sysModules) = false ∧ ∃ ep, h.DictRaw a es.toArray ep
/-- the entries hold these keys and values, which never change -/
inductive EntA (K : Fr) (H : Hp) : List DictEntry → List (D × D) → Prop
  | nil : EntA K H [] []
  | cons {e : DictEntry} {es : List DictEntry} {k d : D} {kvs : List (D × D)} {x y : V} : RelV x e.key → RelV y e.val → Fz K H x k → Fz K H y d → HashOk e.hash k → EntA K H es kvs → EntA K H (e :: es) ((k, d) :: kvs)
theorem EntA.mono {K : Fr} {H H' : Hp} (p : PK H H') : ∀ {es : List DictEntry} {kvs : List (D × D)}, EntA K H es kvs → EntA K H' es kvs
  | _, _, .nil => .nil
  | _, _, .cons a b c d e f => .cons a b (Fz.mono p _ _ c) (Fz.mono p _ _ d) e (EntA.mono p f)
theorem EntA.length {K : Fr} {H : Hp} : ∀ {es : List DictEntry} {kvs : List (D × D)}, EntA K H es kvs → es.length = kvs.length
  | _, _, .nil => rfl
  | _, _, .cons _ _ _ _ _ f => congrArg Nat.succ (EntA.length f)
/-- z: data that never changes; l: a list that is owned; d: a dict that is owned -/
inductive T where
  | z (d : D)
  | l (ds : List D)
  | dc (kvs : List (D × D))
  /-- a dict that never changes from here on -/
  | fd (kvs : List (D × D))
def T.data : T → D
  | .z d => d
  | .l ds => .list ds
  | .dc kvs => .dict kvs
  | .fd kvs => .dict kvs
def T.nd : T → Bool
  | .z _ => true
  | .l _ => true
  | .dc _ => false
  | .fd _ => false
def RepT (K : Fr) (H : Hp) (v : V) (t : T) (S : Addr → Prop) : Prop := match t with
  | .z d => Fz K H v d
  | .l ds => ∃ a xs, v = .ref a ∧ S a ∧ H a = some (.lst xs) ∧ FzA K H xs ds
  | .dc kvs => ∃ a es, v = .ref a ∧ S a ∧ H a = some (dicO a es) ∧ EntA K H es kvs ∧ (kvs.map fun p => nkey p.1).Nodup
  | .fd kvs => ∃ a es, v = .ref a ∧ (∃ o, H a = some (.frz o (dicO a es))) ∧ EntA K H es kvs ∧ (kvs.map fun p => nkey p.1).Nodup
theorem RepT.mono {K : Fr} {H H' : Hp} {v : V} {t : T} {S S' : Addr → Prop} (p : PK H H') (k : ∀ a o, S a → H a = some o → H' a = some o ∧ S' a) (h : RepT K H v t S) : RepT K H' v t S' := by
  cases t with
  | z d => exact Fz.mono p d v h
  | l ds =>
    obtain ⟨a, xs, e, s, q, f⟩ := h
    obtain ⟨q', s'⟩ := k a _ s q
    exact ⟨a, xs, e, s', q', f.mono p⟩
  | dc kvs =>
    obtain ⟨a, xs, e, s, q, f, nd⟩ := h
    obtain ⟨q', s'⟩ := k a _ s q
    exact ⟨a, xs, e, s', q', f.mono p, nd⟩
  | fd kvs =>
    obtain ⟨a, xs, e, ⟨o, q⟩, f, nd⟩ := h
    exact ⟨a, xs, e, ⟨o, p.2 _ _ _ q⟩, f.mono p, nd⟩
/-- what may be read now -/
def Rp (K : Fr) (H : Hp) (v : V) (d : D) : Prop := Fz K H v d ∨ ∃ a xs ds, v = .ref a ∧ d = .list ds ∧ H a = some (.lst xs) ∧ FzA K H xs ds
theorem RepT.rp {K : Fr} {H : Hp} {v : V} {t : T} {S : Addr → Prop} (n : t.nd = true) (h : RepT K H v t S) : Rp K H v t.data := by
  cases t with
  | dc kvs => cases n
  | fd kvs => cases n
  | z d => exact .inl h
  | l ds =>
    obtain ⟨a, xs, e, s, q, f⟩ := h
    exact .inr ⟨a, xs, ds, e, rfl, q, f⟩
theorem Rp.dp {K : Fr} {H : Hp} {v : V} {d : D} (h : Rp K H v d) : Dp K H v d := by
  rcases h with h | ⟨a, xs, ds, rfl, rfl, q, f⟩
  · exact Fz.dp d v h
  · exact .lst (SqL.of q) (FzA.dp _ _ f)
theorem Rp.list {K : Fr} {H : Hp} {v : V} {ds : List D} (h : Rp K H v (.list ds)) : ∃ a xs, v = .ref a ∧ SqL K H a xs ∧ FzA K H xs ds := by
  rcases h with h | ⟨a, xs, es, rfl, e, q, f⟩
  · cases h with
    | lst p q => exact ⟨_, _, rfl, p.sq, q⟩
  · cases e; exact ⟨a, xs, rfl, SqL.of q, f⟩
theorem Rp.tuple {K : Fr} {H : Hp} {v : V} {ds : List D} (h : Rp K H v (.tuple ds)) : ∃ a xs, v = .ref a ∧ SqT K H a xs ∧ FzA K H xs ds := by
  rcases h with h | ⟨a, xs, es, rfl, e, q, f⟩
  · cases h with
    | tup p q => exact ⟨_, _, rfl, p, q⟩
  · cases e
theorem Rp.int {K : Fr} {H : Hp} {v : V} {i : Int} (h : Rp K H v (.int i)) : v = .int i := by
  rcases h with h | ⟨a, xs, es, rfl, e, q, f⟩
  · cases h; rfl
  · cases e
theorem Rp.bl {K : Fr} {H : Hp} {v : V} {i : Bool} (h : Rp K H v (.bool i)) : v = .bl i := by
  rcases h with h | ⟨a, xs, es, rfl, e, q, f⟩
  · cases h; rfl
  · cases e
theorem Rp.str {K : Fr} {H : Hp} {v : V} {i : Str} (h : Rp K H v (.str i)) : v = .str i := by
  rcases h with h | ⟨a, xs, es, rfl, e, q, f⟩
  · cases h; rfl
  · cases e
theorem Rp.non {K : Fr} {H : Hp} {v : V} (h : Rp K H v .none) : v = .non := by
  rcases h with h | ⟨a, xs, es, rfl, e, q, f⟩
  · cases h; rfl
  · cases e

abbrev Env := List (Option T)
abbrev Ow := Addr → Option Nat
def Act (n B : Nat) (o : Option Nat) : Prop := ∃ j, o = some j ∧ (j < n ∨ B ≤ j)
theorem Act.none {n B : Nat} : ¬ Act n B none := fun ⟨_, e, _⟩ => by cases e
theorem Act.some {n B j : Nat} : Act n B (some j) ↔ (j < n ∨ B ≤ j) := ⟨fun ⟨_, e, h⟩ => by cases e; exact h, fun h => ⟨j, rfl, h⟩⟩
/-- what is not owned by a local (below n) nor by a temporary from B on stays -/
structure Step (n B : Nat) (own : Ow) (H : Hp) (own' : Ow) (H' : Hp) : Prop where
  keep : ∀ b o, H b = some o → ¬ Act n B (own b) → H' b = some o ∧ own' b = own b
  grow : ∀ b, Act n B (own' b) → Act n B (own b) ∨ H b = none
  pk : PK H H'
section
variable {n B C : Nat} {own own1 own2 : Ow} {H H1 H2 : Hp}
theorem Step.refl : Step n B own H own H := ⟨fun _ _ h _ => ⟨h, rfl⟩, fun _ h => .inl h, .refl⟩
theorem Step.trans (a : Step n B own H own1 H1) (b : Step n B own1 H1 own2 H2) : Step n B own H own2 H2 := by
  refine ⟨fun c o h ha => ?_, fun c h => ?_, a.pk.trans b.pk⟩
  · obtain ⟨h1, e1⟩ := a.keep c o h ha
    obtain ⟨h2, e2⟩ := b.keep c o h1 (by rw [e1]; exact ha)
    exact ⟨h2, e2.trans e1⟩
  · rcases b.grow c h with q | q
    · exact a.grow c q
    · cases e : H c with
      | none => exact .inr rfl
      | some o =>
        refine .inl (Classical.byContradiction fun z => ?_)
        have := (a.keep c o e z).1
        rw [q] at this; cases this
theorem Act.down {j : Option Nat} (h : B ≤ C) (a : Act n C j) : Act n B j := by
  obtain ⟨i, e, q⟩ := a
  exact ⟨i, e, q.imp id fun z => Nat.le_trans h z⟩
theorem Step.down (h : B ≤ C) (a : Step n C own H own1 H1) : Step n B own H own1 H1 := by
  refine ⟨fun b o e na => a.keep b o e fun z => na (z.down h), fun b q => ?_, a.pk⟩
  cases e : H b with
  | none => exact .inr rfl
  | some o =>
    by_cases z : Act n C (own b)
    · exact .inl (z.down h)
    · rw [(a.keep b o e z).2] at q
      exact .inl q
/-- what a temporary below the base owns stays -/
theorem RepT.step {K : Fr} {v : V} {t : T} {j : Nat} (a : Step n B own H own1 H1) (h1 : n ≤ j) (h2 : j < B) (h : RepT K H v t (fun b => own b = some j)) : RepT K H1 v t (fun b => own1 b = some j) := by
  refine h.mono a.pk fun b o s e => ?_
  have na : ¬ Act n B (own b) := by
    rw [s, Act.some]; omega
  obtain ⟨e1, e2⟩ := a.keep b o e na
  exact ⟨e1, e2.trans s⟩
theorem Fz.step {K : Fr} {v : V} {d : D} (a : Step n B own H own1 H1) (h : Fz K H v d) : Fz K H1 v d := Fz.mono a.pk d v h
end

structure ES (K : Fr) (H : Hp) (σ : St) (ρ : Env) (own : Ow) : Prop where
  len : ρ.length = σ.length
  rep : ∀ (i : Nat) (t : T), ρ[i]? = some (some t) → ∃ v, σ[i]? = some (some v) ∧ RepT K H v t (fun a => own a = some i)
section
variable {K : Fr} {H H' : Hp} {σ : St} {ρ : Env} {own own' : Ow}
/-- nothing of the locals changes -/
theorem ES.same (p : PK H H') (k : ∀ a o i, own a = some i → i < σ.length → H a = some o → H' a = some o ∧ own' a = some i) (h : ES K H σ ρ own) : ES K H' σ ρ own' := by
  refine ⟨h.len, fun i t e => ?_⟩
  obtain ⟨v, e1, r⟩ := h.rep i t e
  have hi : i < σ.length := (List.getElem?_eq_some_iff.mp e1).1
  exact ⟨v, e1, r.mono p fun a o s q => k a o i s hi q⟩
/-- a local takes what a temporary owned -/
def rel (j i : Nat) (own : Ow) : Ow := fun b => if own b = some j then some i else own b
theorem ES.setSlot {i j : Nat} {v : V} {t : T} (hj : σ.length ≤ j) (hi : i < σ.length) (h : ES K H σ ρ own) (r : RepT K H v t (fun b => own b = some j)) : ES K H (σ.set i (some v)) (ρ.set i (some t)) (rel j i own) := by
  refine ⟨by simpa using h.len, fun k u e => ?_⟩
  by_cases hk : k = i
  · subst hk
    have hr : k < ρ.length := by rw [h.len]; exact hi
    rw [List.getElem?_set_self hr] at e
    cases e
    refine ⟨v, List.getElem?_set_self hi, r.mono .refl fun a o s q => ⟨q, ?_⟩⟩
    unfold rel; rw [if_pos s]
  · rw [List.getElem?_set_ne (Ne.symm hk)] at e
    obtain ⟨w, e1, q⟩ := h.rep k u e
    have hk2 : k < σ.length := (List.getElem?_eq_some_iff.mp e1).1
    refine ⟨w, by rw [List.getElem?_set_ne (Ne.symm hk)]; exact e1, q.mono .refl fun a o s z => ⟨z, ?_⟩⟩
    unfold rel; rw [if_neg (by rw [s]; intro y; cases y; omega)]; exact s
theorem rel_step {n B i j : Nat} {own : Ow} {H : Hp} (hj : B ≤ j) (hi : i < n) : Step n B own H (rel j i own) H := by
  refine ⟨fun b o e na => ⟨e, ?_⟩, fun b q => ?_, .refl⟩
  · unfold rel; rw [if_neg]; intro z; exact na (by rw [z, Act.some]; exact .inr hj)
  · unfold rel at q
    by_cases z : own b = some j
    · exact .inl (by rw [z, Act.some]; exact .inr hj)
    · rw [if_neg z] at q; exact .inl q
/-- a slot is forgotten -/
theorem ES.drop {i : Nat} (h : ES K H σ ρ own) : ES K H σ (ρ.set i none) own := by
  refine ⟨by simpa using h.len, fun k u e => ?_⟩
  by_cases hk : k = i
  · subst hk
    by_cases hr : k < ρ.length
    · rw [List.getElem?_set_self hr] at e; cases e
    · rw [List.getElem?_eq_none (by simpa using Nat.le_of_not_lt hr)] at e; cases e
  · rw [List.getElem?_set_ne (Ne.symm hk)] at e
    exact h.rep k u e
end

/-! ### judgements -/
inductive Flow where
  | nx | bk | ct | ret (t : T)
abbrev ME := Env → Option (T × Env)
abbrev MS := Env → Option (Flow × Env)
abbrev MB := Env → Option (Bool × Env)
/-- an argument: a temporary, or a local that is only looked at -/
inductive Arg where
  | val (t : T) | slot (i : Nat)
abbrev MO := Env → Option (Arg × Env)
abbrev MA := Env → Option (List Arg × Env)
def Arg.raw (ρ : Env) : Arg → Option T
  | .val t => some t
  | .slot i => (ρ[i]?).join
/-- an argument that is not a dict -/
def Arg.get (ρ : Env) : Arg → Option T
  | .val (.z d) => some (.z d)
  | .val (.l ds) => some (.l ds)
  | .val (.dc _) => none
  | .val (.fd _) => none
  | .slot i => match (ρ[i]?).join with
    | some (.dc _) => none
    | some (.fd _) => none
    | o => o
theorem Arg.get_some {ρ : Env} {a : Arg} {t : T} (h : a.get ρ = some t) : a.raw ρ = some t ∧ t.nd = true := by
  cases a with
  | val u => cases u <;> cases h <;> exact ⟨rfl, rfl⟩
  | slot i =>
    cases q : (ρ[i]?).join with
    | none =>
      have h' : (match (ρ[i]?).join with | some (.dc _) => none | some (.fd _) => none | o => o) = some t := h
      rw [q] at h'; cases h'
    | some u =>
      have h' : (match (ρ[i]?).join with | some (.dc _) => none | some (.fd _) => none | o => o) = some t := h
      rw [q] at h'
      cases u <;> cases h' <;> exact ⟨q, rfl⟩
def ArgRep (K : Fr) (H : Hp) (σ : St) (own : Ow) (j : Nat) (v : V) : Arg → Prop
  | .val t => RepT K H v t (fun b => own b = some j)
  | .slot i => σ[i]? = some (some v)
def ArgsRep (K : Fr) (H : Hp) (σ : St) (own : Ow) : Nat → List V → List Arg → Prop
  | _, [], [] => True
  | j, v :: vs, a :: as => ArgRep K H σ own j v a ∧ ArgsRep K H σ own (j + 1) vs as
  | _, _, _ => False
def tE (K : Fr) (m : ME) : TE := fun σ H Q => ∃ B ρ own t ρ', σ.length ≤ B ∧ ES K H σ ρ own ∧ m ρ = some (t, ρ') ∧
  ∀ v H' own', Step σ.length B own H own' H' → ES K H' σ ρ' own' → RepT K H' v t (fun b => own' b = some B) → Q v H'
def tO (K : Fr) (m : MO) : TE := fun σ H Q => ∃ B ρ own a ρ', σ.length ≤ B ∧ ES K H σ ρ own ∧ m ρ = some (a, ρ') ∧
  ∀ v H' own', Step σ.length B own H own' H' → ES K H' σ ρ' own' → ArgRep K H' σ own' B v a → Q v H'
def tT (K : Fr) (m : MB) : TT := fun σ H Q => ∃ B ρ own b ρ', σ.length ≤ B ∧ ES K H σ ρ own ∧ m ρ = some (b, ρ') ∧
  ∀ H' own', Step σ.length B own H own' H' → ES K H' σ ρ' own' → Q b H'
def tA (K : Fr) (m : MA) : TA := fun σ H Q => ∃ B ρ own as ρ', σ.length ≤ B ∧ ES K H σ ρ own ∧ m ρ = some (as, ρ') ∧
  ∀ vs H' own', Step σ.length B own H own' H' → ES K H' σ ρ' own' → ArgsRep K H' σ own' B vs as → Q vs H'
def tS (K : Fr) (pin : List Nat) (m : MS) : TS := fun E σ H => ∃ B ρ own f ρ', σ.length ≤ B ∧ ES K H σ ρ own ∧ m ρ = some (f, ρ') ∧
  ∀ σ' H' own', σ'.length = σ.length → (∀ k ∈ pin, σ'[k]? = σ[k]?) → Step σ.length B own H own' H' → ES K H' σ' ρ' own' → match f with
    | .nx => E.nx σ' H'
    | .bk => E.bk σ' H'
    | .ct => E.ct σ' H'
    | .ret t => ∀ v, RepT K H' v t (fun b => own' b = some B) → E.rt v H'
structure PX (X : Cx) (e : Expr) (m : ME) : Prop where
  pe : PE X e (tE X.K m)
structure PO (X : Cx) (e : Expr) (m : MO) : Prop where
  pe : PE X e (tO X.K m)
structure PB (X : Cx) (e : Expr) (m : MB) : Prop where
  pt : PT X e (tT X.K m)
structure PAr (X : Cx) (es : List Expr) (m : MA) : Prop where
  pa : PA X es (tA X.K m)
structure PSt (X : Cx) (pin : List Nat) (s : Stmt) (m : MS) : Prop where
  ps : PS X s (tS X.K pin m)
structure PSts (X : Cx) (pin : List Nat) (s : List Stmt) (m : MS) : Prop where
  ps : PSs X s (tS X.K pin m)
end VL

set_option Elab.async false
set_option linter.all false
set_option maxRecDepth 100000
set_option maxHeartbeats 4000000
namespace VL
open PySem PySem.Spec PyProof.Rows L2

theorem _root_.L2.PE.of {X : Cx} {e : Expr} {t t' : TE} (h : PE X e t') (i : ∀ σ H Q, t σ H Q → t' σ H Q) : PE X e t := ⟨fun pins s σ H Q I q => h.run pins s σ H Q I (i σ H Q q)⟩
theorem _root_.L2.PT.of {X : Cx} {e : Expr} {t t' : TT} (h : PT X e t') (i : ∀ σ H Q, t σ H Q → t' σ H Q) : PT X e t := ⟨fun pins s σ H Q I q => h.run pins s σ H Q I (i σ H Q q)⟩
theorem _root_.L2.PA.of {X : Cx} {e : List Expr} {t t' : TA} (h : PA X e t') (i : ∀ σ H Q, t σ H Q → t' σ H Q) : PA X e t := ⟨fun pos pins s σ H Q I q => h.run pos pins s σ H Q I (i σ H Q q)⟩
theorem _root_.L2.PS.of {X : Cx} {e : Stmt} {t t' : TS} (h : PS X e t') (i : ∀ D σ H, t D σ H → t' D σ H) : PS X e t := ⟨fun pins s σ H D I q => h.run pins s σ H D I (i D σ H q)⟩
theorem _root_.L2.PSs.of {X : Cx} {e : List Stmt} {t t' : TS} (h : PSs X e t') (i : ∀ D σ H, t D σ H → t' D σ H) : PSs X e t := ⟨fun pins s σ H D I q => h.run pins s σ H D I (i D σ H q)⟩
/-- behind an expression the abstract heap may be told otherwise -/
theorem _root_.L2.PE.ghost {X : Cx} {e : Expr} {t t' : TE} (h : PE X e t')
    (g : ∀ pins σ H Q, t σ H Q → t' σ H fun v H1 => ∀ s1, Inv X pins σ H1 s1 → ∃ H2, Inv X pins σ H2 s1 ∧ Q v H2) : PE X e t := ⟨fun pins s σ H Q I q => by
  refine thn (h.run pins s σ H _ I (g pins σ H Q q)) fun u s1 ⟨v, H1, I1, r, q1⟩ => ?_
  obtain ⟨H2, I2, q2⟩ := q1 s1 I1
  exact ⟨v, H2, I2, r, q2⟩⟩

section
variable {X : Cx} {pins : List (Addr × Obj)} {σ : St} {H : Hp} {s : Shared} {v : V} {t : T} {S : Addr → Prop}
theorem freezeT {K : Fr} (I : Inv X pins σ H s) (nd : t.nd = true) (r : RepT K H v t S) : ∃ H', Inv X pins σ H' s ∧ Fz K H' v t.data ∧ PK H H' ∧ (∀ b o, H b = some o → ¬ S b → H' b = some o) ∧ ∀ b, H b = none → H' b = none := by
  cases t with
  | z d => exact ⟨H, I, r, .refl, fun _ _ h _ => h, fun _ h => h⟩
  | l ds =>
    obtain ⟨a, xs, rfl, sa, q, f⟩ := r
    obtain ⟨od, I'⟩ := I.lock q trivial
    have p : PK H (upd H a (.frz od (.lst xs))) := .mut q trivial
    refine ⟨_, I', .lst (.inl ⟨od, upd_same⟩) (f.mono p), p, fun b o e ns => ?_, fun b e => ?_⟩
    · rw [upd_ne (fun z => ns (by rw [z]; exact sa))]; exact e
    · rw [upd_ne (fun z => by rw [z, q] at e; cases e)]; exact e
  | dc kvs => cases nd
  | fd kvs => cases nd
end

/-! ### constants, names -/
def mC (d : D) : ME := fun ρ => some (.z d, ρ)
section
variable {X : Cx}
theorem px_c {e : Expr} {v : V} {d : D} (h : PE X e (tC v)) (r : ∀ H, Fz X.K H v d) : PX X e (mC d) := ⟨h.of fun σ H Q q => by
  obtain ⟨B, ρ, own, t, ρ', hB, es, e, k⟩ := q
  cases e
  exact k v H own .refl es (r H)⟩
theorem px_int {i j pos} : PX X (.Constant (.int i) j pos) (mC (.int i)) := px_c pe_int fun _ => .int i
theorem px_bl {i j pos} : PX X (.Constant (.bool i) j pos) (mC (.bool i)) := px_c pe_bl fun _ => .bl i
theorem px_str {i j pos} : PX X (.Constant (.str i) j pos) (mC (.str i)) := px_c pe_str fun _ => .str i
theorem px_non {j pos} : PX X (.Constant .none j pos) (mC .none) := px_c pe_non fun _ => .non
theorem px_gint {x : Str} {i : Int} {pos : Pos} (hg : Gl X x) (hm : ∃ t, X.mg x = some (.int i t)) (hd : (x == ("__debug__" : Str)) = false := by decide) : PX X (.Name x pos) (mC (.int i)) := by
  obtain ⟨t, hm⟩ := hm
  exact px_c (pe_glob (v := .int i) hg hm ⟨t, rfl⟩ hd) fun _ => .int i
theorem px_gstr {x : Str} {i : Str} {pos : Pos} (hg : Gl X x) (hm : ∃ t, X.mg x = some (.str i t)) (hd : (x == ("__debug__" : Str)) = false := by decide) : PX X (.Name x pos) (mC (.str i)) := by
  obtain ⟨t, hm⟩ := hm
  exact px_c (pe_glob (v := .str i) hg hm ⟨t, rfl⟩ hd) fun _ => .str i

def slotT (ρ : Env) (i : Nat) : Option T := (ρ[i]?).join
theorem slotT_some {ρ : Env} {i : Nat} {t : T} (h : slotT ρ i = some t) : ρ[i]? = some (some t) := by
  unfold slotT at h
  cases e : ρ[i]? with
  | none => rw [e] at h; cases h
  | some o =>
    rw [e] at h
    exact congrArg some h
theorem Arg.raw_slot {ρ : Env} {i : Nat} : (Arg.slot i).raw ρ = slotT ρ i := rfl
/-- a local, looked at -/
def oN (i : Nat) : MO := fun ρ => (slotT ρ i).map fun _ => (.slot i, ρ)
/-- a local's value, which then never changes -/
def mZ (i : Nat) : ME := fun ρ => (slotT ρ i).bind fun t => match t with
  | .z d => some (.z d, ρ)
  | .l ds => some (.z (.list ds), ρ.set i (some (.z (.list ds))))
  | .dc _ => none
  | .fd _ => none
/-- a local's value taken away from it (if owned) -/
def mM (i : Nat) : ME := fun ρ => (slotT ρ i).map fun t => match t with
  | .z d => (.z d, ρ)
  | .fd kvs => (.fd kvs, ρ)
  | t => (t, ρ.set i none)
theorem po_n {i : Nat} {x : Str} {pos : Pos} (h : PE X (.Name x pos) (tVar i)) : PO X (.Name x pos) (oN i) := ⟨h.of fun σ H Q q => by
  obtain ⟨B, ρ, own, a, ρ', hB, es, e, k⟩ := q
  obtain ⟨t, e1, e2⟩ := Option.map_eq_some_iff.mp (show (slotT ρ i).map (fun _ => (Arg.slot i, ρ)) = some (a, ρ') from e)
  cases e2
  obtain ⟨v, e3, r⟩ := es.rep i t (slotT_some e1)
  exact ⟨v, e3, k v H own .refl es e3⟩⟩
theorem px_z {i : Nat} {x : Str} {pos : Pos} (h : PE X (.Name x pos) (tVar i)) : PX X (.Name x pos) (mZ i) := ⟨h.ghost fun pins σ H Q q => by
  obtain ⟨B, ρ, own, a, ρ', hB, es, e, k⟩ := q
  obtain ⟨t, e1, e2⟩ := Option.bind_eq_some_iff.mp (show (slotT ρ i).bind _ = some (a, ρ') from e)
  obtain ⟨v, e3, r⟩ := es.rep i t (slotT_some e1)
  refine ⟨v, e3, fun s1 I1 => ?_⟩
  cases t with
  | dc kvs => cases e2
  | fd kvs => cases e2
  | z d =>
    cases e2
    exact ⟨H, I1, k v H own .refl es r⟩
  | l ds =>
    cases e2
    have hi : i < σ.length := (List.getElem?_eq_some_iff.mp e3).1
    obtain ⟨H2, I2, f, p, kp, fr⟩ := freezeT I1 rfl r
    have st : Step σ.length B own H own H2 := ⟨fun b o e na => ⟨kp b o e fun z => na (by rw [z, Act.some]; exact .inl hi), rfl⟩, fun b q => .inl q, p⟩
    refine ⟨H2, I2, k v H2 own st ⟨by simpa using es.len, fun j u e => ?_⟩ f⟩
    by_cases hj : j = i
    · subst hj
      rw [List.getElem?_set_self (by rw [es.len]; exact hi)] at e
      cases e
      exact ⟨v, e3, f⟩
    · rw [List.getElem?_set_ne (Ne.symm hj)] at e
      obtain ⟨w, e4, r4⟩ := es.rep j u e
      exact ⟨w, e4, r4.mono p fun a o sa qa => ⟨kp a o qa (by rw [sa]; intro z; cases z; exact hj rfl), sa⟩⟩⟩
theorem px_m {i : Nat} {x : Str} {pos : Pos} (h : PE X (.Name x pos) (tVar i)) : PX X (.Name x pos) (mM i) := ⟨h.of fun σ H Q q => by
  obtain ⟨B, ρ, own, a, ρ', hB, es, e, k⟩ := q
  obtain ⟨t, e1, e2⟩ := Option.map_eq_some_iff.mp (show (slotT ρ i).map _ = some (a, ρ') from e)
  obtain ⟨v, e3, r⟩ := es.rep i t (slotT_some e1)
  refine ⟨v, e3, ?_⟩
  cases t with
  | fd kvs =>
    cases e2
    exact k v H own .refl es r
  | z d =>
    cases e2
    exact k v H own .refl es r
  | l ds =>
    cases e2
    have hi : i < σ.length := (List.getElem?_eq_some_iff.mp e3).1
    have st : Step σ.length B own H (rel i B own) H := by
      refine ⟨fun b o e na => ⟨e, ?_⟩, fun b q => ?_, .refl⟩
      · unfold rel; rw [if_neg]; intro z; exact na (by rw [z, Act.some]; exact .inl hi)
      · unfold rel at q
        by_cases z : own b = some i
        · exact .inl (by rw [z, Act.some]; exact .inl hi)
        · rw [if_neg z] at q; exact .inl q
    refine k v H _ st ⟨by simpa using es.len, fun j u e => ?_⟩ (r.mono .refl fun b o sb qb => ⟨qb, by unfold rel; rw [if_pos sb]⟩)
    by_cases hj : j = i
    · subst hj
      rw [List.getElem?_set_self (by rw [es.len]; exact hi)] at e
      cases e
    · rw [List.getElem?_set_ne (Ne.symm hj)] at e
      obtain ⟨w, e4, r4⟩ := es.rep j u e
      refine ⟨w, e4, r4.mono .refl fun a o sa qa => ⟨qa, ?_⟩⟩
      unfold rel; rw [if_neg (by rw [sa]; intro z; cases z; exact hj rfl)]; exact sa
  | dc kvs =>
    cases e2
    have hi : i < σ.length := (List.getElem?_eq_some_iff.mp e3).1
    have st : Step σ.length B own H (rel i B own) H := by
      refine ⟨fun b o e na => ⟨e, ?_⟩, fun b q => ?_, .refl⟩
      · unfold rel; rw [if_neg]; intro z; exact na (by rw [z, Act.some]; exact .inl hi)
      · unfold rel at q
        by_cases z : own b = some i
        · exact .inl (by rw [z, Act.some]; exact .inl hi)
        · rw [if_neg z] at q; exact .inl q
    refine k v H _ st ⟨by simpa using es.len, fun j u e => ?_⟩ (r.mono .refl fun b o sb qb => ⟨qb, by unfold rel; rw [if_pos sb]⟩)
    by_cases hj : j = i
    · subst hj
      rw [List.getElem?_set_self (by rw [es.len]; exact hi)] at e
      cases e
    · rw [List.getElem?_set_ne (Ne.symm hj)] at e
      obtain ⟨w, e4, r4⟩ := es.rep j u e
      refine ⟨w, e4, r4.mono .refl fun a o sa qa => ⟨qa, ?_⟩⟩
      unfold rel; rw [if_neg (by rw [sa]; intro z; cases z; exact hj rfl)]; exact sa⟩

/-- an expression's value as an argument -/
def oE (m : ME) : MO := fun ρ => (m ρ).map fun p => (.val p.1, p.2)
theorem PX.po {e : Expr} {m : ME} (h : PX X e m) : PO X e (oE m) := ⟨h.pe.of fun σ H Q q => by
  obtain ⟨B, ρ, own, a, ρ', hB, es, e, k⟩ := q
  obtain ⟨⟨t, ρ1⟩, e1, e2⟩ := Option.map_eq_some_iff.mp (show (m ρ).map _ = some (a, ρ') from e)
  cases e2
  exact ⟨B, ρ, own, t, _, hB, es, e1, fun v H' own' st es' r => k v H' own' st es' r⟩⟩
/-- .. that never changes from here on -/
def mF (m : ME) : ME := fun ρ => (m ρ).bind fun p => match p.1 with
  | .z d => some (.z d, p.2)
  | .l ds => some (.z (.list ds), p.2)
  | .dc _ => none
  | .fd _ => none
theorem px_f {e : Expr} {m : ME} (h : PX X e m) : PX X e (mF m) := ⟨h.pe.ghost fun pins σ H Q q => by
  obtain ⟨B, ρ, own, a, ρ', hB, es, e, k⟩ := q
  obtain ⟨⟨t, ρ1⟩, e1, e2⟩ := Option.bind_eq_some_iff.mp (show (m ρ).bind _ = some (a, ρ') from e)
  have hn : t.nd = true := by
    cases t with
    | z d => rfl
    | l ds => rfl
    | dc kvs => cases e2
    | fd kvs => cases e2
  have e2' : a = .z t.data ∧ ρ1 = ρ' := by
    cases t with
    | z d => cases e2; exact ⟨rfl, rfl⟩
    | l ds => cases e2; exact ⟨rfl, rfl⟩
    | dc kvs => cases e2
    | fd kvs => cases e2
  obtain ⟨rfl, rfl⟩ := e2'
  refine ⟨B, ρ, own, t, _, hB, es, e1, fun v H' own' st es' r s1 I1 => ?_⟩
  obtain ⟨H2, I2, f, p, kp, fr⟩ := freezeT I1 hn r
  have st2 : Step σ.length B own' H' own' H2 := ⟨fun b o e na => ⟨kp b o e fun z => na (by rw [z, Act.some]; exact .inr (Nat.le_refl _)), rfl⟩, fun b q => .inl q, p⟩
  refine ⟨H2, I2, k v H2 own' (st.trans st2) (es'.same p fun a o i ha hi e => ⟨kp a o e (by rw [ha]; intro z; cases z; omega), ha⟩) f⟩⟩
end

/-! ### what an operation makes -/
structure Fresh (K : Fr) (H H' : Hp) (v : V) (t : T) : Prop where
  same : ∀ b o, H b = some o → H' b = some o
  rep : RepT K H' v t (fun a => H a = none)
theorem Fresh.z {K : Fr} {H : Hp} {v : V} {d : D} (f : Fz K H v d) : Fresh K H H v (.z d) := ⟨fun _ _ h => h, f⟩
theorem Fresh.tup {K : Fr} {H : Hp} {p : Addr} {xs : List V} {ds : List D} (h : H p = none) (f : FzA K H xs ds) : Fresh K H (upd H p (.tup xs)) (.ref p) (.z (.tuple ds)) :=
  ⟨fun b o e => by rw [upd_ne (ne_of_none e h)]; exact e, .tup (.inl (.inl upd_same)) (f.mono (.new h))⟩
theorem Fresh.lst {K : Fr} {H : Hp} {p : Addr} {xs : List V} {ds : List D} (h : H p = none) (f : FzA K H xs ds) : Fresh K H (upd H p (.lst xs)) (.ref p) (.l ds) :=
  ⟨fun b o e => by rw [upd_ne (ne_of_none e h)]; exact e, ⟨p, xs, rfl, h, upd_same, f.mono (.new h)⟩⟩
/-- new objects belong to the temporary B -/
def born (B : Nat) (H : Hp) (own : Ow) : Ow := fun b => if (H b).isNone then some B else own b
theorem born_old {B : Nat} {H : Hp} {own : Ow} {b : Addr} {o : HO} (h : H b = some o) : born B H own b = own b := by
  unfold born; rw [h]; rfl
theorem born_new {B : Nat} {H : Hp} {own : Ow} {b : Addr} (h : H b = none) : born B H own b = some B := by
  unfold born; rw [h]; rfl
theorem Fresh.step {K : Fr} {H H' : Hp} {v : V} {t : T} {n B : Nat} {own : Ow} (f : Fresh K H H' v t) : Step n B own H (born B H own) H' := by
  refine ⟨fun b o e na => ⟨f.same b o e, born_old e⟩, fun b q => ?_, .same f.same⟩
  cases e : H b with
  | none => exact .inr rfl
  | some o => rw [born_old e] at q; exact .inl q
theorem Fresh.es {K : Fr} {H H' : Hp} {v : V} {t : T} {B : Nat} {own : Ow} {σ : St} {ρ : Env} (f : Fresh K H H' v t) (es : ES K H σ ρ own) : ES K H' σ ρ (born B H own) :=
  es.same (.same f.same) fun a o i h _ e => ⟨f.same a o e, by rw [born_old e]; exact h⟩
theorem Fresh.rep' {K : Fr} {H H' : Hp} {v : V} {t : T} {B : Nat} {own : Ow} (f : Fresh K H H' v t) : RepT K H' v t (fun b => born B H own b = some B) :=
  f.rep.mono .refl fun a o n e => ⟨e, born_new n⟩

/-! ### arguments -/
theorem argRp {K : Fr} {H : Hp} {σ : St} {ρ : Env} {own : Ow} {j : Nat} {v : V} {a : Arg} {t : T} (es : ES K H σ ρ own) (r : ArgRep K H σ own j v a) (g : a.get ρ = some t) : Rp K H v t.data := by
  obtain ⟨g, nd⟩ := Arg.get_some g
  cases a with
  | val u =>
    have e : u = t := Option.some.inj g
    subst e
    have r' : RepT K H v u _ := r
    exact r'.rp nd
  | slot i =>
    obtain ⟨w, e, q⟩ := es.rep i t (slotT_some g)
    have r' : σ[i]? = some (some v) := r
    rw [e] at r'
    cases r'
    exact q.rp nd
theorem argStep {K : Fr} {H H' : Hp} {σ : St} {own own' : Ow} {n B j : Nat} {v : V} {a : Arg} (st : Step n B own H own' H') (h1 : n ≤ j) (h2 : j < B) (r : ArgRep K H σ own j v a) : ArgRep K H' σ own' j v a := by
  cases a with
  | val u => exact RepT.step st h1 h2 r
  | slot i => exact r
def gets (ρ : Env) : List Arg → Option (List D)
  | [] => some []
  | a :: as => (a.get ρ).bind fun t => (gets ρ as).map fun ds => t.data :: ds
inductive RpA (K : Fr) (H : Hp) : List V → List D → Prop
  | nil : RpA K H [] []
  | cons {v : V} {vs : List V} {d : D} {ds : List D} : Rp K H v d → RpA K H vs ds → RpA K H (v :: vs) (d :: ds)
theorem argsRp {K : Fr} {H : Hp} {σ : St} {ρ : Env} {own : Ow} (es : ES K H σ ρ own) : ∀ {as : List Arg} {vs : List V} {j : Nat} {ds : List D}, ArgsRep K H σ own j vs as → gets ρ as = some ds → RpA K H vs ds
  | [], [], _, ds, _, g => by cases g; exact .nil
  | [], _ :: _, _, _, r, _ => False.elim r
  | _ :: _, [], _, _, r, _ => False.elim r
  | a :: as, v :: vs, j, ds, ⟨r1, r2⟩, g => by
    obtain ⟨t, e1, e2⟩ := Option.bind_eq_some_iff.mp (show (a.get ρ).bind _ = some ds from g)
    obtain ⟨ds', e3, e4⟩ := Option.map_eq_some_iff.mp e2
    subst e4
    exact .cons (argRp es r1 e1) (argsRp es r2 e3)
def aNil : MA := fun ρ => some ([], ρ)
def aCons (m : MO) (ms : MA) : MA := fun ρ => (m ρ).bind fun p => (ms p.2).map fun q => (p.1 :: q.1, q.2)
section
variable {X : Cx}
theorem pa_0 : PAr X [] aNil := ⟨pa_nil.of fun σ H Q q => by
  obtain ⟨B, ρ, own, as, ρ', hB, es, e, k⟩ := q
  cases e
  exact k [] H own .refl es trivial⟩
theorem pa_c {e : Expr} {es : List Expr} {m : MO} {ms : MA} (h : PO X e m) (hr : PAr X es ms) (hs : starEach (e :: es) X.env = (false, eval e X.env) :: starEach es X.env := by rfl) : PAr X (e :: es) (aCons m ms) := ⟨(pa_cons h.pe hr.pa hs).of fun σ H Q q => by
  obtain ⟨B, ρ, own, as, ρ', hB, es, e, k⟩ := q
  obtain ⟨⟨a, ρ1⟩, e1, e2⟩ := Option.bind_eq_some_iff.mp (show (m ρ).bind _ = some (as, ρ') from e)
  obtain ⟨⟨as2, ρ2⟩, e3, e4⟩ := Option.map_eq_some_iff.mp e2
  cases e4
  refine ⟨B, ρ, own, a, ρ1, hB, es, e1, fun v H1 own1 st1 es1 r1 => ?_⟩
  refine ⟨B + 1, ρ1, own1, as2, _, Nat.le_succ_of_le hB, es1, e3, fun vs H2 own2 st2 es2 r2 => ?_⟩
  exact k (v :: vs) H2 own2 (st1.trans (st2.down (Nat.le_succ B))) es2 ⟨argStep st2 hB (Nat.lt_succ_self B) r1, r2⟩⟩
end

/-! ### operations -/
def rD1 (K : Fr) (g : D → Option T) : V → Hp → VK → Prop := fun x H Q => ∃ d t, Rp K H x d ∧ g d = some t ∧ ∀ v H', Fresh K H H' v t → Q v H'
def rD2 (K : Fr) (g : D → D → Option T) : R2 := fun x y H Q => ∃ d e t, Rp K H x d ∧ Rp K H y e ∧ g d e = some t ∧ ∀ v H', Fresh K H H' v t → Q v H'
def rDA (K : Fr) (g : List D → Option T) : List V → Hp → VK → Prop := fun xs H Q => ∃ ds t, RpA K H xs ds ∧ g ds = some t ∧ ∀ v H', Fresh K H H' v t → Q v H'
def UnD (X : Cx) (f : Value → Sem Value) (g : D → Option T) : Prop := UnR X f (rD1 X.K g)
def OpD (X : Cx) (f : Value → Value → Sem Value) (g : D → D → Option T) : Prop := OpR X f (rD2 X.K g)
def CallD (X : Cx) (f : Value) (g : List D → Option T) : Prop := CallR X f (rDA X.K g)
def mUn (g : D → Option T) (m : MO) : ME := fun ρ => (m ρ).bind fun p => (p.1.get p.2).bind fun t => (g t.data).map fun u => (u, p.2)
def mBin (g : D → D → Option T) (m m' : MO) : ME := fun ρ => (m ρ).bind fun p => (m' p.2).bind fun q => (p.1.get q.2).bind fun t => (q.1.get q.2).bind fun u => (g t.data u.data).map fun r => (r, q.2)
def mCB (g : List D → Option T) (m : MA) : ME := fun ρ => (m ρ).bind fun p => (gets p.2 p.1).bind fun ds => (g ds).map fun r => (r, p.2)
section
variable {X : Cx} {a b : Expr} {m m' : MO} {pos : Pos}
theorem tE_un {K : Fr} {g : D → Option T} {r : V → Hp → VK → Prop} {σ : St} {H : Hp} {Q : VK} (hr : ∀ x H Q, rD1 K g x H Q → r x H Q) (q : tE K (mUn g m) σ H Q) : tUn r (tO K m) σ H Q := by
  obtain ⟨B, ρ, own, t, ρ', hB, es, e, k⟩ := q
  obtain ⟨⟨a, ρ1⟩, e1, e2⟩ := Option.bind_eq_some_iff.mp (show (m ρ).bind _ = some (t, ρ') from e)
  obtain ⟨u, e3, e4⟩ := Option.bind_eq_some_iff.mp e2
  obtain ⟨w, e5, e6⟩ := Option.map_eq_some_iff.mp e4
  cases e6
  refine ⟨B, ρ, own, a, ρ1, hB, es, e1, fun v H1 own1 st1 es1 r1 => ?_⟩
  refine hr _ _ _ ⟨u.data, _, argRp es1 r1 e3, e5, fun v2 H2 f => ?_⟩
  exact k v2 H2 _ (st1.trans f.step) (f.es es1) f.rep'
theorem px_un {op : UnaryOp} {g : D → Option T} (ho : UnD X (unaryOp op) g) (ha : PO X a m) : PX X (.UnaryOp op a pos) (mUn g m) :=
  ⟨(pe_un ho ha.pe).of fun σ H Q q => tE_un (fun _ _ _ h => h) q⟩
theorem tE_bin {K : Fr} {g : D → D → Option T} {r : R2} {σ : St} {H : Hp} {Q : VK} (hr : ∀ x y H Q, rD2 K g x y H Q → r x y H Q) (q : tE K (mBin g m m') σ H Q) : tOp r (tO K m) (tO K m') σ H Q := by
  obtain ⟨B, ρ, own, t, ρ', hB, es, e, k⟩ := q
  obtain ⟨⟨a, ρ1⟩, e1, e2⟩ := Option.bind_eq_some_iff.mp (show (m ρ).bind _ = some (t, ρ') from e)
  obtain ⟨⟨b, ρ2⟩, e3, e4⟩ := Option.bind_eq_some_iff.mp e2
  obtain ⟨u, e5, e6⟩ := Option.bind_eq_some_iff.mp e4
  obtain ⟨w, e7, e8⟩ := Option.bind_eq_some_iff.mp e6
  obtain ⟨z, e9, e10⟩ := Option.map_eq_some_iff.mp e8
  cases e10
  refine ⟨B, ρ, own, a, ρ1, hB, es, e1, fun v H1 own1 st1 es1 r1 => ?_⟩
  refine ⟨B + 1, ρ1, own1, b, ρ2, Nat.le_succ_of_le hB, es1, e3, fun v2 H2 own2 st2 es2 r2 => ?_⟩
  have r1' := argStep (K := K) (σ := σ) (v := v) (a := a) st2 hB (Nat.lt_succ_self B) r1
  refine hr _ _ _ _ ⟨u.data, w.data, _, argRp es2 r1' e5, argRp es2 r2 e7, e9, fun v3 H3 f => ?_⟩
  exact k v3 H3 _ ((st1.trans (st2.down (Nat.le_succ B))).trans f.step) (f.es es2) f.rep'
theorem px_op {op : Operator} {g : D → D → Option T} (ho : OpD X (binaryOp op) g) (ha : PO X a m) (hb : PO X b m') : PX X (.BinOp a op b pos) (mBin g m m') :=
  ⟨(pe_op ho ha.pe hb.pe).of fun σ H Q q => tE_bin (fun _ _ _ _ h => h) q⟩
theorem px_cmp {op : CmpOp} {g : D → D → Option T} (ho : OpD X (compareOp op) g) (ha : PO X a m) (hb : PO X b m') (hm : behindInMarks op b = false) : PX X (.Compare a [op] [b] pos) (mBin g m m') :=
  ⟨(pe_cmpR ho ha.pe hb.pe hm).of fun σ H Q q => tE_bin (fun _ _ _ _ h => h) q⟩
theorem tE_cb {K : Fr} {g : List D → Option T} {r : List V → Hp → VK → Prop} {ms : MA} {σ : St} {H : Hp} {Q : VK} (hr : ∀ x H Q, rDA K g x H Q → r x H Q) (q : tE K (mCB g ms) σ H Q) : tCB r (tA K ms) σ H Q := by
  obtain ⟨B, ρ, own, t, ρ', hB, es, e, k⟩ := q
  obtain ⟨⟨as, ρ1⟩, e1, e2⟩ := Option.bind_eq_some_iff.mp (show (ms ρ).bind _ = some (t, ρ') from e)
  obtain ⟨ds, e3, e4⟩ := Option.bind_eq_some_iff.mp e2
  obtain ⟨w, e5, e6⟩ := Option.map_eq_some_iff.mp e4
  cases e6
  refine ⟨B, ρ, own, as, ρ1, hB, es, e1, fun vs H1 own1 st1 es1 r1 => ?_⟩
  refine hr _ _ _ ⟨ds, _, argsRp es1 r1 e3, e5, fun v2 H2 f => ?_⟩
  exact k v2 H2 _ (st1.trans f.step) (f.es es1) f.rep'
theorem px_cb {x : Str} {id : String} {es : List Expr} {e : Expr} {g : List D → Option T} {ms : MA} {p : Pos} (hc : CallD X (.builtin id) g) (hg : Gl X x) (hm : X.mg x = none) (hv : bootBuiltins x = some (.builtin id)) (ha : PAr X (e :: es) ms)
    (hn : x ≠ "__name__" := by decide) (hdb : (x == ("__debug__" : Str)) = false := by decide) (hs : starEach (e :: es) X.env = (false, eval e X.env) :: starEach es X.env := by rfl) (hpl : (backTo pos (starEach es X.env)).any (·.1) = false := by rfl) : PX X (.Call (.Name x p) (e :: es) [] pos) (mCB g ms) :=
  ⟨(pe_callB hc hg hm hv ha.pa hn hdb hs hpl).of fun σ H Q q => tE_cb (fun _ _ _ h => h) q⟩
theorem px_ct {x : Str} {id : String} {es : List Expr} {e : Expr} {g : List D → Option T} {ms : MA} {p : Pos} (hc : CallD X (.type id) g) (hg : Gl X x) (hm : X.mg x = none) (hv : bootBuiltins x = some (.type id)) (ha : PAr X (e :: es) ms)
    (hn : x ≠ "__name__" := by decide) (hdb : (x == ("__debug__" : Str)) = false := by decide) (hs : starEach (e :: es) X.env = (false, eval e X.env) :: starEach es X.env := by rfl) (hpl : (backTo pos (starEach es X.env)).any (·.1) = false := by rfl) : PX X (.Call (.Name x p) (e :: es) [] pos) (mCB g ms) :=
  ⟨(pe_callTy hc hg hm hv ha.pa hn hdb hs hpl).of fun σ H Q q => tE_cb (fun _ _ _ h => h) q⟩
end
end VL

set_option Elab.async false
set_option linter.all false
set_option maxRecDepth 100000
set_option maxHeartbeats 4000000
namespace VL
open PySem PySem.Spec PyProof.Rows L2

/-! ### tests -/
def truth : D → Option Bool
  | .none => some false
  | .bool b => some b
  | .int i => some (i != 0)
  | .list ds => some !ds.isEmpty
  | .tuple ds => some !ds.isEmpty
  | _ => none
def bT (m : MO) : MB := fun ρ => (m ρ).bind fun p => (p.1.get p.2).bind fun t => (truth t.data).map fun b => (b, p.2)
theorem isEmpty_FzA {K : Fr} {H : Hp} {vs : List V} {ds : List D} (f : FzA K H vs ds) : (!vs.isEmpty) = !ds.isEmpty := by cases f <;> rfl
theorem truV {K : Fr} {H : Hp} {v : V} {d : D} {b : Bool} (r : Rp K H v d) (e : truth d = some b) : TruV K v H b := by
  cases d with
  | none => cases e; rw [r.non]; exact rfl
  | bool c => cases e; rw [r.bl]; exact rfl
  | int i => cases e; rw [r.int]; exact rfl
  | str x => cases e
  | list ds =>
    cases e
    obtain ⟨a, xs, rfl, q, f⟩ := r.list
    exact .inl ⟨xs, q, (isEmpty_FzA f).symm⟩
  | tuple ds =>
    cases e
    obtain ⟨a, xs, rfl, q, f⟩ := r.tuple
    exact .inr (.inl ⟨xs, q, (isEmpty_FzA f).symm⟩)
  | dict kvs => cases e
section
variable {X : Cx} {a b c : Expr} {rest : List Expr} {m m' m'' : MO} {n n' : MB} {pos : Pos}
theorem pb_t (ha : PO X a m) (he : ∀ whole, isTrue a X.env whole = (do let v ← whole; standAt a.pos; holding [v] (truthy v)) := by intro _; rfl) : PB X a (bT m) := ⟨(pt_truth ha.pe he).of fun σ H Q q => by
  obtain ⟨B, ρ, own, t, ρ', hB, es, e, k⟩ := q
  obtain ⟨⟨x, ρ1⟩, e1, e2⟩ := Option.bind_eq_some_iff.mp (show (m ρ).bind _ = some (t, ρ') from e)
  obtain ⟨u, e3, e4⟩ := Option.bind_eq_some_iff.mp e2
  obtain ⟨w, e5, e6⟩ := Option.map_eq_some_iff.mp e4
  cases e6
  refine ⟨B, ρ, own, x, _, hB, es, e1, fun v H1 own1 st1 es1 r1 => ?_⟩
  exact ⟨_, truV (argRp es1 r1 e3) e5, k H1 own1 st1 es1⟩⟩
/-- a value that is a bool -/
def bV (m : ME) : MB := fun ρ => (m ρ).bind fun p => match p.1 with
  | .z (.bool b) => some (b, p.2)
  | _ => none
theorem bV_some {m : ME} {ρ ρ' : Env} {b : Bool} (e : bV m ρ = some (b, ρ')) : m ρ = some (.z (.bool b), ρ') := by
  obtain ⟨⟨t, ρ1⟩, e1, e2⟩ := Option.bind_eq_some_iff.mp (show (m ρ).bind _ = some (b, ρ') from e)
  rw [e1]
  cases t with
  | z d => cases d <;> first | (cases e2; rfl) | cases e2
  | l ds => cases e2
  | dc kvs => cases e2
  | fd kvs => cases e2
theorem tB_of {K : Fr} {m : ME} {σ : St} {H : Hp} {Q : Bool → Hp → Prop} (q : tT K (bV m) σ H Q) : tE K m σ H fun x H1 => ∃ c, x = .bl c ∧ Q c H1 := by
  obtain ⟨B, ρ, own, t, ρ', hB, es, e, k⟩ := q
  refine ⟨B, ρ, own, _, ρ', hB, es, bV_some e, fun v H1 own1 st1 es1 r1 => ⟨t, ?_, k H1 own1 st1 es1⟩⟩
  have r2 : Fz K H1 v (.bool t) := r1
  cases r2; rfl
theorem pb_cmp {op : CmpOp} {g : D → D → Option T} (ho : OpD X (compareOp op) g) (ha : PO X a m) (hb : PO X b m') (hm : behindInMarks op b = false) : PB X (.Compare a [op] [b] pos) (bV (mBin g m m')) :=
  ⟨(pt_cmpR ho ha.pe hb.pe hm).of fun σ H Q q => tE_bin (fun _ _ _ _ h => h) (tB_of q)⟩
def mChain (g g' : D → D → Option T) (m m' m'' : MO) : ME := fun ρ => (m ρ).bind fun p => (m' p.2).bind fun q => (p.1.get q.2).bind fun t => (q.1.get q.2).bind fun u => (g t.data u.data).bind fun r => match r with
  | .z (.bool true) => (m'' q.2).bind fun o => (q.1.get o.2).bind fun u => (o.1.get o.2).bind fun w => (g' u.data w.data).map fun z => (z, o.2)
  | .z (.bool false) => some (.z (.bool false), q.2)
  | _ => none
theorem tE_chain {K : Fr} {g g' : D → D → Option T} {σ : St} {H : Hp} {Q : VK} (q : tE K (mChain g g' m m' m'') σ H Q) : tChain (rD2 K g) (rD2 K g') (tO K m) (tO K m') (tO K m'') σ H Q := by
  obtain ⟨B, ρ, own, t, ρ', hB, es, e, k⟩ := q
  obtain ⟨⟨a, ρ1⟩, e1, e2⟩ := Option.bind_eq_some_iff.mp (show (m ρ).bind _ = some (t, ρ') from e)
  obtain ⟨⟨b, ρ2⟩, e3, e4⟩ := Option.bind_eq_some_iff.mp e2
  obtain ⟨u, e5, e6⟩ := Option.bind_eq_some_iff.mp e4
  obtain ⟨w, e7, e8⟩ := Option.bind_eq_some_iff.mp e6
  obtain ⟨z, e9, e10⟩ := Option.bind_eq_some_iff.mp e8
  refine ⟨B, ρ, own, a, ρ1, hB, es, e1, fun v H1 own1 st1 es1 r1 => ?_⟩
  refine ⟨B + 1, ρ1, own1, b, ρ2, Nat.le_succ_of_le hB, es1, e3, fun v2 H2 own2 st2 es2 r2 => ?_⟩
  have r1' := argStep (K := K) (σ := σ) (v := v) (a := a) st2 hB (Nat.lt_succ_self B) r1
  refine ⟨u.data, w.data, _, argRp es2 r1' e5, argRp es2 r2 e7, e9, fun v3 H3 f => ?_⟩
  cases z with
  | l ds => cases e10
  | dc kvs => cases e10
  | fd kvs => cases e10
  | z d =>
    cases d with
    | bool c =>
      have fz : Fz K H3 v3 (.bool c) := f.rep
      cases fz
      refine ⟨c, rfl, ?_⟩
      cases c with
      | false =>
        cases e10
        rw [if_neg Bool.false_ne_true]
        exact k _ H3 _ ((st1.trans (st2.down (Nat.le_succ B))).trans f.step) (f.es es2) (.bl false)
      | true =>
        rw [if_pos rfl]
        obtain ⟨⟨o, ρ3⟩, e11, e12⟩ := Option.bind_eq_some_iff.mp (show (m'' ρ2).bind _ = some (t, ρ') from e10)
        obtain ⟨u2, e13, e14⟩ := Option.bind_eq_some_iff.mp e12
        obtain ⟨w2, e15, e16⟩ := Option.bind_eq_some_iff.mp e14
        obtain ⟨z2, e17, e18⟩ := Option.map_eq_some_iff.mp e16
        cases e18
        have st3 : Step σ.length (B + 2) own2 H2 (born (B + 2) H2 own2) H3 := f.step
        have es3 := f.es (B := B + 2) es2
        refine ⟨B + 2, ρ2, _, o, _, by omega, es3, e11, fun v4 H4 own4 st4 es4 r4 => ?_⟩
        have r2a := argStep (K := K) (σ := σ) (v := v2) (a := b) st3 (show σ.length ≤ B + 1 by omega) (by omega) r2
        have r2' := argStep (K := K) (σ := σ) (v := v2) (a := b) st4 (show σ.length ≤ B + 1 by omega) (by omega) r2a
        refine ⟨u2.data, w2.data, _, argRp es4 r2' e13, argRp es4 r4 e15, e17, fun v5 H5 f5 => ?_⟩
        exact k v5 H5 _ ((((st1.trans (st2.down (Nat.le_succ B))).trans (st3.down (by omega))).trans (st4.down (by omega))).trans f5.step) (f5.es es4) f5.rep'
    | _ => cases e10
theorem px_chain {op op' : CmpOp} {g g' : D → D → Option T} (ho : OpD X (compareOp op) g) (ho' : OpD X (compareOp op') g') (ha : PO X a m) (hb : PO X b m') (hc : PO X c m'')
    (hm : lastMarks [op, op'] [b, c] = false := by with_unfolding_all rfl) : PX X (.Compare a [op, op'] [b, c] pos) (mChain g g' m m' m'') := ⟨(pe_chain ho ho' ha.pe hb.pe hc.pe hm).of fun σ H Q q => tE_chain q⟩
theorem pb_chain {op op' : CmpOp} {g g' : D → D → Option T} (ho : OpD X (compareOp op) g) (ho' : OpD X (compareOp op') g') (ha : PO X a m) (hb : PO X b m') (hc : PO X c m'')
    (hm : lastMarks [op, op'] [b, c] = false := by with_unfolding_all rfl) : PB X (.Compare a [op, op'] [b, c] pos) (bV (mChain g g' m m' m'')) := ⟨(pt_chain ho ho' ha.pe hb.pe hc.pe hm).of fun σ H Q q => tE_chain (tB_of q)⟩
structure PBw (X : Cx) (e : Expr) (m : MB) : Prop where
  pw : PW X e (tT X.K m)
def bAnd (n n' : MB) : MB := fun ρ => (n ρ).bind fun p => match p.1 with
  | true => n' p.2
  | false => some (false, p.2)
def bOr (n n' : MB) : MB := fun ρ => (n ρ).bind fun p => match p.1 with
  | false => n' p.2
  | true => some (true, p.2)
def bNot (n : MB) : MB := fun ρ => (n ρ).map fun p => (!p.1, p.2)
theorem PW.of {X : Cx} {e : Expr} {t t' : TT} (h : PW X e t') (i : ∀ σ H Q, t σ H Q → t' σ H Q) : PW X e t := ⟨fun wh pins s σ H Q I q => h.run wh pins s σ H Q I (i σ H Q q)⟩
theorem pbw_and1 (ha : PB X a n) : PBw X (.BoolOp .And [a] pos) n := ⟨pw_and1 ha.pt⟩
theorem pbw_or1 (ha : PB X a n) : PBw X (.BoolOp .Or [a] pos) n := ⟨pw_or1 ha.pt⟩
theorem pbw_and (ha : PB X a n) (hb : PBw X (.BoolOp .And (b :: rest) pos) n') : PBw X (.BoolOp .And (a :: b :: rest) pos) (bAnd n n') := ⟨PW.of (pw_and ha.pt hb.pw) fun σ H Q q => by
  obtain ⟨B, ρ, own, t, ρ', hB, es, e, k⟩ := q
  obtain ⟨⟨c, ρ1⟩, e1, e2⟩ := Option.bind_eq_some_iff.mp (show (n ρ).bind _ = some (t, ρ') from e)
  refine ⟨B, ρ, own, c, ρ1, hB, es, e1, fun H1 own1 st1 es1 => ?_⟩
  cases c with
  | false => cases e2; rw [if_neg Bool.false_ne_true]; exact k H1 own1 st1 es1
  | true => rw [if_pos rfl]; exact ⟨B, ρ1, own1, t, ρ', hB, es1, e2, fun H2 own2 st2 es2 => k H2 own2 (st1.trans st2) es2⟩⟩
theorem pbw_or (ha : PB X a n) (hb : PBw X (.BoolOp .Or (b :: rest) pos) n') : PBw X (.BoolOp .Or (a :: b :: rest) pos) (bOr n n') := ⟨PW.of (pw_or ha.pt hb.pw) fun σ H Q q => by
  obtain ⟨B, ρ, own, t, ρ', hB, es, e, k⟩ := q
  obtain ⟨⟨c, ρ1⟩, e1, e2⟩ := Option.bind_eq_some_iff.mp (show (n ρ).bind _ = some (t, ρ') from e)
  refine ⟨B, ρ, own, c, ρ1, hB, es, e1, fun H1 own1 st1 es1 => ?_⟩
  cases c with
  | true => cases e2; rw [if_pos rfl]; exact k H1 own1 st1 es1
  | false => rw [if_neg Bool.false_ne_true]; exact ⟨B, ρ1, own1, t, ρ', hB, es1, e2, fun H2 own2 st2 es2 => k H2 own2 (st1.trans st2) es2⟩⟩
theorem PBw.pb {e : Expr} (h : PBw X e n) : PB X e n := ⟨h.pw.pt⟩
theorem pb_not (ha : PB X a n) : PB X (.UnaryOp .Not a pos) (bNot n) := ⟨(pt_not ha.pt).of fun σ H Q q => by
  obtain ⟨B, ρ, own, t, ρ', hB, es, e, k⟩ := q
  obtain ⟨⟨c, ρ1⟩, e1, e2⟩ := Option.map_eq_some_iff.mp (show (n ρ).map _ = some (t, ρ') from e)
  cases e2
  exact ⟨B, ρ, own, c, _, hB, es, e1, k⟩⟩
/-! ### and, or, not as values -/
variable {p p' : ME}
def mAnd (p p' : ME) : ME := fun ρ => (bV p ρ).bind fun q => match q.1 with
  | true => p' q.2
  | false => some (.z (.bool false), q.2)
def mOr (p p' : ME) : ME := fun ρ => (bV p ρ).bind fun q => match q.1 with
  | false => p' q.2
  | true => some (.z (.bool true), q.2)
def mNot (p : ME) : ME := fun ρ => (bV p ρ).map fun q => (.z (.bool !q.1), q.2)
theorem px_one {op} (h : PX X a p) : PX X (.BoolOp op [a] pos) p := ⟨pe_one h.pe⟩
theorem px_and (ha : PX X a p) (hb : PX X (.BoolOp .And (b :: rest) pos) p') : PX X (.BoolOp .And (a :: b :: rest) pos) (mAnd p p') := ⟨(pe_and ha.pe hb.pe).of fun σ H Q q => by
  obtain ⟨B, ρ, own, t, ρ', hB, es, e, k⟩ := q
  obtain ⟨⟨c, ρ1⟩, e1, e2⟩ := Option.bind_eq_some_iff.mp (show (bV p ρ).bind _ = some (t, ρ') from e)
  refine ⟨B, ρ, own, _, ρ1, hB, es, bV_some e1, fun v H1 own1 st1 es1 r1 => ?_⟩
  have fz : Fz X.K H1 v (.bool c) := r1
  cases fz
  refine ⟨c, rfl, ?_⟩
  cases c with
  | false => cases e2; rw [if_neg Bool.false_ne_true]; exact k _ H1 own1 st1 es1 (.bl false)
  | true => rw [if_pos rfl]; exact ⟨B, ρ1, own1, t, ρ', hB, es1, e2, fun v2 H2 own2 st2 es2 r2 => k v2 H2 own2 (st1.trans st2) es2 r2⟩⟩
theorem px_or (ha : PX X a p) (hb : PX X (.BoolOp .Or (b :: rest) pos) p') : PX X (.BoolOp .Or (a :: b :: rest) pos) (mOr p p') := ⟨(pe_or ha.pe hb.pe).of fun σ H Q q => by
  obtain ⟨B, ρ, own, t, ρ', hB, es, e, k⟩ := q
  obtain ⟨⟨c, ρ1⟩, e1, e2⟩ := Option.bind_eq_some_iff.mp (show (bV p ρ).bind _ = some (t, ρ') from e)
  refine ⟨B, ρ, own, _, ρ1, hB, es, bV_some e1, fun v H1 own1 st1 es1 r1 => ?_⟩
  have fz : Fz X.K H1 v (.bool c) := r1
  cases fz
  refine ⟨c, rfl, ?_⟩
  cases c with
  | true => cases e2; rw [if_pos rfl]; exact k _ H1 own1 st1 es1 (.bl true)
  | false => rw [if_neg Bool.false_ne_true]; exact ⟨B, ρ1, own1, t, ρ', hB, es1, e2, fun v2 H2 own2 st2 es2 r2 => k v2 H2 own2 (st1.trans st2) es2 r2⟩⟩
theorem px_not (ha : PX X a p) : PX X (.UnaryOp .Not a pos) (mNot p) := ⟨(pe_not ha.pe).of fun σ H Q q => by
  obtain ⟨B, ρ, own, t, ρ', hB, es, e, k⟩ := q
  obtain ⟨⟨c, ρ1⟩, e1, e2⟩ := Option.map_eq_some_iff.mp (show (bV p ρ).map _ = some (t, ρ') from e)
  cases e2
  refine ⟨B, ρ, own, _, _, hB, es, bV_some e1, fun v H1 own1 st1 es1 r1 => ?_⟩
  have fz : Fz X.K H1 v (.bool c) := r1
  cases fz
  exact ⟨c, rfl, k _ H1 own1 st1 es1 (.bl _)⟩⟩
def mIf (n : MB) (p p' : ME) : ME := fun ρ => (n ρ).bind fun q => match q.1 with
  | true => p q.2
  | false => p' q.2
theorem px_if (hc : PB X c n) (ha : PX X a p) (hb : PX X b p') : PX X (.IfExp c a b pos) (mIf n p p') := ⟨(pe_ifExp hc.pt ha.pe hb.pe).of fun σ H Q q => by
  obtain ⟨B, ρ, own, t, ρ', hB, es, e, k⟩ := q
  obtain ⟨⟨c, ρ1⟩, e1, e2⟩ := Option.bind_eq_some_iff.mp (show (n ρ).bind _ = some (t, ρ') from e)
  refine ⟨B, ρ, own, c, ρ1, hB, es, e1, fun H1 own1 st1 es1 => ?_⟩
  cases c with
  | true => rw [if_pos rfl]; exact ⟨B, ρ1, own1, t, ρ', hB, es1, e2, fun v2 H2 own2 st2 es2 r2 => k v2 H2 own2 (st1.trans st2) es2 r2⟩
  | false => rw [if_neg Bool.false_ne_true]; exact ⟨B, ρ1, own1, t, ρ', hB, es1, e2, fun v2 H2 own2 st2 es2 r2 => k v2 H2 own2 (st1.trans st2) es2 r2⟩⟩
/-! ### displays -/
/-- arguments that never change -/
def zs : List Arg → Option (List D)
  | [] => some []
  | .val (.z d) :: as => (zs as).map fun ds => d :: ds
  | _ :: _ => none
theorem zs_fz {K : Fr} {H : Hp} {σ : St} {own : Ow} : ∀ {as : List Arg} {vs : List V} {j : Nat} {ds : List D}, ArgsRep K H σ own j vs as → zs as = some ds → FzA K H vs ds
  | [], [], _, ds, _, g => by cases g; exact .nil
  | [], _ :: _, _, _, r, _ => False.elim r
  | _ :: _, [], _, _, r, _ => False.elim r
  | .val (.z d) :: as, v :: vs, j, ds, ⟨r1, r2⟩, g => by
    obtain ⟨ds', e3, e4⟩ := Option.map_eq_some_iff.mp (show (zs as).map _ = some ds from g)
    subst e4
    exact .cons r1 (zs_fz r2 e3)
  | .val (.l d) :: as, v :: vs, j, ds, _, g => by cases g
  | .val (.dc d) :: as, v :: vs, j, ds, _, g => by cases g
  | .val (.fd d) :: as, v :: vs, j, ds, _, g => by cases g
  | .slot i :: as, v :: vs, j, ds, _, g => by cases g
def mTup (m : MA) : ME := fun ρ => (m ρ).bind fun p => (zs p.1).bind fun ds => if ds.length ≤ 1000 then some (.z (.tuple ds), p.2) else none
def mLst (m : MA) : ME := fun ρ => (m ρ).bind fun p => (zs p.1).bind fun ds => if ds.length ≤ 1000 then some (.l ds, p.2) else none
variable {es : List Expr} {ms : MA}
theorem line1000 {n : Nat} (h : n ≤ 1000) : n ≤ sizeLine := Nat.le_trans h (by decide)
theorem px_tup {x1} (h : PAr X es ms) : PX X (.Tuple es x1 pos) (mTup ms) := ⟨(pe_tup h.pa).of fun σ H Q q => by
  obtain ⟨B, ρ, own, t, ρ', hB, es, e, k⟩ := q
  obtain ⟨⟨as, ρ1⟩, e1, e2⟩ := Option.bind_eq_some_iff.mp (show (ms ρ).bind _ = some (t, ρ') from e)
  obtain ⟨ds, e3, e4⟩ := Option.bind_eq_some_iff.mp e2
  by_cases hl : ds.length ≤ 1000
  · rw [if_pos hl] at e4
    cases e4
    refine ⟨B, ρ, own, as, _, hB, es, e1, fun vs H1 own1 st1 es1 r1 => ?_⟩
    have f := zs_fz r1 e3
    refine ⟨line1000 (by rw [f.length]; exact hl), fun p hp => ?_⟩
    have fr : Fresh X.K H1 (upd H1 p (.tup vs)) (.ref p) (.z (.tuple ds)) := .tup hp f
    exact k _ _ _ (st1.trans fr.step) (fr.es es1) fr.rep'
  · rw [if_neg hl] at e4; cases e4⟩
theorem px_lst (h : PAr X es ms) : PX X (.List es pos) (mLst ms) := ⟨(pe_lst h.pa).of fun σ H Q q => by
  obtain ⟨B, ρ, own, t, ρ', hB, es, e, k⟩ := q
  obtain ⟨⟨as, ρ1⟩, e1, e2⟩ := Option.bind_eq_some_iff.mp (show (ms ρ).bind _ = some (t, ρ') from e)
  obtain ⟨ds, e3, e4⟩ := Option.bind_eq_some_iff.mp e2
  by_cases hl : ds.length ≤ 1000
  · rw [if_pos hl] at e4
    cases e4
    refine ⟨B, ρ, own, as, _, hB, es, e1, fun vs H1 own1 st1 es1 r1 => ?_⟩
    have f := zs_fz r1 e3
    refine ⟨line1000 (by rw [f.length]; exact hl), fun p hp => ?_⟩
    have fr : Fresh X.K H1 (upd H1 p (.lst vs)) (.ref p) (.l ds) := .lst hp f
    exact k _ _ _ (st1.trans fr.step) (fr.es es1) fr.rep'
  · rw [if_neg hl] at e4; cases e4⟩
end

/-! ### statements -/
def sNx : MS := fun ρ => some (.nx, ρ)
def sBk : MS := fun ρ => some (.bk, ρ)
def sCt : MS := fun ρ => some (.ct, ρ)
def sSeq (m m' : MS) : MS := fun ρ => (m ρ).bind fun p => match p.1 with
  | .nx => m' p.2
  | f => some (f, p.2)
def sRet (m : ME) : MS := fun ρ => (m ρ).map fun p => (.ret p.1, p.2)
def sRetN : MS := fun ρ => some (.ret (.z .none), ρ)
def sDrop (m : ME) : MS := fun ρ => (m ρ).map fun p => (.nx, p.2)
def sIf (n : MB) (m m' : MS) : MS := fun ρ => (n ρ).bind fun q => match q.1 with
  | true => m q.2
  | false => m' q.2
def sNo : MS := fun _ => none
def setSl (i : Nat) (t : T) (ρ : Env) : Option Env := if i < ρ.length then some (ρ.set i (some t)) else none
def sSet (i : Nat) (m : ME) : MS := fun ρ => (m ρ).bind fun p => (setSl i p.1 p.2).map fun ρ' => (.nx, ρ')
section
variable {X : Cx} {pin : List Nat} {st : Stmt} {rest : List Stmt} {m m' : MS} {e : Expr} {p : ME} {pos : Pos}
theorem pst_0 : PSts X pin [] sNx := ⟨pss_nil.of fun D σ H q => by
  obtain ⟨B, ρ, own, f, ρ', hB, es, e, k⟩ := q
  cases e
  exact k σ H own rfl (fun _ _ => rfl) .refl es⟩
theorem ps_pass' : PSt X pin (.Pass pos) sNx := ⟨ps_pass.of fun D σ H q => by
  obtain ⟨B, ρ, own, f, ρ', hB, es, e, k⟩ := q
  cases e
  exact k σ H own rfl (fun _ _ => rfl) .refl es⟩
theorem ps_bk : PSt X pin (.Break pos) sBk := ⟨ps_break.of fun D σ H q => by
  obtain ⟨B, ρ, own, f, ρ', hB, es, e, k⟩ := q
  cases e
  exact k σ H own rfl (fun _ _ => rfl) .refl es⟩
theorem ps_ct : PSt X pin (.Continue pos) sCt := ⟨ps_continue.of fun D σ H q => by
  obtain ⟨B, ρ, own, f, ρ', hB, es, e, k⟩ := q
  cases e
  exact k σ H own rfl (fun _ _ => rfl) .refl es⟩
theorem ps_no : PSt X pin st sNo := ⟨ps_never.of fun D σ H q => by
  obtain ⟨B, ρ, own, f, ρ', hB, es, e, k⟩ := q
  cases e⟩
theorem tS_seq {K : Fr} {D : Ends} {σ : St} {H : Hp} (q : tS K pin (sSeq m m') D σ H) : tS K pin m { D with nx := tS K pin m' D } σ H := by
  obtain ⟨B, ρ, own, f, ρ', hB, es, e, k⟩ := q
  obtain ⟨⟨g, ρ1⟩, e1, e2⟩ := Option.bind_eq_some_iff.mp (show (m ρ).bind _ = some (f, ρ') from e)
  refine ⟨B, ρ, own, g, ρ1, hB, es, e1, fun σ1 H1 own1 l1 pn st1 es1 => ?_⟩
  cases g with
  | nx =>
    refine ⟨B, ρ1, own1, f, ρ', by rw [l1]; exact hB, es1, e2, fun σ2 H2 own2 l2 pn2 st2 es2 => ?_⟩
    have z := k σ2 H2 own2 (l2.trans l1) (fun j hj => (pn2 j hj).trans (pn j hj)) (st1.trans (by rw [← l1]; exact st2)) es2
    exact z
  | bk => cases e2; exact k σ1 H1 own1 l1 pn st1 es1
  | ct => cases e2; exact k σ1 H1 own1 l1 pn st1 es1
  | ret t => cases e2; exact k σ1 H1 own1 l1 pn st1 es1
theorem pst_c (h1 : PSt X pin st m) (h2 : PSts X pin rest m') : PSts X pin (st :: rest) (sSeq m m') := ⟨(pss_cons h1.ps h2.ps).of fun D σ H q => tS_seq q⟩
theorem pst_1 (h1 : PSt X pin st m) : PSts X pin [st] m := ⟨pss_one h1.ps⟩
theorem ps_ret' (he : PX X e p) : PSt X pin (.Return (some e) pos) (sRet p) := ⟨(ps_ret he.pe).of fun D σ H q => by
  obtain ⟨B, ρ, own, f, ρ', hB, es, e, k⟩ := q
  obtain ⟨⟨t, ρ1⟩, e1, e2⟩ := Option.map_eq_some_iff.mp (show (p ρ).map _ = some (f, ρ') from e)
  cases e2
  exact ⟨B, ρ, own, t, _, hB, es, e1, fun v H1 own1 st1 es1 r1 => k σ H1 own1 rfl (fun _ _ => rfl) st1 es1 v r1⟩⟩
theorem ps_retn : PSt X pin (.Return none pos) sRetN := ⟨ps_retN.of fun D σ H q => by
  obtain ⟨B, ρ, own, f, ρ', hB, es, e, k⟩ := q
  cases e
  exact k σ H own rfl (fun _ _ => rfl) .refl es _ .non⟩
theorem ps_ex (he : PX X e p) (hs : swapsWith e none pos.line X.env = pure false := by rfl) : PSt X pin (.Expr e pos) (sDrop p) := ⟨(ps_expr he.pe hs).of fun D σ H q => by
  obtain ⟨B, ρ, own, f, ρ', hB, es, e, k⟩ := q
  obtain ⟨⟨t, ρ1⟩, e1, e2⟩ := Option.map_eq_some_iff.mp (show (p ρ).map _ = some (f, ρ') from e)
  cases e2
  exact ⟨B, ρ, own, t, _, hB, es, e1, fun v H1 own1 st1 es1 r1 => k σ H1 own1 rfl (fun _ _ => rfl) st1 es1⟩⟩
theorem ps_if' {c : Expr} {a b : List Stmt} {n : MB} (hc : PB X c n) (ha : PSts X pin a m) (hb : PSts X pin b m') : PSt X pin (.If c a b pos) (sIf n m m') := ⟨(ps_if hc.pt ha.ps hb.ps).of fun D σ H q => by
  obtain ⟨B, ρ, own, f, ρ', hB, es, e, k⟩ := q
  obtain ⟨⟨d, ρ1⟩, e1, e2⟩ := Option.bind_eq_some_iff.mp (show (n ρ).bind _ = some (f, ρ') from e)
  refine ⟨B, ρ, own, d, ρ1, hB, es, e1, fun H1 own1 st1 es1 => ?_⟩
  cases d with
  | true => rw [if_pos rfl]; exact ⟨B, ρ1, own1, f, ρ', hB, es1, e2, fun σ2 H2 own2 l2 pn2 st2 es2 => k σ2 H2 own2 l2 pn2 (st1.trans st2) es2⟩
  | false => rw [if_neg Bool.false_ne_true]; exact ⟨B, ρ1, own1, f, ρ', hB, es1, e2, fun σ2 H2 own2 l2 pn2 st2 es2 => k σ2 H2 own2 l2 pn2 (st1.trans st2) es2⟩⟩
theorem setSl_some {i : Nat} {t : T} {ρ ρ' : Env} (h : setSl i t ρ = some ρ') : i < ρ.length ∧ ρ' = ρ.set i (some t) := by
  unfold setSl at h
  by_cases hi : i < ρ.length
  · rw [if_pos hi] at h; cases h; exact ⟨hi, rfl⟩
  · rw [if_neg hi] at h; cases h
theorem tS_set {K : Fr} {i : Nat} {D : Ends} {σ : St} {H : Hp} (hp : pin.contains i = false) (q : tS K pin (sSet i p) D σ H) : tAsg (tE K p) (gName i) D σ H := by
  obtain ⟨B, ρ, own, f, ρ', hB, es, e, k⟩ := q
  obtain ⟨⟨t, ρ1⟩, e1, e2⟩ := Option.bind_eq_some_iff.mp (show (p ρ).bind _ = some (f, ρ') from e)
  obtain ⟨ρ2, e3, e4⟩ := Option.map_eq_some_iff.mp e2
  cases e4
  obtain ⟨hi, rfl⟩ := setSl_some e3
  refine ⟨B, ρ, own, t, ρ1, hB, es, e1, fun v H1 own1 st1 es1 r1 => ?_⟩
  have hi' : i < σ.length := by rw [← es1.len]; exact hi
  refine k (σ.set i (some v)) H1 (rel B i own1) (by simp) (fun j hj => ?_) (st1.trans (rel_step (Nat.le_refl B) hi')) (es1.setSlot hB hi' r1)
  rw [List.getElem?_set_ne]
  intro z
  subst z
  rw [List.contains_iff_mem.mpr hj] at hp
  cases hp
theorem ps_set' {i : Nat} {x : Str} {pos' : Pos} (h : ∀ t : TE, PE X e t → PS X (.Assign [.Name x pos'] e pos) (tAsg t (gName i))) (hp : pin.contains i = false) (he : PX X e p) : PSt X pin (.Assign [.Name x pos'] e pos) (sSet i p) :=
  ⟨(h _ he.pe).of fun D σ H q => tS_set hp q⟩

/-! ### while -/
def sWh (n : MB) (m : MS) : Nat → MS
  | 0, _ => none
  | k + 1, ρ => (n ρ).bind fun q => match q.1 with
    | false => some (.nx, q.2)
    | true => (m q.2).bind fun p => match p.1 with
      | .nx => sWh n m k p.2
      | .ct => sWh n m k p.2
      | .bk => some (.nx, p.2)
      | .ret t => some (.ret t, p.2)
theorem ps_wh {c : Expr} {body : List Stmt} {n : MB} (k0 : Nat) (hp : PassesOwn (model X.prog X.w) X.A X.env X.xe) (hc : PB X c n) (hb : PSts X pin body m) : PSt X pin (.While c body [] pos) (sWh n m k0) := ⟨(ps_while hp hc.pt hb.ps).of fun D σ H q => by
  obtain ⟨B, ρ, own, f, ρ', hB, es, e, k⟩ := q
  refine ⟨fun j σ1 H1 => ∃ ρ1 own1, sWh n m j ρ1 = some (f, ρ') ∧ σ1.length = σ.length ∧ (∀ i ∈ pin, σ1[i]? = σ[i]?) ∧ Step σ.length B own H own1 H1 ∧ ES X.K H1 σ1 ρ1 own1, ⟨k0, ρ, own, e, rfl, fun _ _ => rfl, .refl, es⟩, ?_⟩
  rintro j σ1 H1 ⟨ρ1, own1, e1, l1, pn1, st1, es1⟩
  cases j with
  | zero => cases e1
  | succ j =>
    obtain ⟨⟨d, ρ2⟩, e2, e3⟩ := Option.bind_eq_some_iff.mp (show (n ρ1).bind _ = some (f, ρ') from e1)
    refine ⟨B, ρ1, own1, d, ρ2, by rw [l1]; exact hB, es1, e2, fun H2 own2 st2 es2 => ?_⟩
    rw [l1] at st2
    cases d with
    | false =>
      cases e3
      rw [if_neg Bool.false_ne_true]
      exact k σ1 H2 own2 l1 pn1 (st1.trans st2) es2
    | true =>
      rw [if_pos rfl]
      obtain ⟨⟨g, ρ3⟩, e4, e5⟩ := Option.bind_eq_some_iff.mp (show (m ρ2).bind _ = some (f, ρ') from e3)
      refine ⟨fun σ3 H3 => ∃ ρ1 own1, sWh n m j ρ1 = some (f, ρ') ∧ σ3.length = σ.length ∧ (∀ i ∈ pin, σ3[i]? = σ[i]?) ∧ Step σ.length B own H own1 H3 ∧ ES X.K H3 σ3 ρ1 own1, fun σ3 H3 h => ⟨j, Nat.lt_succ_self j, h⟩, ?_⟩
      refine ⟨B, ρ2, own2, g, ρ3, by rw [l1]; exact hB, es2, e4, fun σ3 H3 own3 l3 pn3 st3 es3 => ?_⟩
      rw [l1] at st3
      have l3' := l3.trans l1
      have pn3' : ∀ i ∈ pin, σ3[i]? = σ[i]? := fun i hi => (pn3 i hi).trans (pn1 i hi)
      have st := (st1.trans st2).trans st3
      cases g with
      | nx => exact ⟨ρ3, own3, e5, l3', pn3', st, es3⟩
      | ct => exact ⟨ρ3, own3, e5, l3', pn3', st, es3⟩
      | bk => cases e5; exact k σ3 H3 own3 l3' pn3' st es3
      | ret t =>
        cases e5
        intro v r
        exact k σ3 H3 own3 l3' pn3' st es3 v r⟩
end
end VL

set_option Elab.async false
set_option linter.all false
set_option maxRecDepth 100000
set_option maxHeartbeats 4000000
namespace VL
open PySem PySem.Spec PyProof.Rows L2

/-! ### lists and tuples that are walked -/
inductive Knd where
  | l | t
def IsSeq (k : Knd) (h : Heap) (a : Addr) (its : Array Value) : Prop := match k with
  | .l => h.IsList a its
  | .t => h.IsTuple a its
def IsIter (k : Knd) (h : Heap) (it a : Addr) (i : Nat) : Prop := match k with
  | .l => h.IsListIter it a i
  | .t => h.IsTupleIter it a i
def SqK (K : Fr) (H : Hp) (k : Knd) (a : Addr) (xs : List V) : Prop := match k with
  | .l => SqL K H a xs
  | .t => SqT K H a xs
def iterO (k : Knd) (a : Addr) : Obj := match k with
  | .l => { cls := .type "list_iterator", data := .fields #[.ref a, .int 0 0] }
  | .t => { cls := .type "tuple_iterator", data := .fields #[.ref a, .int 0 0] }
theorem drawsK (k : Knd) {prog : Program} {w : World} {A : Around} (hh : A.handled = none) (it a : Addr) (hne : a ≠ it) (items : Array Value) :
    Draws prog w A it [it, a] items.size (fun i v => items[i]? = some v) (fun i h => IsIter k h it a i ∧ IsSeq k h a items) := match k with
  | .l => .list hh it a hne items
  | .t => .tuple hh it a hne items
theorem beginsK (k : Knd) (a : Addr) (items : Array Value) : Begins (.ref a) (iterO k a) fun h => IsSeq k h a items := match k with
  | .l => begins_list a items
  | .t => begins_tuple a items
theorem iterK (k : Knd) {h : Heap} {it a : Addr} (e : h.get? it = some (iterO k a)) : IsIter k h it a 0 := match k with
  | .l => ⟨_, e, rfl, rfl⟩
  | .t => ⟨_, e, rfl, rfl⟩
theorem IsIter.at {k : Knd} {h h' : Heap} {it a : Addr} {i : Nat} (x : IsIter k h it a i) (e : ∀ o, h.get? it = some o → h'.get? it = some o) : IsIter k h' it a i := match k with
  | .l => Heap.IsListIter.at x e
  | .t => Heap.IsTupleIter.at x e
theorem IsIter.obj {k : Knd} {h : Heap} {it a : Addr} {i : Nat} (x : IsIter k h it a i) : ∃ o, h.get? it = some o ∧ ∀ v, o.data ≠ .cell v := by
  cases k with
  | l => obtain ⟨o, e, _, d⟩ := x; exact ⟨o, e, fun v q => by rw [d] at q; cases q⟩
  | t => obtain ⟨o, e, _, d⟩ := x; exact ⟨o, e, fun v q => by rw [d] at q; cases q⟩
theorem IsSeq.at {k : Knd} {h h' : Heap} {a : Addr} {its : Array Value} (x : IsSeq k h a its) (e : ∀ o, h.get? a = some o → h'.get? a = some o) : IsSeq k h' a its := match k with
  | .l => Heap.IsList.at x e
  | .t => Heap.IsTuple.at x e
theorem IsSeq.lt {k : Knd} {h : Heap} {a : Addr} {its : Array Value} (x : IsSeq k h a its) : a < h.objs.size := by
  cases k with
  | l => obtain ⟨o, e, _⟩ := x; exact Heap.lt_size e
  | t => obtain ⟨o, e, _⟩ := x; exact Heap.lt_size e
section
variable {X : Cx} {pins : List (Addr × Obj)} {σ : St} {H : Hp} {s : Shared} {k : Knd} {a : Addr} {xs ys : List V}
theorem invSeq (I : Inv X pins σ H s) (h : SqK X.K H k a xs) : ∃ its : List Value, Vals xs its ∧ IsSeq k s.heap a its.toArray := by
  cases k with
  | l => obtain ⟨its, r, p, _⟩ := I.list h; exact ⟨its, r, p.isList⟩
  | t => obtain ⟨its, r, p, _⟩ := I.tuple h; exact ⟨its, r, p⟩
theorem invSeq_inj (I : Inv X pins σ H s) (h : SqK X.K H k a xs) (h' : SqK X.K H k a ys) : xs = ys := by
  cases k with
  | l => exact I.list_inj h h'
  | t => exact I.tuple_inj h h'
end
theorem Rp.seq {K : Fr} {H : Hp} {v : V} {k : Knd} {ds : List D} (h : Rp K H v (match k with | .l => .list ds | .t => .tuple ds)) : ∃ a xs, v = .ref a ∧ SqK K H k a xs ∧ FzA K H xs ds := by
  cases k with
  | l => exact h.list
  | t => exact h.tuple

/-- several of them -/
def SqAll (K : Fr) (H : Hp) : List (Knd × Addr) → List (List V) → Prop
  | [], [] => True
  | c :: cs, xs :: xss => SqK K H c.1 c.2 xs ∧ SqAll K H cs xss
  | _, _ => False
def IsAll (h : Heap) : List (Knd × Addr) → List (List Value) → Prop
  | [], [] => True
  | c :: cs, xs :: xss => IsSeq c.1 h c.2 xs.toArray ∧ IsAll h cs xss
  | _, _ => False
inductive ValsA : List (List V) → List (List Value) → Prop
  | nil : ValsA [] []
  | cons {xs : List V} {us : List Value} {xss : List (List V)} {uss : List (List Value)} : Vals xs us → ValsA xss uss → ValsA (xs :: xss) (us :: uss)
section
variable {X : Cx} {pins : List (Addr × Obj)} {σ : St} {H : Hp} {s : Shared}
theorem invAll (I : Inv X pins σ H s) : ∀ {cs : List (Knd × Addr)} {xss : List (List V)}, SqAll X.K H cs xss → ∃ uss, ValsA xss uss ∧ IsAll s.heap cs uss
  | [], [], _ => ⟨[], .nil, trivial⟩
  | [], _ :: _, h => False.elim h
  | _ :: _, [], h => False.elim h
  | c :: cs, xs :: xss, ⟨h1, h2⟩ => by
    obtain ⟨us, r, q⟩ := invSeq I h1
    obtain ⟨uss, r2, q2⟩ := invAll I h2
    exact ⟨us :: uss, .cons r r2, q, q2⟩
theorem invAll_inj (I : Inv X pins σ H s) : ∀ {cs : List (Knd × Addr)} {xss yss : List (List V)}, SqAll X.K H cs xss → SqAll X.K H cs yss → xss = yss
  | [], [], [], _, _ => rfl
  | [], _ :: _, _, h, _ => False.elim h
  | [], [], _ :: _, _, h => False.elim h
  | _ :: _, [], _, h, _ => False.elim h
  | _ :: _, _ :: _, [], _, h => False.elim h
  | c :: cs, xs :: xss, ys :: yss, ⟨h1, h2⟩, ⟨h3, h4⟩ => by rw [invSeq_inj I h1 h3, invAll_inj I h2 h4]
end
theorem IsAll.at {h h' : Heap} : ∀ {cs : List (Knd × Addr)} {uss : List (List Value)}, IsAll h cs uss → (∀ c ∈ cs, ∀ o, h.get? c.2 = some o → h'.get? c.2 = some o) → IsAll h' cs uss
  | [], [], _, _ => trivial
  | [], _ :: _, h, _ => False.elim h
  | _ :: _, [], h, _ => False.elim h
  | c :: cs, us :: uss, ⟨h1, h2⟩, k => ⟨IsSeq.at h1 fun o e => k c (by simp) o e, IsAll.at h2 fun d hd o e => k d (List.mem_cons_of_mem _ hd) o e⟩

/-- an iterator that makes a new tuple at each turn, of what it finds in lists and tuples -/
def ItN (K : Fr) (cs : List (Knd × Addr)) (n : List (List V) → Nat) (y : Nat → List (List V) → List V → Prop) : It :=
  ⟨fun i H => ∃ xss, SqAll K H cs xss ∧ i < n xss, fun i H v H' => ∃ T items, v = .ref T ∧ H T = none ∧ H' = upd H T (.tup items) ∧ ∀ xss, SqAll K H cs xss → y i xss items, fun i H => ∃ xss, SqAll K H cs xss ∧ i = n xss⟩
theorem turn_goes {P : Program} {w : World} {K : Fr} {tg : Expr} {it : Addr} {fp fpG wr : List Addr} {cs : List (Knd × Addr)} {n : List (List V) → Nat} {y : Nat → List (List V) → List V → Prop} {tn : Nat → Heap → Prop} {nv : List (List Value) → Nat} {yv : List (List Value) → Nat → Array Value → Prop}
    (mem : it ∈ fp) (obj : ∀ i h, tn i h → ∀ b ∈ fp, ∃ o, h.get? b = some o ∧ ∀ v, o.data ≠ .cell v) (keep : ∀ i h h', tn i h → (∀ b ∈ fp, ∀ o, h.get? b = some o → h'.get? b = some o) → tn i h')
    (self : ∀ (A : Around) (i : Nat) (s : Shared) (Q : Value → Shared → Prop) (E : Value → Shared → Prop), tn i s.heap → Q (.ref it) s → wpAny (model P w) A (pyIter (.ref it)) Q E s)
    (hw : ∀ b ∈ wr, b ∈ fp) (hn : ∀ {xss uss}, ValsA xss uss → n xss = nv uss) (hy : ∀ {xss uss i vals}, ValsA xss uss → yv uss i vals → ∃ items, y i xss items ∧ Vals items vals.toList ∧ items.length ≤ 1000)
    (G : ∀ (A : Around) (i0 : Nat) (h0 : Heap) (uss : List (List Value)), A.handled = none → tn i0 h0 → IsAll h0 cs uss → GoesN P w A tg it fpG wr (nv uss) (fun i h₀ v h => ∃ T vals, v = .ref T ∧ h₀.objs.size ≤ T ∧ yv uss i vals ∧ h.IsTuple T vals) (fun i h => tn i h ∧ IsAll h cs uss)) :
    Turn P w K tg (ItN K cs n y) fp it tn where
  mem := mem
  obj := obj
  keep := keep
  item := by
    intro X hP hw' hK hc i pins s σ H E I hf st hg
    subst hP hw' hK
    obtain ⟨xss, q1, hi⟩ := hg
    obtain ⟨uss, r, q2⟩ := invAll I q1
    rw [hn r] at hi
    refine wpAny_mono ((G X.A i s.heap uss (I.ok.hd hc) st q2).goes i s (fun u s2 => ∃ x H', Inv X pins σ H' s2 ∧ RelV x u ∧ (ItN X.K cs n y).yld i H x H' ∧ tn (i + 1) s2.heap ∧ ∀ b ∈ fp, H' b = none) E hi ⟨st, q2⟩ fun v h' tk hY st' hk htk => ?_) (fun r s1 ⟨v, e1, e2⟩ => ⟨v, e1, e2⟩) fun _ _ z => z
    obtain ⟨T, vals, rfl, hT, hv, hTup⟩ := hY
    obtain ⟨items, y1, y2, y3⟩ := hy r hv
    have hTn : H T = none := I.hok.fresh hT
    have new : ObjOk X.prog X.w (upd H T (.tup items)) h' T (.tup items) := ⟨line1000 y3, vals.toList, y2, (show h'.IsTuple T vals.toList.toArray from by simpa using hTup)⟩
    have I1 : Inv X pins σ (upd H T (.tup items)) { s with heap := h', toks := tk } := I.turnedNew (ch := wr) (fun b o hb e => hk b o hb e) (fun b hb => hf b (hw b hb)) hT new
    refine ⟨.ref T, _, I1, rfl, ⟨T, items, rfl, hTn, rfl, fun xss' q => by rw [invAll_inj I q q1]; exact y1⟩, st'.1, fun b hb => ?_⟩
    have hbT : b ≠ T := fun z => by
      subst z
      obtain ⟨o, e, _⟩ := obj i _ st b hb
      exact absurd (Heap.lt_size e) (Nat.not_lt_of_le hT)
    rw [upd_ne hbT]
    exact (hf b hb).1
  done := by
    intro X hP hw' hK hc i pins s σ H E I hf st hg
    subst hP hw' hK
    obtain ⟨xss, q1, hi⟩ := hg
    obtain ⟨uss, r, q2⟩ := invAll I q1
    rw [hn r] at hi
    subst hi
    refine wpAny_mono ((G X.A _ s.heap uss (I.ok.hd hc) st q2).stops s (fun s1 => Inv X pins σ H s1) E ⟨st, q2⟩ fun h' tk hk htk => ?_) (fun r s1 ⟨e1, e2⟩ => ⟨e1, e2⟩) fun _ _ z => z
    exact I.turnedL (t' := tk) (ch := wr) (fun b o hb e => hk b o hb e) fun b hb => hf b (hw b hb)
  self := self
def nzip (xss : List (List V)) : Nat := match xss with
  | [xs, ys] => min xs.length ys.length
  | [xs, ys, zs] => min (min xs.length ys.length) zs.length
  | [xs] => xs.length
  | _ => 0
def nzipv (xss : List (List Value)) : Nat := match xss with
  | [xs, ys] => min xs.toArray.size ys.toArray.size
  | [xs, ys, zs] => min (min xs.toArray.size ys.toArray.size) zs.toArray.size
  | [xs] => xs.toArray.size
  | _ => 0
theorem nzip_eq {xss : List (List V)} {uss : List (List Value)} (r : ValsA xss uss) : nzip xss = nzipv uss := by
  cases r with
  | nil => rfl
  | cons r1 r =>
    cases r with
    | nil => simp [nzip, nzipv, r1.length]
    | cons r2 r =>
      cases r with
      | nil => simp [nzip, nzipv, r1.length, r2.length]
      | cons r3 r =>
        cases r with
        | nil => simp [nzip, nzipv, r1.length, r2.length, r3.length]
        | cons r4 r => rfl
def yzip2 (i : Nat) (xss : List (List V)) (items : List V) : Prop := ∃ xs ys x y, xss = [xs, ys] ∧ xs[i]? = some x ∧ ys[i]? = some y ∧ items = [x, y]
def yzip3 (i : Nat) (xss : List (List V)) (items : List V) : Prop := ∃ xs ys zs x y z, xss = [xs, ys, zs] ∧ xs[i]? = some x ∧ ys[i]? = some y ∧ zs[i]? = some z ∧ items = [x, y, z]
def yenum (i : Nat) (xss : List (List V)) (items : List V) : Prop := ∃ xs x, xss = [xs] ∧ xs[i]? = some x ∧ items = [.int i, x]
def iN (K : Fr) (n : List (List V) → Nat) (y : Nat → List (List V) → List V → Prop) (cnt : Nat) (ta : TA) : TI := fun σ H R => ta σ H fun vs H1 => ∃ (cs : List (Knd × Addr)) (xss : List (List V)), cs.length = cnt ∧ vs = cs.map (fun c => V.ref c.2) ∧ SqAll K H1 cs xss ∧ R (ItN K cs n y) H1
theorem valsR {xs : List V} {us : List Value} {i : Nat} {u : Value} (r : Vals xs us) (e : us[i]? = some u) : ∃ x, xs[i]? = some x ∧ RelV x u := by
  have hi : i < us.length := (List.getElem?_eq_some_iff.mp e).1
  have hi' : i < xs.length := by rw [r.length]; exact hi
  obtain ⟨u', e1, r1⟩ := r.get (i := i) (x := xs[i]) (by simp [hi'])
  rw [e] at e1
  cases e1
  exact ⟨_, by simp [hi'], r1⟩
theorem freshFp {X : Cx} {pins : List (Addr × Obj)} {σ : St} {H : Hp} {s : Shared} (I : Inv X pins σ H s) {l : List Addr} (h : ∀ b ∈ l, s.heap.objs.size ≤ b) : ∀ b ∈ l, FpOk X pins H b := fun b hb => I.fpOk (h b hb) (I.hok.fresh (h b hb))
theorem pi_zip2 {X : Cx} {e e2 : Expr} {ta : TA} {p pos tpos : Pos} {elts : List Expr} {kk : Nat} (hg : Gl X "zip") (hm : X.mg "zip" = none) (ha : PA X [e, e2] ta)
    (hs : starEach [e, e2] X.env = (false, eval e X.env) :: starEach [e2] X.env := by rfl) (hpl : (backTo pos (starEach [e2] X.env)).any (·.1) = false := by rfl) :
    PI X (.Tuple elts kk tpos) (.Call (.Name "zip" p) [e, e2] [] pos) (iN X.K nzip yzip2 2 ta) := by
  refine ⟨fun pins s σ H R I h => ?_⟩
  refine Call_ (ld_blt I hg hm PyProof.Rows.boot_zip (PyProof.Rows.callWith_type1 (thn (ha.run pos pins s σ H _ I h) fun us s1 ⟨vs, H1, I1, r1, q1⟩ => ?_) hs hpl))
  obtain ⟨cs, xss, hl, ex, hq, q⟩ := q1
  match cs, hl with
  | [c1, c2], _ =>
  subst ex
  cases r1 with
  | cons r rr =>
  cases rr with
  | cons r' rr =>
  cases rr
  cases r
  cases r'
  obtain ⟨uss, ra, qa⟩ := invAll I1 hq
  match xss, uss, ra, hq, qa with
  | [xs, ys], [us, ws], ra, ⟨hq1, hq2, _⟩, ⟨qa1, qa2, _⟩ =>
  generalize hN : s1.heap.objs.size = N
  have l1 : c1.2 < N := by rw [← hN]; exact qa1.lt
  have l2 : c2.2 < N := by rw [← hN]; exact qa2.lt
  refine zip_begins2 (beginsK c1.1 c1.2 us.toArray) (beginsK c2.1 c2.2 ws.toArray) qa1 qa2 fun h' hz hTI hTO h1 h2 hsz hk => wpAny_pyIter_zip hz ?_
  rw [hN] at hz hTI hTO h1 h2 ⊢
  have I2 : Inv X pins σ H1 { s1 with heap := h' } := I1.kept (t' := s1.toks) hk
  have S := zip_sep2 (N := N) (fp1 := [c1.2]) (fp2 := [c2.2]) (fun b hb => (List.mem_singleton.mp hb) ▸ l1) (fun b hb => (List.mem_singleton.mp hb) ▸ l2)
  refine ⟨N + 4, [N + 4, N + 2, N + 3, N, N + 1], fun i h => IsZip h (N + 4) (N + 2) (N + 3) .none ∧ IsTupOf2 h (N + 2) (.ref N) (.ref (N + 1)) ∧ (∃ a1 a2, IsTupOf2 h (N + 3) a1 a2) ∧ IsIter c1.1 h N c1.2 i ∧ IsIter c2.1 h (N + 1) c2.2 i, _, H1, rfl, I2, ?_, ⟨hz, hTI, ⟨_, _, hTO⟩, iterK c1.1 h1, iterK c2.1 h2⟩,
    freshFp I1 (fun b hb => ?_), q⟩
  · refine turn_goes (fpG := (N + 4) :: (N + 2) :: (N + 3) :: ([N, c1.2] ++ [N + 1, c2.2])) (wr := [N + 4, N + 3, N, N + 1]) (nv := nzipv) (yv := fun uss i vals => ∃ us ws x y, uss = [us, ws] ∧ us.toArray[i]? = some x ∧ ws.toArray[i]? = some y ∧ vals = #[x, y])
      (by simp) (fun i h st b hb => ?_) (fun i h h'' st k => ?_) (fun A i s Q E st h => wpAny_pyIter_zip st.1 h) (fun b hb => ?_) nzip_eq (fun {xss uss i vals} r hv => ?_) fun A i0 h0 uss hh st0 hI0 => ?_
    · obtain ⟨hz, hTI, ⟨x, y, hTO⟩, h1, h2⟩ := st
      have e' : b = N + 4 ∨ b = N + 2 ∨ b = N + 3 ∨ b = N ∨ b = N + 1 := by simpa using hb
      rcases e' with z | z | z | z | z
      · rw [z]; exact ⟨_, hz, fun v q => nomatch q⟩
      · rw [z]; exact ⟨_, hTI, fun v q => nomatch q⟩
      · rw [z]; exact ⟨_, hTO, fun v q => nomatch q⟩
      · rw [z]; exact h1.obj
      · rw [z]; exact h2.obj
    · obtain ⟨hz, hTI, ⟨x, y, hTO⟩, h1, h2⟩ := st
      exact ⟨k _ (by simp) _ hz, k _ (by simp) _ hTI, ⟨x, y, k _ (by simp) _ hTO⟩, h1.at fun o q => k _ (by simp) o q, h2.at fun o q => k _ (by simp) o q⟩
    · have e' : b = N + 4 ∨ b = N + 3 ∨ b = N ∨ b = N + 1 := by simpa using hb
      rcases e' with z | z | z | z <;> rw [z] <;> simp
    · obtain ⟨us', ws', x, y, eu, e1, e2, ev⟩ := hv
      subst eu ev
      cases r with
      | cons r1 r =>
      cases r with
      | cons r2 r =>
      cases r
      obtain ⟨x', f1, g1⟩ := valsR r1 (by simpa using e1)
      obtain ⟨y', f2, g2⟩ := valsR r2 (by simpa using e2)
      exact ⟨[x', y'], ⟨_, _, x', y', rfl, f1, f2, rfl⟩, .cons g1 (.cons g2 .nil), by simp⟩
    · match uss, hI0 with
      | [us', ws'], ⟨z1, z2, _⟩ =>
      have D1 := drawsK c1.1 (prog := X.prog) (w := X.w) (A := A.in1) hh N c1.2 (Nat.ne_of_lt l1) us'.toArray
      have D2 := drawsK c2.1 (prog := X.prog) (w := X.w) (A := A.in1) hh (N + 1) c2.2 (Nat.ne_of_lt (Nat.lt_succ_of_lt l2)) ws'.toArray
      have G := GoesN.zip2 (elts := elts) (x1 := kk) (pos := tpos) S D1 D2
      have rb : ∀ i h, (IsZip h (N + 4) (N + 2) (N + 3) .none ∧ IsTupOf2 h (N + 2) (.ref N) (.ref (N + 1)) ∧ (∃ a1 a2, IsTupOf2 h (N + 3) a1 a2) ∧ (IsIter c1.1 h N c1.2 i ∧ IsSeq c1.1 h c1.2 us'.toArray) ∧ (IsIter c2.1 h (N + 1) c2.2 i ∧ IsSeq c2.1 h c2.2 ws'.toArray)) ↔
          ((IsZip h (N + 4) (N + 2) (N + 3) .none ∧ IsTupOf2 h (N + 2) (.ref N) (.ref (N + 1)) ∧ (∃ a1 a2, IsTupOf2 h (N + 3) a1 a2) ∧ IsIter c1.1 h N c1.2 i ∧ IsIter c2.1 h (N + 1) c2.2 i) ∧ IsAll h [c1, c2] [us', ws']) := fun i h =>
        ⟨fun ⟨a, b, c, ⟨d, e⟩, ⟨f, g⟩⟩ => ⟨⟨a, b, c, d, f⟩, e, g, trivial⟩, fun ⟨⟨a, b, c, d, f⟩, e, g, _⟩ => ⟨a, b, c, ⟨d, e⟩, ⟨f, g⟩⟩⟩
      have G2 := G.mono (Y' := fun i h₀ v h => ∃ T vals, v = .ref T ∧ h₀.objs.size ≤ T ∧ (∃ us ws x y, [us', ws'] = [us, ws] ∧ us.toArray[i]? = some x ∧ ws.toArray[i]? = some y ∧ vals = #[x, y]) ∧ h.IsTuple T vals) fun i h₀ v h _ ⟨T, x, y, ev, hn, hx, hy, hT⟩ => ⟨T, _, ev, hn, ⟨us', ws', x, y, rfl, hx, hy, rfl⟩, hT⟩
      have e := funext fun i => funext fun h => propext (rb i h)
      rw [e] at G2
      exact G2
  · have e' : b = N + 4 ∨ b = N + 2 ∨ b = N + 3 ∨ b = N ∨ b = N + 1 := by simpa using hb
    rw [hN]
    rcases e' with z | z | z | z | z <;> rw [z] <;> first | exact Nat.le_add_right _ _ | exact Nat.le_refl _
theorem pi_zip3 {X : Cx} {e e2 e3 : Expr} {ta : TA} {p pos tpos : Pos} {elts : List Expr} {kk : Nat} (hg : Gl X "zip") (hm : X.mg "zip" = none) (ha : PA X [e, e2, e3] ta)
    (hs : starEach [e, e2, e3] X.env = (false, eval e X.env) :: starEach [e2, e3] X.env := by rfl) (hpl : (backTo pos (starEach [e2, e3] X.env)).any (·.1) = false := by rfl) :
    PI X (.Tuple elts kk tpos) (.Call (.Name "zip" p) [e, e2, e3] [] pos) (iN X.K nzip yzip3 3 ta) := by
  refine ⟨fun pins s σ H R I h => ?_⟩
  refine Call_ (ld_blt I hg hm PyProof.Rows.boot_zip (PyProof.Rows.callWith_type1 (thn (ha.run pos pins s σ H _ I h) fun us s1 ⟨vs, H1, I1, r1, q1⟩ => ?_) hs hpl))
  obtain ⟨cs, xss, hl, ex, hq, q⟩ := q1
  match cs, hl with
  | [c1, c2, c3], _ =>
  subst ex
  cases r1 with
  | cons r rr =>
  cases rr with
  | cons r' rr =>
  cases rr with
  | cons r'' rr =>
  cases rr
  cases r
  cases r'
  cases r''
  obtain ⟨uss, ra, qa⟩ := invAll I1 hq
  match xss, uss, ra, hq, qa with
  | [xs, ys, zs], [us, ws, ts], ra, ⟨hq1, hq2, hq3, _⟩, ⟨qa1, qa2, qa3, _⟩ =>
  generalize hN : s1.heap.objs.size = N
  have l1 : c1.2 < N := by rw [← hN]; exact qa1.lt
  have l2 : c2.2 < N := by rw [← hN]; exact qa2.lt
  have l3 : c3.2 < N := by rw [← hN]; exact qa3.lt
  refine zip_begins3 (beginsK c1.1 c1.2 us.toArray) (beginsK c2.1 c2.2 ws.toArray) (beginsK c3.1 c3.2 ts.toArray) qa1 qa2 qa3 fun h' hz hTI hTO h1 h2 h3 hsz hk => wpAny_pyIter_zip hz ?_
  rw [hN] at hz hTI hTO h1 h2 h3 ⊢
  have I2 : Inv X pins σ H1 { s1 with heap := h' } := I1.kept (t' := s1.toks) hk
  have S := zip_sep3 (N := N) (fp1 := [c1.2]) (fp2 := [c2.2]) (fp3 := [c3.2]) (fun b hb => (List.mem_singleton.mp hb) ▸ l1) (fun b hb => (List.mem_singleton.mp hb) ▸ l2) (fun b hb => (List.mem_singleton.mp hb) ▸ l3)
  refine ⟨N + 5, [N + 5, N + 3, N + 4, N, N + 1, N + 2], fun i h => IsZip h (N + 5) (N + 3) (N + 4) .none ∧ IsTupOf3 h (N + 3) (.ref N) (.ref (N + 1)) (.ref (N + 2)) ∧ (∃ a1 a2 a3, IsTupOf3 h (N + 4) a1 a2 a3) ∧ IsIter c1.1 h N c1.2 i ∧ IsIter c2.1 h (N + 1) c2.2 i ∧ IsIter c3.1 h (N + 2) c3.2 i, _, H1, rfl, I2, ?_, ⟨hz, hTI, ⟨_, _, _, hTO⟩, iterK c1.1 h1, iterK c2.1 h2, iterK c3.1 h3⟩,
    freshFp I1 (fun b hb => ?_), q⟩
  · refine turn_goes (fpG := (N + 5) :: (N + 3) :: (N + 4) :: ([N, c1.2] ++ [N + 1, c2.2] ++ [N + 2, c3.2])) (wr := [N + 5, N + 4, N, N + 1, N + 2]) (nv := nzipv) (yv := fun uss i vals => ∃ us ws ts x y z, uss = [us, ws, ts] ∧ us.toArray[i]? = some x ∧ ws.toArray[i]? = some y ∧ ts.toArray[i]? = some z ∧ vals = #[x, y, z])
      (by simp) (fun i h st b hb => ?_) (fun i h h'' st k => ?_) (fun A i s Q E st h => wpAny_pyIter_zip st.1 h) (fun b hb => ?_) nzip_eq (fun {xss uss i vals} r hv => ?_) fun A i0 h0 uss hh st0 hI0 => ?_
    · obtain ⟨hz, hTI, ⟨x, y, y', hTO⟩, h1, h2, h3⟩ := st
      have e' : b = N + 5 ∨ b = N + 3 ∨ b = N + 4 ∨ b = N ∨ b = N + 1 ∨ b = N + 2 := by simpa using hb
      rcases e' with z | z | z | z | z | z
      · rw [z]; exact ⟨_, hz, fun v q => nomatch q⟩
      · rw [z]; exact ⟨_, hTI, fun v q => nomatch q⟩
      · rw [z]; exact ⟨_, hTO, fun v q => nomatch q⟩
      · rw [z]; exact h1.obj
      · rw [z]; exact h2.obj
      · rw [z]; exact h3.obj
    · obtain ⟨hz, hTI, ⟨x, y, y', hTO⟩, h1, h2, h3⟩ := st
      exact ⟨k _ (by simp) _ hz, k _ (by simp) _ hTI, ⟨x, y, y', k _ (by simp) _ hTO⟩, h1.at fun o q => k _ (by simp) o q, h2.at fun o q => k _ (by simp) o q, h3.at fun o q => k _ (by simp) o q⟩
    · have e' : b = N + 5 ∨ b = N + 4 ∨ b = N ∨ b = N + 1 ∨ b = N + 2 := by simpa using hb
      rcases e' with z | z | z | z | z <;> rw [z] <;> simp
    · obtain ⟨us', ws', ts', x, y, z, eu, e1, e2, e3, ev⟩ := hv
      subst eu ev
      cases r with
      | cons r1 r =>
      cases r with
      | cons r2 r =>
      cases r with
      | cons r3 r =>
      cases r
      obtain ⟨x', f1, g1⟩ := valsR r1 (by simpa using e1)
      obtain ⟨y', f2, g2⟩ := valsR r2 (by simpa using e2)
      obtain ⟨z', f3, g3⟩ := valsR r3 (by simpa using e3)
      exact ⟨[x', y', z'], ⟨_, _, _, x', y', z', rfl, f1, f2, f3, rfl⟩, .cons g1 (.cons g2 (.cons g3 .nil)), by simp⟩
    · match uss, hI0 with
      | [us', ws', ts'], ⟨z1, z2, z3, _⟩ =>
      have D1 := drawsK c1.1 (prog := X.prog) (w := X.w) (A := A.in1) hh N c1.2 (Nat.ne_of_lt l1) us'.toArray
      have D2 := drawsK c2.1 (prog := X.prog) (w := X.w) (A := A.in1) hh (N + 1) c2.2 (Nat.ne_of_lt (Nat.lt_succ_of_lt l2)) ws'.toArray
      have D3 := drawsK c3.1 (prog := X.prog) (w := X.w) (A := A.in1) hh (N + 2) c3.2 (Nat.ne_of_lt (Nat.lt_succ_of_lt (Nat.lt_succ_of_lt l3))) ts'.toArray
      have G := GoesN.zip3 (elts := elts) (x1 := kk) (pos := tpos) S D1 D2 D3
      have rb : ∀ i h, (IsZip h (N + 5) (N + 3) (N + 4) .none ∧ IsTupOf3 h (N + 3) (.ref N) (.ref (N + 1)) (.ref (N + 2)) ∧ (∃ a1 a2 a3, IsTupOf3 h (N + 4) a1 a2 a3) ∧ (IsIter c1.1 h N c1.2 i ∧ IsSeq c1.1 h c1.2 us'.toArray) ∧ (IsIter c2.1 h (N + 1) c2.2 i ∧ IsSeq c2.1 h c2.2 ws'.toArray) ∧ (IsIter c3.1 h (N + 2) c3.2 i ∧ IsSeq c3.1 h c3.2 ts'.toArray)) ↔
          ((IsZip h (N + 5) (N + 3) (N + 4) .none ∧ IsTupOf3 h (N + 3) (.ref N) (.ref (N + 1)) (.ref (N + 2)) ∧ (∃ a1 a2 a3, IsTupOf3 h (N + 4) a1 a2 a3) ∧ IsIter c1.1 h N c1.2 i ∧ IsIter c2.1 h (N + 1) c2.2 i ∧ IsIter c3.1 h (N + 2) c3.2 i) ∧ IsAll h [c1, c2, c3] [us', ws', ts']) := fun i h =>
        ⟨fun ⟨a, b, c, ⟨d, e⟩, ⟨f, g⟩, ⟨j, k⟩⟩ => ⟨⟨a, b, c, d, f, j⟩, e, g, k, trivial⟩, fun ⟨⟨a, b, c, d, f, j⟩, e, g, k, _⟩ => ⟨a, b, c, ⟨d, e⟩, ⟨f, g⟩, ⟨j, k⟩⟩⟩
      have G2 := G.mono (Y' := fun i h₀ v h => ∃ T vals, v = .ref T ∧ h₀.objs.size ≤ T ∧ (∃ us ws ts x y z, [us', ws', ts'] = [us, ws, ts] ∧ us.toArray[i]? = some x ∧ ws.toArray[i]? = some y ∧ ts.toArray[i]? = some z ∧ vals = #[x, y, z]) ∧ h.IsTuple T vals) fun i h₀ v h _ ⟨T, x, y, z, ev, hn, hx, hy, hz, hT⟩ => ⟨T, _, ev, hn, ⟨us', ws', ts', x, y, z, rfl, hx, hy, hz, rfl⟩, hT⟩
      have e := funext fun i => funext fun h => propext (rb i h)
      rw [e] at G2
      exact G2
  · have e' : b = N + 5 ∨ b = N + 3 ∨ b = N + 4 ∨ b = N ∨ b = N + 1 ∨ b = N + 2 := by simpa using hb
    rw [hN]
    rcases e' with z | z | z | z | z | z <;> rw [z] <;> first | exact Nat.le_add_right _ _ | exact Nat.le_refl _

end VL

set_option Elab.async false
set_option linter.all false
set_option maxRecDepth 100000
set_option maxHeartbeats 4000000
namespace VL
open PySem PySem.Spec PyProof.Rows L2

section
open PySem.Sem (wp)
open PySem.AutoSeq1 (wpAny_loadPart')
set_option maxHeartbeats 4000000 in
theorem meets_enum1 {v : Value} {o : Obj} {H : Heap → Prop} (B : Begins v o H) :
    Meets (Builtin.«enumerate.__new__» ⟨[.type "enumerate", v], []⟩) (fun _ R s => H s.heap ∧
      R (.ok (.ret (.ref (s.heap.push o).objs.size))) { s with heap := (s.heap.push o).push { cls := .type "enumerate", data := .fields #[.none, .bool false, .ref s.heap.objs.size, rawInt 0, .none, .none] } }) :=
  .of_wp fun prog w A R s h => by
    obtain ⟨hp, g, d, tk, os⟩ := s; obtain ⟨h1, h⟩ := h
    have hsub := sub_enumerate
    have q1 : ∀ {A' : Around} {E : Value → Shared → Prop} {Q : Value → Shared → Prop}, Q (.ref hp.objs.size) ⟨hp.push o, g, d, tk, os⟩ → wpAny (model prog w) A' (pyIter v) Q E ⟨hp, g, d, tk, os⟩ :=
      fun q => B.iter prog w _ _ ⟨hp, g, d, tk, os⟩ _ h1 q
    wp_walk using q1
    refine wpAny_stack_any fun st => wpAny_pure ?_
    split
    · rename_i c _ _ _ _ _
      cases (c == Value.type "enumerate")
      · wp_walk using q1
        exact ⟨_, rfl, h⟩
      · wp_walk using q1
        exact ⟨_, rfl, h⟩
    · wp_walk using q1
      exact ⟨_, rfl, h⟩
theorem enum_begins1 {prog : Program} {w : World} {A : Around} {E : Value → Shared → Prop} {s : Shared} {v : Value} {o : Obj} {H : Heap → Prop} {Q : Value → Shared → Prop} (B : Begins v o H) (h1 : H s.heap)
    (h : ∀ h', IsEnum h' (s.heap.objs.size + 1) s.heap.objs.size 0 .none → h'.get? s.heap.objs.size = some o → h'.objs.size = s.heap.objs.size + 2 →
      (∀ b o, s.heap.get? b = some o → h'.get? b = some o) → Q (.ref (s.heap.objs.size + 1)) { s with heap := h' }) :
    wpAny (model prog w) A (call (.type "enumerate") [v]) Q E s := by
  refine callType_new F.called_enumerate (by decide) (F.typeCall_enumerate_1 _) (F.newCall_enumerate_1 _) (fun obj => F.args_object_init_2 obj _) F.entry_enumerate_new
    (meets_enum1 B) ⟨h1, ?_⟩
  have hz : (s.heap.push o).objs.size = s.heap.objs.size + 1 := Heap.size_push ..
  show _ ∧ _
  rw [hz]
  have he : IsEnum ((s.heap.push o).push { cls := .type "enumerate", data := .fields #[.none, .bool false, .ref s.heap.objs.size, rawInt 0, .none, .none] }) (s.heap.objs.size + 1) s.heap.objs.size 0 .none := by
    have := Heap.get?_push_size (s.heap.push o) (o := { cls := .type "enumerate", data := .fields #[.none, .bool false, .ref s.heap.objs.size, rawInt 0, .none, .none] }) rfl
    rw [hz] at this; exact this
  refine ⟨⟨_, he, rfl⟩, h _ he (Heap.get?_push_of_some _ (Heap.get?_push_size _ B.free)) (by rw [Heap.size_push, hz]) fun b o x => Heap.get?_push_of_some _ (Heap.get?_push_of_some _ x)⟩
end
theorem pi_enum1 {X : Cx} {e : Expr} {ta : TA} {p pos tpos : Pos} {elts : List Expr} {kk : Nat} (hg : Gl X "enumerate") (hm : X.mg "enumerate" = none) (ha : PA X [e] ta) (hs : starEach [e] X.env = [(false, eval e X.env)] := by rfl) :
    PI X (.Tuple elts kk tpos) (.Call (.Name "enumerate" p) [e] [] pos) (iN X.K nzip yenum 1 ta) := by
  refine ⟨fun pins s σ H R I h => ?_⟩
  refine Call_ (ld_blt I hg hm boot_enumerate (PyProof.Rows.callWith_type1 (thn (ha.run pos pins s σ H _ I h) fun us s1 ⟨vs, H1, I1, r1, q1⟩ => ?_) hs rfl))
  obtain ⟨cs, xss, hl, ex, hq, q⟩ := q1
  match cs, hl with
  | [c1], _ =>
  subst ex
  cases r1 with
  | cons r rr =>
  cases rr
  cases r
  obtain ⟨uss, ra, qa⟩ := invAll I1 hq
  match xss, uss, ra, hq, qa with
  | [xs], [us], ra, ⟨hq1, _⟩, ⟨qa1, _⟩ =>
  generalize hN : s1.heap.objs.size = N
  have l1 : c1.2 < N := by rw [← hN]; exact qa1.lt
  have fin : ∀ h', IsEnum h' (N + 1) N 0 .none → h'.get? N = some (iterO c1.1 c1.2) → (∀ b o, s1.heap.get? b = some o → h'.get? b = some o) → PIE X pins σ (.Tuple elts kk tpos) R (.ref (N + 1)) { s1 with heap := h' } := fun h' he hit hk => by
    have I2 : Inv X pins σ H1 { s1 with heap := h' } := I1.kept (t' := s1.toks) hk
    refine ⟨N + 1, [N + 1, N], fun i h => (∃ old, IsEnum h (N + 1) N (0 + ((i : Nat) : Int)) old) ∧ IsIter c1.1 h N c1.2 i, _, H1, rfl, I2, ?_, ⟨⟨.none, by simpa using he⟩, iterK c1.1 hit⟩, freshFp I1 (fun b hb => ?_), q⟩
    · refine turn_goes (fpG := (N + 1) :: [N, c1.2]) (wr := [N + 1, N]) (nv := nzipv) (yv := fun uss i vals => ∃ us t x, uss = [us] ∧ us.toArray[i]? = some x ∧ vals = #[.int (0 + (i : Int)) t, x])
        (by simp) (fun i h st b hb => ?_) (fun i h h'' st k => ?_) (fun A i s Q E st h => by obtain ⟨⟨old, he⟩, _⟩ := st; exact wpAny_pyIter_enum he h) (fun b hb => hb) nzip_eq (fun {xss uss i vals} r hv => ?_) fun A i0 h0 uss hh st0 hI0 => ?_
      · obtain ⟨⟨old, he⟩, h1⟩ := st
        have e' : b = N + 1 ∨ b = N := by simpa using hb
        rcases e' with z | z
        · rw [z]; exact ⟨_, he, fun v q => nomatch q⟩
        · rw [z]; exact h1.obj
      · obtain ⟨⟨old, he⟩, h1⟩ := st
        exact ⟨⟨old, k _ (by simp) _ he⟩, h1.at fun o q => k _ (by simp) o q⟩
      · obtain ⟨us', t, x, eu, e1, ev⟩ := hv
        subst eu ev
        cases r with
        | cons r1 r =>
        cases r
        obtain ⟨x', f1, g1⟩ := valsR r1 (by simpa using e1)
        refine ⟨[.int (i : Int), x'], ⟨_, x', rfl, f1, rfl⟩, .cons ⟨t, ?_⟩ (.cons g1 .nil), by simp⟩
        rw [Int.zero_add]
      · match uss, hI0 with
        | [us'], ⟨z1, _⟩ =>
        have D1 := drawsK c1.1 (prog := X.prog) (w := X.w) (A := A.in1) hh N c1.2 (Nat.ne_of_lt l1) us'.toArray
        have G := GoesN.enumFrom (elts := elts) (x1 := kk) (pos := tpos) 0 D1 (N + 1) (Nat.succ_ne_self N) (by
          intro z
          have e' : N + 1 = N ∨ N + 1 = c1.2 := by simpa using z
          rcases e' with y | y
          · exact Nat.succ_ne_self N y
          · rw [← y] at l1; exact absurd l1 (Nat.not_lt_of_le (Nat.le_succ N))) (by simp)
        have rb : ∀ i h, ((∃ old, IsEnum h (N + 1) N (0 + ((i : Nat) : Int)) old) ∧ (IsIter c1.1 h N c1.2 i ∧ IsSeq c1.1 h c1.2 us'.toArray)) ↔ (((∃ old, IsEnum h (N + 1) N (0 + ((i : Nat) : Int)) old) ∧ IsIter c1.1 h N c1.2 i) ∧ IsAll h [c1] [us']) := fun i h =>
          ⟨fun ⟨a, d, e⟩ => ⟨⟨a, d⟩, e, trivial⟩, fun ⟨⟨a, d⟩, e, _⟩ => ⟨a, d, e⟩⟩
        have G2 := G.mono (Y' := fun i h₀ v h => ∃ T vals, v = .ref T ∧ h₀.objs.size ≤ T ∧ (∃ us t x, [us'] = [us] ∧ us.toArray[i]? = some x ∧ vals = #[.int (0 + (i : Int)) t, x]) ∧ h.IsTuple T vals) fun i h₀ v h _ ⟨T, t, x, ev, hn, hx, hT⟩ => ⟨T, _, ev, hn, ⟨us', t, x, rfl, hx, rfl⟩, hT⟩
        have e := funext fun i => funext fun h => propext (rb i h)
        rw [e] at G2
        exact G2
    · have e' : b = N + 1 ∨ b = N := by simpa using hb
      rw [hN]
      rcases e' with z | z <;> rw [z] <;> first | exact Nat.le_add_right _ _ | exact Nat.le_refl _
  refine enum_begins1 (beginsK c1.1 c1.2 us.toArray) qa1 fun h' he hit hsz hk => ?_
  rw [hN] at he hit ⊢
  exact wpAny_pyIter_enum he (fin h' he hit hk)
end VL

set_option Elab.async false
set_option linter.all false
set_option maxRecDepth 100000
set_option maxHeartbeats 4000000
namespace VL
open PySem PySem.Spec PyProof.Rows L2

/-! ### what is walked, as data -/
/-- J walks the items ds, whatever happens to what may change -/
structure WalkD (J : It) (K : Fr) (H0 : Hp) (ds : List D) : Prop where
  go : ∀ i H, PK H0 H → i < ds.length → J.go i H
  stop : ∀ H, PK H0 H → J.stop ds.length H
  yld : ∀ i H x H', PK H0 H → i < ds.length → J.yld i H x H' → ∃ d, ds[i]? = some d ∧ Fz K H' x d ∧ ∀ b o, H b = some o → H' b = some o
  line : ds.length ≤ sizeLine
abbrev MI := Env → Option (List D × Env)
def tI (K : Fr) (m : MI) : TI := fun σ H R => ∃ B ρ own ds ρ', σ.length ≤ B ∧ ES K H σ ρ own ∧ m ρ = some (ds, ρ') ∧
  ∀ J H1 own1, Step σ.length B own H own1 H1 → ES K H1 σ ρ' own1 → WalkD J K H1 ds → R J H1
structure PIt (X : Cx) (tg e : Expr) (m : MI) : Prop where
  pi : PI X tg e (tI X.K m)
theorem PI.of' {X : Cx} {tg e : Expr} {t t' : TI} (h : PI X tg e t') (i : ∀ σ H R, t σ H R → t' σ H fun J H1 => ∀ pins s, Inv X pins σ H1 s → R J H1) : PI X tg e t := ⟨fun pins s σ H R I q => by
  refine thn (h.run pins s σ H _ I (i σ H R q)) fun v s1 h1 => thn h1 fun v2 s2 ⟨it, fp, tn, J, H', e, I', T, st, f, r⟩ => ?_
  exact ⟨it, fp, tn, J, H', e, I', T, st, f, r pins s2 I'⟩⟩
def FzK (K : Fr) (H : Hp) (k : Knd) (a : Addr) (xs : List V) : Prop := match k with
  | .l => FzL K H a xs
  | .t => SqT K H a xs
theorem FzK.sq {K : Fr} {H : Hp} {k : Knd} {a : Addr} {xs : List V} (h : FzK K H k a xs) : SqK K H k a xs := match k, h with
  | .l, h => FzL.sq h
  | .t, h => h
theorem FzK.mono {K : Fr} {H H' : Hp} {k : Knd} {a : Addr} {xs : List V} (p : PK H H') (h : FzK K H k a xs) : FzK K H' k a xs := match k, h with
  | .l, h => FzL.mono p h
  | .t, h => sqT_mono p h
def seqOf : D → Option (List D)
  | .list ds => some ds
  | .tuple ds => some ds
  | _ => none
theorem fzSeq {K : Fr} {H : Hp} {v : V} {d : D} {ds : List D} (f : Fz K H v d) (e : seqOf d = some ds) : ∃ k a xs, v = .ref a ∧ FzK K H k a xs ∧ FzA K H xs ds := by
  cases d with
  | list es => cases e; cases f with | lst p q => exact ⟨.l, _, _, rfl, p, q⟩
  | tuple es => cases e; cases f with | tup p q => exact ⟨.t, _, _, rfl, p, q⟩
  | _ => cases e
/-! ### a list, a tuple -/
def ItK (K : Fr) (k : Knd) (a : Addr) : It := match k with
  | .l => Itl K a
  | .t => Itt K a
def iSeq (K : Fr) (tl : TE) : TI := fun σ H R => tl σ H fun x H1 => ∃ k a xs, x = .ref a ∧ SqK K H1 k a xs ∧ R (ItK K k a) H1
theorem pi_seq {X : Cx} {tg l : Expr} {tl : TE} (hl : PE X l tl) : PI X tg l (iSeq X.K tl) := by
  refine ⟨fun pins s σ H R I h => ?_⟩
  refine thn (hl.run pins s σ H _ I h) fun v s1 ⟨x, H1, I1, r1, q1⟩ => ?_
  obtain ⟨k, a, xs, e, hq, q⟩ := q1
  subst e
  cases r1
  cases k with
  | l =>
    obtain ⟨its, rv, p, hz⟩ := I1.list hq
    refine wpAny_pyIter_list p.isList ?_
    refine ⟨s1.heap.objs.size, [s1.heap.objs.size], _, _, H1, rfl, I1.kept (t' := s1.toks) fun b o e => Heap.get?_push_of_some _ e, turn_list a _, ⟨_, Heap.get?_push_size _ rfl, rfl, rfl⟩, fun b hb => ?_, q⟩
    have e : b = s1.heap.objs.size := by simpa using hb
    subst e
    exact I1.fpOk (Nat.le_refl _) (I1.hok.fresh (Nat.le_refl _))
  | t =>
    obtain ⟨its, rv, p, hz⟩ := I1.tuple hq
    refine wpAny_pyIter_tuple (show s1.heap.IsTuple a its.toArray from p) ?_
    refine ⟨s1.heap.objs.size, [s1.heap.objs.size], _, _, H1, rfl, I1.kept (t' := s1.toks) fun b o e => Heap.get?_push_of_some _ e, turn_tuple a _, ⟨_, Heap.get?_push_size _ rfl, rfl, rfl⟩, fun b hb => ?_, q⟩
    have e : b = s1.heap.objs.size := by simpa using hb
    subst e
    exact I1.fpOk (Nat.le_refl _) (I1.hok.fresh (Nat.le_refl _))
theorem walk_seq {X : Cx} {pins : List (Addr × Obj)} {σ : St} {s : Shared} {H : Hp} {k : Knd} {a : Addr} {xs : List V} {ds : List D} (I : Inv X pins σ H s) (h : FzK X.K H k a xs) (f : FzA X.K H xs ds) : WalkD (ItK X.K k a) X.K H ds := by
  cases k with
  | l =>
    have uniq : ∀ H', PK H H' → SqL X.K H' a xs := fun H' p => (FzL.mono p h).sq
    refine ⟨fun i H' p hi => ?_, fun H' p => ⟨xs, uniq H' p, Nat.le_of_eq f.length⟩, fun i H' x H'' p hi y => ?_, ?_⟩
    · obtain ⟨v, e, _⟩ := f.get i (show ds[i]? = some ds[i] by simp [hi])
      exact ⟨xs, v, uniq H' p, e⟩
    · obtain ⟨e, y⟩ := y
      subst e
      obtain ⟨d, e1, e2⟩ := f.getV i (y xs (uniq _ p))
      exact ⟨d, e1, Fz.mono p _ _ e2, fun _ _ z => z⟩
    · obtain ⟨its, r, _, z⟩ := I.list h.sq
      rw [← f.length]; exact z
  | t =>
    have uniq : ∀ H', PK H H' → SqT X.K H' a xs := fun H' p => sqT_mono p h
    refine ⟨fun i H' p hi => ?_, fun H' p => ⟨xs, uniq H' p, Nat.le_of_eq f.length⟩, fun i H' x H'' p hi y => ?_, ?_⟩
    · obtain ⟨v, e, _⟩ := f.get i (show ds[i]? = some ds[i] by simp [hi])
      exact ⟨xs, v, uniq H' p, e⟩
    · obtain ⟨e, y⟩ := y
      subst e
      obtain ⟨d, e1, e2⟩ := f.getV i (y xs (uniq _ p))
      exact ⟨d, e1, Fz.mono p _ _ e2, fun _ _ z => z⟩
    · obtain ⟨its, r, _, z⟩ := I.tuple h
      rw [← f.length]; exact z
def iV (m : ME) : MI := fun ρ => (m ρ).bind fun p => match p.1 with
  | .z d => (seqOf d).map fun ds => (ds, p.2)
  | _ => none
theorem pit_v {X : Cx} {tg e : Expr} {m : ME} (h : PX X e m) : PIt X tg e (iV m) := ⟨PI.of' (pi_seq h.pe) fun σ H R q => by
  obtain ⟨B, ρ, own, ds, ρ', hB, es, e, k⟩ := q
  obtain ⟨⟨t, ρ1⟩, e1, e2⟩ := Option.bind_eq_some_iff.mp (show (m ρ).bind _ = some (ds, ρ') from e)
  cases t with
  | l es => cases e2
  | dc es => cases e2
  | fd es => cases e2
  | z d =>
    obtain ⟨ds', e3, e4⟩ := Option.map_eq_some_iff.mp (show (seqOf d).map _ = some (ds, ρ') from e2)
    cases e4
    refine ⟨B, ρ, own, _, _, hB, es, e1, fun v H1 own1 st1 es1 r1 => ?_⟩
    obtain ⟨kk, a, xs, ev, fk, fa⟩ := fzSeq r1 e3
    exact ⟨kk, a, xs, ev, fk.sq, fun pins s I => k _ H1 own1 st1 es1 (walk_seq I fk fa)⟩⟩
/-! ### range -/
def rangeL (lo : Int) (n : Nat) : List D := (List.range n).map fun i => .int (lo + (i : Nat))
def big : Int := 4611686018427387904
def rangeD1 : List D → Option (List D)
  | [.int j] => if -big ≤ j ∧ j ≤ 1000000 then some (rangeL 0 j.toNat) else none
  | _ => none
def rangeD2 : List D → Option (List D)
  | [.int i, .int j] => if (-big ≤ i ∧ i < big) ∧ (-big ≤ j ∧ j < big) ∧ j - i ≤ 1000000 then some (rangeL i (j - i).toNat) else none
  | _ => none
/-- range(i, j, -1) -/
def rangeD3 : List D → Option (List D)
  | [.int i, .int j, .int k] => if k = -1 ∧ (-1000000 ≤ i ∧ i ≤ 1000000) ∧ (-1000000 ≤ j ∧ j ≤ 1000000) ∧ i - j ≤ 1000000 then some ((List.range (i - j).toNat).map fun m => .int (i - (m : Nat))) else none
  | _ => none
theorem rangeD1_some {ds xs : List D} (h : rangeD1 ds = some xs) : ∃ j : Int, ds = [.int j] ∧ (-big ≤ j ∧ j ≤ 1000000) ∧ xs = rangeL 0 j.toNat := by
  unfold rangeD1 at h
  split at h
  · split at h
    · rename_i hj
      cases h
      exact ⟨_, rfl, hj, rfl⟩
    · cases h
  · cases h
theorem rangeD2_some {ds xs : List D} (h : rangeD2 ds = some xs) : ∃ i j : Int, ds = [.int i, .int j] ∧ ((-big ≤ i ∧ i < big) ∧ (-big ≤ j ∧ j < big) ∧ j - i ≤ 1000000) ∧ xs = rangeL i (j - i).toNat := by
  unfold rangeD2 at h
  split at h
  · split at h
    · rename_i hj
      cases h
      exact ⟨_, _, rfl, hj, rfl⟩
    · cases h
  · cases h
theorem rangeD3_some {ds xs : List D} (h : rangeD3 ds = some xs) : ∃ i j : Int, ds = [.int i, .int j, .int (-1)] ∧ ((-1000000 ≤ i ∧ i ≤ 1000000) ∧ (-1000000 ≤ j ∧ j ≤ 1000000) ∧ i - j ≤ 1000000) ∧ xs = (List.range (i - j).toNat).map fun m => .int (i - (m : Nat)) := by
  unfold rangeD3 at h
  split at h
  · split at h
    · rename_i hj
      cases h
      obtain ⟨rfl, hj⟩ := hj
      exact ⟨_, _, rfl, hj, rfl⟩
    · cases h
  · cases h
def iR (r : List D → Option (List D)) (m : MA) : MI := fun ρ => (m ρ).bind fun p => (gets p.2 p.1).bind fun ds => (r ds).map fun xs => (xs, p.2)
theorem line6 : (1000000 : Nat) ≤ sizeLine := by decide
theorem walk_range {K : Fr} {H : Hp} {lo : Int} {n : Nat} (h : n ≤ 1000000) : WalkD (Itr lo n) K H (rangeL lo n) := by
  have hl : (rangeL lo n).length = n := by simp [rangeL]
  refine ⟨fun i H' p hi => by rw [hl] at hi; exact hi, fun H' p => by rw [hl]; exact Nat.le_refl n, fun i H' x H'' p hi y => ?_, by rw [hl]; exact Nat.le_trans h line6⟩
  obtain ⟨e, ex⟩ := y
  subst e ex
  rw [hl] at hi
  exact ⟨.int (lo + (i : Nat)), by simp [rangeL, hi], .int _, fun _ _ z => z⟩

theorem rpa1 {K : Fr} {H : Hp} {vs : List V} {d : D} (r : RpA K H vs [d]) : ∃ v, vs = [v] ∧ Rp K H v d := by
  cases r with | cons a b => cases b; exact ⟨_, rfl, a⟩
theorem rpa2 {K : Fr} {H : Hp} {vs : List V} {d e : D} (r : RpA K H vs [d, e]) : ∃ v u, vs = [v, u] ∧ Rp K H v d ∧ Rp K H u e := by
  cases r with
  | cons a b =>
    obtain ⟨u, e, q⟩ := rpa1 b
    exact ⟨_, u, by rw [e], a, q⟩
theorem rpa3 {K : Fr} {H : Hp} {vs : List V} {d e f : D} (r : RpA K H vs [d, e, f]) : ∃ v u w, vs = [v, u, w] ∧ Rp K H v d ∧ Rp K H u e ∧ Rp K H w f := by
  cases r with
  | cons a b =>
    obtain ⟨u, w, e, q⟩ := rpa2 b
    exact ⟨_, u, w, by rw [e], a, q⟩
theorem pit_r1 {X : Cx} {tg a : Expr} {m : MA} {p pos : Pos} (hg : Gl X "range") (hm : X.mg "range" = none) (h : PAr X [a] m) (hs : starEach [a] X.env = [(false, eval a X.env)] := by rfl) : PIt X tg (.Call (.Name "range" p) [a] [] pos) (iR rangeD1 m) := ⟨PI.of' (pi_range1 hg hm h.pa hs) fun σ H R q => by
  obtain ⟨B, ρ, own, xs, ρ', hB, es, e, k⟩ := q
  obtain ⟨⟨as, ρ1⟩, e1, e2⟩ := Option.bind_eq_some_iff.mp (show (m ρ).bind _ = some (xs, ρ') from e)
  obtain ⟨ds, e3, e4⟩ := Option.bind_eq_some_iff.mp e2
  obtain ⟨ys, e5, e6⟩ := Option.map_eq_some_iff.mp e4
  cases e6
  refine ⟨B, ρ, own, as, _, hB, es, e1, fun vs H1 own1 st1 es1 r1 => ?_⟩
  have r2 := argsRp es1 r1 e3
  obtain ⟨j, rfl, hj, rfl⟩ := rangeD1_some e5
  obtain ⟨v, rfl, r3⟩ := rpa1 r2
  have r4 := r3.int
  subst r4
  unfold big at hj
  exact ⟨j, rfl, by omega, by omega, fun pins s I => k _ H1 own1 st1 es1 (walk_range (by omega))⟩⟩
theorem pit_r2 {X : Cx} {tg a b : Expr} {m : MA} {p pos : Pos} (hg : Gl X "range") (hm : X.mg "range" = none) (h : PAr X [a, b] m) (hs : starEach [a, b] X.env = [(false, eval a X.env), (false, eval b X.env)] := by rfl) (hs2 : starEach [b] X.env = [(false, eval b X.env)] := by rfl) :
    PIt X tg (.Call (.Name "range" p) [a, b] [] pos) (iR rangeD2 m) := ⟨PI.of' (pi_range2 hg hm h.pa hs hs2) fun σ H R q => by
  obtain ⟨B, ρ, own, xs, ρ', hB, es, e, k⟩ := q
  obtain ⟨⟨as, ρ1⟩, e1, e2⟩ := Option.bind_eq_some_iff.mp (show (m ρ).bind _ = some (xs, ρ') from e)
  obtain ⟨ds, e3, e4⟩ := Option.bind_eq_some_iff.mp e2
  obtain ⟨ys, e5, e6⟩ := Option.map_eq_some_iff.mp e4
  cases e6
  refine ⟨B, ρ, own, as, _, hB, es, e1, fun vs H1 own1 st1 es1 r1 => ?_⟩
  have r2 := argsRp es1 r1 e3
  obtain ⟨i, j, rfl, hj, rfl⟩ := rangeD2_some e5
  obtain ⟨v, u, rfl, r3, r4⟩ := rpa2 r2
  have r5 := r3.int
  have r6 := r4.int
  subst r5 r6
  unfold big at hj
  exact ⟨i, j, rfl, by omega, fun pins s I => k _ H1 own1 st1 es1 (walk_range (by omega))⟩⟩
/-! ### zip, enumerate -/
def zip2D : List D → Option (List D)
  | [a, b] => (seqOf a).bind fun xs => (seqOf b).map fun ys => List.zipWith (fun x y => .tuple [x, y]) xs ys
  | _ => none
def zip3D : List D → Option (List D)
  | [a, b, c] => (seqOf a).bind fun xs => (seqOf b).bind fun ys => (seqOf c).map fun zs => List.zipWith (fun x (p : D × D) => .tuple [x, p.1, p.2]) xs (List.zip ys zs)
  | _ => none
def enumD : List D → Option (List D)
  | [a] => (seqOf a).map fun xs => xs.mapIdx fun i x => .tuple [.int (i : Nat), x]
  | _ => none
def iZ (z : List D → Option (List D)) (m : MA) : MI := fun ρ => (m ρ).bind fun p => (zs p.1).bind fun ds => (z ds).map fun xs => (xs, p.2)
theorem zip2D_some {ds xs : List D} (h : zip2D ds = some xs) : ∃ a b as bs, ds = [a, b] ∧ seqOf a = some as ∧ seqOf b = some bs ∧ xs = List.zipWith (fun x y => .tuple [x, y]) as bs := by
  unfold zip2D at h
  split at h
  · obtain ⟨as, e1, e2⟩ := Option.bind_eq_some_iff.mp h
    obtain ⟨bs, e3, e4⟩ := Option.map_eq_some_iff.mp e2
    exact ⟨_, _, as, bs, rfl, e1, e3, e4.symm⟩
  · cases h
theorem zip3D_some {ds xs : List D} (h : zip3D ds = some xs) : ∃ a b c as bs cs, ds = [a, b, c] ∧ seqOf a = some as ∧ seqOf b = some bs ∧ seqOf c = some cs ∧ xs = List.zipWith (fun x (p : D × D) => .tuple [x, p.1, p.2]) as (List.zip bs cs) := by
  unfold zip3D at h
  split at h
  · obtain ⟨as, e1, e2⟩ := Option.bind_eq_some_iff.mp h
    obtain ⟨bs, e3, e4⟩ := Option.bind_eq_some_iff.mp e2
    obtain ⟨cs, e5, e6⟩ := Option.map_eq_some_iff.mp e4
    exact ⟨_, _, _, as, bs, cs, rfl, e1, e3, e5, e6.symm⟩
  · cases h
theorem enumD_some {ds xs : List D} (h : enumD ds = some xs) : ∃ a as, ds = [a] ∧ seqOf a = some as ∧ xs = as.mapIdx fun i x => .tuple [.int (i : Nat), x] := by
  unfold enumD at h
  split at h
  · obtain ⟨as, e3, e4⟩ := Option.map_eq_some_iff.mp h
    exact ⟨_, as, rfl, e3, e4.symm⟩
  · cases h
theorem invLine {X : Cx} {pins : List (Addr × Obj)} {σ : St} {s : Shared} {H : Hp} {k : Knd} {a : Addr} {xs : List V} {ds : List D} (I : Inv X pins σ H s) (h : FzK X.K H k a xs) (f : FzA X.K H xs ds) : ds.length ≤ sizeLine := (walk_seq I h f).line
theorem fza_new {K : Fr} {H : Hp} {T : Addr} {items : List V} {ds : List D} (n : H T = none) (f : FzA K H items ds) : Fz K (upd H T (.tup items)) (.ref T) (.tuple ds) ∧ ∀ b o, H b = some o → upd H T (.tup items) b = some o :=
  ⟨.tup (.inl (.inl upd_same)) (f.mono (.new n)), fun b o e => by rw [upd_ne (ne_of_none e n)]; exact e⟩
theorem walk_zip2 {X : Cx} {pins : List (Addr × Obj)} {σ : St} {s : Shared} {H : Hp} {k1 k2 : Knd} {a b : Addr} {xs ys : List V} {as bs : List D} (I : Inv X pins σ H s) (h1 : FzK X.K H k1 a xs) (f1 : FzA X.K H xs as) (h2 : FzK X.K H k2 b ys) (f2 : FzA X.K H ys bs) :
    WalkD (ItN X.K [(k1, a), (k2, b)] nzip yzip2) X.K H (List.zipWith (fun x y => .tuple [x, y]) as bs) := by
  have all : ∀ H', PK H H' → SqAll X.K H' [(k1, a), (k2, b)] [xs, ys] := fun H' p => ⟨(h1.mono p).sq, (h2.mono p).sq, trivial⟩
  have l1 := f1.length
  have l2 := f2.length
  have hl : (List.zipWith (fun x y => (PyData.tuple [x, y])) as bs).length = nzip [xs, ys] := by
    simp [nzip]; omega
  refine ⟨fun i H' p hi => ⟨_, all H' p, by rw [← hl]; exact hi⟩, fun H' p => ⟨_, all H' p, hl⟩, fun i H' x H'' p hi y => ?_, ?_⟩
  · obtain ⟨T, items, rfl, hT, rfl, yy⟩ := y
    obtain ⟨xs', ys', x, y, ex, e1, e2, ei⟩ := yy _ (all _ p)
    cases ex
    obtain ⟨d1, q1, z1⟩ := f1.getV i e1
    obtain ⟨d2, q2, z2⟩ := f2.getV i e2
    subst ei
    refine ⟨.tuple [d1, d2], by rw [List.getElem?_zipWith, q1, q2], fza_new hT (.cons (Fz.mono p _ _ z1) (.cons (Fz.mono p _ _ z2) .nil))⟩
  · have := invLine I h1 f1
    have q : (List.zipWith (fun x y => (PyData.tuple [x, y])) as bs).length ≤ as.length := by simp; omega
    exact Nat.le_trans q this
theorem walk_zip3 {X : Cx} {pins : List (Addr × Obj)} {σ : St} {s : Shared} {H : Hp} {k1 k2 k3 : Knd} {a b c : Addr} {xs ys zs : List V} {as bs cs : List D} (I : Inv X pins σ H s) (h1 : FzK X.K H k1 a xs) (f1 : FzA X.K H xs as) (h2 : FzK X.K H k2 b ys) (f2 : FzA X.K H ys bs) (h3 : FzK X.K H k3 c zs) (f3 : FzA X.K H zs cs) :
    WalkD (ItN X.K [(k1, a), (k2, b), (k3, c)] nzip yzip3) X.K H (List.zipWith (fun x (p : D × D) => .tuple [x, p.1, p.2]) as (List.zip bs cs)) := by
  have all : ∀ H', PK H H' → SqAll X.K H' [(k1, a), (k2, b), (k3, c)] [xs, ys, zs] := fun H' p => ⟨(h1.mono p).sq, (h2.mono p).sq, (h3.mono p).sq, trivial⟩
  have l1 := f1.length
  have l2 := f2.length
  have l3 := f3.length
  have hl : (List.zipWith (fun x (p : D × D) => (PyData.tuple [x, p.1, p.2])) as (List.zip bs cs)).length = nzip [xs, ys, zs] := by
    simp [nzip]; omega
  refine ⟨fun i H' p hi => ⟨_, all H' p, by rw [← hl]; exact hi⟩, fun H' p => ⟨_, all H' p, hl⟩, fun i H' x H'' p hi y => ?_, ?_⟩
  · obtain ⟨T, items, rfl, hT, rfl, yy⟩ := y
    obtain ⟨xs', ys', zs', x, y, z, ex, e1, e2, e3, ei⟩ := yy _ (all _ p)
    cases ex
    obtain ⟨d1, q1, z1⟩ := f1.getV i e1
    obtain ⟨d2, q2, z2⟩ := f2.getV i e2
    obtain ⟨d3, q3, z3⟩ := f3.getV i e3
    subst ei
    refine ⟨.tuple [d1, d2, d3], by rw [List.getElem?_zipWith, List.getElem?_zip_eq_some (z := (d2, d3)) |>.mpr ⟨q2, q3⟩, q1], fza_new hT (.cons (Fz.mono p _ _ z1) (.cons (Fz.mono p _ _ z2) (.cons (Fz.mono p _ _ z3) .nil)))⟩
  · have := invLine I h1 f1
    have q : (List.zipWith (fun x (p : D × D) => (PyData.tuple [x, p.1, p.2])) as (List.zip bs cs)).length ≤ as.length := by simp; omega
    exact Nat.le_trans q this
theorem walk_enum {X : Cx} {pins : List (Addr × Obj)} {σ : St} {s : Shared} {H : Hp} {k1 : Knd} {a : Addr} {xs : List V} {as : List D} (I : Inv X pins σ H s) (h1 : FzK X.K H k1 a xs) (f1 : FzA X.K H xs as) :
    WalkD (ItN X.K [(k1, a)] nzip yenum) X.K H (as.mapIdx fun i x => .tuple [.int (i : Nat), x]) := by
  have all : ∀ H', PK H H' → SqAll X.K H' [(k1, a)] [xs] := fun H' p => ⟨(h1.mono p).sq, trivial⟩
  have l1 := f1.length
  have hl : (as.mapIdx fun i x => (PyData.tuple [.int (i : Nat), x])).length = nzip [xs] := by
    simp [nzip]; omega
  refine ⟨fun i H' p hi => ⟨_, all H' p, by rw [← hl]; exact hi⟩, fun H' p => ⟨_, all H' p, hl⟩, fun i H' x H'' p hi y => ?_, ?_⟩
  · obtain ⟨T, items, rfl, hT, rfl, yy⟩ := y
    obtain ⟨xs', x, ex, e1, ei⟩ := yy _ (all _ p)
    cases ex
    obtain ⟨d1, q1, z1⟩ := f1.getV i e1
    subst ei
    refine ⟨.tuple [.int (i : Nat), d1], by rw [List.getElem?_mapIdx, q1]; rfl, fza_new hT (.cons (.int _) (.cons (Fz.mono p _ _ z1) .nil))⟩
  · have := invLine I h1 f1
    simpa using this
theorem pit_zip2 {X : Cx} {a b : Expr} {m : MA} {p pos tpos : Pos} {elts : List Expr} {kk : Nat} (hg : Gl X "zip") (hm : X.mg "zip" = none) (h : PAr X [a, b] m) (hs : starEach [a, b] X.env = (false, eval a X.env) :: starEach [b] X.env := by rfl) (hpl : (backTo pos (starEach [b] X.env)).any (·.1) = false := by rfl) :
    PIt X (.Tuple elts kk tpos) (.Call (.Name "zip" p) [a, b] [] pos) (iZ zip2D m) := ⟨PI.of' (pi_zip2 hg hm h.pa hs hpl) fun σ H R q => by
  obtain ⟨B, ρ, own, xs, ρ', hB, es, e, k⟩ := q
  obtain ⟨⟨as, ρ1⟩, e1, e2⟩ := Option.bind_eq_some_iff.mp (show (m ρ).bind _ = some (xs, ρ') from e)
  obtain ⟨ds, e3, e4⟩ := Option.bind_eq_some_iff.mp e2
  obtain ⟨ys, e5, e6⟩ := Option.map_eq_some_iff.mp e4
  cases e6
  refine ⟨B, ρ, own, as, _, hB, es, e1, fun vs H1 own1 st1 es1 r1 => ?_⟩
  have r2 := zs_fz r1 e3
  obtain ⟨d1, d2, as1, as2, rfl, s1, s2, rfl⟩ := zip2D_some e5
  cases r2 with
  | cons q1 r2 =>
  cases r2 with
  | cons q2 r2 =>
  cases r2
  obtain ⟨k1, a1, xs1, rfl, g1, f1⟩ := fzSeq q1 s1
  obtain ⟨k2, a2, xs2, rfl, g2, f2⟩ := fzSeq q2 s2
  exact ⟨[(k1, a1), (k2, a2)], [xs1, xs2], rfl, rfl, ⟨g1.sq, g2.sq, trivial⟩, fun pins s I => k _ H1 own1 st1 es1 (walk_zip2 I g1 f1 g2 f2)⟩⟩
theorem pit_zip3 {X : Cx} {a b c : Expr} {m : MA} {p pos tpos : Pos} {elts : List Expr} {kk : Nat} (hg : Gl X "zip") (hm : X.mg "zip" = none) (h : PAr X [a, b, c] m) (hs : starEach [a, b, c] X.env = (false, eval a X.env) :: starEach [b, c] X.env := by rfl) (hpl : (backTo pos (starEach [b, c] X.env)).any (·.1) = false := by rfl) :
    PIt X (.Tuple elts kk tpos) (.Call (.Name "zip" p) [a, b, c] [] pos) (iZ zip3D m) := ⟨PI.of' (pi_zip3 hg hm h.pa hs hpl) fun σ H R q => by
  obtain ⟨B, ρ, own, xs, ρ', hB, es, e, k⟩ := q
  obtain ⟨⟨as, ρ1⟩, e1, e2⟩ := Option.bind_eq_some_iff.mp (show (m ρ).bind _ = some (xs, ρ') from e)
  obtain ⟨ds, e3, e4⟩ := Option.bind_eq_some_iff.mp e2
  obtain ⟨ys, e5, e6⟩ := Option.map_eq_some_iff.mp e4
  cases e6
  refine ⟨B, ρ, own, as, _, hB, es, e1, fun vs H1 own1 st1 es1 r1 => ?_⟩
  have r2 := zs_fz r1 e3
  obtain ⟨d1, d2, d3, as1, as2, as3, rfl, s1, s2, s3, rfl⟩ := zip3D_some e5
  cases r2 with
  | cons q1 r2 =>
  cases r2 with
  | cons q2 r2 =>
  cases r2 with
  | cons q3 r2 =>
  cases r2
  obtain ⟨k1, a1, xs1, rfl, g1, f1⟩ := fzSeq q1 s1
  obtain ⟨k2, a2, xs2, rfl, g2, f2⟩ := fzSeq q2 s2
  obtain ⟨k3, a3, xs3, rfl, g3, f3⟩ := fzSeq q3 s3
  exact ⟨[(k1, a1), (k2, a2), (k3, a3)], [xs1, xs2, xs3], rfl, rfl, ⟨g1.sq, g2.sq, g3.sq, trivial⟩, fun pins s I => k _ H1 own1 st1 es1 (walk_zip3 I g1 f1 g2 f2 g3 f3)⟩⟩
theorem pit_enum {X : Cx} {a : Expr} {m : MA} {p pos tpos : Pos} {elts : List Expr} {kk : Nat} (hg : Gl X "enumerate") (hm : X.mg "enumerate" = none) (h : PAr X [a] m) (hs : starEach [a] X.env = [(false, eval a X.env)] := by rfl) :
    PIt X (.Tuple elts kk tpos) (.Call (.Name "enumerate" p) [a] [] pos) (iZ enumD m) := ⟨PI.of' (pi_enum1 hg hm h.pa hs) fun σ H R q => by
  obtain ⟨B, ρ, own, xs, ρ', hB, es, e, k⟩ := q
  obtain ⟨⟨as, ρ1⟩, e1, e2⟩ := Option.bind_eq_some_iff.mp (show (m ρ).bind _ = some (xs, ρ') from e)
  obtain ⟨ds, e3, e4⟩ := Option.bind_eq_some_iff.mp e2
  obtain ⟨ys, e5, e6⟩ := Option.map_eq_some_iff.mp e4
  cases e6
  refine ⟨B, ρ, own, as, _, hB, es, e1, fun vs H1 own1 st1 es1 r1 => ?_⟩
  have r2 := zs_fz r1 e3
  obtain ⟨d1, as1, rfl, s1, rfl⟩ := enumD_some e5
  cases r2 with
  | cons q1 r2 =>
  cases r2
  obtain ⟨k1, a1, xs1, rfl, g1, f1⟩ := fzSeq q1 s1
  exact ⟨[(k1, a1)], [xs1], rfl, rfl, ⟨g1.sq, trivial⟩, fun pins s I => k _ H1 own1 st1 es1 (walk_enum I g1 f1)⟩⟩
end VL

set_option Elab.async false
set_option linter.all false
set_option maxRecDepth 100000
set_option maxHeartbeats 4000000
namespace VL
open PySem PySem.Spec PyProof.Rows L2

/-! ### targets of for, of comprehensions -/
abbrev MG := D → Env → Option Env
abbrev MGs := List D → Env → Option Env
def tG (K : Fr) (pin : List Nat) (m : MG) : TG := fun v σ H Q => ∃ d ρ own ρ', Fz K H v d ∧ ES K H σ ρ own ∧ m d ρ = some ρ' ∧ ∀ σ', σ'.length = σ.length → (∀ k ∈ pin, σ'[k]? = σ[k]?) → ES K H σ' ρ' own → Q σ' H
def tGs (K : Fr) (pin : List Nat) (m : MGs) : TGs := fun vs σ H Q => ∃ ds ρ own ρ', FzA K H vs ds ∧ ES K H σ ρ own ∧ m ds ρ = some ρ' ∧ ∀ σ', σ'.length = σ.length → (∀ k ∈ pin, σ'[k]? = σ[k]?) → ES K H σ' ρ' own → Q σ' H
structure PTg (X : Cx) (pin : List Nat) (e : Expr) (m : MG) : Prop where
  pg : PG X e (tG X.K pin m)
structure PTgs (X : Cx) (pin : List Nat) (e : List Expr) (m : MGs) : Prop where
  pgs : PGs X e (tGs X.K pin m)
theorem _root_.L2.PG.of {X : Cx} {e : Expr} {t t' : TG} (h : PG X e t') (i : ∀ v σ H Q, t v σ H Q → t' v σ H Q) : PG X e t := ⟨fun pins s σ H v u Q I r q => h.run pins s σ H v u Q I r (i v σ H Q q)⟩
theorem _root_.L2.PGs.of {X : Cx} {e : List Expr} {t t' : TGs} (h : PGs X e t') (i : ∀ v σ H Q, t v σ H Q → t' v σ H Q) : PGs X e t := ⟨fun pins s σ H v u Q I r q => h.run pins s σ H v u Q I r (i v σ H Q q)⟩
theorem ES.setZ {K : Fr} {H : Hp} {σ : St} {ρ : Env} {own : Ow} {i : Nat} {v : V} {d : D} (hi : i < σ.length) (es : ES K H σ ρ own) (f : Fz K H v d) : ES K H (σ.set i (some v)) (ρ.set i (some (.z d))) own := by
  refine ⟨by simpa using es.len, fun k u e => ?_⟩
  by_cases hk : k = i
  · subst hk
    rw [List.getElem?_set_self (by rw [es.len]; exact hi)] at e
    cases e
    exact ⟨v, List.getElem?_set_self hi, f⟩
  · rw [List.getElem?_set_ne (Ne.symm hk)] at e
    obtain ⟨w, e1, q⟩ := es.rep k u e
    exact ⟨w, by rw [List.getElem?_set_ne (Ne.symm hk)]; exact e1, q⟩
theorem pin_ne {pin : List Nat} {i : Nat} {σ : St} {v : Option V} (hp : pin.contains i = false) : ∀ k ∈ pin, (σ.set i v)[k]? = σ[k]? := fun k hk => by
  rw [List.getElem?_set_ne]
  intro z
  subst z
  rw [List.contains_iff_mem.mpr hk] at hp
  cases hp
def gN (i : Nat) : MG := fun d ρ => setSl i (.z d) ρ
section
variable {X : Cx} {pin : List Nat}
theorem ptg_n {i : Nat} {x : Str} {pos : Pos} (h : PG X (.Name x pos) (gName i)) (hp : pin.contains i = false) : PTg X pin (.Name x pos) (gN i) := ⟨h.of fun v σ H Q q => by
  obtain ⟨d, ρ, own, ρ', f, es, e, k⟩ := q
  obtain ⟨hi, rfl⟩ := setSl_some e
  have hi' : i < σ.length := by rw [← es.len]; exact hi
  exact k _ (by simp) (pin_ne hp) (es.setZ hi' f)⟩
def gs0 : MGs := fun ds ρ => match ds with
  | [] => some ρ
  | _ => none
def gsC (m : MG) (ms : MGs) : MGs := fun ds ρ => match ds with
  | d :: ds => (m d ρ).bind fun ρ' => ms ds ρ'
  | [] => none
def gT (n : Nat) (ms : MGs) : MG := fun d ρ => match d with
  | .tuple ds => if ds.length = n then ms ds ρ else none
  | _ => none
theorem ptgs_0 : PTgs X pin [] gs0 := ⟨pgs_nil.of fun vs σ H Q q => by
  obtain ⟨ds, ρ, own, ρ', f, es, e, k⟩ := q
  cases f with
  | nil => cases e; exact ⟨rfl, k σ rfl (fun _ _ => rfl) es⟩
  | cons a b => cases e⟩
theorem ptgs_c {e : Expr} {es : List Expr} {m : MG} {ms : MGs} (h1 : PTg X pin e m) (h2 : PTgs X pin es ms) (hs : (assignEach (e :: es) X.env).map (·.2) = assign e X.env :: (assignEach es X.env).map (·.2) := by rfl) : PTgs X pin (e :: es) (gsC m ms) := ⟨(pgs_cons h1.pg h2.pgs hs).of fun vs σ H Q q => by
  obtain ⟨ds, ρ, own, ρ', f, es, e, k⟩ := q
  cases f with
  | nil => cases e
  | cons a b =>
    obtain ⟨ρ1, e1, e2⟩ := Option.bind_eq_some_iff.mp (show (m _ ρ).bind _ = some ρ' from e)
    refine ⟨_, _, rfl, _, ρ, own, ρ1, a, es, e1, fun σ1 l1 p1 es1 => ?_⟩
    exact ⟨_, ρ1, own, ρ', b, es1, e2, fun σ2 l2 p2 es2 => k σ2 (l2.trans l1) (fun j hj => (p2 j hj).trans (p1 j hj)) es2⟩⟩
theorem ptg_t {es : List Expr} {k n : Nat} {pos : Pos} {ms : MGs} (hc : X.calm = true) (h : PTgs X pin es ms) (hn : (assignEach es X.env).length = n := by rfl) (hst : (assignEach es X.env).findIdx? (·.1) = none := by rfl) : PTg X pin (.Tuple es k pos) (gT n ms) := ⟨(pg_tup hc h.pgs hn hst).of fun v σ H Q q => by
  obtain ⟨d, ρ, own, ρ', f, es, e, k⟩ := q
  cases f with
  | tup a b =>
    rename_i ad xs ds
    have e' : (if ds.length = n then ms ds ρ else none) = some ρ' := e
    by_cases hl : ds.length = n
    · rw [if_pos hl] at e'
      exact ⟨_, _, rfl, a, by rw [b.length]; exact hl, _, ρ, own, ρ', b, es, e', k⟩
    · rw [if_neg hl] at e'; cases e'
  | _ => cases e⟩
end

/-! ### for -/
def forGo (mg : MG) (mb : MS) : List D → MS
  | [], ρ => some (.nx, ρ)
  | d :: ds, ρ => (mg d ρ).bind fun ρ1 => (mb ρ1).bind fun p => match p.1 with
    | .nx => forGo mg mb ds p.2
    | .ct => forGo mg mb ds p.2
    | .bk => some (.nx, p.2)
    | .ret t => some (.ret t, p.2)
def sFor (mi : MI) (mg : MG) (mb : MS) : MS := fun ρ => (mi ρ).bind fun p => forGo mg mb p.1 p.2
theorem ps_for' {X : Cx} {pin : List Nat} {tg iter : Expr} {body : List Stmt} {pos : Pos} {mi : MI} {mg : MG} {mb : MS} (hp : PassesOwn (model X.prog X.w) X.A X.env X.xe) (hc : X.calm = true) (hi : PIt X tg iter mi) (hg : PTg X pin tg mg) (hb : PSts X pin body mb)
    (hs : ∀ x, foldedSetIterable iter X.env x = pure x := by intro _; rfl) : PSt X pin (.For tg iter body [] pos) (sFor mi mg mb) := ⟨(ps_for hp hc hi.pi hg.pg hb.ps hs).of fun E σ H q => by
  obtain ⟨B, ρ, own, f, ρ', hB, es, e, k⟩ := q
  obtain ⟨⟨ds, ρ1⟩, e1, e2⟩ := Option.bind_eq_some_iff.mp (show (mi ρ).bind _ = some (f, ρ') from e)
  refine ⟨B, ρ, own, ds, ρ1, hB, es, e1, fun J H1 own1 st1 es1 W => ?_⟩
  -- at turn i: what is left leads to the known end
  let G : Nat → Nat → St → Hp → Prop := fun i m σ' H' => m = ds.length - i ∧ i ≤ ds.length ∧ ∃ ρi owni, forGo mg mb (ds.drop i) ρi = some (f, ρ') ∧ σ'.length = σ.length ∧ (∀ j ∈ pin, σ'[j]? = σ[j]?) ∧ Step σ.length B own H owni H' ∧ PK H1 H' ∧ ES X.K H' σ' ρi owni
  refine ⟨G, ⟨ds.length, rfl, Nat.zero_le _, ρ1, own1, e2, rfl, fun _ _ => rfl, st1, .refl, es1⟩, ?_⟩
  rintro i m σ' H' ⟨rfl, hi, ρi, owni, ei, li, pi, sti, pki, esi⟩
  by_cases hlt : i < ds.length
  · refine .inr ⟨W.go i H' pki hlt, fun σ2 H2 => G (i + 1) (ds.length - (i + 1)) σ2 H2, fun σ2 H2 g => ⟨_, by omega, g⟩, fun x H2 y => ?_⟩
    obtain ⟨d, ed, fz, same⟩ := W.yld i H' x H2 pki hlt y
    have edr : ds.drop i = d :: ds.drop (i + 1) := by
      rw [List.drop_eq_getElem_cons hlt]
      rw [List.getElem?_eq_getElem hlt] at ed
      cases ed; rfl
    rw [edr] at ei
    obtain ⟨ρg, eg, ei2⟩ := Option.bind_eq_some_iff.mp (show (mg d ρi).bind _ = some (f, ρ') from ei)
    obtain ⟨⟨fl, ρb⟩, eb, ei3⟩ := Option.bind_eq_some_iff.mp ei2
    have st2 : Step σ.length B owni H' owni H2 := ⟨fun b o e _ => ⟨same b o e, rfl⟩, fun b q => .inl q, .same same⟩
    have es2 : ES X.K H2 σ' ρi owni := esi.same (.same same) fun a o j ha _ e => ⟨same a o e, ha⟩
    refine ⟨d, ρi, owni, ρg, fz, es2, eg, fun σ3 l3 p3 es3 => ?_⟩
    refine ⟨B, ρg, owni, fl, ρb, by rw [l3, li]; exact hB, es3, eb, fun σ4 H4 own4 l4 p4 st4 es4 => ?_⟩
    rw [l3, li] at st4
    have l4' : σ4.length = σ.length := l4.trans (l3.trans li)
    have p4' : ∀ j ∈ pin, σ4[j]? = σ[j]? := fun j hj => (p4 j hj).trans ((p3 j hj).trans (pi j hj))
    have st' : Step σ.length B own H own4 H4 := (sti.trans st2).trans st4
    have pk' : PK H1 H4 := (pki.trans st2.pk).trans st4.pk
    cases fl with
    | nx => exact ⟨rfl, hlt, ρb, own4, ei3, l4', p4', st', pk', es4⟩
    | ct => exact ⟨rfl, hlt, ρb, own4, ei3, l4', p4', st', pk', es4⟩
    | bk => cases ei3; exact k σ4 H4 own4 l4' p4' st' es4
    | ret t =>
      cases ei3
      intro v r
      exact k σ4 H4 own4 l4' p4' st' es4 v r
  · have e : i = ds.length := by omega
    subst e
    rw [List.drop_length] at ei
    cases ei
    exact .inl ⟨W.stop H' pki, k σ' H' owni li pi sti esi⟩⟩

/-! ### comprehensions -/
def wipeE (ρ : Env) : List Nat → Env
  | [] => ρ
  | v :: vs => (wipeE ρ vs).set v none
/-- behind the block its own names are again what they were, where that never changes -/
def restE (ρ0 ρ : Env) : List Nat → Env
  | [] => ρ
  | v :: vs => (restE ρ0 ρ vs).set v (match slotT ρ0 v with
    | some (.z d) => some (.z d)
    | _ => none)
theorem wipeE_len (ρ : Env) : ∀ vs, (wipeE ρ vs).length = ρ.length
  | [] => rfl
  | v :: vs => by unfold wipeE; rw [List.length_set, wipeE_len ρ vs]
theorem restE_len (ρ0 ρ : Env) : ∀ vs, (restE ρ0 ρ vs).length = ρ.length
  | [] => rfl
  | v :: vs => by unfold restE; rw [List.length_set, restE_len ρ0 ρ vs]
theorem wipeE_some {ρ : Env} {i : Nat} {t : T} : ∀ {vs : List Nat}, (wipeE ρ vs)[i]? = some (some t) → ρ[i]? = some (some t) ∧ i ∉ vs
  | [], h => ⟨h, by simp⟩
  | v :: vs, h => by
    unfold wipeE at h
    by_cases hi : v = i
    · subst hi
      by_cases hv : v < (wipeE ρ vs).length
      · rw [List.getElem?_set_self hv] at h; cases h
      · rw [List.getElem?_eq_none (by simpa using hv)] at h; cases h
    · rw [List.getElem?_set_ne hi] at h
      obtain ⟨h1, h2⟩ := wipeE_some h
      exact ⟨h1, by simp only [List.mem_cons, not_or]; exact ⟨fun e => hi e.symm, h2⟩⟩
theorem restE_some {ρ0 ρ : Env} {i : Nat} {t : T} : ∀ {vs : List Nat}, (restE ρ0 ρ vs)[i]? = some (some t) → (i ∉ vs ∧ ρ[i]? = some (some t)) ∨ ∃ d, t = .z d ∧ slotT ρ0 i = some (.z d)
  | [], h => .inl ⟨by simp, h⟩
  | v :: vs, h => by
    unfold restE at h
    by_cases hi : v = i
    · subst hi
      by_cases hv : v < (restE ρ0 ρ vs).length
      · rw [List.getElem?_set_self hv] at h
        have h := Option.some.inj h
        split at h
        · rename_i d e
          cases h
          exact .inr ⟨d, rfl, e⟩
        · cases h
      · rw [List.getElem?_eq_none (by simpa using hv)] at h; cases h
    · rw [List.getElem?_set_ne hi] at h
      rcases restE_some h with ⟨h1, h2⟩ | h3
      · exact .inl ⟨by simp only [List.mem_cons, not_or]; exact ⟨fun e => hi e.symm, h1⟩, h2⟩
      · exact .inr h3
theorem wipe_get {σ : St} {i : Nat} {vs : List Nat} (h : i ∉ vs) : (wipe σ vs)[i]? = σ[i]? := by
  induction vs with
  | nil => rfl
  | cons v vs ih =>
    simp only [List.mem_cons, not_or] at h
    unfold wipe
    rw [List.getElem?_set_ne (Ne.symm h.1)]
    exact ih h.2
theorem ES.wipe {K : Fr} {H : Hp} {σ : St} {ρ : Env} {own : Ow} (es : ES K H σ ρ own) (vs : List Nat) : ES K H (wipe σ vs) (wipeE ρ vs) own := by
  refine ⟨by rw [wipeE_len, wipe_length]; exact es.len, fun i t e => ?_⟩
  obtain ⟨e1, n⟩ := wipeE_some e
  obtain ⟨v, e2, r⟩ := es.rep i t e1
  exact ⟨v, by rw [wipe_get n]; exact e2, r⟩
/-- a comprehension's turns: acc is what is made so far -/
def lcGo (mg : MG) (mt : MB) (me : ME) (vs : List Nat) : List D → Env → List D → Option (List D × Env)
  | [], ρ, acc => some (acc, ρ)
  | d :: ds, ρ, acc => (mg d ρ).bind fun ρ1 => (mt ρ1).bind fun b => match b.1 with
    | false => lcGo mg mt me vs ds (wipeE b.2 vs) acc
    | true => (me b.2).bind fun p => match p.1 with
      | .z y => lcGo mg mt me vs ds (wipeE p.2 vs) (acc ++ [y])
      | _ => none
def mLC (mi : MI) (mg : MG) (mt : MB) (me : ME) (vs : List Nat) : ME := fun ρ => (mi ρ).bind fun p => (lcGo mg mt me vs p.1 (wipeE p.2 vs) []).map fun q => (.l q.1, restE p.2 q.2 vs)
/-- pins for what is not the block's own: all slots -/
def others (n : Nat) (vs : List Nat) : List Nat := (List.range n).filter fun i => !vs.contains i
theorem wipe_eq {σ σ' : St} {vs : List Nat} (hl : σ'.length = σ.length) (h : ∀ k, k ∉ vs → σ'[k]? = σ[k]?) : L2.wipe σ' vs = L2.wipe σ vs := by
  apply List.ext_getElem?
  intro i
  by_cases hi : i ∈ vs
  · have z : ∀ (τ : St) (ws : List Nat), i ∈ ws → (L2.wipe τ ws)[i]? = if i < τ.length then some none else none := fun τ ws => by
      induction ws with
      | nil => intro q; cases q
      | cons w ws ih =>
        intro q
        unfold L2.wipe
        by_cases e : w = i
        · subst e
          by_cases hw : w < τ.length
          · rw [List.getElem?_set_self (by rw [wipe_length]; exact hw), if_pos hw]
          · rw [List.getElem?_eq_none (by rw [List.length_set, wipe_length]; omega), if_neg hw]
        · rw [List.getElem?_set_ne e]
          exact ih ((List.mem_cons.mp q).resolve_left fun x => e x.symm)
    rw [z _ _ hi, z _ _ hi, hl]
  · rw [wipe_get hi, wipe_get hi, h i hi]
theorem tLc_of {X : Cx} {K : Fr} {mi : MI} {mg : MG} {mt : MB} {me : ME} {vs : List Nat} {σ : St} {H : Hp} {Q : VK} (q : tE K (mLC mi mg mt me vs) σ H Q) : tLc (tI K mi) (tG K (others σ.length vs) mg) (tT K mt) (tE K me) vs σ H Q := by
  obtain ⟨B, ρ, own, t, ρ', hB, es, e, k⟩ := q
  obtain ⟨⟨ds, ρ1⟩, e1, e2⟩ := Option.bind_eq_some_iff.mp (show (mi ρ).bind _ = some (t, ρ') from e)
  obtain ⟨⟨out, ρ2⟩, e3, e4⟩ := Option.map_eq_some_iff.mp e2
  cases e4
  refine ⟨B, ρ, own, ds, ρ1, hB, es, e1, fun J H1 own1 st1 es1 W D hD => ?_⟩
  -- the list made is the temporary B's; the turns work from B + 1 on
  let own2 : Ow := fun b => if b = D then some B else own1 b
  have own2_ne : ∀ {b}, b ≠ D → own2 b = own1 b := fun {b} n => if_neg n
  have own2_D : own2 D = some B := if_pos rfl
  have ne_D : ∀ {b o}, H1 b = some o → b ≠ D := fun {b o} e z => by subst z; rw [hD] at e; cases e
  have hst2 : Step σ.length B own1 H1 own2 (upd H1 D (.lst [])) :=
    ⟨fun b o e _ => ⟨by rw [upd_ne (ne_D e)]; exact e, own2_ne (ne_D e)⟩, fun b q => by
      by_cases z : b = D
      · subst z; exact .inr hD
      · rw [own2_ne z] at q; exact .inl q, .new hD⟩
  have es2 : ES K (upd H1 D (.lst [])) σ ρ1 own2 := es1.same hst2.pk fun a o i ha _ e => ⟨by rw [upd_ne (ne_D e)]; exact e, by rw [own2_ne (ne_D e)]; exact ha⟩
  let G : Nat → Nat → Hp → Prop := fun i m H' => m = ds.length - i ∧ i ≤ ds.length ∧ ∃ ρi owni acc xs, lcGo mg mt me vs (ds.drop i) ρi acc = some (out, ρ2) ∧ ES K H' (wipe σ vs) ρi owni ∧ Step σ.length B own H owni H' ∧ PK H1 H' ∧
    H' D = some (.lst xs) ∧ owni D = some B ∧ FzA K H' xs acc ∧ acc.length ≤ i
  refine ⟨G, ⟨ds.length, rfl, Nat.zero_le _, wipeE ρ1 vs, own2, [], [], e3, es2.wipe vs, st1.trans hst2, .new hD, upd_same, own2_D, .nil, Nat.le_refl 0⟩, ?_⟩
  rintro i m H' ⟨rfl, hi, ρi, owni, acc, xs, ei, esi, sti, pki, hDi, oDi, fzi, li⟩
  have hBn : σ.length ≤ B := hB
  have wl : (wipe σ vs).length = σ.length := wipe_length σ vs
  by_cases hlt : i < ds.length
  · refine .inr ⟨W.go i H' pki hlt, fun H2 => G (i + 1) (ds.length - (i + 1)) H2, fun H2 g => ⟨_, by omega, g⟩, fun x H2 y => ?_⟩
    obtain ⟨d, ed, fz, same⟩ := W.yld i H' x H2 pki hlt y
    have edr : ds.drop i = d :: ds.drop (i + 1) := by
      rw [List.drop_eq_getElem_cons hlt]
      rw [List.getElem?_eq_getElem hlt] at ed
      cases ed; rfl
    rw [edr] at ei
    obtain ⟨ρg, eg, ei2⟩ := Option.bind_eq_some_iff.mp (show (mg d ρi).bind _ = some (out, ρ2) from ei)
    obtain ⟨⟨bb, ρb⟩, eb, ei3⟩ := Option.bind_eq_some_iff.mp ei2
    have stp : Step σ.length B owni H' owni H2 := ⟨fun b o e _ => ⟨same b o e, rfl⟩, fun b q => .inl q, .same same⟩
    have esp : ES K H2 (wipe σ vs) ρi owni := esi.same (.same same) fun a o j ha _ e => ⟨same a o e, ha⟩
    have hD2 : H2 D = some (.lst xs) := same _ _ hDi
    have fz2 : FzA K H2 xs acc := fzi.mono (.same same)
    refine ⟨d, ρi, owni, ρg, fz, esp, eg, fun σ3 l3 p3 es3 => ?_⟩
    have l3' : σ3.length = σ.length := l3.trans wl
    have hw : wipe σ3 vs = wipe σ vs := by
      have a1 : wipe σ3 vs = wipe (wipe σ vs) vs := wipe_eq l3 fun j hj => by
        by_cases hjl : j < σ.length
        · exact p3 j (List.mem_filter.mpr ⟨List.mem_range.mpr hjl, by simpa using hj⟩)
        · rw [List.getElem?_eq_none (by rw [l3']; omega), List.getElem?_eq_none (by rw [wl]; omega)]
      rw [a1]
      exact wipe_eq wl fun j hj => wipe_get hj
    refine ⟨hw, ?_⟩
    refine ⟨B + 1, ρg, owni, bb, ρb, by rw [l3']; omega, es3, eb, fun H4 own4 st4 es4 => ?_⟩
    rw [l3'] at st4
    have nD : ¬ Act σ.length (B + 1) (owni D) := by rw [oDi, Act.some]; omega
    obtain ⟨hD4, oD4⟩ := st4.keep D _ hD2 nD
    have fz4 : FzA K H4 xs acc := fz2.mono st4.pk
    have st' : Step σ.length B own H own4 H4 := (sti.trans stp).trans (st4.down (Nat.le_succ B))
    have pk' : PK H1 H4 := (pki.trans (.same same)).trans st4.pk
    cases bb with
    | false =>
      rw [if_neg Bool.false_ne_true]
      refine ⟨rfl, hlt, wipeE ρb vs, own4, acc, xs, ei3, ?_, st', pk', hD4, oD4.trans oDi, fz4, Nat.le_succ_of_le li⟩
      rw [← hw]
      exact es4.wipe vs
    | true =>
      rw [if_pos rfl]
      obtain ⟨⟨u, ρu⟩, eu, ei4⟩ := Option.bind_eq_some_iff.mp (show (me ρb).bind _ = some (out, ρ2) from ei3)
      refine ⟨B + 1, ρb, own4, u, ρu, by rw [l3']; omega, es4, eu, fun yv H5 own5 st5 es5 r5 => ?_⟩
      rw [l3'] at st5
      have nD4 : ¬ Act σ.length (B + 1) (own4 D) := by rw [oD4, oDi, Act.some]; omega
      obtain ⟨hD5, oD5⟩ := st5.keep D _ hD4 nD4
      have fz5 : FzA K H5 xs acc := fz4.mono st5.pk
      cases u with
      | l es => cases ei4
      | dc es => cases ei4
      | fd es => cases ei4
      | z y =>
        have fy : Fz K H5 yv y := r5
        have pkD : PK H5 (upd H5 D (.lst (xs ++ [yv]))) := .mut hD5 trivial
        have accl : xs.length < sizeLine := by
          have q := W.line
          rw [fz5.length]
          omega
        have oD : own5 D = some B := oD5.trans (oD4.trans oDi)
        have stD : Step σ.length B own5 H5 own5 (upd H5 D (.lst (xs ++ [yv]))) := ⟨fun b o e na => ⟨by rw [upd_ne (fun z => na (by rw [z, oD, Act.some]; exact .inr (Nat.le_refl B)))]; exact e, rfl⟩, fun b q => .inl q, pkD⟩
        refine ⟨xs, hD5, accl, rfl, hlt, wipeE ρu vs, own5, acc ++ [y], xs ++ [yv], ei4, ?_, (st'.trans (st5.down (Nat.le_succ B))).trans stD, (pk'.trans st5.pk).trans pkD, upd_same, oD, (fz5.append (.cons fy .nil)).mono pkD, by simp; omega⟩
        rw [← hw]
        refine ES.wipe ?_ vs
        refine es5.same pkD fun a o j ha hj e => ⟨?_, ha⟩
        rw [upd_ne]
        · exact e
        · intro z
          subst z
          rw [oD] at ha
          cases ha
          rw [l3'] at hj
          omega
  · have e : i = ds.length := by omega
    subst e
    rw [List.drop_length] at ei
    cases ei
    refine .inl ⟨W.stop H' pki, k (.ref D) H' owni sti ⟨by rw [restE_len, esi.len, wl], fun j t e => ?_⟩ ⟨D, xs, rfl, oDi, hDi, fzi⟩⟩
    rcases restE_some e with ⟨hn, ex⟩ | ⟨d, rfl, ex⟩
    · obtain ⟨v, e5, r⟩ := esi.rep j t ex
      exact ⟨v, by rw [← wipe_get (σ := σ) hn]; exact e5, r⟩
    · obtain ⟨v, e5, r⟩ := es1.rep j _ (slotT_some ex)
      exact ⟨v, e5, Fz.mono pki _ _ r⟩
def bYes : MB := fun ρ => some (true, ρ)
structure PTs' (X : Cx) (ifs : List Expr) (m : MB) : Prop where
  pts : PTs X ifs (tT X.K m)
theorem _root_.L2.PTs.of {X : Cx} {e : List Expr} {t t' : TT} (h : PTs X e t') (i : ∀ σ H Q, t σ H Q → t' σ H Q) : PTs X e t := ⟨fun pins s σ H Q I q => h.run pins s σ H Q I (i σ H Q q)⟩
theorem pts_0 {X : Cx} : PTs' X [] bYes := ⟨pts_nil.of fun σ H Q q => by
  obtain ⟨B, ρ, own, b, ρ', hB, es, e, k⟩ := q
  cases e
  exact k H own .refl es⟩
theorem pts_1 {X : Cx} {c : Expr} {m : MB} (h : PB X c m) : PTs' X [c] m := ⟨pts_one h.pt⟩
section
variable {X : Cx} {elt tg iter : Expr} {ifs : List Expr} {scope : Scope} {ow : List (Str × Nat)} {pos : Pos} {mi : MI} {mg : MG} {mt : MB} {me : ME}
theorem px_lc (hc : X.calm = true) (hN : X.N.Nodup) (hi : PIt X tg iter mi) (ok : BlkOk X.N X.env.scope scope ow)
    (hg : ∀ (n : Nat) (s : Shared) (H : Hp) (C : Addr) (cl : List (Str × Addr)) (fp : List Addr), PTg (X.blk s H scope (compEnvC scope cl C X.env) fp) (others n (ow.map (·.2))) tg mg)
    (ht : ∀ (s : Shared) (H : Hp) (C : Addr) (cl : List (Str × Addr)) (fp : List Addr), PTs' (X.blk s H scope (compEnvC scope cl C X.env) fp) ifs mt)
    (he : ∀ (s : Shared) (H : Hp) (C : Addr) (cl : List (Str × Addr)) (fp : List Addr), PX (X.blk s H scope (compEnvC scope cl C X.env) fp) elt me) (hs : ∀ x, foldedSetIterable iter X.env x = pure x := by intro _; rfl) :
    PX X (.ListComp elt [⟨tg, iter, ifs, 0⟩] scope pos) (mLC mi mg mt me (ow.map (·.2))) := by
  have hg' : ∀ (n : Nat) (s : Shared) (H : Hp) (C : Addr) (cl : List (Str × Addr)) (fp : List Addr), PG (X.blk s H scope (compEnvC scope cl C X.env) fp) tg (tG X.K (others n (ow.map (·.2))) mg) := fun n s H C cl fp => (hg n s H C cl fp).pg
  have ht' : ∀ (s : Shared) (H : Hp) (C : Addr) (cl : List (Str × Addr)) (fp : List Addr), PTs (X.blk s H scope (compEnvC scope cl C X.env) fp) ifs (tT X.K mt) := fun s H C cl fp => (ht s H C cl fp).pts
  have he' : ∀ (s : Shared) (H : Hp) (C : Addr) (cl : List (Str × Addr)) (fp : List Addr), PE (X.blk s H scope (compEnvC scope cl C X.env) fp) elt (tE X.K me) := fun s H C cl fp => (he s H C cl fp).pe
  refine ⟨⟨fun pins s σ H Q I q => ?_⟩⟩
  exact (pe_lc hc hN hi.pi ok (hg' σ.length) ht' he' hs).run pins s σ H Q I (tLc_of (X := X) q)
/-- name = [..] -/
theorem ps_lc {pin : List Nat} {i : Nat} {y : Str} {py spos : Pos} (hc : X.calm = true) (hN : X.N.Nodup) (hy : X.N[i]? = some y) (hyl : X.env.scope.names.lookup y = some .local)
    (hsw : swapsWith (.ListComp elt [⟨tg, iter, ifs, 0⟩] scope pos) (some (.Name y py)) spos.line X.env = pure true) (hpin : pin.contains i = false) (hi : PIt X tg iter mi) (ok : BlkOk X.N X.env.scope scope ow)
    (hg : ∀ (n : Nat) (s : Shared) (H : Hp) (C : Addr) (cl : List (Str × Addr)) (fp : List Addr), PTg (X.blk s H scope (compEnvC scope cl C X.env) fp) (others n (ow.map (·.2))) tg mg)
    (ht : ∀ (s : Shared) (H : Hp) (C : Addr) (cl : List (Str × Addr)) (fp : List Addr), PTs' (X.blk s H scope (compEnvC scope cl C X.env) fp) ifs mt)
    (he : ∀ (s : Shared) (H : Hp) (C : Addr) (cl : List (Str × Addr)) (fp : List Addr), PX (X.blk s H scope (compEnvC scope cl C X.env) fp) elt me) (hs : ∀ x, foldedSetIterable iter X.env x = pure x := by intro _; rfl) :
    PSt X pin (.Assign [.Name y py] (.ListComp elt [⟨tg, iter, ifs, 0⟩] scope pos) spos) (sSet i (mLC mi mg mt me (ow.map (·.2)))) := by
  have hg' : ∀ (n : Nat) (s : Shared) (H : Hp) (C : Addr) (cl : List (Str × Addr)) (fp : List Addr), PG (X.blk s H scope (compEnvC scope cl C X.env) fp) tg (tG X.K (others n (ow.map (·.2))) mg) := fun n s H C cl fp => (hg n s H C cl fp).pg
  have ht' : ∀ (s : Shared) (H : Hp) (C : Addr) (cl : List (Str × Addr)) (fp : List Addr), PTs (X.blk s H scope (compEnvC scope cl C X.env) fp) ifs (tT X.K mt) := fun s H C cl fp => (ht s H C cl fp).pts
  have he' : ∀ (s : Shared) (H : Hp) (C : Addr) (cl : List (Str × Addr)) (fp : List Addr), PE (X.blk s H scope (compEnvC scope cl C X.env) fp) elt (tE X.K me) := fun s H C cl fp => (he s H C cl fp).pe
  refine ⟨⟨fun pins s σ H E I q => ?_⟩⟩
  refine (ps_setLc hc hN hy hyl hsw hi.pi ok (hg' σ.length) ht' he' hs).run pins s σ H E I ?_
  have z : tAsg (tE X.K (mLC mi mg mt me (ow.map (·.2)))) (gName i) E σ H := tS_set hpin q
  have z2 : tE X.K (mLC mi mg mt me (ow.map (·.2))) σ H (fun x H1 => gName i x σ H1 E.nx) := z
  exact tLc_of (X := X) z2
end
end VL

set_option Elab.async false
set_option linter.all false
set_option maxRecDepth 100000
set_option maxHeartbeats 4000000
namespace VL
open PySem PySem.Spec PyProof.Rows L2

/-! ### what a def does with values: its arguments, what it gives, what it leaves of the arguments -/
abbrev MD := List T → Option (T × List (Option T))
def spD (K : Fr) (m : MD) : Sp := fun vs H Q _ => ∃ ts own t ts', ES K H (vs.map some) (ts.map some) own ∧ m ts = some (t, ts') ∧
  ∀ v H' own', Step 0 0 own H own' H' → ES K H' (vs.map some) ts' own' → RepT K H' v t (fun b => own' b = some vs.length) → Q v H'
/-- the modes of the parameters: true: changed for the caller -/
def backs : List Bool → List T → Env → Option (List (Option T))
  | [], [], _ => some []
  | true :: ms, _ :: ts, r :: ρ => (backs ms ts ρ).map fun l => r :: l
  | false :: ms, .z d :: ts, _ :: ρ => (backs ms ts ρ).map fun l => some (.z d) :: l
  | _, _, _ => none
def startE (n : Nat) (ts : List T) : Env := ts.map some ++ List.replicate (n - ts.length) none
def defM (n : Nat) (ms : List Bool) (body : MS) : MD := fun ts => (body (startE n ts)).bind fun p => match p.1 with
  | .ret t => (backs ms ts p.2).map fun l => (t, l)
  | .nx => (backs ms ts p.2).map fun l => (.z .none, l)
  | _ => none
theorem backs_len : ∀ {ms : List Bool} {ts : List T} {ρ : Env} {l : List (Option T)}, backs ms ts ρ = some l → ts.length = ms.length ∧ l.length = ms.length
  | [], [], _, l, h => by cases h; exact ⟨rfl, rfl⟩
  | [], _ :: _, _, _, h => by cases h
  | true :: _, [], _, _, h => by cases h
  | false :: _, [], _, _, h => by cases h
  | true :: _, _ :: _, [], _, h => by cases h
  | false :: _, .z _ :: _, [], _, h => by cases h
  | false :: _, .l _ :: _, _, _, h => by cases h
  | false :: _, .dc _ :: _, _, _, h => by cases h
  | false :: _, .fd _ :: _, _, _, h => by cases h
  | true :: ms, t :: ts, r :: ρ, l, h => by
    obtain ⟨l', e, rfl⟩ := Option.map_eq_some_iff.mp (show (backs ms ts ρ).map _ = some l from h)
    obtain ⟨h1, h2⟩ := backs_len e
    exact ⟨congrArg Nat.succ h1, congrArg Nat.succ h2⟩
  | false :: ms, .z d :: ts, r :: ρ, l, h => by
    obtain ⟨l', e, rfl⟩ := Option.map_eq_some_iff.mp (show (backs ms ts ρ).map _ = some l from h)
    obtain ⟨h1, h2⟩ := backs_len e
    exact ⟨congrArg Nat.succ h1, congrArg Nat.succ h2⟩
/-- what comes back: of a parameter of mode true what its slot holds, else the argument, which never changes -/
theorem backs_get : ∀ {ms : List Bool} {ts : List T} {ρ : Env} {l : List (Option T)} {i : Nat} {t : T}, backs ms ts ρ = some l → l[i]? = some (some t) → (ms[i]? = some true ∧ ρ[i]? = some (some t)) ∨ (∃ d, t = .z d ∧ ts[i]? = some (.z d))
  | [], [], _, l, i, t, h, e => by cases h; simp at e
  | [], _ :: _, _, _, _, _, h, _ => by cases h
  | true :: _, [], _, _, _, _, h, _ => by cases h
  | false :: _, [], _, _, _, _, h, _ => by cases h
  | true :: _, _ :: _, [], _, _, _, h, _ => by cases h
  | false :: _, .z _ :: _, [], _, _, _, h, _ => by cases h
  | false :: _, .l _ :: _, _, _, _, _, h, _ => by cases h
  | false :: _, .dc _ :: _, _, _, _, _, h, _ => by cases h
  | false :: _, .fd _ :: _, _, _, _, _, h, _ => by cases h
  | true :: ms, u :: ts, r :: ρ, l, i, t, h, e => by
    obtain ⟨l', e1, rfl⟩ := Option.map_eq_some_iff.mp (show (backs ms ts ρ).map _ = some l from h)
    cases i with
    | zero => simp at e; subst e; exact .inl ⟨rfl, rfl⟩
    | succ i =>
      rcases backs_get (i := i) e1 (by simpa using e) with ⟨a, b⟩ | ⟨d, a, b⟩
      · exact .inl ⟨by simpa using a, by simpa using b⟩
      · exact .inr ⟨d, a, by simpa using b⟩
  | false :: ms, .z d :: ts, r :: ρ, l, i, t, h, e => by
    obtain ⟨l', e1, rfl⟩ := Option.map_eq_some_iff.mp (show (backs ms ts ρ).map _ = some l from h)
    cases i with
    | zero => simp at e; subst e; exact .inr ⟨d, rfl, rfl⟩
    | succ i =>
      rcases backs_get (i := i) e1 (by simpa using e) with ⟨a, b⟩ | ⟨d, a, b⟩
      · exact .inl ⟨by simpa using a, by simpa using b⟩
      · exact .inr ⟨d, a, by simpa using b⟩
def pinsOf (ms : List Bool) : List Nat := (List.range ms.length).filter fun i => ms[i]? == some true
theorem defM_some {n : Nat} {ms : List Bool} {body : MS} {ts : List T} {t : T} {ts' : List (Option T)} (h : defM n ms body ts = some (t, ts')) :
    ∃ f ρ', body (startE n ts) = some (f, ρ') ∧ backs ms ts ρ' = some ts' ∧ (f = .ret t ∨ (f = .nx ∧ t = .z .none)) := by
  obtain ⟨⟨f, ρ'⟩, e1, e2⟩ := Option.bind_eq_some_iff.mp (show (body (startE n ts)).bind _ = some (t, ts') from h)
  cases f with
  | ret u =>
    obtain ⟨l, e3, e4⟩ := Option.map_eq_some_iff.mp (show (backs ms ts ρ').map _ = some (t, ts') from e2)
    cases e4
    exact ⟨_, ρ', e1, e3, .inl rfl⟩
  | nx =>
    obtain ⟨l, e3, e4⟩ := Option.map_eq_some_iff.mp (show (backs ms ts ρ').map _ = some (t, ts') from e2)
    cases e4
    exact ⟨_, ρ', e1, e3, .inr ⟨rfl, rfl⟩⟩
  | bk => cases e2
  | ct => cases e2
theorem act00 {j : Nat} : Act 0 0 (some j) := ⟨j, rfl, .inr (Nat.zero_le _)⟩
theorem act00_iff {o : Option Nat} : Act 0 0 o ↔ o ≠ none := by
  cases o with
  | none => exact ⟨fun h => (Act.none h).elim, fun h => (h rfl).elim⟩
  | some j => exact ⟨fun _ => by simp, fun _ => act00⟩
theorem actnn_iff {n : Nat} {o : Option Nat} : Act n n o ↔ o ≠ none := by
  cases o with
  | none => exact ⟨fun h => (Act.none h).elim, fun h => (h rfl).elim⟩
  | some j => exact ⟨fun _ => by simp, fun _ => ⟨j, rfl, by omega⟩⟩
/-! ### room, with no container being shown -/
structure RoomG (k : Nat) (A : Around) : Prop where
  rm : Room k A
  gd : A.guards = some []
theorem RoomG.mono {j k : Nat} {A : Around} (r : RoomG k A) (h : j ≤ k) : RoomG j A := ⟨r.rm.mono h, r.gd⟩
theorem RoomG.deeper {k : Nat} {A : Around} (r : RoomG (k + 1) A) (env : PySem.Env) : RoomG k (A.deeper env) := ⟨r.rm.deeper env, r.gd⟩
theorem RoomG.make {k : Nat} {A : Around} (r : RoomG (k + 1) A) (C : Addr) (us : List Value) (kw : List (Str × Value)) : RoomG k (A.under (.builtin "type.__call__" ⟨.ref C :: us, kw⟩)) :=
  ⟨r.rm.make C us kw, by
    have h := r.gd
    simp only [Around.under, Code.guards, pushGuards, h]
    rfl⟩
/-- a def that keeps a promise wherever there is such room -/
structure FnG (P : Program) (w : World) (K : Fr) (mg : Str → Option Value) (base : Heap) (CX : CXT) (k : Nat) (f : Addr) (fd : FuncData) (ps : List Str) (sp : Sp) : Prop where
  len : ∀ vs H Q E, sp vs H Q E → vs.length = ps.length
  run : ∀ (A : Around) (outer : List PySem.Env) (s : Shared) (H : Hp) (args : Args) (us : List Value) (vs : List V) (Q : VK) (E : XK), RoomG k A → Env0 P w K mg base A outer s H →
    BindsTo s fd args (ps.zip us) → Vals vs us → sp vs H Q E → codeAny (model P w) A (.call (.ref f) args) (CR CX outer P w H s Q E) s
theorem FnG.mono {P : Program} {w : World} {K : Fr} {mg : Str → Option Value} {base : Heap} {CX : CXT} {j k : Nat} {f : Addr} {fd : FuncData} {ps : List Str} {sp : Sp} (F : FnG P w K mg base CX j f fd ps sp) (h : j ≤ k) : FnG P w K mg base CX k f fd ps sp :=
  ⟨F.len, fun A outer s H args us vs Q E r => F.run A outer s H args us vs Q E (r.mono h)⟩
theorem fnG_of {CX : CXT} {P : Program} {w : World} {K : Fr} {mg : Str → Option Value} {base : Heap} {k : Nat} {f : Addr} {x qual : Str} {params : Arguments} {body : List Stmt} {scope : Scope} {dvs : List V} {kws : List (Str × V)} {fd : FuncData} {N ps : List Str} {sp : Sp}
    (F : FunD K x qual params body scope dvs kws f fd) (S : FnScope N ps scope) (len : ∀ vs H Q E, sp vs H Q E → vs.length = ps.length)
    (hb : ∀ (cdv : Value) (A : Around) (outer : List PySem.Env) (s : Shared) (H : Hp) (vs : List V) (Q : VK) (E : XK), RoomG k (A.deeper (envOfC qual scope s.heap.objs.size f cdv)) → sp vs H Q E →
      ∃ t, PSs (cxOf CX P w K mg base N qual scope f cdv A outer s H E) body t ∧ t { nx := fun _ H' => Q .non H', rt := Q } (L2.start N vs) H) : FnG P w K mg base CX (k + 1) f fd ps sp := by
  obtain ⟨oc, od, dV, kV, doc, pm, an, cdv, ct, osl, rfl, lk, hcd, _, _⟩ := F.ex
  refine ⟨len, fun A outer s H args us vs Q E hr e0 hbd r hsp => ?_⟩
  have here : ∀ b o, base.get? b = some o → s.heap.get? b = some o := fun b o e => (e0.bs b o e).1
  have KX : K.In s.heap := e0.mod.kin.keeps here
  have pars : ∀ y ∈ ps.zip us, scope.names.lookup y.1 = some .local ∨ (scope.names.lookup y.1 = some .cell ∧ ((cellsFrom (s.heap.objs.size + 1) scope.names []).lookup y.1).isSome = true) := by
    rintro ⟨n, v⟩ hy
    refine (S.par n (List.of_mem_zip hy).1).imp id fun q => ⟨q, ?_⟩
    exact PySem.W.cellsFrom_some _ _ _ (.inl q)
  refine codeAny_call_function hr.rm.depth (KX _ _ lk) rfl S.co S.gen rfl (PySem.W.codeRec_of KX hcd) (hbd _ _ _ _ ?_)
  refine wpAny_newFunctionEnv_cells S.kind pars ?_
  rintro env rfl s1 x
  refine ⟨(e0.mod.nolimit.keeps here).keeps x.toInCall.keep, codeAny_func ?_⟩
  obtain ⟨t, ht, hq⟩ := hb cdv A outer s H vs Q E (hr.deeper _) hsp
  have I := inv_start (CX := CX) (E := E) S hr.rm.hd e0 (len _ _ _ _ hsp) r x
  refine wpAny_mono (ht.run [] s1 (L2.start N vs) H _ I hq) (fun fl s' hs => ?_) fun _ _ hs => hs
  cases fl with
  | ret u =>
    obtain ⟨v, σ', H', J, rv, q⟩ := hs
    exact ⟨v, H', J.os, J.bare, J.base, J.hok, rv, q⟩
  | next =>
    obtain ⟨σ', H', J, q⟩ := hs
    exact ⟨V.non, H', J.os, J.bare, J.base, J.hok, rfl, q⟩
  | brk =>
    obtain ⟨_, _, _, q⟩ := hs
    exact False.elim q
  | cont =>
    obtain ⟨_, _, _, q⟩ := hs
    exact False.elim q
section
variable {X : Cx} {CX : CXT} {k : Nat} {f : Addr} {fd : FuncData} {ps : List Str} {sp : Sp} {E : XK}
/-- such a def is called -/
theorem runG {pins : List (Addr × Obj)} {σ : St} {H : Hp} {s : Shared} {Q : VK} {args : Args} {us : List Value} {vs : List V} (F : FnG X.prog X.w X.K X.mg X.base CX k f fd ps sp) (hr : RoomG k X.A) (hx : Passes CX X E) (I : Inv X pins σ H s) (hb : BindsTo s fd args (ps.zip us)) (r : Vals vs us) (h : sp vs H Q E) :
    wpAny (model X.prog X.w) X.A (PySem.call (.ref f) args.pos args.kw) (EP X pins σ Q) X.xe s := by
  refine wpAny_call (codeAny_mono (F.run X.A X.stack s H args us vs Q E hr I.env0 hb r h) ?_)
  rintro (e | fl) s' hq
  · exact hx pins σ H s e s' I hq
  · cases fl with
    | ret u => exact I.after hq
    | next => exact hq.elim
    | brk => exact hq.elim
    | cont => exact hq.elim
end
section
variable {P : Program} {w : World} {K : Fr} {mg : Str → Option Value} {base : Heap} {x qual : Str} {params : Arguments} {body : List Stmt} {scope : Scope} {dvs : List V} {kws : List (Str × V)} {f : Addr} {fd : FuncData} {N ps : List Str} {k : Nat} {ms : List Bool} {mb : MS}
theorem fn_d (F : FunD K x qual params body scope dvs kws f fd) (S : FnScope N ps scope) (hm : ms.length = ps.length)
    (hb : ∀ (cdv : Value) (A : Around) (outer : List PySem.Env) (s : Shared) (H : Hp) (E : XK), RoomG k (A.deeper (envOfC qual scope s.heap.objs.size f cdv)) → PSts (cxOf CX0 P w K mg base N qual scope f cdv A outer s H E).nox (pinsOf ms) body mb) :
    FnG P w K mg base CX0 (k + 1) f fd ps (spD K (defM N.length ms mb)) := by
  refine fnG_of F S (fun vs H Q E h => ?_) fun cdv A outer s H vs Q E hr h => ?_
  · obtain ⟨ts, own, t, ts', es, e, _⟩ := h
    obtain ⟨_, _, _, e2, _⟩ := defM_some e
    have l1 := (backs_len e2).1
    have l2 := es.len
    simp only [List.length_map] at l2
    rw [← l2, l1, hm]
  · obtain ⟨ts, own, t, ts', es, e, hQ⟩ := h
    obtain ⟨fl, ρ', e1, e2, hf⟩ := defM_some e
    obtain ⟨lts, lts'⟩ := backs_len e2
    have l2 : ts.length = vs.length := by have := es.len; simpa using this
    have hP : ps.length ≤ N.length := by rw [← S.pre]; simp [List.length_take]; omega
    have hv : vs.length ≤ N.length := by omega
    have hsl : (L2.start N vs).length = N.length := by unfold L2.start; simp; omega
    refine ⟨_, PSs.nox (hb cdv A outer s H E hr).ps, ?_⟩
    refine ⟨N.length, startE N.length ts, own, fl, ρ', Nat.le_of_eq hsl, ⟨by unfold startE; rw [hsl]; simp; omega, fun i u eu => ?_⟩, e1, fun σ' H' own' l' pn st es' => ?_⟩
    · unfold startE at eu
      have hi : i < ts.length := by
        refine Nat.lt_of_not_le fun q => ?_
        rw [List.getElem?_append_right (by simpa using q)] at eu
        rw [List.getElem?_replicate] at eu
        split at eu <;> cases eu
      rw [List.getElem?_append_left (by simpa using hi)] at eu
      obtain ⟨v, e3, r⟩ := es.rep i u eu
      refine ⟨v, ?_, r⟩
      unfold L2.start
      rw [List.getElem?_append_left (by simp; omega)]
      exact e3
    · rw [hsl] at st
      let own2 : Ow := fun b => match own' b with
        | some j => if j < vs.length then some j else if j = N.length then some vs.length else none
        | none => none
      have o2 : ∀ {b j}, own' b = some j → j < vs.length → own2 b = some j := fun {b j} h hj => by
        show (match own' b with | some j => if j < vs.length then some j else if j = N.length then some vs.length else none | none => none) = _
        rw [h]; simp [hj]
      have o2r : ∀ {b}, own' b = some N.length → own2 b = some vs.length := fun {b} h => by
        show (match own' b with | some j => if j < vs.length then some j else if j = N.length then some vs.length else none | none => none) = _
        rw [h]; simp; omega
      have o2n : ∀ {b}, own' b = none → own2 b = none := fun {b} h => by
        show (match own' b with | some j => if j < vs.length then some j else if j = N.length then some vs.length else none | none => none) = _
        rw [h]
      have st2 : Step 0 0 own H own2 H' := by
        refine ⟨fun b o eo na => ?_, fun b q => ?_, st.pk⟩
        · have nn : own b = none := Classical.byContradiction fun z => na (act00_iff.mpr z)
          obtain ⟨h1, h2⟩ := st.keep b o eo (by rw [nn]; exact Act.none)
          rw [nn] at h2
          exact ⟨h1, by rw [o2n h2, nn]⟩
        · have nz := act00_iff.mp q
          have q' : own' b ≠ none := fun z => nz (o2n z)
          rcases st.grow b (actnn_iff.mpr q') with y | y
          · exact .inl (act00_iff.mpr (actnn_iff.mp y))
          · exact .inr y
      have es2 : ES K H' (vs.map some) ts' own2 := by
        refine ⟨by simp; omega, fun i u eu => ?_⟩
        rcases backs_get e2 eu with ⟨m1, m2⟩ | ⟨d, rfl, m2⟩
        · have hi : i < ms.length := (List.getElem?_eq_some_iff.mp m1).1
          have hiv : i < vs.length := by omega
          obtain ⟨v, e3, r⟩ := es'.rep i u m2
          have pi := pn i (List.mem_filter.mpr ⟨List.mem_range.mpr hi, by rw [m1]; rfl⟩)
          rw [e3] at pi
          unfold L2.start at pi
          rw [List.getElem?_append_left (by simpa using hiv)] at pi
          refine ⟨v, pi.symm, r.mono .refl fun a o ha eo => ⟨eo, o2 ha hiv⟩⟩
        · obtain ⟨v, e3, r⟩ := es.rep i (.z d) (by simp [m2])
          exact ⟨v, e3, Fz.mono st.pk _ _ r⟩
      rcases hf with rfl | ⟨rfl, rfl⟩
      · intro v r
        exact hQ v H' own2 st2 es2 (r.mono .refl fun a o ha eo => ⟨eo, o2r ha⟩)
      · exact hQ _ H' own2 st2 es2 .non
end

/-! ### a call -/
def takeT (ρ : Env) : List Bool → List Arg → Option (List T)
  | [], [] => some []
  | true :: ms, .slot i :: as => (slotT ρ i).bind fun t => (takeT ρ ms as).map fun ts => t :: ts
  | true :: ms, .val t :: as => (takeT ρ ms as).map fun ts => t :: ts
  | false :: ms, .val (.z d) :: as => (takeT ρ ms as).map fun ts => .z d :: ts
  | _, _ => none
def slotsOf : List Arg → List Nat
  | [] => []
  | .slot i :: as => i :: slotsOf as
  | .val _ :: as => slotsOf as
def putT (ρ : Env) : List Arg → List (Option T) → Env
  | .slot i :: as, t :: ts => (putT ρ as ts).set i t
  | .val _ :: as, _ :: ts => putT ρ as ts
  | _, _ => ρ
def nodupB : List Nat → Bool
  | [] => true
  | x :: xs => !xs.contains x && nodupB xs
theorem nodupB_ok : ∀ {xs : List Nat}, nodupB xs = true → xs.Nodup
  | [], _ => .nil
  | x :: xs, h => by
    obtain ⟨h1, h2⟩ := Bool.and_eq_true_iff.mp h
    refine List.nodup_cons.mpr ⟨fun z => ?_, nodupB_ok h2⟩
    rw [List.contains_iff_mem.mpr z] at h1
    cases h1
def callM (m : MD) (ms : List Bool) (ρ : Env) (as : List Arg) : Option (T × Env) := if nodupB (slotsOf as) then (takeT ρ ms as).bind fun ts => (m ts).map fun p => (p.1, putT ρ as p.2) else none
def mCall (m : MD) (ms : List Bool) (ma : MA) : ME := fun ρ => (ma ρ).bind fun p => callM m ms p.2 p.1
/-- the labels of the arguments: a slot's own, of a temporary B, B + 1, .. -/
def labs : Nat → List Arg → List Nat
  | _, [] => []
  | B, .slot i :: as => i :: labs (B + 1) as
  | B, .val _ :: as => B :: labs (B + 1) as
theorem labs_len : ∀ {B : Nat} {as : List Arg}, (labs B as).length = as.length
  | _, [] => rfl
  | B, .slot i :: as => congrArg Nat.succ labs_len
  | B, .val _ :: as => congrArg Nat.succ labs_len
theorem labs_mem : ∀ {B j : Nat} {as : List Arg}, j ∈ labs B as → j ∈ slotsOf as ∨ B ≤ j
  | _, _, [], h => by cases h
  | B, j, .slot i :: as, h => by
    rcases List.mem_cons.mp (show j ∈ i :: labs (B + 1) as from h) with e | h
    · rw [e]; exact .inl (List.mem_cons_self ..)
    · rcases labs_mem h with q | q
      · exact .inl (List.mem_cons_of_mem _ q)
      · exact .inr (by omega)
  | B, j, .val t :: as, h => by
    rcases List.mem_cons.mp (show j ∈ B :: labs (B + 1) as from h) with e | h
    · exact .inr (by omega)
    · rcases labs_mem h with q | q
      · exact .inl q
      · exact .inr (by omega)
theorem labs_nodup {n : Nat} : ∀ {B : Nat} {as : List Arg}, n ≤ B → (∀ i ∈ slotsOf as, i < n) → (slotsOf as).Nodup → (labs B as).Nodup
  | _, [], _, _, _ => .nil
  | B, .slot i :: as, h1, h2, h3 => by
    obtain ⟨n1, n2⟩ := List.nodup_cons.mp h3
    refine List.nodup_cons.mpr ⟨fun z => ?_, labs_nodup (Nat.le_succ_of_le h1) (fun j hj => h2 j (List.mem_cons_of_mem _ hj)) n2⟩
    rcases labs_mem z with q | q
    · exact n1 q
    · have := h2 i (List.mem_cons_self ..); omega
  | B, .val t :: as, h1, h2, h3 => by
    refine List.nodup_cons.mpr ⟨fun z => ?_, labs_nodup (Nat.le_succ_of_le h1) h2 h3⟩
    rcases labs_mem z with q | q
    · have := h2 B q; omega
    · omega
def ixOf : List Nat → Nat → Option Nat
  | [], _ => none
  | x :: xs, j => if x = j then some 0 else (ixOf xs j).map (· + 1)
theorem ixOf_some : ∀ {xs : List Nat} {j k : Nat}, ixOf xs j = some k → xs[k]? = some j
  | [], _, _, h => by cases h
  | x :: xs, j, k, h => by
    unfold ixOf at h
    split at h
    · rename_i e
      cases h; rw [e]; rfl
    · obtain ⟨k', e1, rfl⟩ := Option.map_eq_some_iff.mp h
      simpa using ixOf_some e1
theorem ixOf_of : ∀ {xs : List Nat} {j k : Nat}, xs.Nodup → xs[k]? = some j → ixOf xs j = some k
  | [], _, _, _, h => by simp at h
  | x :: xs, j, 0, _, h => by
    simp at h
    unfold ixOf
    rw [if_pos h]
  | x :: xs, j, k + 1, hn, h => by
    obtain ⟨n1, n2⟩ := List.nodup_cons.mp hn
    have h' : xs[k]? = some j := by simpa using h
    unfold ixOf
    rw [if_neg (fun e => n1 (by rw [e]; exact List.mem_of_getElem? h')), ixOf_of n2 h']
    rfl
theorem ixOf_none {xs : List Nat} {j : Nat} (h : j ∉ xs) : ixOf xs j = none := by
  cases e : ixOf xs j with
  | none => rfl
  | some k => exact (h (List.mem_of_getElem? (ixOf_some e))).elim
theorem labs_get : ∀ {B k : Nat} {as : List Arg} {a : Arg}, as[k]? = some a → (labs B as)[k]? = some (match a with | .slot i => i | .val _ => B + k)
  | _, _, [], _, h => by simp at h
  | B, 0, .slot i :: as, a, h => by simp at h; subst h; rfl
  | B, 0, .val t :: as, a, h => by simp at h; subst h; rfl
  | B, k + 1, .slot i :: as, a, h => by
    have := labs_get (B := B + 1) (k := k) (as := as) (by simpa using h)
    show (labs (B + 1) as)[k]? = _
    rw [this]
    cases a
    · simp; omega
    · rfl
  | B, k + 1, .val t :: as, a, h => by
    have := labs_get (B := B + 1) (k := k) (as := as) (by simpa using h)
    show (labs (B + 1) as)[k]? = _
    rw [this]
    cases a
    · simp; omega
    · rfl
theorem argsRep_len {K : Fr} {H : Hp} {σ : St} {own : Ow} : ∀ {j : Nat} {vs : List V} {as : List Arg}, ArgsRep K H σ own j vs as → vs.length = as.length
  | _, [], [], _ => rfl
  | _, [], _ :: _, h => False.elim h
  | _, _ :: _, [], h => False.elim h
  | _, v :: vs, a :: as, h => congrArg Nat.succ (argsRep_len h.2)
theorem argsRep_get {K : Fr} {H : Hp} {σ : St} {own : Ow} : ∀ {j k : Nat} {vs : List V} {as : List Arg} {a : Arg}, ArgsRep K H σ own j vs as → as[k]? = some a → ∃ v, vs[k]? = some v ∧ ArgRep K H σ own (j + k) v a
  | _, _, [], [], _, _, e => by simp at e
  | _, _, [], _ :: _, _, h, _ => False.elim h
  | _, _, _ :: _, [], _, h, _ => False.elim h
  | j, 0, v :: vs, a :: as, b, h, e => by simp at e; subst e; exact ⟨v, rfl, h.1⟩
  | j, k + 1, v :: vs, a :: as, b, h, e => by
    obtain ⟨w, e1, r⟩ := argsRep_get (k := k) h.2 (by simpa using e)
    refine ⟨w, by simpa using e1, ?_⟩
    have ej : j + 1 + k = j + (k + 1) := by omega
    rw [ej] at r
    exact r
theorem takeT_len {ρ : Env} : ∀ {ms : List Bool} {as : List Arg} {ts : List T}, takeT ρ ms as = some ts → ts.length = as.length ∧ ∀ i ∈ slotsOf as, i < ρ.length
  | [], [], ts, h => by cases h; exact ⟨rfl, fun i hi => by cases hi⟩
  | [], _ :: _, _, h => by cases h
  | true :: _, [], _, h => by cases h
  | false :: _, [], _, h => by cases h
  | true :: ms, .slot i :: as, ts, h => by
    obtain ⟨t, e1, e2⟩ := Option.bind_eq_some_iff.mp (show (slotT ρ i).bind _ = some ts from h)
    obtain ⟨ts', e3, rfl⟩ := Option.map_eq_some_iff.mp e2
    obtain ⟨l, q⟩ := takeT_len e3
    refine ⟨congrArg Nat.succ l, fun j hj => ?_⟩
    rcases List.mem_cons.mp (show j ∈ i :: slotsOf as from hj) with e | hj
    · rw [e]; exact (List.getElem?_eq_some_iff.mp (slotT_some e1)).1
    · exact q j hj
  | true :: ms, .val t :: as, ts, h => by
    obtain ⟨ts', e3, rfl⟩ := Option.map_eq_some_iff.mp (show (takeT ρ ms as).map _ = some ts from h)
    obtain ⟨l, q⟩ := takeT_len e3
    exact ⟨congrArg Nat.succ l, q⟩
  | false :: ms, .slot i :: as, ts, h => by cases h
  | false :: ms, .val (.l t) :: as, ts, h => by cases h
  | false :: ms, .val (.z t) :: as, ts, h => by
    obtain ⟨ts', e3, rfl⟩ := Option.map_eq_some_iff.mp (show (takeT ρ ms as).map _ = some ts from h)
    obtain ⟨l, q⟩ := takeT_len e3
    exact ⟨congrArg Nat.succ l, q⟩
theorem takeT_get {ρ : Env} : ∀ {ms : List Bool} {as : List Arg} {ts : List T} {k : Nat} {t : T}, takeT ρ ms as = some ts → ts[k]? = some t → (∃ i, as[k]? = some (.slot i) ∧ slotT ρ i = some t) ∨ as[k]? = some (.val t)
  | [], [], ts, k, t, h, e => by cases h; simp at e
  | [], _ :: _, _, _, _, h, _ => by cases h
  | true :: _, [], _, _, _, h, _ => by cases h
  | false :: _, [], _, _, _, h, _ => by cases h
  | true :: ms, .slot i :: as, ts, k, t, h, e => by
    obtain ⟨u, e1, e2⟩ := Option.bind_eq_some_iff.mp (show (slotT ρ i).bind _ = some ts from h)
    obtain ⟨ts', e3, rfl⟩ := Option.map_eq_some_iff.mp e2
    cases k with
    | zero => simp at e; subst e; exact .inl ⟨i, rfl, e1⟩
    | succ k => simpa using takeT_get (k := k) e3 (by simpa using e)
  | true :: ms, .val u :: as, ts, k, t, h, e => by
    obtain ⟨ts', e3, rfl⟩ := Option.map_eq_some_iff.mp (show (takeT ρ ms as).map _ = some ts from h)
    cases k with
    | zero => simp at e; subst e; exact .inr rfl
    | succ k => simpa using takeT_get (k := k) e3 (by simpa using e)
  | false :: ms, .slot i :: as, ts, _, _, h, _ => by cases h
  | false :: ms, .val (.l t) :: as, ts, _, _, h, _ => by cases h
  | false :: ms, .val (.z u) :: as, ts, k, t, h, e => by
    obtain ⟨ts', e3, rfl⟩ := Option.map_eq_some_iff.mp (show (takeT ρ ms as).map _ = some ts from h)
    cases k with
    | zero => simp at e; subst e; exact .inr rfl
    | succ k => simpa using takeT_get (k := k) e3 (by simpa using e)
theorem putT_len {ρ : Env} : ∀ {as : List Arg} {ts : List (Option T)}, (putT ρ as ts).length = ρ.length
  | [], _ => by unfold putT; rfl
  | .slot i :: as, [] => rfl
  | .val _ :: as, [] => rfl
  | .slot i :: as, t :: ts => by unfold putT; rw [List.length_set, putT_len]
  | .val _ :: as, t :: ts => by unfold putT; exact putT_len
theorem putT_get {ρ : Env} {j : Nat} {t : T} : ∀ {as : List Arg} {ts : List (Option T)}, ts.length = as.length → (slotsOf as).Nodup → (putT ρ as ts)[j]? = some (some t) → (∃ k : Nat, as[k]? = some (Arg.slot j) ∧ ts[k]? = some (some t)) ∨ (j ∉ slotsOf as ∧ ρ[j]? = some (some t))
  | [], [], _, _, h => .inr ⟨by simp [slotsOf], h⟩
  | [], _ :: _, l, _, _ => by simp at l
  | _ :: _, [], l, _, _ => by simp at l
  | .slot i :: as, u :: ts, l, hn, h => by
    obtain ⟨n1, n2⟩ := List.nodup_cons.mp (show (i :: slotsOf as).Nodup from hn)
    unfold putT at h
    by_cases e : i = j
    · subst e
      by_cases hi : i < (putT ρ as ts).length
      · rw [List.getElem?_set_self hi] at h
        have h := Option.some.inj h
        subst h
        exact .inl ⟨0, rfl, rfl⟩
      · rw [List.getElem?_eq_none (by simpa using hi)] at h; cases h
    · rw [List.getElem?_set_ne e] at h
      rcases putT_get (by simpa using l) n2 h with ⟨k, q1, q2⟩ | ⟨q1, q2⟩
      · exact .inl ⟨k + 1, by simpa using q1, by simpa using q2⟩
      · exact .inr ⟨by show j ∉ i :: slotsOf as; simp only [List.mem_cons, not_or]; exact ⟨fun z => e z.symm, q1⟩, q2⟩
  | .val u' :: as, u :: ts, l, hn, h => by
    unfold putT at h
    rcases putT_get (as := as) (ts := ts) (by simpa using l) hn h with ⟨k, q1, q2⟩ | ⟨q1, q2⟩
    · exact .inl ⟨k + 1, by simpa using q1, by simpa using q2⟩
    · exact .inr ⟨q1, q2⟩
theorem spD_of {K : Fr} {m : MD} {ms : List Bool} {σ : St} {ρ ρ' : Env} {own : Ow} {H : Hp} {B : Nat} {vs : List V} {as : List Arg} {t : T} {Q : VK} {E : XK} (hB : σ.length ≤ B) (es : ES K H σ ρ own) (r : ArgsRep K H σ own B vs as) (e : callM m ms ρ as = some (t, ρ'))
    (hl : ∀ {ts t ts'}, m ts = some (t, ts') → ts'.length = ts.length)
    (k : ∀ v H' own', Step σ.length B own H own' H' → ES K H' σ ρ' own' → RepT K H' v t (fun b => own' b = some B) → Q v H') : spD K m vs H Q E := by
  unfold callM at e
  by_cases hn : nodupB (slotsOf as) = true
  · rw [if_pos hn] at e
    obtain ⟨ts, e1, e2⟩ := Option.bind_eq_some_iff.mp e
    obtain ⟨⟨t', ts'⟩, e3, e4⟩ := Option.map_eq_some_iff.mp e2
    have et : t' = t := congrArg (fun p : T × Env => p.1) (show (t', putT ρ as ts') = (t, ρ') from e4)
    have er : putT ρ as ts' = ρ' := congrArg (fun p : T × Env => p.2) (show (t', putT ρ as ts') = (t, ρ') from e4)
    subst et er
    obtain ⟨lt, sl⟩ := takeT_len e1
    have lv := argsRep_len r
    have nds := nodupB_ok hn
    have sln : ∀ i ∈ slotsOf as, i < σ.length := fun i hi => by rw [← es.len]; exact sl i hi
    have nd : (labs B as).Nodup := labs_nodup hB sln nds
    let L := labs B as
    let oc : Ow := fun b => (own b).bind fun j => ixOf L j
    have oc_some : ∀ {b k}, oc b = some k → ∃ j, own b = some j ∧ L[k]? = some j := fun {b k} h => by
      obtain ⟨j, q1, q2⟩ := Option.bind_eq_some_iff.mp h
      exact ⟨j, q1, ixOf_some q2⟩
    have oc_of : ∀ {b j k}, own b = some j → L[k]? = some j → oc b = some k := fun {b j k} h q => by
      show (own b).bind _ = _
      rw [h]; exact ixOf_of nd q
    have actL : ∀ {j}, j ∈ L → Act σ.length B (some j) := fun {j} h => by
      rw [Act.some]
      rcases labs_mem h with q | q
      · exact .inl (sln j q)
      · exact .inr q
    refine ⟨ts, oc, t', ts', ⟨by simp; omega, fun i u eu => ?_⟩, e3, fun v H' oc' st es' rv => ?_⟩
    · have eu' : ts[i]? = some u := by
        rw [List.getElem?_map] at eu
        obtain ⟨u', q1, q2⟩ := Option.map_eq_some_iff.mp eu
        cases q2; exact q1
      rcases takeT_get e1 eu' with ⟨s, q1, q2⟩ | q1
      · obtain ⟨v, q3, q4⟩ := argsRep_get r q1
        obtain ⟨v', q5, q6⟩ := es.rep s u (slotT_some q2)
        have q4' : σ[s]? = some (some v) := q4
        rw [q5] at q4'
        cases q4'
        refine ⟨v, by simp [q3], q6.mono .refl fun a o ha eo => ⟨eo, oc_of ha (labs_get q1)⟩⟩
      · obtain ⟨v, q3, q4⟩ := argsRep_get r q1
        refine ⟨v, by simp [q3], RepT.mono .refl (fun a o ha eo => ⟨eo, oc_of ha (labs_get q1)⟩) q4⟩
    · have rv' : RepT K H' v t' fun b => oc' b = some vs.length := rv
      let own2 : Ow := fun b => match oc' b with
        | some k => (match L[k]? with
          | some j => some j
          | none => some B)
        | none => if oc b = none then own b else none
      have o2s : ∀ {b k j}, oc' b = some k → L[k]? = some j → own2 b = some j := fun {b k j} h q => by
        show (match oc' b with | some k => (match L[k]? with | some j => some j | none => some B) | none => if oc b = none then own b else none) = _
        rw [h]; simp only [q]
      have o2r : ∀ {b k}, oc' b = some k → L[k]? = none → own2 b = some B := fun {b k} h q => by
        show (match oc' b with | some k => (match L[k]? with | some j => some j | none => some B) | none => if oc b = none then own b else none) = _
        rw [h]; simp only [q]
      have o2n : ∀ {b}, oc' b = none → oc b = none → own2 b = own b := fun {b} h q => by
        show (match oc' b with | some k => (match L[k]? with | some j => some j | none => some B) | none => if oc b = none then own b else none) = _
        rw [h]; exact if_pos q
      have o2m : ∀ {b}, oc' b = none → oc b ≠ none → own2 b = none := fun {b} h q => by
        show (match oc' b with | some k => (match L[k]? with | some j => some j | none => some B) | none => if oc b = none then own b else none) = _
        rw [h]; exact if_neg q
      have same : ∀ {b o}, H b = some o → oc b = none → H' b = some o ∧ own2 b = own b := fun {b o} eo nn => by
        obtain ⟨h1, h2⟩ := st.keep b o eo (by rw [nn]; exact Act.none)
        rw [nn] at h2
        exact ⟨h1, o2n h2 nn⟩
      have back : ∀ {b}, Act 0 0 (oc b) → Act σ.length B (own b) := fun {b} h => by
        cases q : oc b with
        | none => rw [q] at h; exact (Act.none h).elim
        | some k =>
          obtain ⟨j, q1, q2⟩ := oc_some q
          rw [q1]
          exact actL (List.mem_of_getElem? q2)
      refine k v H' own2 ⟨fun b o eo na => ?_, fun b q => ?_, st.pk⟩ ⟨by rw [putT_len]; exact es.len, fun j u eu => ?_⟩ (rv'.mono .refl fun a o ha eo => ⟨eo, o2r ha (List.getElem?_eq_none (show L.length ≤ vs.length by show (labs B as).length ≤ _; rw [labs_len]; omega))⟩)
      · refine same eo ?_
        cases q : oc b with
        | none => rfl
        | some k => exact (na (back (by rw [q]; exact act00))).elim
      · cases q1 : oc' b with
        | none =>
          cases q2 : oc b with
          | none => rw [o2n q1 q2] at q; exact .inl q
          | some k => rw [o2m q1 (by rw [q2]; simp)] at q; exact (Act.none q).elim
        | some k =>
          rcases st.grow b (by rw [q1]; exact act00) with y | y
          · exact .inl (back y)
          · exact .inr y
      · rcases putT_get (by rw [hl e3]; exact lt) nds eu with ⟨k, q1, q2⟩ | ⟨q1, q2⟩
        · obtain ⟨v', q3, q4⟩ := es'.rep k u q2
          obtain ⟨v2, q5, q6⟩ := argsRep_get r q1
          have q6' : σ[j]? = some (some v2) := q6
          rw [List.getElem?_map, q5] at q3
          cases q3
          exact ⟨_, q6', q4.mono .refl fun a o ha eo => ⟨eo, o2s ha (labs_get q1)⟩⟩
        · obtain ⟨v', q3, q4⟩ := es.rep j u q2
          have hj : j < σ.length := (List.getElem?_eq_some_iff.mp q3).1
          refine ⟨v', q3, q4.mono st.pk fun a o ha eo => ?_⟩
          have nn : oc a = none := by
            show (own a).bind _ = none
            rw [ha]
            refine ixOf_none fun z => ?_
            rcases labs_mem z with y | y
            · exact q1 y
            · omega
          obtain ⟨h1, h2⟩ := same eo nn
          exact ⟨h1, h2.trans ha⟩
  · rw [if_neg hn] at e; cases e
theorem defM_len {n : Nat} {ms : List Bool} {body : MS} {ts : List T} {t : T} {ts' : List (Option T)} (h : defM n ms body ts = some (t, ts')) : ts'.length = ts.length := by
  obtain ⟨_, _, _, e, _⟩ := defM_some h
  obtain ⟨a, b⟩ := backs_len e
  omega
def MD.Len (m : MD) : Prop := ∀ {ts : List T} {t : T} {ts' : List (Option T)}, m ts = some (t, ts') → ts'.length = ts.length
theorem defM_Len {n : Nat} {ms : List Bool} {body : MS} : MD.Len (defM n ms body) := fun {_ _ _} h => defM_len h
section
variable {X : Cx} {k : Nat} {f : Addr} {fd : FuncData} {ps : List Str} {m : MD} {ms : List Bool} {ma mk : MA} {x : Str} {p pos : Pos} {e : Expr} {es : List Expr}
/-- f(e, ..), with constants behind what is written, for parameters with defaults -/
def mCallD (m : MD) (ms : List Bool) (ds : List D) (ma : MA) : ME := fun ρ => (ma ρ).bind fun p => callM m ms p.2 (p.1 ++ ds.map fun d => .val (.z d))
theorem argsRep_zl {K : Fr} {H : Hp} {σ : St} {own : Ow} : ∀ {j : Nat} {us : List V} {ds : List D}, FzA K H us ds → ArgsRep K H σ own j us (ds.map fun d => .val (.z d))
  | _, _, [], f => by cases f; trivial
  | _, _, d :: ds, f => by cases f with | cons a b => exact ⟨a, argsRep_zl b⟩
theorem argsRep_app {K : Fr} {H : Hp} {σ : St} {own : Ow} : ∀ {j : Nat} {vs : List V} {as : List Arg} {us : List V} {ds : List D}, ArgsRep K H σ own j vs as → FzA K H us ds → ArgsRep K H σ own j (vs ++ us) (as ++ ds.map fun d => .val (.z d))
  | j, [], [], us, ds, _, f => argsRep_zl f
  | _, [], _ :: _, _, _, h, _ => False.elim h
  | _, _ :: _, [], _, _, h, _ => False.elim h
  | _, _ :: _, _ :: _, _, _, h, f => ⟨h.1, argsRep_app h.2 f⟩
theorem px_callD {dvs : List V} {dl : List Value} {ds : List D} (F : FnG X.prog X.w X.K X.mg X.base CX0 k f fd ps (spD X.K m)) (hl : MD.Len m) (hr : RoomG k X.A) (hg : Gl X x) (hm : X.mg x = some (.ref f)) (hk : PySem.W.keepIn X.K (.ref f) = true) (hb : Binds X.K fd ps dl) (hd : Vals dvs dl) (hf : ∀ H, FzA X.K H dvs ds)
    (ha : PAr X (e :: es) ma) (hdb : (x == ("__debug__" : Str)) = false := by decide) (he : starEach (e :: es) X.env = (false, eval e X.env) :: starEach es X.env := by rfl) (hpl : (backTo pos (starEach es X.env)).any (·.1) = false := by rfl) :
    PX X (.Call (.Name x p) (e :: es) [] pos) (mCallD m ms ds ma) := by
  refine ⟨⟨fun pins s σ H Q I q => ?_⟩⟩
  refine wpAny_Call_Name_kw (ld_glob I hg hm ?_ hdb)
  refine PySem.W.callWith_K (h₀ := X.base) I.ok.mod.kin hk (thn (ha.pa.run pos pins s σ H (fun vs H1 => spD X.K m (vs ++ dvs) H1 Q E0) I ?_) fun us s1 ⟨vs, H1, I1, r, q1⟩ => ⟨I1.kIn, ?_⟩) he hpl
  · obtain ⟨B, ρ, own, t, ρ', hB, es, e, k⟩ := q
    obtain ⟨⟨as, ρ1⟩, e1, e2⟩ := Option.bind_eq_some_iff.mp (show (ma ρ).bind _ = some (t, ρ') from e)
    refine ⟨B, ρ, own, as, ρ1, hB, es, e1, fun vs H1 own1 st1 es1 r1 => ?_⟩
    exact spD_of hB es1 (argsRep_app r1 (hf H1)) e2 hl fun v H2 own2 st2 es2 r2 => k v H2 own2 (st1.trans st2) es2 r2
  · have r2 := r.append hd
    have hlen : (us ++ dl).length = ps.length := by rw [← r2.length]; exact F.len _ _ _ _ q1
    exact runG (args := ⟨us, []⟩) F hr pass0 I1 (hb s1 us I1.kIn hlen) r2 q1
theorem px_call (F : FnG X.prog X.w X.K X.mg X.base CX0 k f fd ps (spD X.K m)) (hl : MD.Len m) (hr : RoomG k X.A) (hg : Gl X x) (hm : X.mg x = some (.ref f)) (hk : PySem.W.keepIn X.K (.ref f) = true) (hb : Binds X.K fd ps [])
    (ha : PAr X (e :: es) ma) (hdb : (x == ("__debug__" : Str)) = false := by decide) (he : starEach (e :: es) X.env = (false, eval e X.env) :: starEach es X.env := by rfl) (hpl : (backTo pos (starEach es X.env)).any (·.1) = false := by rfl) :
    PX X (.Call (.Name x p) (e :: es) [] pos) (mCallD m ms [] ma) := px_callD F hl hr hg hm hk hb .nil (fun _ => .nil) ha hdb he hpl
/-- f() -/
theorem px_call0 (F : FnG X.prog X.w X.K X.mg X.base CX0 k f fd ps (spD X.K m)) (hl : MD.Len m) (hr : RoomG k X.A) (hg : Gl X x) (hm : X.mg x = some (.ref f)) (hk : PySem.W.keepIn X.K (.ref f) = true) (hb : Binds X.K fd ps [])
    (hdb : (x == ("__debug__" : Str)) = false := by decide) : PX X (.Call (.Name x p) [] [] pos) (mCallD m [] [] aNil) := by
  refine ⟨⟨fun pins s σ H Q I q => ?_⟩⟩
  refine wpAny_Call_Name_kw (ld_glob I hg hm ?_ hdb)
  refine PySem.W.callWith_K0 I.kIn hk ?_
  obtain ⟨B, ρ, own, t, ρ', hB, es, e, k⟩ := q
  have e2 : callM m [] ρ [] = some (t, ρ') := e
  have h : spD X.K m [] H Q E0 := spD_of (as := []) hB es trivial e2 hl fun v H2 own2 st2 es2 r2 => k v H2 own2 st2 es2 r2
  have hlen : ([] : List Value).length = ps.length := F.len _ _ _ _ h
  exact runG (args := ⟨[], []⟩) (us := []) F hr pass0 I (by simpa using hb s [] I.kIn (by simpa using hlen)) .nil h
/-! ### keywords: all arguments data that never changes; perm puts them in the parameters' order -/
structure PKr (X : Cx) (kws : List Keyword) (m : MA) : Prop where
  pk : L2.PK X kws (tA X.K m)
theorem _root_.L2.PK.of {X : Cx} {e : List Keyword} {t t' : TA} (h : L2.PK X e t') (i : ∀ σ H Q, t σ H Q → t' σ H Q) : L2.PK X e t := ⟨fun pos pins s σ H Q I q => h.run pos pins s σ H Q I (i σ H Q q)⟩
theorem pkr_0 : PKr X [] aNil := ⟨pk_nil.of fun σ H Q q => by
  obtain ⟨B, ρ, own, as, ρ', hB, es, e, k⟩ := q
  cases e
  exact k [] H own .refl es trivial⟩
theorem pkr_c {e : Expr} {kws : List Keyword} {m : MO} {ms : MA} {nm : Option Str} {kpos : Pos} (h : PO X e m) (hr : PKr X kws ms) : PKr X (⟨nm, e, kpos⟩ :: kws) (aCons m ms) := ⟨(pk_cons h.pe hr.pk).of fun σ H Q q => by
  obtain ⟨B, ρ, own, as, ρ', hB, es, e, k⟩ := q
  obtain ⟨⟨a, ρ1⟩, e1, e2⟩ := Option.bind_eq_some_iff.mp (show (m ρ).bind _ = some (as, ρ') from e)
  obtain ⟨⟨as2, ρ2⟩, e3, e4⟩ := Option.map_eq_some_iff.mp e2
  cases e4
  refine ⟨B, ρ, own, a, ρ1, hB, es, e1, fun v H1 own1 st1 es1 r1 => ?_⟩
  refine ⟨B + 1, ρ1, own1, as2, _, Nat.le_succ_of_le hB, es1, e3, fun vs H2 own2 st2 es2 r2 => ?_⟩
  exact k (v :: vs) H2 own2 (st1.trans (st2.down (Nat.le_succ B))) es2 ⟨argStep st2 hB (Nat.lt_succ_self B) r1, r2⟩⟩
def valsZ (ds : List D) : List Arg := ds.map fun d => .val (.z d)
/-- g: positional values and keyword values in the parameters' order -/
def mCallK (m : MD) (ms : List Bool) (g : List D → List D → List D) (ma mk : MA) : ME := fun ρ => (ma ρ).bind fun p => (zs p.1).bind fun ds => (mk p.2).bind fun q => (zs q.1).bind fun es => callM m ms q.2 (valsZ (g ds es))
theorem tE_callK {K : Fr} {g : List D → List D → List D} {gV : List V → List V → List V} (hg : ∀ {H vs us ds es}, FzA K H vs ds → FzA K H us es → FzA K H (gV vs us) (g ds es)) (hl : MD.Len m) {σ : St} {H : Hp} {Q : VK} (q : tE K (mCallK m ms g ma mk) σ H Q) : tA K ma σ H fun vs H1 => tA K mk σ H1 fun us H2 => spD K m (gV vs us) H2 Q E0 := by
  obtain ⟨B, ρ, own, t, ρ', hB, es, e, k⟩ := q
  obtain ⟨⟨as, ρ1⟩, e1, e2⟩ := Option.bind_eq_some_iff.mp (show (ma ρ).bind _ = some (t, ρ') from e)
  obtain ⟨ds, e3, e4⟩ := Option.bind_eq_some_iff.mp e2
  obtain ⟨⟨bs, ρ2⟩, e5, e6⟩ := Option.bind_eq_some_iff.mp e4
  obtain ⟨es', e7, e8⟩ := Option.bind_eq_some_iff.mp e6
  refine ⟨B, ρ, own, as, ρ1, hB, es, e1, fun vs H1 own1 st1 es1 r1 => ?_⟩
  have f1 := zs_fz r1 e3
  refine ⟨B, ρ1, own1, bs, ρ2, hB, es1, e5, fun us H2 own2 st2 es2 r2 => ?_⟩
  have f2 := zs_fz r2 e7
  exact spD_of hB es2 (argsRep_zl (hg (f1.mono st2.pk) f2)) e8 hl fun v H3 own3 st3 es3 r3 => k v H3 own3 ((st1.trans st2).trans st3) es3 r3
variable {ks : List Str} {kws : List Keyword} {g : List Value → List Value → List Value} {gV : List V → List V → List V} {gD : List D → List D → List D}
theorem runK {pins : List (Addr × Obj)} {σ : St} {H : Hp} {s : Shared} {Q : VK} {us ws : List Value} {vs zs : List V} (F : FnG X.prog X.w X.K X.mg X.base CX0 k f fd ps (spD X.K m)) (hr : RoomG k X.A) (hb : KBinds X.K fd ps ks g gV) (I : Inv X pins σ H s) (r : Vals vs us) (rz : Vals zs ws) (h : spD X.K m (gV vs zs) H Q E0) :
    wpAny (model X.prog X.w) X.A (PySem.call (.ref f) us (ks.zip ws)) (EP X pins σ Q) X.xe s := by
  have r2 := hb.rel r rz
  have hlen : (g us ws).length = ps.length := by rw [← r2.length]; exact F.len _ _ _ _ h
  exact runG (args := ⟨us, ks.zip ws⟩) F hr pass0 I (hb.to s us ws I.kIn hlen) r2 h
theorem px_callK (F : FnG X.prog X.w X.K X.mg X.base CX0 k f fd ps (spD X.K m)) (hl : MD.Len m) (hr : RoomG k X.A) (hg : Gl X x) (hm : X.mg x = some (.ref f)) (hk : PySem.W.keepIn X.K (.ref f) = true) (hb : KBinds X.K fd ps ks g gV)
    (hgD : ∀ {H vs us ds es}, FzA X.K H vs ds → FzA X.K H us es → FzA X.K H (gV vs us) (gD ds es)) (ha : PAr X (e :: es) ma) (hkw : PKr X kws mk) (hall : (backToKw pos (keywordEach kws X.env)).all (·.1.isSome) = true := by rfl) (hks : (backToKw pos (keywordEach kws X.env)).filterMap (·.1) = ks := by rfl)
    (hdb : (x == ("__debug__" : Str)) = false := by decide) (he : starEach (e :: es) X.env = (false, eval e X.env) :: starEach es X.env := by rfl)
    (hpl : ((backTo pos (starEach (e :: es) X.env)).any (·.1) || (backToKw pos (keywordEach kws X.env)).any (·.1.isNone)) = false := by rfl) :
    PX X (.Call (.Name x p) (e :: es) kws pos) (mCallK m ms gD ma mk) := by
  refine ⟨⟨fun pins s σ H Q I q => ?_⟩⟩
  refine wpAny_Call_Name_kw (ld_glob I hg hm ?_ hdb)
  refine PySem.W.callWith_KW (h₀ := X.base) I.ok.mod.kin hk hall (thn (ha.pa.run pos pins s σ H _ I (tE_callK (gV := gV) hgD hl q)) fun us s1 ⟨vs, H1, I1, r, q1⟩ => ?_) hpl he
  refine thn (hkw.pk.run pos pins s1 σ H1 _ I1 q1) fun ws s2 ⟨zs, H2, I2, rz, q2⟩ => ⟨I2.kIn, ?_⟩
  rw [hks]
  exact runK F hr hb I2 r rz q2
theorem px_callK0 (F : FnG X.prog X.w X.K X.mg X.base CX0 k f fd ps (spD X.K m)) (hl : MD.Len m) (hr : RoomG k X.A) (hg : Gl X x) (hm : X.mg x = some (.ref f)) (hk : PySem.W.keepIn X.K (.ref f) = true) (hb : KBinds X.K fd ps ks g gV)
    (hgD : ∀ {H vs us ds es}, FzA X.K H vs ds → FzA X.K H us es → FzA X.K H (gV vs us) (gD ds es)) (hkw : PKr X kws mk) (hall : (backToKw pos (keywordEach kws X.env)).all (·.1.isSome) = true := by rfl) (hks : (backToKw pos (keywordEach kws X.env)).filterMap (·.1) = ks := by rfl)
    (hdb : (x == ("__debug__" : Str)) = false := by decide) (hpl : ((backTo pos (starEach [] X.env)).any (·.1) || (backToKw pos (keywordEach kws X.env)).any (·.1.isNone)) = false := by rfl) :
    PX X (.Call (.Name x p) [] kws pos) (mCallK m ms gD aNil mk) := by
  refine ⟨⟨fun pins s σ H Q I q => ?_⟩⟩
  refine wpAny_Call_Name_kw (ld_glob I hg hm ?_ hdb)
  have z : tA X.K mk σ H fun us H2 => spD X.K m (gV [] us) H2 Q E0 := by
    obtain ⟨B, ρ, own, as, ρ', hB, es, e, k⟩ := tE_callK (gV := gV) hgD hl q
    cases e
    exact k [] H own .refl es trivial
  refine PySem.W.callWith_KW0 (h₀ := X.base) I.ok.mod.kin hk hall (thn (hkw.pk.run pos pins s σ H _ I z) fun ws s2 ⟨zs, H2, I2, rz, q2⟩ => ⟨I2.kIn, ?_⟩) hpl
  rw [hks]
  exact runK F hr hb I2 .nil rz q2
end
end VL

set_option Elab.async false
set_option linter.all false
set_option maxRecDepth 100000
set_option maxHeartbeats 4000000
namespace VL
open PySem PySem.Spec PyProof.Rows L2

abbrev bo (b : Bool) : Option T := some (.z (.bool b))
abbrev io (i : Int) : Option T := some (.z (.int i))
def isNon : D → Bool
  | .none => true
  | _ => false
theorem isNon_ne {d : D} (h : isNon d = false) : d ≠ .none := fun e => by subst e; cases h
/-! ### + - * // % ** -/
def gAdd : D → D → Option T
  | .int i, .int j => io (i + j)
  | .tuple a, .tuple b => if a.length + b.length ≤ 100000 then some (.z (.tuple (a ++ b))) else none
  | .list a, .list b => if a.length + b.length ≤ 100000 then some (.l (a ++ b)) else none
  | _, _ => none
def gSub : D → D → Option T
  | .int i, .int j => io (i - j)
  | .bool a, .bool b => io ((if a then 1 else 0) - (if b then 1 else 0))
  | _, _ => none
def gMul : D → D → Option T
  | .int i, .int j => if i.natAbs < 2 ^ 64 ∨ j.natAbs < 2 ^ 64 ∨ i.natAbs.log2 + j.natAbs.log2 < 1000000 then io (i * j) else none
  | .tuple a, .int k => if a ≠ [] ∧ 1 ≤ k ∧ k ≤ 1000 ∧ a.length ≤ 1000 then some (.z (.tuple (List.replicate k.toNat a).flatten)) else none
  | .list a, .int k => if 0 ≤ k ∧ k ≤ 1000 ∧ a.length ≤ 1000 then some (.l (List.replicate k.toNat a).flatten) else none
  | _, _ => none
def gFdiv : D → D → Option T
  | .int i, .int j => if j ≠ 0 ∧ (j.natAbs < 1073741824 ∨ j.natAbs.log2 < 9000) then io (i.fdiv j) else none
  | _, _ => none
def gMod : D → D → Option T
  | .int i, .int j => if j ≠ 0 then io (i.fmod j) else none
  | _, _ => none
def gPow : D → D → Option T
  | .int i, .int j => if 0 ≤ j ∧ j ≤ 1000000 ∧ i.natAbs < 2 ^ 64 then io (i ^ j.toNat) else none
  | _, _ => none
def gNeg : D → Option T
  | .int i => io (-i)
  | _ => none
def gLt : D → D → Option T
  | .int i, .int j => bo (decide (i < j))
  | d, e => if PySem.W.alike d e = true ∧ isNon d = false ∧ min d.depth e.depth ≤ 60 then bo (PySem.W.dataLt d e) else none
def gGt : D → D → Option T
  | .int i, .int j => bo (decide (j < i))
  | d, e => if PySem.W.alike d e = true ∧ isNon d = false ∧ min d.depth e.depth ≤ 60 then bo (PySem.W.dataLt e d) else none
def gLe : D → D → Option T
  | .int i, .int j => bo (decide (i ≤ j))
  | _, _ => none
def gGe : D → D → Option T
  | .int i, .int j => bo (decide (j ≤ i))
  | _, _ => none
def gEq : D → D → Option T
  | .int i, .int j => bo (decide (i = j))
  | .str a, .str b => bo (a == b)
  | d, e => if SeqAt.shaped d = true ∧ SeqAt.shaped e = true then bo (PyData.eqv d e) else none
def gNe : D → D → Option T
  | .int i, .int j => bo (!decide (i = j))
  | .str a, .str b => bo (!(a == b))
  | d, e => if SeqAt.shaped d = true ∧ SeqAt.shaped e = true then bo (!PyData.eqv d e) else none
def gIs : D → D → Option T
  | d, .none => bo (isNon d)
  | .bool a, .bool b => bo (decide (a = b))
  | _, _ => none
def gIsN : D → D → Option T
  | d, .none => bo (!isNon d)
  | .bool a, .bool b => bo (!decide (a = b))
  | _, _ => none
section
variable {X : Cx} {K : Fr} {H : Hp}
theorem k_int {i : Int} {Q : VK} (k : ∀ v H', Fresh K H H' v (.z (.int i)) → Q v H') : Q (.int i) H := k _ _ (.z (.int i))
theorem k_bl {i : Bool} {Q : VK} (k : ∀ v H', Fresh K H H' v (.z (.bool i)) → Q v H') : Q (.bl i) H := k _ _ (.z (.bl i))
theorem lim {n : Nat} (h : n ≤ 100000) : n ≤ sizeLine := Nat.le_trans h (by decide)
theorem ite_some' {α : Type} {p : Prop} [Decidable p] {a b : α} (h : (if p then some a else none) = some b) : p ∧ a = b := by
  by_cases hp : p
  · rw [if_pos hp] at h; exact ⟨hp, Option.some.inj h⟩
  · rw [if_neg hp] at h; cases h
/-- list + list, any kind -/
theorem op_catL : OpR X (binaryOp .Add) (fun x y H Q => ∃ l b xs zs, x = .ref l ∧ y = .ref b ∧ SqL X.K H l xs ∧ SqL X.K H b zs ∧ xs.length + zs.length ≤ sizeLine ∧ ∀ p, H p = none → Q (.ref p) (upd H p (.lst (xs ++ zs)))) := by
  intro pins s σ H x y v u Q I rx ry h
  obtain ⟨l, b, xs, zs, rfl, rfl, ha, hb, hz, q⟩ := h
  cases rx
  cases ry
  obtain ⟨its, r, pl, hz1⟩ := I.list ha
  obtain ⟨its2, r2, pl2, hz2⟩ := I.list hb
  obtain ⟨⟨cls, dd, data, sl⟩, ho, hc, n, hd⟩ := pl.isList
  obtain ⟨⟨cls2, dd2, data2, sl2⟩, ho2, hc2, n2, hd2⟩ := pl2.isList
  simp only at hc hd hc2 hd2
  subst hc hd hc2 hd2
  have e1 := r.length
  have e2 := r2.length
  refine concat_meets ⟨_, ho, rfl⟩ ⟨_, ho2, rfl⟩ noFill_list_add seq_list_add PySem.F.slot_list_add PySem.F.entry_list_add (PySem.F.args_list_add_2 _ _) (list_addW l b its.toArray its2.toArray n n2 dd dd2 sl sl2 (by simp only [List.size_toArray]; omega)) ⟨ho, ho2, ?_⟩
  refine ⟨.ref s.heap.objs.size, _, I.laid (t' := s.toks) (o := .lst (xs ++ zs)) (fun b ob q => Heap.get?_push_of_some _ q) (Nat.le_refl _) ?_, rfl, q _ (I.hok.fresh (Nat.le_refl _))⟩
  exact ⟨by rw [List.length_append]; exact hz, its ++ its2, 0, r.append r2, by rw [Heap.get?_push_size _ rfl]; simp⟩
theorem od_add : OpD X (binaryOp .Add) gAdd := by
  intro pins s σ H x y v u Q I rx ry ⟨d, e, t, r1, r2, e1, k⟩
  unfold gAdd at e1
  split at e1
  · cases e1
    cases r1.int; cases r2.int
    exact op_add pins s σ H _ _ v u Q I rx ry ⟨_, _, rfl, rfl, k_int k⟩
  · obtain ⟨hl, rfl⟩ := ite_some' e1
    obtain ⟨a, xs, rfl, q1, f1⟩ := r1.tuple
    obtain ⟨b, ys, rfl, q2, f2⟩ := r2.tuple
    have l1 := f1.length
    have l2 := f2.length
    refine op_catA pins s σ H _ _ v u Q I rx ry ⟨a, b, xs, ys, rfl, rfl, q1, q2, by rw [l1, l2]; exact lim hl, fun h => ?_, fun _ h => ?_, fun _ _ p hp => ?_⟩
    · subst h
      cases f1
      exact k _ _ ⟨fun _ _ h => h, Fz.tup q2 f2⟩
    · subst h
      cases f2
      rw [List.append_nil] at k
      exact k _ _ ⟨fun _ _ h => h, Fz.tup q1 f1⟩
    · exact k _ _ (.tup hp (f1.append f2))
  · obtain ⟨hl, rfl⟩ := ite_some' e1
    obtain ⟨a, xs, rfl, q1, f1⟩ := r1.list
    obtain ⟨b, ys, rfl, q2, f2⟩ := r2.list
    exact op_catL pins s σ H _ _ v u Q I rx ry ⟨a, b, xs, ys, rfl, rfl, q1, q2, by rw [f1.length, f2.length]; exact lim hl, fun p hp => k _ _ (.lst hp (f1.append f2))⟩
  · cases e1
theorem od_sub : OpD X (binaryOp .Sub) gSub := by
  intro pins s σ H x y v u Q I rx ry ⟨d, e, t, r1, r2, e1, k⟩
  unfold gSub at e1
  split at e1
  · cases e1
    cases r1.int; cases r2.int
    exact op_sub pins s σ H _ _ v u Q I rx ry ⟨_, _, rfl, rfl, k_int k⟩
  · cases e1
    cases r1.bl; cases r2.bl
    obtain rfl := rx
    obtain rfl := ry
    exact PyProof.Rows.sub_bool ⟨.int _, H, I.tok _, ⟨_, rfl⟩, k_int k⟩
  · cases e1
theorem od_mod : OpD X (binaryOp .Mod) gMod := by
  intro pins s σ H x y v u Q I rx ry ⟨d, e, t, r1, r2, e1, k⟩
  unfold gMod at e1
  split at e1
  · obtain ⟨hl, rfl⟩ := ite_some' e1
    cases r1.int; cases r2.int
    exact op_modN pins s σ H _ _ v u Q I rx ry ⟨_, _, rfl, rfl, hl, k_int k⟩
  · cases e1
def CDivNW (_ j : Int) : Prop := j ≠ 0 ∧ j.natAbs.log2 < 9000
theorem op_fdivNW : OpR X (binaryOp .FloorDiv) (rI CDivNW fun i j => .int (i.fdiv j)) := opI fun _ _ _ _ _ _ _ hc q => floordiv_int hc.1 q (.inl (PyProof.noPylong_of_log2 hc.2))
theorem od_fdiv : OpD X (binaryOp .FloorDiv) gFdiv := by
  intro pins s σ H x y v u Q I rx ry ⟨d, e, t, r1, r2, e1, k⟩
  unfold gFdiv at e1
  split at e1
  · obtain ⟨hl, rfl⟩ := ite_some' e1
    cases r1.int; cases r2.int
    rcases hl.2 with h2 | h2
    · exact op_fdivN pins s σ H _ _ v u Q I rx ry ⟨_, _, rfl, rfl, ⟨hl.1, h2⟩, k_int k⟩
    · exact op_fdivNW pins s σ H _ _ v u Q I rx ry ⟨_, _, rfl, rfl, ⟨hl.1, h2⟩, k_int k⟩
  · cases e1
theorem od_pow : OpD X (binaryOp .Pow) gPow := by
  intro pins s σ H x y v u Q I rx ry ⟨d, e, t, r1, r2, e1, k⟩
  unfold gPow at e1
  split at e1
  · obtain ⟨hl, rfl⟩ := ite_some' e1
    cases r1.int; cases r2.int
    exact op_pow pins s σ H _ _ v u Q I rx ry ⟨_, _, rfl, rfl, hl, k_int k⟩
  · cases e1
theorem ud_neg : UnD X (unaryOp .USub) gNeg := by
  intro pins s σ H x v Q I rx ⟨d, t, r1, e1, k⟩
  unfold gNeg at e1
  split at e1
  · cases e1
    cases r1.int
    exact un_neg pins s σ H _ v Q I rx ⟨_, rfl, k_int k⟩
  · cases e1
theorem od_lt (hu : X.A.units + 65 < cLine) : OpD X (compareOp .Lt) gLt := by
  intro pins s σ H x y v u Q I rx ry ⟨d, e, t, r1, r2, e1, k⟩
  unfold gLt at e1
  split at e1
  · cases e1
    cases r1.int; cases r2.int
    exact op_lt pins s σ H _ _ v u Q I rx ry ⟨_, _, rfl, rfl, k_bl k⟩
  · obtain ⟨⟨h1, h2, h3⟩, rfl⟩ := ite_some' e1
    obtain ⟨as, q1⟩ := Dp.reads I _ _ _ r1.dp rx
    obtain ⟨bs, q2⟩ := Dp.reads I _ _ _ r2.dp ry
    exact PySem.W.lt_data q1 q2 h1 (isNon_ne h2) (by omega) ⟨.bl _, H, I, rfl, k_bl k⟩
theorem od_gt (hu : X.A.units + 65 < cLine) : OpD X (compareOp .Gt) gGt := by
  intro pins s σ H x y v u Q I rx ry ⟨d, e, t, r1, r2, e1, k⟩
  unfold gGt at e1
  split at e1
  · cases e1
    cases r1.int; cases r2.int
    exact op_gt pins s σ H _ _ v u Q I rx ry ⟨_, _, rfl, rfl, k_bl k⟩
  · obtain ⟨⟨h1, h2, h3⟩, rfl⟩ := ite_some' e1
    obtain ⟨as, q1⟩ := Dp.reads I _ _ _ r1.dp rx
    obtain ⟨bs, q2⟩ := Dp.reads I _ _ _ r2.dp ry
    exact PySem.W.gt_data q1 q2 h1 (isNon_ne h2) (by omega) ⟨.bl _, H, I, rfl, k_bl k⟩
theorem od_le : OpD X (compareOp .LtE) gLe := by
  intro pins s σ H x y v u Q I rx ry ⟨d, e, t, r1, r2, e1, k⟩
  unfold gLe at e1
  split at e1
  · cases e1
    cases r1.int; cases r2.int
    exact op_le pins s σ H _ _ v u Q I rx ry ⟨_, _, rfl, rfl, k_bl k⟩
  · cases e1
theorem od_ge : OpD X (compareOp .GtE) gGe := by
  intro pins s σ H x y v u Q I rx ry ⟨d, e, t, r1, r2, e1, k⟩
  unfold gGe at e1
  split at e1
  · cases e1
    cases r1.int; cases r2.int
    exact op_ge pins s σ H _ _ v u Q I rx ry ⟨_, _, rfl, rfl, k_bl k⟩
  · cases e1
theorem od_eq (hu : X.A.units + 64 < cLine) : OpD X (compareOp .Eq) gEq := by
  intro pins s σ H x y v u Q I rx ry ⟨d, e, t, r1, r2, e1, k⟩
  unfold gEq at e1
  split at e1
  · cases e1
    cases r1.int; cases r2.int
    refine op_eq pins s σ H _ _ v u Q I rx ry ⟨rfl, ?_⟩
    rw [dec_int]
    exact k_bl k
  · cases e1
    cases r1.str; cases r2.str
    refine op_eq pins s σ H _ _ v u Q I rx ry ⟨rfl, ?_⟩
    rw [dec_str]
    exact k_bl k
  · obtain ⟨⟨h1, h2⟩, rfl⟩ := ite_some' e1
    exact op_eqD hu pins s σ H _ _ v u Q I rx ry ⟨_, _, r1.dp, r2.dp, h1, h2, k_bl k⟩
theorem od_ne (hu : X.A.units + 64 < cLine) : OpD X (compareOp .NotEq) gNe := by
  intro pins s σ H x y v u Q I rx ry ⟨d, e, t, r1, r2, e1, k⟩
  unfold gNe at e1
  split at e1
  · cases e1
    cases r1.int; cases r2.int
    refine op_ne pins s σ H _ _ v u Q I rx ry ⟨rfl, ?_⟩
    rw [dec_int]
    exact k_bl k
  · cases e1
    cases r1.str; cases r2.str
    refine op_ne pins s σ H _ _ v u Q I rx ry ⟨rfl, ?_⟩
    rw [dec_str]
    exact k_bl k
  · obtain ⟨⟨h1, h2⟩, rfl⟩ := ite_some' e1
    exact op_neD hu pins s σ H _ _ v u Q I rx ry ⟨_, _, r1.dp, r2.dp, h1, h2, k_bl k⟩
theorem nonD {d : D} {x : V} (r : Rp K H x d) : decide (x = .non) = isNon d := by
  cases d with
  | none => rw [r.non]; rfl
  | bool b => rw [r.bl]; rfl
  | int b => rw [r.int]; rfl
  | str b => rw [r.str]; rfl
  | list b => obtain ⟨_, _, rfl, _⟩ := r.list; rfl
  | tuple b => obtain ⟨_, _, rfl, _⟩ := r.tuple; rfl
  | dict b =>
    rcases r with h | ⟨_, _, _, _, e, _⟩
    · cases h
    · cases e
theorem od_is : OpD X (compareOp .Is) gIs := by
  intro pins s σ H x y v u Q I rx ry ⟨d, e, t, r1, r2, e1, k⟩
  unfold gIs at e1
  split at e1
  · cases e1
    cases r2.non
    refine op_isN pins s σ H _ _ v u Q I rx ry ⟨rfl, ?_⟩
    rw [nonD r1]
    exact k_bl k
  · cases e1
    cases r1.bl; cases r2.bl
    exact op_is_bl pins s σ H _ _ v u Q I rx ry ⟨_, _, rfl, rfl, k_bl k⟩
  · cases e1
theorem od_isn : OpD X (compareOp .IsNot) gIsN := by
  intro pins s σ H x y v u Q I rx ry ⟨d, e, t, r1, r2, e1, k⟩
  unfold gIsN at e1
  split at e1
  · cases e1
    cases r2.non
    refine op_notN pins s σ H _ _ v u Q I rx ry ⟨rfl, ?_⟩
    rw [nonD r1]
    exact k_bl k
  · cases e1
    cases r1.bl; cases r2.bl
    exact op_isnot_bl pins s σ H _ _ v u Q I rx ry ⟨_, _, rfl, rfl, k_bl k⟩
  · cases e1
end
end VL

set_option Elab.async false
set_option linter.all false
set_option maxRecDepth 100000
set_option maxHeartbeats 4000000
namespace VL
open PySem PySem.Spec PyProof.Rows L2
/-! ### tuple * 1, list * int of any kind -/
theorem tuple_mul1 (l : Addr) (items : Array Value) (n : Nat) (dd : Option Addr) (sl : Array (Option Value)) (u : Tok) (hne : items.isEmpty = false) :
    Meets (Builtin.«tuple.__mul__» ⟨[.ref l, .int 1 u], []⟩) (fun _ R s => s.heap.get? l = some { cls := .type "tuple", dict := dd, data := .seq items n, slots := sl } ∧
      R (.ok (.ret (Value.ref l))) { s with heap := s.heap, toks := s.toks }) :=
  .of_wp fun prog w A R s h => by
    obtain ⟨hp, g, d, tk, os⟩ := s
    obtain ⟨hl, h⟩ := h
    have f1 := AutoSeq1.idx_int
    wp_walk using wpAny_loadPart' hl
    exact ⟨_, rfl, h⟩
theorem list_mulW (l : Addr) (items : Array Value) (n : Nat) (dd : Option Addr) (sl : Array (Option Value)) (x : Int) (u : Tok) (hfit : ¬(!Builtin.List.listFitsIndex x) = true) (hcap : ¬items.size * x.toNat > (2 ^ 63 - 1) / 8)
    (hlong : ¬Builtin.List.listTooLong (items.size * x.toNat) = true) (hsz : (List.foldl (fun x1 x2 => x1 ++ x2) #[] (List.replicate (if items.isEmpty = true then 0 else x.toNat) items)).size ≤ sizeLine) :
    Meets (Builtin.«list.__mul__» ⟨[.ref l, .int x u], []⟩) (fun _ R s => s.heap.get? l = some { cls := .type "list", dict := dd, data := .seq items n, slots := sl } ∧
      R (.ok (.ret (Value.ref s.heap.objs.size))) { s with heap := s.heap.push { cls := Value.type "list", data := Data.seq (List.foldl (fun x1 x2 => x1 ++ x2) #[] (List.replicate (if items.isEmpty = true then 0 else x.toNat) items)) }, toks := s.toks }) :=
  .of_wp fun prog w A R s h => by
    obtain ⟨hp, g, d, tk, os⟩ := s
    obtain ⟨hl, h⟩ := h
    have f1 := AutoSeq1.idx_int
    wp_walk using wpAny_loadPart' hl
    refine wpAny_ite_false (decide_eq_false (Nat.not_lt.mpr hsz)) ?_
    wp_walk using wpAny_loadPart' hl
    exact ⟨_, rfl, h⟩
theorem int_rmul_list (a : Int) (t : Tok) (l : Addr) (items : Array Value) (n : Nat) (dd : Option Addr) (sl : Array (Option Value)) :
    Meets (Builtin.«int.__rmul__» ⟨[.int a t, .ref l], []⟩) (fun _ R s => s.heap.get? l = some { cls := .type "list", dict := dd, data := .seq items n, slots := sl } ∧ R (.ok (.ret Value.notImplemented)) s) :=
  .of_wp fun prog w A R s h => by obtain ⟨hp, g, d, tk, os⟩ := s; obtain ⟨hl, h⟩ := h; wp_walk using wpAny_loadPart' hl; exact ⟨_, rfl, h⟩
section
variable {X : Cx}
theorem op_repT1 : OpR X (binaryOp .Mult) (fun x y H Q => ∃ l xs, x = .ref l ∧ y = .int 1 ∧ SqT X.K H l xs ∧ xs ≠ [] ∧ Q (.ref l) H) := by
  intro pins s σ H x y v u Q I rx ry h
  obtain ⟨l, xs, rfl, rfl, hT, hne, q⟩ := h
  cases rx
  obtain ⟨t, rfl⟩ := ry
  obtain ⟨its, r, ⟨⟨cls, dd, data, sl⟩, ho, hc, n, hd⟩, hs⟩ := I.tuple hT
  simp only at hc hd
  subst hc hd
  have hle : its.length = xs.length := r.length.symm
  have hi : its.toArray.isEmpty = false := by
    cases its with
    | nil => exact absurd (List.eq_nil_of_length_eq_zero hle.symm) hne
    | cons a b => rfl
  exact wpAny_binaryOp_repeat_ref (T := "tuple") (U := "int") (by decide) ⟨_, ho, rfl⟩ (fun s' => typeIs_int s' 1 t) noFill_tuple_mul F.fills_int_mul F.slot_int_rmul repeat_tuple F.slot_int_index.lookup
    (call_meets F.slot_int_rmul (typeIs_int s 1 t) F.entry_int_rmul (F.args_int_rmul_2 _ _) (int_rmul_tuple 1 t l its.toArray n dd sl)
      ⟨ho, rfl, ⟨_, ho, rfl⟩, call_meets F.slot_tuple_mul ⟨_, ho, rfl⟩ F.entry_tuple_mul (F.args_tuple_mul_2 _ _) (tuple_mul1 l its.toArray n dd sl t hi) ⟨ho, ⟨.ref l, H, I, rfl, q⟩⟩⟩)
theorem op_repL : OpR X (binaryOp .Mult) (fun x y H Q => ∃ l k xs, x = .ref l ∧ y = .int k ∧ SqL X.K H l xs ∧ 0 ≤ k ∧ k ≤ 1000 ∧ xs.length ≤ 1000 ∧ ∀ p, H p = none → Q (.ref p) (upd H p (.lst (List.replicate k.toNat xs).flatten))) := by
  intro pins s σ H x y v u Q I rx ry h
  obtain ⟨l, k, xs, rfl, rfl, hH, h1, h2, hz, q⟩ := h
  cases rx
  obtain ⟨t, rfl⟩ := ry
  obtain ⟨its, r, pl, hs⟩ := I.list hH
  obtain ⟨⟨cls, dd, data, sl⟩, ho, hc, n, hd⟩ := pl.isList
  simp only at hc hd
  subst hc hd
  have hlen0 : its.length = xs.length := r.length.symm
  have hmul : its.length * k.toNat ≤ 1000 * 1000 := Nat.mul_le_mul (by omega) (by omega)
  have hlen : its.toArray.size * k.toNat ≤ sizeLine := by rw [List.size_toArray, sizeLine_eq]; omega
  have hcap : ¬ its.toArray.size * k.toNat > (2 ^ 63 - 1) / 8 := by rw [List.size_toArray]; omega
  have hfit : ¬ (!Builtin.List.listFitsIndex k) = true := by
    rw [fitsIndex_both (by omega) (by omega)]
    exact Bool.false_ne_true
  have hlong : ¬ Builtin.List.listTooLong (its.toArray.size * k.toNat) = true := by
    rw [notLongL hlen]
    exact Bool.false_ne_true
  have hnew : List.foldl (fun x1 x2 => x1 ++ x2) #[] (List.replicate (if its.toArray.isEmpty = true then 0 else k.toNat) its.toArray) = (List.replicate k.toNat its).flatten.toArray := by
    have f0 : ∀ m : Nat, List.foldl (fun x1 x2 => x1 ++ x2) #[] (List.replicate m its.toArray) = (List.replicate m its).flatten.toArray := fun m => by
      have := foldl_rep its m []
      rw [List.nil_append] at this
      exact this
    rw [f0]
    cases its with
    | nil => simp
    | cons a r' => rw [if_neg (by simp)]
  have flen : (List.replicate k.toNat its).flatten.length ≤ sizeLine := by
    rw [PyProof.Rows.lm_len_rep_flat, Nat.mul_comm, sizeLine_eq]; omega
  refine wpAny_binaryOp_repeat_ref (T := "list") (U := "int") (by decide) ⟨_, ho, rfl⟩ (fun s' => typeIs_int s' k t) noFill_list_mul F.fills_int_mul F.slot_int_rmul repeat_list F.slot_int_index.lookup
    (call_meets F.slot_int_rmul (typeIs_int s k t) F.entry_int_rmul (F.args_int_rmul_2 _ _) (int_rmul_list k t l its.toArray n dd sl)
      ⟨ho, rfl, ⟨_, ho, rfl⟩, call_meets F.slot_list_mul ⟨_, ho, rfl⟩ F.entry_list_mul (F.args_list_mul_2 _ _) (list_mulW l its.toArray n dd sl k t hfit hcap hlong (by rw [hnew, List.size_toArray]; exact flen)) ⟨ho, ?_⟩⟩)
  rw [hnew]
  refine ⟨.ref s.heap.objs.size, _, I.laid (t' := s.toks) (o := .lst (List.replicate k.toNat xs).flatten) (fun b ob q => Heap.get?_push_of_some _ q) (Nat.le_refl _) ?_, rfl, q _ (I.hok.fresh (Nat.le_refl _))⟩
  exact ⟨by rw [PyProof.Rows.lm_len_rep_flat, ← hlen0, Nat.mul_comm, sizeLine_eq]; omega, _, 0, r.rep k.toNat, by rw [Heap.get?_push_size _ rfl]⟩
theorem FzA.rep {K : Fr} {H : Hp} {xs : List V} {ds : List D} (f : FzA K H xs ds) : ∀ n : Nat, FzA K H (List.replicate n xs).flatten (List.replicate n ds).flatten
  | 0 => .nil
  | n + 1 => by
    rw [List.replicate_succ, List.replicate_succ, List.flatten_cons, List.flatten_cons]
    exact f.append (FzA.rep f n)
theorem od_mul : OpD X (binaryOp .Mult) gMul := by
  intro pins s σ H x y v u Q I rx ry ⟨d, e, t, r1, r2, e1, k⟩
  unfold gMul at e1
  split at e1
  · obtain ⟨hl, rfl⟩ := ite_some' e1
    cases r1.int; cases r2.int
    rename_i i j
    by_cases h3 : CMulW i j
    · exact op_mulW pins s σ H _ _ v u Q I rx ry ⟨_, _, rfl, rfl, h3, k_int k⟩
    · exact op_mul pins s σ H _ _ v u Q I rx ry ⟨_, _, rfl, rfl, by unfold CMulW at h3; unfold CMul; omega, k_int k⟩
  · obtain ⟨⟨h0, h1, h2, h3⟩, rfl⟩ := ite_some' e1
    obtain ⟨a, xs, rfl, q1, f1⟩ := r1.tuple
    cases r2.int
    have l1 := f1.length
    have hne : xs ≠ [] := fun z => by subst z; cases f1; exact h0 rfl
    rename_i kk
    by_cases hk : kk = 1
    · subst hk
      have e : ∀ l : List D, (List.replicate (1 : Int).toNat l).flatten = l := fun l => by
        show (List.replicate 1 l).flatten = _
        rw [List.replicate_succ, List.flatten_cons]
        exact List.append_nil _
      rw [e] at k
      exact op_repT1 pins s σ H _ _ v u Q I rx ry ⟨a, xs, rfl, rfl, q1, hne, k _ _ ⟨fun _ _ h => h, Fz.tup q1 f1⟩⟩
    · exact op_repT pins s σ H _ _ v u Q I rx ry ⟨a, kk, xs, rfl, rfl, q1, hne, by omega, h2, by omega, fun p hp => k _ _ (.tup hp (f1.rep _))⟩
  · obtain ⟨⟨h1, h2, h3⟩, rfl⟩ := ite_some' e1
    obtain ⟨a, xs, rfl, q1, f1⟩ := r1.list
    cases r2.int
    exact op_repL pins s σ H _ _ v u Q I rx ry ⟨a, _, xs, rfl, rfl, q1, h1, h2, by rw [f1.length]; exact h3, fun p hp => k _ _ (.lst hp (f1.rep _))⟩
  · cases e1
end

/-! ### calls of built-in functions and types -/
def gLen : List D → Option T
  | [.list a] => io a.length
  | [.tuple a] => io a.length
  | [.str a] => if a.length ≤ sizeLine then io a.length else none
  | _ => none
def gTup : List D → Option T
  | [.list a] => some (.z (.tuple a))
  | [.tuple a] => some (.z (.tuple a))
  | _ => none
def gLst : List D → Option T
  | [.list a] => some (.l a)
  | [.tuple a] => some (.l a)
  | _ => none
def ints? : List D → Option (List Int)
  | [] => some []
  | .int i :: ds => (ints? ds).map fun l => i :: l
  | _ :: _ => none
def bools? : List D → Option (List Bool)
  | [] => some []
  | .bool i :: ds => (bools? ds).map fun l => i :: l
  | _ :: _ => none
theorem ints?_fz {K : Fr} {H : Hp} : ∀ {ds : List D} {ns : List Int} {xs : List V}, ints? ds = some ns → FzA K H xs ds → xs = ns.map V.int
  | [], _, _, e, f => by cases e; cases f; rfl
  | .int i :: ds, ns, _, e, f => by
    obtain ⟨l, e1, rfl⟩ := Option.map_eq_some_iff.mp (show (ints? ds).map _ = some ns from e)
    cases f with
    | cons a b => cases a; rw [ints?_fz e1 b]; rfl
  | .none :: _, _, _, e, _ => by cases e
  | .bool _ :: _, _, _, e, _ => by cases e
  | .str _ :: _, _, _, e, _ => by cases e
  | .list _ :: _, _, _, e, _ => by cases e
  | .tuple _ :: _, _, _, e, _ => by cases e
  | .dict _ :: _, _, _, e, _ => by cases e
theorem bools?_fz {K : Fr} {H : Hp} : ∀ {ds : List D} {ns : List Bool} {xs : List V}, bools? ds = some ns → FzA K H xs ds → xs = ns.map V.bl
  | [], _, _, e, f => by cases e; cases f; rfl
  | .bool i :: ds, ns, _, e, f => by
    obtain ⟨l, e1, rfl⟩ := Option.map_eq_some_iff.mp (show (bools? ds).map _ = some ns from e)
    cases f with
    | cons a b => cases a; rw [bools?_fz e1 b]; rfl
  | .none :: _, _, _, e, _ => by cases e
  | .int _ :: _, _, _, e, _ => by cases e
  | .str _ :: _, _, _, e, _ => by cases e
  | .list _ :: _, _, _, e, _ => by cases e
  | .tuple _ :: _, _, _, e, _ => by cases e
  | .dict _ :: _, _, _, e, _ => by cases e
def gSum : List D → Option T
  | [.list a] => (ints? a).bind fun ns => io ns.sum
  | [.tuple a] => (ints? a).bind fun ns => io ns.sum
  | _ => none
def gAll : List D → Option T
  | [.list a] => (bools? a).bind fun ns => bo (ns.all id)
  | _ => none
def gAny : List D → Option T
  | [.list a] => (bools? a).bind fun ns => bo (ns.any id)
  | _ => none
def gAbs : List D → Option T
  | [.int i] => io (if i < 0 then -i else i)
  | _ => none
def gMax2 : List D → Option T
  | [.int i, .int j] => io (if j > i then j else i)
  | _ => none
def gMin2 : List D → Option T
  | [.int i, .int j] => io (if j < i then j else i)
  | _ => none
def gDivmod : List D → Option T
  | [.int i, .int j] => if 0 < j ∧ (j < 1073741824 ∨ j.natAbs.log2 < 9000) then some (.z (.tuple [.int (i / j), .int (i % j)])) else none
  | _ => none
def gInt : List D → Option T
  | [.int i] => io i
  | [.bool b] => io (if b then 1 else 0)
  | _ => none
def gGcd : List D → Option T
  | [.int i, .int j] => io ((Nat.gcd i.natAbs j.natAbs : Nat) : Int)
  | _ => none
/-- what repr can show within the model's sizes -/
def okShow (d : D) : Bool := d.showable && d.leavesShort 13 && decide (d.bulk ≤ 2 ^ 20) && !d.hasDict && decide (d.depth ≤ 60)
def gRepr : List D → Option T
  | [d] => if okShow d = true then some (.z (.str d.shown)) else none
  | _ => none
theorem rpA1 {K : Fr} {H : Hp} {xs : List V} {d : D} (r : RpA K H xs [d]) : ∃ v, xs = [v] ∧ Rp K H v d := by
  cases r with
  | cons a b => cases b; exact ⟨_, rfl, a⟩
theorem rpA2 {K : Fr} {H : Hp} {xs : List V} {d e : D} (r : RpA K H xs [d, e]) : ∃ v u, xs = [v, u] ∧ Rp K H v d ∧ Rp K H u e := by
  cases r with
  | cons a b =>
    obtain ⟨u, rfl, c⟩ := rpA1 b
    exact ⟨_, _, rfl, a, c⟩
section
variable {X : Cx}
theorem cd_len : CallD X (.builtin "len") gLen := by
  intro pins s σ H xs us Q I rs ⟨ds, t, r, e1, k⟩
  unfold gLen at e1
  split at e1
  · cases e1
    obtain ⟨v, rfl, r1⟩ := rpA1 r
    obtain ⟨a, ys, rfl, q1, f1⟩ := r1.list
    refine call_len_seq pins s σ H _ us Q I rs ⟨a, ys, rfl, .inl q1, ?_⟩
    rw [f1.length]; exact k_int k
  · cases e1
    obtain ⟨v, rfl, r1⟩ := rpA1 r
    obtain ⟨a, ys, rfl, q1, f1⟩ := r1.tuple
    refine call_len_seq pins s σ H _ us Q I rs ⟨a, ys, rfl, .inr q1, ?_⟩
    rw [f1.length]; exact k_int k
  · obtain ⟨hl, rfl⟩ := ite_some' e1
    obtain ⟨v, rfl, r1⟩ := rpA1 r
    cases r1.str
    exact call_len_str pins s σ H _ us Q I rs ⟨_, rfl, hl, k_int k⟩
  · cases e1
theorem cd_tup : CallD X (.type "tuple") gTup := by
  intro pins s σ H xs us Q I rs ⟨ds, t, r, e1, k⟩
  unfold gTup at e1
  split at e1
  · cases e1
    obtain ⟨v, rfl, r1⟩ := rpA1 r
    obtain ⟨a, ys, rfl, q1, f1⟩ := r1.list
    exact call_tuple_of pins s σ H _ us Q I rs ⟨a, ys, rfl, .inl ⟨q1, fun p hp => k _ _ (.tup hp f1)⟩⟩
  · cases e1
    obtain ⟨v, rfl, r1⟩ := rpA1 r
    obtain ⟨a, ys, rfl, q1, f1⟩ := r1.tuple
    exact call_tuple_of pins s σ H _ us Q I rs ⟨a, ys, rfl, .inr ⟨q1, k _ _ ⟨fun _ _ h => h, Fz.tup q1 f1⟩⟩⟩
  · cases e1
theorem cd_lst : CallD X (.type "list") gLst := by
  intro pins s σ H xs us Q I rs ⟨ds, t, r, e1, k⟩
  unfold gLst at e1
  split at e1
  · cases e1
    obtain ⟨v, rfl, r1⟩ := rpA1 r
    obtain ⟨a, ys, rfl, q1, f1⟩ := r1.list
    exact call_list_of pins s σ H _ us Q I rs ⟨a, ys, rfl, .inl q1, fun p hp => k _ _ (.lst hp f1)⟩
  · cases e1
    obtain ⟨v, rfl, r1⟩ := rpA1 r
    obtain ⟨a, ys, rfl, q1, f1⟩ := r1.tuple
    exact call_list_of pins s σ H _ us Q I rs ⟨a, ys, rfl, .inr q1, fun p hp => k _ _ (.lst hp f1)⟩
  · cases e1
theorem cd_sum (hc : X.calm = true) : CallD X (.builtin "sum") gSum := by
  intro pins s σ H xs us Q I rs ⟨ds, t, r, e1, k⟩
  unfold gSum at e1
  split at e1
  · obtain ⟨ns, e2, e3⟩ := Option.bind_eq_some_iff.mp e1
    cases e3
    obtain ⟨v, rfl, r1⟩ := rpA1 r
    obtain ⟨a, ys, rfl, q1, f1⟩ := r1.list
    cases ints?_fz e2 f1
    exact cr_sum hc pins s σ H _ us Q I rs ⟨a, ns, rfl, q1, k_int k⟩
  · obtain ⟨ns, e2, e3⟩ := Option.bind_eq_some_iff.mp e1
    cases e3
    obtain ⟨v, rfl, r1⟩ := rpA1 r
    obtain ⟨a, ys, rfl, q1, f1⟩ := r1.tuple
    cases ints?_fz e2 f1
    obtain ⟨its, rv, ht, _⟩ := I.tuple q1
    rw [Vals.ref1 rs]
    obtain ⟨xs, e⟩ := rv.ints.allInts.items
    have hn : numsOf (intItems xs).toList = ns := by rw [← e]; exact rv.ints.numsOf
    rw [nums_intItems] at hn
    rw [e] at ht
    refine PySem.W.ktm_sumG (I.ok.hd hc) ht fun h' tk t' hk => ?_
    rw [preSum_eq, List.take_of_length_le (by simp), hn]
    exact ⟨.int _, H, I.kept hk, ⟨_, rfl⟩, k_int k⟩
  · cases e1
theorem cd_all (hc : X.calm = true) : CallD X (.builtin "all") gAll := by
  intro pins s σ H xs us Q I rs ⟨ds, t, r, e1, k⟩
  unfold gAll at e1
  split at e1
  · obtain ⟨ns, e2, e3⟩ := Option.bind_eq_some_iff.mp e1
    cases e3
    obtain ⟨v, rfl, r1⟩ := rpA1 r
    obtain ⟨a, ys, rfl, q1, f1⟩ := r1.list
    cases bools?_fz e2 f1
    exact cr_all hc pins s σ H _ us Q I rs ⟨a, ns, rfl, q1, k_bl k⟩
  · cases e1
theorem cd_any (hc : X.calm = true) : CallD X (.builtin "any") gAny := by
  intro pins s σ H xs us Q I rs ⟨ds, t, r, e1, k⟩
  unfold gAny at e1
  split at e1
  · obtain ⟨ns, e2, e3⟩ := Option.bind_eq_some_iff.mp e1
    cases e3
    obtain ⟨v, rfl, r1⟩ := rpA1 r
    obtain ⟨a, ys, rfl, q1, f1⟩ := r1.list
    cases bools?_fz e2 f1
    exact cr_any hc pins s σ H _ us Q I rs ⟨a, ns, rfl, q1, k_bl k⟩
  · cases e1
theorem cd_abs : CallD X (.builtin "abs") gAbs := by
  intro pins s σ H xs us Q I rs ⟨ds, t, r, e1, k⟩
  unfold gAbs at e1
  split at e1
  · cases e1
    obtain ⟨v, rfl, r1⟩ := rpA1 r
    cases r1.int
    exact call_abs pins s σ H _ us Q I rs ⟨_, rfl, k_int k⟩
  · cases e1
theorem cd_max2 (hc : X.calm = true) : CallD X (.builtin "max") gMax2 := by
  intro pins s σ H xs us Q I rs ⟨ds, t, r, e1, k⟩
  unfold gMax2 at e1
  split at e1
  · cases e1
    obtain ⟨v, u, rfl, r1, r2⟩ := rpA2 r
    cases r1.int; cases r2.int
    exact call_max2 hc pins s σ H _ us Q I rs ⟨_, _, rfl, k_int k⟩
  · cases e1
theorem cd_min2 (hc : X.calm = true) : CallD X (.builtin "min") gMin2 := by
  intro pins s σ H xs us Q I rs ⟨ds, t, r, e1, k⟩
  unfold gMin2 at e1
  split at e1
  · cases e1
    obtain ⟨v, u, rfl, r1, r2⟩ := rpA2 r
    cases r1.int; cases r2.int
    exact call_min2 hc pins s σ H _ us Q I rs ⟨_, _, rfl, k_int k⟩
  · cases e1
theorem cd_divmod : CallD X (.builtin "divmod") gDivmod := by
  intro pins s σ H xs us Q I rs ⟨ds, t, r, e1, k⟩
  unfold gDivmod at e1
  split at e1
  · obtain ⟨hl, rfl⟩ := ite_some' e1
    obtain ⟨v, u, rfl, r1, r2⟩ := rpA2 r
    cases r1.int; cases r2.int
    rcases hl.2 with h2 | h2
    · exact call_divmod pins s σ H _ us Q I rs ⟨_, _, rfl, ⟨hl.1, h2⟩, fun p hp => k _ _ (.tup hp (.cons (.int _) (.cons (.int _) .nil)))⟩
    · exact call_divmodW pins s σ H _ us Q I rs ⟨_, _, rfl, ⟨hl.1, PyProof.noPylong_of_log2 h2⟩, fun p hp => k _ _ (.tup hp (.cons (.int _) (.cons (.int _) .nil)))⟩
  · cases e1
theorem cd_int : CallD X (.type "int") gInt := by
  intro pins s σ H xs us Q I rs ⟨ds, t, r, e1, k⟩
  unfold gInt at e1
  split at e1
  · cases e1
    obtain ⟨v, rfl, r1⟩ := rpA1 r
    cases r1.int
    exact call_int1 pins s σ H _ us Q I rs (.inl ⟨_, rfl, k_int k⟩)
  · cases e1
    obtain ⟨v, rfl, r1⟩ := rpA1 r
    cases r1.bl
    exact call_int1 pins s σ H _ us Q I rs (.inr ⟨_, rfl, k_int k⟩)
  · cases e1
theorem cd_gcd : CallD X (.builtin "math.gcd") gGcd := by
  intro pins s σ H xs us Q I rs ⟨ds, t, r, e1, k⟩
  unfold gGcd at e1
  split at e1
  · cases e1
    obtain ⟨v, u, rfl, r1, r2⟩ := rpA2 r
    cases r1.int; cases r2.int
    exact cr_gcd pins s σ H _ us Q I rs ⟨_, _, rfl, k_int k⟩
  · cases e1
theorem cd_repr (hg : X.A.guards = some []) (hu : X.A.units + 65 < cLine) : CallD X (.builtin "repr") gRepr := by
  intro pins s σ H xs us Q I rs ⟨ds, t, r, e1, k⟩
  unfold gRepr at e1
  split at e1
  · rename_i d
    obtain ⟨ok, rfl⟩ := ite_some' e1
    obtain ⟨v, rfl, r1⟩ := rpA1 r
    obtain ⟨u, rfl, rx⟩ := vals1 rs
    unfold okShow at ok
    simp only [Bool.and_eq_true, decide_eq_true_eq, Bool.not_eq_true'] at ok
    obtain ⟨⟨⟨⟨h1, h2⟩, h3⟩, h4⟩, h5⟩ := ok
    have hsz := PyData.shown_fits_bulk (B := 13) (by omega) (by omega) h2 h3
    obtain ⟨as, rd⟩ := Dp.reads I d _ _ r1.dp rx
    have fin : ∀ h' tk u, (∀ b o, s.heap.get? b = some o → h'.get? b = some o) → EP X pins σ Q (.str d.shown u) { s with heap := h', toks := tk } := fun h' tk u kp =>
      ⟨.str d.shown, H, I.kept kp, ⟨_, rfl⟩, k _ _ (.z (.str _))⟩
    have noD : d.hasDict = true → sysModules ∉ as := fun z => by rw [h4] at z; cases z
    cases d with
    | none => cases rd; exact PySem.P.repr_of_none (by have := fin s.heap (s.toks + 1) s.toks (fun _ _ h => h); rw [PyData.shown_none] at this; exact this)
    | bool b => cases rd; exact PySem.P.repr_of_bool (by have := fin s.heap (s.toks + 1) s.toks (fun _ _ h => h); rw [PyData.shown_bool] at this; exact this)
    | int i =>
      cases r1.int
      refine SkE.call_repr_int pins s σ H _ _ Q I rs ⟨i, rfl, by simpa [PyData.showable] using h1, ?_⟩
      have := k _ _ (.z (.str _))
      rw [PyData.shown_int] at this
      exact this
    | str x => cases rd; exact PySem.P.repr_of_str (by have := fin s.heap (s.toks + 1) s.toks (fun _ _ h => h); rw [PyData.shown_str] at this; exact this) (by rw [← PyData.shown_str]; exact hsz)
    | list ds =>
      obtain ⟨a, ys, rfl, q1, f1⟩ := r1.list
      cases rx
      exact repr_of_reads' rd h1 noD hg (by omega) (fun _ _ h => h) (fun h' u tk kp => fin h' tk u kp) hsz
    | tuple ds =>
      obtain ⟨a, ys, rfl, q1, f1⟩ := r1.tuple
      cases rx
      exact repr_of_reads' rd h1 noD hg (by omega) (fun _ _ h => h) (fun h' u tk kp => fin h' tk u kp) hsz
    | dict ds =>
      rcases r1 with h | ⟨_, _, _, _, e, _⟩
      · cases h
      · cases e
  · cases e1
end
end VL

set_option Elab.async false
set_option linter.all false
set_option maxRecDepth 100000
set_option maxHeartbeats 4000000
namespace VL
open PySem PySem.Spec PyProof.Rows L2
/-! ### isinstance -/
def tyD : D → String
  | .none => "NoneType"
  | .bool _ => "bool"
  | .int _ => "int"
  | .str _ => "str"
  | .list _ => "list"
  | .tuple _ => "tuple"
  | .dict _ => "dict"
theorem SqT.tyX {K : Fr} {H : Hp} {a : Addr} {xs : List V} (q : SqT K H a xs) : TyX K H (.ref a) (.type "tuple") := by
  rcases q with (h | ⟨o, h⟩) | ⟨o, its, n, e, c, _⟩
  · exact .base (.tup h)
  · exact .fTuple h
  · exact .kTuple e c
theorem SqL.tyX {K : Fr} {H : Hp} {a : Addr} {xs : List V} (q : SqL K H a xs) : TyX K H (.ref a) (.type "list") := by
  rcases q with (h | ⟨o, h⟩) | ⟨o, its, n, e, c, _⟩
  · exact .base (.lst h)
  · exact .base (.frz h)
  · exact .kList e c
theorem Rp.tyX {K : Fr} {H : Hp} {v : V} {d : D} (r : Rp K H v d) : TyX K H v (.type (tyD d)) := by
  cases d with
  | none => rw [r.non]; exact .base .non
  | bool b => rw [r.bl]; exact .base (.bl b)
  | int b => rw [r.int]; exact .base (.int b)
  | str b => rw [r.str]; exact .base (.str b)
  | list ds => obtain ⟨a, xs, rfl, q, f⟩ := r.list; exact SqL.tyX q
  | tuple ds => obtain ⟨a, xs, rfl, q, f⟩ := r.tuple; exact SqT.tyX q
  | dict ds =>
    rcases r with h | ⟨_, _, _, _, e, _⟩
    · cases h
    · cases e
def isT (n : String) (d : D) : Bool := match n, d with
  | "int", .int _ => true
  | "int", .bool _ => true
  | "bool", .bool _ => true
  | "str", .str _ => true
  | "list", .list _ => true
  | "tuple", .tuple _ => true
  | "dict", .dict _ => true
  | _, _ => false
def IsTy (n : String) : Prop := ∀ (K : Fr) (d : D), PySem.W.kitOne K (.type (tyD d)) (.type n) = some (isT n d)
theorem isTy_int : IsTy "int" := fun K d => by cases d <;> kernel_rfl
theorem isTy_bool : IsTy "bool" := fun K d => by cases d <;> kernel_rfl
theorem isTy_str : IsTy "str" := fun K d => by cases d <;> kernel_rfl
theorem isTy_list : IsTy "list" := fun K d => by cases d <;> kernel_rfl
theorem isTy_tuple : IsTy "tuple" := fun K d => by cases d <;> kernel_rfl
theorem isTy_dict : IsTy "dict" := fun K d => by cases d <;> kernel_rfl
def mIsi (n : String) (m : MO) : ME := fun ρ => (m ρ).bind fun p => (p.1.get p.2).map fun t => (.z (.bool (isT n t.data)), p.2)
def mIsi2 (n n2 : String) (m : MO) : ME := fun ρ => (m ρ).bind fun p => (p.1.get p.2).map fun t => (.z (.bool (isT n t.data || isT n2 t.data)), p.2)
section
variable {X : Cx} {a : Expr} {m : MO} {p pos : Pos}
theorem px_isi {x : Str} {n : String} {p2 : Pos} (ht : IsTy n) (hg : Gl X "isinstance") (hm : X.mg "isinstance" = none) (ha : PO X a m) (hgx : Gl X x) (hmx : X.mg x = none) (hv : bootBuiltins x = some (.type n) := by decide +kernel) (hn : x ≠ "__name__" := by decide) (hdx : (x == ("__debug__" : Str)) = false := by decide)
    (hs : starEach [a, .Name x p2] X.env = (false, eval a X.env) :: starEach [.Name x p2] X.env := by rfl) (hs2 : starEach [.Name x p2] X.env = (false, eval (.Name x p2) X.env) :: starEach [] X.env := by rfl)
    (hpl : (backTo pos (starEach [.Name x p2] X.env)).any (·.1) = false := by rfl) : PX X (.Call (.Name "isinstance" p) [a, .Name x p2] [] pos) (mIsi n m) :=
  ⟨(pe_callB (call_isi (X := X)) hg hm (by decide +kernel) (pa_cons ha.pe (pa_cons (pe_bltn (v := .ty n) hgx hmx hv rfl hn hdx) pa_nil hs2) hs) (he := hs) (hpl := hpl)).of fun σ H Q q => by
    obtain ⟨B, ρ, own, t, ρ', hB, es, e, k⟩ := q
    obtain ⟨⟨a, ρ1⟩, e1, e2⟩ := Option.bind_eq_some_iff.mp (show (m ρ).bind _ = some (t, ρ') from e)
    obtain ⟨u, e3, e4⟩ := Option.map_eq_some_iff.mp e2
    cases e4
    refine ⟨B, ρ, own, a, _, hB, es, e1, fun v H1 own1 st1 es1 r1 => ?_⟩
    exact ⟨v, .ty n, _, _, _, rfl, .ty n, (argRp es1 r1 e3).tyX, ht _ _, k _ _ _ st1 es1 (.bl _)⟩⟩
theorem px_isi2 {x y : Str} {n n2 : String} {p2 p3 pt : Pos} {kt} (ht : IsTy n) (ht2 : IsTy n2) (hg : Gl X "isinstance") (hm : X.mg "isinstance" = none) (ha : PO X a m) (hgx : Gl X x) (hmx : X.mg x = none) (hgy : Gl X y) (hmy : X.mg y = none) (hv : bootBuiltins x = some (.type n) := by decide +kernel) (hv2 : bootBuiltins y = some (.type n2) := by decide +kernel)
    (hn : x ≠ "__name__" := by decide) (hdx : (x == ("__debug__" : Str)) = false := by decide) (hny : y ≠ "__name__" := by decide) (hdy : (y == ("__debug__" : Str)) = false := by decide)
    (hs : starEach [a, .Tuple [.Name x p2, .Name y p3] kt pt] X.env = (false, eval a X.env) :: starEach [.Tuple [.Name x p2, .Name y p3] kt pt] X.env := by rfl) (hs2 : starEach [.Tuple [.Name x p2, .Name y p3] kt pt] X.env = (false, eval (.Tuple [.Name x p2, .Name y p3] kt pt) X.env) :: starEach [] X.env := by rfl)
    (hpl : (backTo pos (starEach [.Tuple [.Name x p2, .Name y p3] kt pt] X.env)).any (·.1) = false := by rfl)
    (hs3 : starEach [.Name x p2, .Name y p3] X.env = (false, eval (.Name x p2) X.env) :: starEach [.Name y p3] X.env := by rfl) (hs4 : starEach [.Name y p3] X.env = (false, eval (.Name y p3) X.env) :: starEach [] X.env := by rfl) :
    PX X (.Call (.Name "isinstance" p) [a, .Tuple [.Name x p2, .Name y p3] kt pt] [] pos) (mIsi2 n n2 m) :=
  ⟨(pe_callB (call_isiT (X := X)) hg hm (by decide +kernel) (pa_cons ha.pe (pa_cons (pe_tup (pa_cons (pe_bltn (v := .ty n) hgx hmx hv rfl hn hdx) (pa_cons (pe_bltn (v := .ty n2) hgy hmy hv2 rfl hny hdy) pa_nil hs4) hs3)) pa_nil hs2) hs) (he := hs) (hpl := hpl)).of fun σ H Q q => by
    obtain ⟨B, ρ, own, t, ρ', hB, es, e, k⟩ := q
    obtain ⟨⟨a, ρ1⟩, e1, e2⟩ := Option.bind_eq_some_iff.mp (show (m ρ).bind _ = some (t, ρ') from e)
    obtain ⟨u, e3, e4⟩ := Option.map_eq_some_iff.mp e2
    cases e4
    refine ⟨B, ρ, own, a, _, hB, es, e1, fun v H1 own1 st1 es1 r1 => ?_⟩
    refine ⟨by show 2 ≤ sizeLine; decide, fun q hq => ?_⟩
    have r2 := argRp es1 r1 e3
    have st : Step σ.length B own1 H1 own1 (upd H1 q (.tup [.ty n, .ty n2])) := ⟨fun b o eb _ => ⟨by rw [upd_ne (ne_of_none eb hq)]; exact eb, rfl⟩, fun b z => .inl z, .new hq⟩
    have es2 := es1.same (K := X.K) (H' := upd H1 q (.tup [.ty n, .ty n2])) (own' := own1) (.new hq) fun a o i h _ eb => ⟨by rw [upd_ne (ne_of_none eb hq)]; exact eb, h⟩
    have r3 : Rp X.K (upd H1 q (.tup [.ty n, .ty n2])) v u.data := by
      rcases r2 with h | ⟨b, xs, ds, h1, h2, h3, h4⟩
      · exact .inl (Fz.mono (.new hq) _ _ h)
      · exact .inr ⟨b, xs, ds, h1, h2, by rw [upd_ne (ne_of_none h3 hq)]; exact h3, h4.mono (.new hq)⟩
    refine ⟨v, q, [.ty n, .ty n2], _, [.type n, .type n2], _, rfl, upd_same, .cons (.ty n) (.cons (.ty n2) .nil), r3.tyX, ?_, k _ _ _ (st1.trans st) es2 (.bl _)⟩
    unfold PySem.W.kitAny
    rw [ht]
    cases isT n u.data with
    | true => rfl
    | false =>
      show PySem.W.kitAny X.K _ [.type n2] = _
      unfold PySem.W.kitAny
      rw [ht2]
      cases isT n2 u.data <;> rfl⟩
end

/-! ### x[i] -/
def gIx : D → D → Option T
  | .list a, .int i => (atI a i).map .z
  | .tuple a, .int i => (atI a i).map .z
  | _, _ => none
theorem atI_fz {K : Fr} {H : Hp} {xs : List V} {ds : List D} {i : Int} {d : D} (f : FzA K H xs ds) (e : atI ds i = some d) : ∃ v, atI xs i = some v ∧ Fz K H v d := by
  unfold atI at e
  obtain ⟨j, e1, e2⟩ := Option.bind_eq_some_iff.mp e
  obtain ⟨v, e3, q⟩ := f.get j e2
  exact ⟨v, by unfold atI; rw [f.length, e1]; exact e3, q⟩
section
variable {X : Cx} {a b : Expr} {m m' : MO} {p pos : Pos}
theorem id_ix : IxR X (rD2 X.K gIx) := by
  intro value slice pins s σ H x y v u Q I rx ry ⟨d, e, t, r1, r2, e1, k⟩ hs
  unfold gIx at e1
  split at e1
  · obtain ⟨z, e2, rfl⟩ := Option.map_eq_some_iff.mp e1
    cases r2.int
    obtain ⟨a, xs, rfl, q1, f1⟩ := r1.list
    obtain ⟨w, e3, q⟩ := atI_fz f1 e2
    exact ix_list value slice pins s σ H _ _ v u Q I rx ry ⟨a, xs, _, w, rfl, rfl, q1, e3, k _ _ (.z q)⟩ hs
  · obtain ⟨z, e2, rfl⟩ := Option.map_eq_some_iff.mp e1
    cases r2.int
    obtain ⟨a, xs, rfl, q1, f1⟩ := r1.tuple
    obtain ⟨w, e3, q⟩ := atI_fz f1 e2
    exact ix_tup value slice pins s σ H _ _ v u Q I rx ry ⟨a, xs, _, w, rfl, rfl, q1, e3, k _ _ (.z q)⟩ hs
  · cases e1
theorem px_ix (ha : PO X a m) (hb : PO X b m') (hs : PlainIx b := by intro _ _; rfl) : PX X (.Subscript a b pos) (mBin gIx m m') :=
  ⟨(pe_ix id_ix ha.pe hb.pe hs).of fun σ H Q q => tE_bin (fun _ _ _ _ h => h) q⟩

/-! ### x[lo:hi] -/
def mPt : Option MO → Env → Option (Option Int × Env)
  | none, ρ => some (none, ρ)
  | some m, ρ => (m ρ).bind fun p => (p.1.get p.2).bind fun t => match t with
    | .z (.int i) => some (some i, p.2)
    | _ => none
def tP (K : Fr) (m : Option MO) : TO := fun σ H Q => ∃ B ρ own o ρ', σ.length ≤ B ∧ ES K H σ ρ own ∧ mPt m ρ = some (o, ρ') ∧ ∀ H' own', Step σ.length B own H own' H' → ES K H' σ ρ' own' → Q o H'
structure PPt (X : Cx) (e : Option Expr) (m : Option MO) : Prop where
  po : L2.PO X e (tP X.K m)
theorem _root_.L2.PO.of {X : Cx} {e : Option Expr} {t t' : TO} (h : L2.PO X e t') (i : ∀ σ H Q, t σ H Q → t' σ H Q) : L2.PO X e t := ⟨fun pins s σ H Q I q => h.run pins s σ H Q I (i σ H Q q)⟩
theorem ppt_0 : PPt X none none := ⟨po_none.of fun σ H Q q => by
  obtain ⟨B, ρ, own, o, ρ', hB, es, e, k⟩ := q
  cases e
  exact k H own .refl es⟩
theorem ppt_1 (ha : PO X a m) : PPt X (some a) (some m) := ⟨(po_some ha.pe).of fun σ H Q q => by
  obtain ⟨B, ρ, own, o, ρ', hB, es, e, k⟩ := q
  obtain ⟨⟨a, ρ1⟩, e1, e2⟩ := Option.bind_eq_some_iff.mp (show (m ρ).bind _ = some (o, ρ') from e)
  obtain ⟨u, e3, e4⟩ := Option.bind_eq_some_iff.mp e2
  refine ⟨B, ρ, own, a, ρ1, hB, es, e1, fun v H1 own1 st1 es1 r1 => ?_⟩
  have r := argRp es1 r1 e3
  cases u with
  | l ds => cases e4
  | dc ds => cases e4
  | fd ds => cases e4
  | z d =>
    cases d with
    | int i => cases e4; exact ⟨i, r.int, k _ _ st1 es1⟩
    | _ => cases e4⟩
def cutD (xs : List D) (lo hi : Option Int) : List D := (xs.drop (HT.sIx xs.length 0 lo)).take (HT.sIx xs.length xs.length hi - HT.sIx xs.length 0 lo)
def gSl : D → Option Int → Option Int → Option T
  | .list a, lo, hi => some (.l (cutD a lo hi))
  | .tuple a, lo, hi => some (.z (.tuple (cutD a lo hi)))
  | _, _, _ => none
theorem cut_fz {K : Fr} {H : Hp} {xs : List V} {ds : List D} (f : FzA K H xs ds) (lo hi : Option Int) : FzA K H (cutV xs lo hi) (cutD ds lo hi) := by
  unfold cutV cutD
  rw [f.length]
  exact (f.drop _).take _
theorem cutD_whole {ds : List D} {lo hi : Option Int} (h : HT.sIx ds.length 0 lo = 0 ∧ HT.sIx ds.length ds.length hi = ds.length) : cutD ds lo hi = ds := by
  unfold cutD
  rw [h.1, h.2, List.drop_zero, Nat.sub_zero, List.take_length]
def rSlD (K : Fr) : V → Option Int → Option Int → Hp → VK → Prop := fun x lo hi H Q => ∃ d t, Rp K H x d ∧ gSl d lo hi = some t ∧ ∀ v H', Fresh K H H' v t → Q v H'
theorem sl_d : SlR X (rSlD X.K) := by
  intro pins s σ H x v vl vu lo hi sl Q I rx hs pl pu ⟨d, t, r1, e1, k⟩
  unfold gSl at e1
  split at e1
  · cases e1
    obtain ⟨a, xs, rfl, q1, f1⟩ := r1.list
    exact sl_list pins s σ H _ v vl vu lo hi sl Q I rx hs pl pu ⟨a, xs, rfl, q1, fun p hp => k _ _ (.lst hp (cut_fz f1 lo hi))⟩
  · cases e1
    obtain ⟨a, xs, rfl, q1, f1⟩ := r1.tuple
    refine sl_tupA pins s σ H _ v vl vu lo hi sl Q I rx hs pl pu ⟨a, xs, rfl, q1, fun h => ?_, fun _ p hp => k _ _ (.tup hp (cut_fz f1 lo hi))⟩
    rw [f1.length] at h
    rw [cutD_whole h] at k
    exact k _ _ ⟨fun _ _ h => h, Fz.tup q1 f1⟩
  · cases e1
def mSl (m : MO) (ml mh : Option MO) : ME := fun ρ => (m ρ).bind fun p => (mPt ml p.2).bind fun l => (mPt mh l.2).bind fun h => (p.1.get h.2).bind fun t => (gSl t.data l.1 h.1).map fun r => (r, h.2)
theorem px_sl {lo hi : Option Expr} {ml mh : Option MO} {p2 : Pos} (ha : PO X a m) (hl : PPt X lo ml) (hh : PPt X hi mh) : PX X (.Subscript a (.Slice lo hi none p2) pos) (mSl m ml mh) := ⟨(pe_slice sl_d ha.pe hl.po hh.po).of fun σ H Q q => by
  obtain ⟨B, ρ, own, t, ρ', hB, es, e, k⟩ := q
  obtain ⟨⟨a, ρ1⟩, e1, e2⟩ := Option.bind_eq_some_iff.mp (show (m ρ).bind _ = some (t, ρ') from e)
  obtain ⟨⟨l, ρ2⟩, e3, e4⟩ := Option.bind_eq_some_iff.mp e2
  obtain ⟨⟨h, ρ3⟩, e5, e6⟩ := Option.bind_eq_some_iff.mp e4
  obtain ⟨u, e7, e8⟩ := Option.bind_eq_some_iff.mp e6
  obtain ⟨z, e9, e10⟩ := Option.map_eq_some_iff.mp e8
  cases e10
  refine ⟨B, ρ, own, a, ρ1, hB, es, e1, fun v H1 own1 st1 es1 r1 => ?_⟩
  refine ⟨B + 1, ρ1, own1, l, ρ2, by omega, es1, e3, fun H2 own2 st2 es2 => ?_⟩
  refine ⟨B + 1, ρ2, own2, h, ρ3, by omega, es2, e5, fun H3 own3 st3 es3 => ?_⟩
  have r2 := argStep (K := X.K) (σ := σ) (v := v) (a := a) st2 hB (Nat.lt_succ_self B) r1
  have r3 := argStep (K := X.K) (σ := σ) (v := v) (a := a) st3 hB (Nat.lt_succ_self B) r2
  refine ⟨u.data, _, argRp es3 r3 e7, e9, fun v4 H4 f => ?_⟩
  exact k v4 H4 _ (((st1.trans (st2.down (Nat.le_succ B))).trans (st3.down (Nat.le_succ B))).trans f.step) (f.es es3) f.rep'⟩
/-! ### x[::-1] of a list -/
def mRevL (m : MO) : ME := fun ρ => (m ρ).bind fun p => (p.1.get p.2).bind fun t => match t.data with
  | .list ds => some (.l ds.reverse, p.2)
  | _ => none
end
end VL

set_option Elab.async false
set_option linter.all false
set_option maxRecDepth 100000
set_option maxHeartbeats 4000000
namespace VL
open PySem PySem.Spec PyProof.Rows L2
/-! ### methods of a list that a local owns -/
/-- g: items, arguments -> what it gives, the items behind -/
def rMut (K : Fr) (g : List D → List D → Option (D × List D)) : V → List V → Hp → VK → Prop := fun x vs H Q => ∃ l xs ds as d ds', x = .ref l ∧ H l = some (.lst xs) ∧ FzA K H xs ds ∧ FzA K H vs as ∧ g ds as = some (d, ds') ∧
  ∀ v xs', Fz K H v d → FzA K H xs' ds' → Q v (upd H l (.lst xs'))
def MutD (X : Cx) (id : String) (g : List D → List D → Option (D × List D)) : Prop := MtR X id (rMut X.K g)
def gAppend : List D → List D → Option (D × List D) := fun ds as => match as with
  | [d] => if ds.length < 100000 then some (.none, ds ++ [d]) else none
  | _ => none
def gInsert : List D → List D → Option (D × List D) := fun ds as => match as with
  | [.int i, d] => if ds.length < 100000 ∧ 0 ≤ i ∧ i < 2 ^ 63 then some (.none, ds.take i.toNat ++ [d] ++ ds.drop i.toNat) else none
  | _ => none
def gPop : List D → List D → Option (D × List D) := fun ds as => match as with
  | [] => (ds[ds.length - 1]?).map fun d => (d, ds.dropLast)
  | _ => none
theorem FzA.dropLast {K : Fr} {H : Hp} : ∀ {ds : List D} {vs : List V}, FzA K H vs ds → FzA K H vs.dropLast ds.dropLast
  | [], _, h => by cases h; exact .nil
  | [_], _, h => by cases h with | cons a b => cases b; exact .nil
  | _ :: _ :: ds, _, h => by
    cases h with
    | cons a b =>
      cases b with
      | cons a2 b2 => exact .cons a (FzA.dropLast (.cons a2 b2))
section
variable {X : Cx}
theorem lt_line {n : Nat} (h : n < 100000) : n < sizeLine := Nat.lt_of_lt_of_le h (by decide)
theorem md_append : MutD X "list.append" gAppend := by
  intro pins s σ H x vs v us Q I rx rs ⟨l, xs, ds, as, d, ds', ex, hl, f, fa, e, k⟩
  unfold gAppend at e
  split at e
  · obtain ⟨hn, e2⟩ := ite_some' e
    cases e2
    cases fa with
    | cons a b =>
      cases b
      exact mt_append pins s σ H x _ v us Q I rx rs ⟨l, xs, _, ex, rfl, hl, by rw [f.length]; exact lt_line hn, k _ _ .non (f.append (.cons a .nil))⟩
  · cases e
theorem md_insert : MutD X "list.insert" gInsert := by
  intro pins s σ H x vs v us Q I rx rs ⟨l, xs, ds, as, d, ds', ex, hl, f, fa, e, k⟩
  unfold gInsert at e
  split at e
  · obtain ⟨hn, e2⟩ := ite_some' e
    cases e2
    cases fa with
    | cons a b =>
      cases b with
      | cons a2 b2 =>
        cases b2
        cases a
        exact mt_insert pins s σ H x _ v us Q I rx rs ⟨l, xs, _, _, ex, rfl, hl, by rw [f.length]; exact lt_line hn.1, hn.2.1, hn.2.2, k _ _ .non (((f.take _).append (.cons a2 .nil)).append (f.drop _))⟩
  · cases e
theorem md_pop : MutD X "list.pop" gPop := by
  intro pins s σ H x vs v us Q I rx rs ⟨l, xs, ds, as, d, ds', ex, hl, f, fa, e, k⟩
  unfold gPop at e
  split at e
  · obtain ⟨z, e2, e3⟩ := Option.map_eq_some_iff.mp e
    cases e3
    cases fa
    obtain ⟨w, e4, q⟩ := f.get _ e2
    exact mt_pop pins s σ H x _ v us Q I rx rs ⟨l, xs, w, ex, rfl, hl, by rw [f.length]; exact e4, k _ _ q f.dropLast⟩
  · cases e
def mBM (i : Nat) (g : List D → List D → Option (D × List D)) (ma : MA) : ME := fun ρ => match slotT ρ i with
  | some (.l _) => (ma ρ).bind fun p => (zs p.1).bind fun as => match slotT p.2 i with
    | some (.l ds) => (g ds as).map fun r => (.z r.1, p.2.set i (some (.l r.2)))
    | _ => none
  | _ => none
/-- a local's list is written -/
theorem ES.write {K : Fr} {H : Hp} {σ : St} {ρ : Env} {own : Ow} {i : Nat} {l : Addr} {xs xs' : List V} {ds' : List D} (es : ES K H σ ρ own) (hi : i < σ.length) (hs : σ[i]? = some (some (.ref l))) (ho : own l = some i) (hl : H l = some (.lst xs)) (f : FzA K H xs' ds') :
    ES K (upd H l (.lst xs')) σ (ρ.set i (some (.l ds'))) own := by
  have pk : PK H (upd H l (.lst xs')) := .mut hl trivial
  refine ⟨by simpa using es.len, fun k u e => ?_⟩
  by_cases hk : k = i
  · subst hk
    rw [List.getElem?_set_self (by rw [es.len]; exact hi)] at e
    cases e
    exact ⟨_, hs, l, xs', rfl, ho, upd_same, f.mono pk⟩
  · rw [List.getElem?_set_ne (Ne.symm hk)] at e
    obtain ⟨w, e1, r⟩ := es.rep k u e
    refine ⟨w, e1, r.mono pk fun a o sa qa => ⟨?_, sa⟩⟩
    rw [upd_ne (fun z => by subst z; rw [ho] at sa; cases sa; exact hk rfl)]
    exact qa
theorem write_step {n B : Nat} {own : Ow} {H : Hp} {i : Nat} {l : Addr} {xs xs' : List V} (hi : i < n) (ho : own l = some i) (hl : H l = some (.lst xs)) : Step n B own H own (upd H l (.lst xs')) :=
  ⟨fun b o e na => ⟨by rw [upd_ne (fun z => na (by rw [z, ho, Act.some]; exact .inl hi))]; exact e, rfl⟩, fun b q => .inl q, .mut hl trivial⟩
theorem tE_bm {K : Fr} {i : Nat} {g : List D → List D → Option (D × List D)} {ma : MA} {σ : St} {H : Hp} {Q : VK} (q : tE K (mBM i g ma) σ H Q) : tO K (oN i) σ H fun x H1 => tyV K "list" x H1 ∧ tA K ma σ H1 fun xs H2 => rMut K g x xs H2 Q := by
  obtain ⟨B, ρ, own, t, ρ', hB, es, e, k⟩ := q
  unfold mBM at e
  split at e
  · rename_i ds0 es0
    obtain ⟨⟨as, ρ1⟩, e1, e2⟩ := Option.bind_eq_some_iff.mp e
    obtain ⟨bs, e3, e4⟩ := Option.bind_eq_some_iff.mp e2
    split at e4
    · rename_i ds es1'
      obtain ⟨⟨d, ds'⟩, e5, e6⟩ := Option.map_eq_some_iff.mp e4
      cases e6
      refine ⟨B, ρ, own, .slot i, ρ, hB, es, by unfold oN; rw [es0]; rfl, fun v H1 own1 st1 es1 r1 => ?_⟩
      have r1' : σ[i]? = some (some v) := r1
      obtain ⟨w, q1, a, xs, rfl, sa, hl, f⟩ := es1.rep i _ (slotT_some es0)
      rw [r1'] at q1
      cases q1
      refine ⟨.inl ⟨rfl, xs, SqL.of hl⟩, ?_⟩
      refine ⟨B, ρ, own1, as, ρ1, hB, es1, e1, fun vs H2 own2 st2 es2 r2 => ?_⟩
      obtain ⟨w2, q2, a2, xs2, rfl, sa2, hl2, f2⟩ := es2.rep i _ (slotT_some es1')
      rw [r1'] at q2
      cases q2
      have hi : i < σ.length := (List.getElem?_eq_some_iff.mp r1').1
      refine ⟨a, xs2, ds, bs, d, ds', rfl, hl2, f2, zs_fz r2 e3, e5, fun u xs' fu fx => ?_⟩
      exact k u _ own2 ((st1.trans st2).trans (write_step hi sa2 hl2)) (es2.write hi r1' sa2 hl2 fx) (Fz.mono (.mut hl2 trivial) _ _ fu)
    · cases e4
  · cases e
variable {i : Nat} {e : Expr} {es : List Expr} {x name : Str} {npos apos cpos : Pos} {id : String} {g : List D → List D → Option (D × List D)} {ma : MA}
theorem px_bm (hd : MutD X id g) (slot : Slot "list" name id) (hty : typeOf (.builtin id) = pure (.type "method_descriptor")) (hn : PE X (.Name x npos) (tVar i)) (ha : PAr X (e :: es) ma)
    (hbase : attributeBase (.Name x npos) name X.env (eval (.Name x npos) X.env) = eval (.Name x npos) X.env := by rfl)
    (hfew : ((backTo cpos (starEach (e :: es) X.env)).all (fun x => !x.1) && (backToKw cpos (keywordEach [] X.env)).all (fun x => x.1.isSome)
      && decide ((e :: es).length + ([] : List Keyword).length + (if ([] : List Keyword).isEmpty then 0 else 1) < 30)) = true := by rfl)
    (hline : (apos.endLine == cpos.line) = true := by rfl) (hs : starEach (e :: es) X.env = (false, eval e X.env) :: starEach es X.env := by rfl) (hplain : (backTo cpos (starEach es X.env)).any (·.1) = false := by rfl) :
    PX X (.Call (.Attribute (.Name x npos) name apos) (e :: es) [] cpos) (mBM i g ma) :=
  ⟨(pe_bm F.plainAttrs_list slot hty hd (po_n hn).pe ha.pa hbase hfew hline hs hplain).of fun σ H Q q => tE_bm q⟩
theorem px_bm0 (hd : MutD X id g) (slot : Slot "list" name id) (hty : typeOf (.builtin id) = pure (.type "method_descriptor")) (hn : PE X (.Name x npos) (tVar i))
    (hbase : attributeBase (.Name x npos) name X.env (eval (.Name x npos) X.env) = eval (.Name x npos) X.env := by rfl) (hline : (apos.endLine == cpos.line) = true := by rfl) :
    PX X (.Call (.Attribute (.Name x npos) name apos) [] [] cpos) (mBM i g aNil) :=
  ⟨(pe_bm0 F.plainAttrs_list slot hty hd (po_n hn).pe hbase hline).of fun σ H Q q => by
    obtain ⟨B, ρ, own, a, ρ', hB, es, e, k⟩ := tE_bm q
    refine ⟨B, ρ, own, a, ρ', hB, es, e, fun v H1 own1 st1 es1 r1 => ?_⟩
    obtain ⟨ty, B2, ρ2, own2, as, ρ3, hB2, es2, e2, k2⟩ := k v H1 own1 st1 es1 r1
    cases e2
    exact ⟨ty, k2 [] H1 own2 .refl es2 trivial⟩⟩
end

/-! ### targets of assignments: the heap may change -/
def tGh (K : Fr) (pin : List Nat) (m : MG) : TG := fun v σ H Q => ∃ B d ρ own ρ', σ.length ≤ B ∧ Fz K H v d ∧ ES K H σ ρ own ∧ m d ρ = some ρ' ∧ ∀ σ' H' own', σ'.length = σ.length → (∀ k ∈ pin, σ'[k]? = σ[k]?) → Step σ.length B own H own' H' → ES K H' σ' ρ' own' → Q σ' H'
def tGhs (K : Fr) (pin : List Nat) (m : MGs) : TGs := fun vs σ H Q => ∃ B ds ρ own ρ', σ.length ≤ B ∧ FzA K H vs ds ∧ ES K H σ ρ own ∧ m ds ρ = some ρ' ∧ ∀ σ' H' own', σ'.length = σ.length → (∀ k ∈ pin, σ'[k]? = σ[k]?) → Step σ.length B own H own' H' → ES K H' σ' ρ' own' → Q σ' H'
structure PTh (X : Cx) (pin : List Nat) (e : Expr) (m : MG) : Prop where
  pg : PG X e (tGh X.K pin m)
structure PThs (X : Cx) (pin : List Nat) (e : List Expr) (m : MGs) : Prop where
  pgs : PGs X e (tGhs X.K pin m)
def gS (i : Nat) (mi : MO) : MG := fun d ρ => match slotT ρ i with
  | some (.l _) => (mi ρ).bind fun q => (q.1.get q.2).bind fun t => match t, slotT q.2 i with
    | .z (.int k), some (.l ds) => (ixN ds.length k).map fun j => q.2.set i (some (.l (ds.set j d)))
    | _, _ => none
  | _ => none
section
variable {X : Cx} {pin : List Nat} {i : Nat} {x : Str} {pos npos : Pos} {mi : MO} {ix : Expr}
theorem pth_n (h : PG X (.Name x pos) (gName i)) (hp : pin.contains i = false) : PTh X pin (.Name x pos) (gN i) := ⟨h.of fun v σ H Q q => by
  obtain ⟨B, d, ρ, own, ρ', hB, f, es, e, k⟩ := q
  obtain ⟨hi, rfl⟩ := setSl_some e
  have hi' : i < σ.length := by rw [← es.len]; exact hi
  exact k _ _ own (by simp) (pin_ne hp) .refl (es.setZ hi' f)⟩
theorem pth_s (hn : PE X (.Name x npos) (tVar i)) (hx : PO X ix mi)
    (ha : ∀ v, assign (.Subscript (.Name x npos) ix pos) X.env v = (do
      let ov ← holding [v] (eval (.Name x npos) X.env)
      let iv ← holding [v, ov] (eval ix X.env)
      standAt pos
      holding [v, ov, iv] (setItem ov iv v)
      release [v, ov, iv] []) := by intro _; rfl) : PTh X pin (.Subscript (.Name x npos) ix pos) (gS i mi) := ⟨(pg_sub (po_n hn).pe hx.pe set_list ha).of fun v σ H Q q => by
  obtain ⟨B, d, ρ, own, ρ', hB, f, es, e, k⟩ := q
  unfold gS at e
  split at e
  · rename_i ds0 es0
    obtain ⟨⟨a, ρ1⟩, e1, e2⟩ := Option.bind_eq_some_iff.mp e
    obtain ⟨t, e3, e4⟩ := Option.bind_eq_some_iff.mp e2
    split at e4
    · rename_i kk ds es1'
      obtain ⟨j, e5, e6⟩ := Option.map_eq_some_iff.mp e4
      cases e6
      refine ⟨B, ρ, own, .slot i, ρ, hB, es, by unfold oN; rw [es0]; rfl, fun o H1 own1 st1 es1 r1 => ?_⟩
      have r1' : σ[i]? = some (some o) := r1
      refine ⟨B, ρ, own1, a, ρ1, hB, es1, e1, fun y H2 own2 st2 es2 r2 => ?_⟩
      obtain ⟨w2, q2, l, xs2, rfl, sa2, hl2, f2⟩ := es2.rep i _ (slotT_some es1')
      rw [r1'] at q2
      cases q2
      have hi : i < σ.length := (List.getElem?_eq_some_iff.mp r1').1
      have ry := argRp es2 r2 e3
      cases (show y = .int kk from ry.int)
      have fv := Fz.step st2 (Fz.step st1 f)
      refine ⟨l, xs2, kk, j, rfl, rfl, hl2, by rw [f2.length]; exact e5, ?_⟩
      exact k σ _ own2 rfl (fun _ _ => rfl) ((st1.trans st2).trans (write_step hi sa2 hl2)) (es2.write hi r1' sa2 hl2 (f2.set fv j))
    · cases e4
  · cases e⟩
theorem pths_0 : PThs X pin [] gs0 := ⟨pgs_nil.of fun vs σ H Q q => by
  obtain ⟨B, ds, ρ, own, ρ', hB, f, es, e, k⟩ := q
  cases f with
  | nil => cases e; exact ⟨rfl, k σ H own rfl (fun _ _ => rfl) .refl es⟩
  | cons a b => cases e⟩
theorem pths_c {e : Expr} {es : List Expr} {m : MG} {ms : MGs} (h1 : PTh X pin e m) (h2 : PThs X pin es ms) (hs : (assignEach (e :: es) X.env).map (·.2) = assign e X.env :: (assignEach es X.env).map (·.2) := by rfl) : PThs X pin (e :: es) (gsC m ms) := ⟨(pgs_cons h1.pg h2.pgs hs).of fun vs σ H Q q => by
  obtain ⟨B, ds, ρ, own, ρ', hB, f, es, e, k⟩ := q
  cases f with
  | nil => cases e
  | cons a b =>
    obtain ⟨ρ1, e1, e2⟩ := Option.bind_eq_some_iff.mp (show (m _ ρ).bind _ = some ρ' from e)
    refine ⟨_, _, rfl, B, _, ρ, own, ρ1, hB, a, es, e1, fun σ1 H1 own1 l1 p1 st1 es1 => ?_⟩
    exact ⟨B, _, ρ1, own1, ρ', by rw [l1]; exact hB, b.mono st1.pk, es1, e2, fun σ2 H2 own2 l2 p2 st2 es2 => k σ2 H2 own2 (l2.trans l1) (fun j hj => (p2 j hj).trans (p1 j hj)) (st1.trans (by rw [← l1]; exact st2)) es2⟩⟩
theorem pth_t {es : List Expr} {k n : Nat} {pos : Pos} {ms : MGs} (hc : X.calm = true) (h : PThs X pin es ms) (hn : (assignEach es X.env).length = n := by rfl) (hst : (assignEach es X.env).findIdx? (·.1) = none := by rfl) : PTh X pin (.Tuple es k pos) (gT n ms) := ⟨(pg_tup hc h.pgs hn hst).of fun v σ H Q q => by
  obtain ⟨B, d, ρ, own, ρ', hB, f, es, e, k⟩ := q
  cases f with
  | tup a b =>
    rename_i ad xs ds
    have e' : (if ds.length = n then ms ds ρ else none) = some ρ' := e
    by_cases hl : ds.length = n
    · rw [if_pos hl] at e'
      exact ⟨_, _, rfl, a, by rw [b.length]; exact hl, B, _, ρ, own, ρ', hB, b, es, e', k⟩
    · rw [if_neg hl] at e'; cases e'
  | _ => cases e⟩
def sAsg (m : ME) (mg : MG) : MS := fun ρ => (m ρ).bind fun p => match p.1 with
  | .z d => (mg d p.2).map fun ρ' => (.nx, ρ')
  | _ => none
theorem ps_asgT {tg e : Expr} {m : ME} {mg : MG} (he : PX X e m) (hg : PTh X pin tg mg) (hs : swapsWithSole [tg] e pos.line X.env = pure false := by rfl) (hw : swappedStores [tg] e X.env = pure none := by rfl)
    (h1 : (assignEach [tg] X.env).map (·.2) = [assign tg X.env] := by rfl) : PSt X pin (.Assign [tg] e pos) (sAsg m mg) := ⟨(ps_asg he.pe hg.pg hs hw h1).of fun D σ H q => by
  obtain ⟨B, ρ, own, f, ρ', hB, es, e, k⟩ := q
  obtain ⟨⟨t, ρ1⟩, e1, e2⟩ := Option.bind_eq_some_iff.mp (show (m ρ).bind _ = some (f, ρ') from e)
  cases t with
  | l ds => cases e2
  | dc ds => cases e2
  | fd ds => cases e2
  | z d =>
    obtain ⟨ρ2, e3, e4⟩ := Option.map_eq_some_iff.mp (show (mg d ρ1).map _ = some (f, ρ') from e2)
    cases e4
    refine ⟨B, ρ, own, .z d, ρ1, hB, es, e1, fun v H1 own1 st1 es1 r1 => ?_⟩
    exact ⟨B, d, ρ1, own1, _, hB, r1, es1, e3, fun σ2 H2 own2 l2 p2 st2 es2 => k σ2 H2 own2 l2 p2 (st1.trans st2) es2⟩⟩

/-! ### a, b = e, f with plain local names -/
def sPar (i j : Nat) (ma : MA) : MS := fun ρ => (ma ρ).bind fun p => match p.1 with
  | [.val t, .val u] => (setSl i t p.2).bind fun ρ1 => (setSl j u ρ1).map fun ρ2 => (.nx, ρ2)
  | _ => none
def sPar3 (i j l : Nat) (ma : MA) : MS := fun ρ => (ma ρ).bind fun p => match p.1 with
  | [.val t, .val u, .val w] => (setSl i t p.2).bind fun ρ1 => (setSl j u ρ1).bind fun ρ2 => (setSl l w ρ2).map fun ρ3 => (.nx, ρ3)
  | _ => none
theorem RepT.relNe {K : Fr} {H : Hp} {v : V} {t : T} {own : Ow} {b i j : Nat} (h : j ≠ b) (r : RepT K H v t fun a => own a = some j) : RepT K H v t fun a => rel b i own a = some j :=
  r.mono .refl fun a o s q => ⟨q, by unfold rel; rw [if_neg (by rw [s]; intro z; cases z; exact h rfl)]; exact s⟩
theorem ps_par' {y : Str} {a b : Expr} {j : Nat} {ma : MA} {px py pt : Pos} {kt k2 pt2} (hc : X.calm = true) (hN : X.N.Nodup) (hi : X.N[i]? = some x) (hj : X.N[j]? = some y) (hij : i ≠ j)
    (hx : X.env.scope.names.lookup x = some .local) (hy : X.env.scope.names.lookup y = some .local) (hpi : pin.contains i = false) (hpj : pin.contains j = false) (ha : PAr X [a, b] ma)
    (hw : swappedStores [.Tuple [.Name x px, .Name y py] kt pt] (.Tuple [a, b] k2 pt2) X.env = pure (some [x, y]) := by rfl)
    (hs : swapsWithSole [.Tuple [.Name x px, .Name y py] kt pt] (.Tuple [a, b] k2 pt2) pos.line X.env = pure false := by rfl) :
    PSt X pin (.Assign [.Tuple [.Name x px, .Name y py] kt pt] (.Tuple [a, b] k2 pt2) pos) (sPar i j ma) := ⟨(ps_par hc hN hi hj hij hx hy ha.pa hw hs).of fun D σ H q => by
  obtain ⟨B, ρ, own, f, ρ', hB, es, e, k⟩ := q
  obtain ⟨⟨as, ρ1⟩, e1, e2⟩ := Option.bind_eq_some_iff.mp (show (ma ρ).bind _ = some (f, ρ') from e)
  refine ⟨B, ρ, own, as, ρ1, hB, es, e1, fun vs H1 own1 st1 es1 r1 => ?_⟩
  split at e2
  · rename_i t u eq
    cases eq
    obtain ⟨ρ2, e3, e4⟩ := Option.bind_eq_some_iff.mp e2
    obtain ⟨ρ3, e5, e6⟩ := Option.map_eq_some_iff.mp e4
    cases e6
    obtain ⟨h1, rfl⟩ := setSl_some e3
    obtain ⟨h2, rfl⟩ := setSl_some e5
    match vs, r1 with
    | [v, w], ⟨rv, rw', _⟩ =>
      have rv : RepT X.K H1 v t fun b => own1 b = some B := rv
      have rw' : RepT X.K H1 w u fun b => own1 b = some (B + 1) := rw'
      have hi' : i < σ.length := by rw [← es1.len]; exact h1
      have hj' : j < σ.length := by rw [← es1.len]; simpa using h2
      refine ⟨v, w, rfl, ?_⟩
      have s1 := es1.setSlot hB hi' rv
      have s2 := s1.setSlot (i := j) (j := B + 1) (by simpa using Nat.le_succ_of_le hB) (by simpa using hj') (rw'.relNe (by omega))
      refine k _ H1 _ (by simp) (fun m hm => ?_) ((st1.trans (rel_step (Nat.le_refl B) hi')).trans (rel_step (Nat.le_succ B) hj')) s2
      rw [pin_ne hpj m hm, pin_ne hpi m hm]
  · cases e2⟩
theorem ps_par3' {y z : Str} {a b c : Expr} {j l : Nat} {ma : MA} {px py pz pt : Pos} {kt k2 pt2} (hc : X.calm = true) (hN : X.N.Nodup) (hi : X.N[i]? = some x) (hj : X.N[j]? = some y) (hl : X.N[l]? = some z) (hij : i ≠ j) (hil : i ≠ l) (hjl : j ≠ l)
    (hx : X.env.scope.names.lookup x = some .local) (hy : X.env.scope.names.lookup y = some .local) (hz : X.env.scope.names.lookup z = some .local) (hpi : pin.contains i = false) (hpj : pin.contains j = false) (hpl : pin.contains l = false) (ha : PAr X [a, b, c] ma)
    (hw : swappedStores [.Tuple [.Name x px, .Name y py, .Name z pz] kt pt] (.Tuple [a, b, c] k2 pt2) X.env = pure (some [x, y, z]) := by rfl)
    (hs : swapsWithSole [.Tuple [.Name x px, .Name y py, .Name z pz] kt pt] (.Tuple [a, b, c] k2 pt2) pos.line X.env = pure false := by rfl) :
    PSt X pin (.Assign [.Tuple [.Name x px, .Name y py, .Name z pz] kt pt] (.Tuple [a, b, c] k2 pt2) pos) (sPar3 i j l ma) := ⟨(ps_par3 hc hN hi hj hl hij hil hjl hx hy hz ha.pa hw hs).of fun D σ H q => by
  obtain ⟨B, ρ, own, f, ρ', hB, es, e, k⟩ := q
  obtain ⟨⟨as, ρ1⟩, e1, e2⟩ := Option.bind_eq_some_iff.mp (show (ma ρ).bind _ = some (f, ρ') from e)
  refine ⟨B, ρ, own, as, ρ1, hB, es, e1, fun vs H1 own1 st1 es1 r1 => ?_⟩
  split at e2
  · rename_i t u t3 eq
    cases eq
    obtain ⟨ρ2, e3, e4⟩ := Option.bind_eq_some_iff.mp e2
    obtain ⟨ρ3, e5, e6⟩ := Option.bind_eq_some_iff.mp e4
    obtain ⟨ρ4, e7, e8⟩ := Option.map_eq_some_iff.mp e6
    cases e8
    obtain ⟨h1, rfl⟩ := setSl_some e3
    obtain ⟨h2, rfl⟩ := setSl_some e5
    obtain ⟨h3, rfl⟩ := setSl_some e7
    match vs, r1 with
    | [v, w, w3], ⟨rv, rw', rw3, _⟩ =>
      have rv : RepT X.K H1 v t fun b => own1 b = some B := rv
      have rw' : RepT X.K H1 w u fun b => own1 b = some (B + 1) := rw'
      have rw3 : RepT X.K H1 w3 t3 fun b => own1 b = some (B + 1 + 1) := rw3
      have hi' : i < σ.length := by rw [← es1.len]; exact h1
      have hj' : j < σ.length := by rw [← es1.len]; simpa using h2
      have hl' : l < σ.length := by rw [← es1.len]; simpa using h3
      refine ⟨v, w, w3, rfl, ?_⟩
      have s1 := es1.setSlot hB hi' rv
      have s2 := s1.setSlot (i := j) (j := B + 1) (by simp; omega) (by simpa using hj') (rw'.relNe (by omega))
      have s3 := s2.setSlot (i := l) (j := B + 2) (by simp; omega) (by simpa using hl') ((rw3.relNe (by omega)).relNe (by omega))
      refine k _ H1 _ (by simp) (fun m hm => ?_) (((st1.trans (rel_step (Nat.le_refl B) hi')).trans (rel_step (Nat.le_succ B) hj')).trans (rel_step (by omega) hl')) s3
      rw [pin_ne hpl m hm, pin_ne hpj m hm, pin_ne hpi m hm]
  · cases e2⟩
end
end VL

set_option Elab.async false
set_option linter.all false
set_option maxRecDepth 100000
set_option maxHeartbeats 4000000
namespace VL
open PySem PySem.Spec PyProof.Rows L2
/-- the abstract heap a law starts with: the script alone, as a list that never changes -/
def scr (K : Fr) (a : Addr) (o : Obj) (xs : List V) : Hp := fun b => if b = a ∧ K.lookup a = none then some (.frz o (.lst xs)) else none
theorem scr_some {K : Fr} {a b : Addr} {o : Obj} {xs : List V} {u : HO} (h : scr K a o xs b = some u) : b = a ∧ K.lookup a = none ∧ u = .frz o (.lst xs) := by
  unfold scr at h
  by_cases c : b = a ∧ K.lookup a = none
  · rw [if_pos c] at h; cases h; exact ⟨c.1, c.2, rfl⟩
  · rw [if_neg c] at h; cases h
/-- the law's call, where the law's def keeps a promise with room for repr too -/
theorem law_callV {P : Program} {w : World} {K : Fr} {mg mb : Str → Option Value} {k : Nat} {fa a : Addr} {fd : FuncData} {x : Str} {sp : Sp} {s : Shared} {vs : List Value} {ns : List Int}
    (hr : RoomG k callerA) (KX : K.In s.heap) (glob : s.heap.Ns mainGlobals mg) (blt : s.heap.Ns builtinsNs mb) (boot : ∀ x : Str, x ≠ "__name__" → mb x = bootBuiltins x) (lim : s.heap.NoLimit) (gens : s.gens = #[])
    (at_ : s.heap.get? a = some { cls := .type "list", data := .seq vs.toArray }) (inn : IntsAre vs ns) (len : ns.length ≤ sizeLine) (bind : ∀ (s : Shared) (u : Value), BindsTo s fd ⟨[u], []⟩ [(x, u)])
    (F : ∀ base : Heap, FnG P w K mg base CX0 k fa fd [x] sp) (says : ∀ H : Hp, FzL K H a (ns.map V.int) → sp [.ref a] H (fun v _ => v = .bl true) fun _ _ _ => False) :
    codeAny (model P w) callerA (.call (.ref fa) ⟨[.ref a], []⟩) (fun r s' => r = .ok (.ret (.bool true)) ∧ OldK s.heap s'.heap ∧ s'.os = s.os ∧ AllBare s'.gens) s := by
  have rel : Vals (ns.map V.int) vs := vals_ints inn
  let H := scr K a { cls := .type "list", data := .seq vs.toArray } (ns.map V.int)
  have ok : HOk P w H s.heap := fun b u e => by
    obtain ⟨rfl, _, rfl⟩ := scr_some e
    exact ⟨at_, by rw [List.length_map]; exact len, vs, _, rel, at_⟩
  have fz : FzL K H a (ns.map V.int) := by
    cases q : K.lookup a with
    | none => exact .inl ⟨_, if_pos ⟨rfl, q⟩⟩
    | some o =>
      have e := KX a o q
      rw [at_] at e
      cases e
      exact .inr ⟨vs.toArray, _, q, by rw [List.size_toArray, inn.length]; exact len, by simpa using rel⟩
  -- what is not the script stands in the base
  have there : ∀ {b : Addr} {o : Obj}, s.heap.get? b = some o → (b = a → K.lookup a = none → False) → (hidT s.heap H).get? b = some o := fun {b o} e n => hidT_get e (by
    cases q : H b with
    | none => rfl
    | some u =>
      obtain ⟨h1, h2, _⟩ := scr_some q
      exact (n h1 h2).elim)
  have names : ∀ {b : Addr} {m : Str → Option Value}, s.heap.Ns b m → (hidT s.heap H).Ns b m := fun {b m} ⟨o, es, ep, e, d, r⟩ => ⟨o, es, ep, there e (fun z _ => by
    subst z
    rw [at_] at e
    cases e
    cases (show Data.seq vs.toArray _ = Data.dict es ep from d)), d, r⟩
  have md : Mod K mg (hidT s.heap H) := ⟨fun b o e => there (KX b o e) fun z n => (by subst z; rw [e] at n; cases n), names glob, ⟨mb, names blt, boot⟩, let ⟨mc, h1, h2⟩ := lim; ⟨mc, names h1, h2⟩⟩
  have e0 : Env0 P w K mg (hidT s.heap H) callerA [] s H := { frames := rfl, mod := md, bs := fun b o e => of_hidT e, bsz := Nat.le_of_eq (hidT_size _ _), funs := trivial, frf := fun b hb => (List.not_mem_nil hb).elim, hok := ok, bare := .of_eq gens }
  refine codeAny_mono ((F _).run callerA [] s H ⟨[.ref a], []⟩ [.ref a] [.ref a] _ _ hr e0 (bind s (.ref a)) (.cons rfl .nil) (says H fz)) fun r s' h => ?_
  cases r with
  | error e => exact False.elim h
  | ok fl =>
    cases fl with
    | ret u =>
      obtain ⟨v, H', os, bare, un, ok', rv, e⟩ := h
      cases (show v = .bl true from e)
      cases (show u = Value.bool true from rv)
      refine ⟨rfl, OldK.of_keep fun b o e => ?_, os, bare⟩
      cases q : H b with
      | none => exact un.keep b o e q (fun z => (List.not_mem_nil z).elim) (List.not_mem_nil)
      | some u =>
        obtain ⟨rfl, hk, rfl⟩ := scr_some q
        have q2 := un.frzs b _ _ q
        rw [at_] at e
        cases e
        exact (ok' b _ q2).1
    | next => exact False.elim h
    | brk => exact False.elim h
    | cont => exact False.elim h
theorem fz_ints {K : Fr} {H : Hp} {a : Addr} {ns : List Int} (h : FzL K H a (ns.map V.int)) : Fz K H (.ref a) (.list (ns.map .int)) := .lst h (FzA.ints ns)
/-- what the law's def must answer: True for every list of ints -/
def LawTrue (n : Nat) (m : MD) : Prop := ∀ ns : List Int, ns.length ≤ n → ∃ ts, m [.z (.list (ns.map .int))] = some (.z (.bool true), ts)
theorem walk_V {l : PySem.W.OpenLaw} {n k : Nat} {q : Program} {loose : List Str} {XP : (Str → Option Value) → Heap → Prop} {YP : World → Heap → Prop} {d : DefRec} {x : Str} {m : MD}
    (hn : l.most = some n) (hn2 : n ≤ sizeLine) (hdf : d.params.defaults = []) (hr : RoomG k callerA) (hm : LawTrue n m)
    (F : ∀ (w : World) (mg : Str → Option Value) (fa : Addr) (h : Heap), YP w h → h.Ns mainGlobals mg → mg d.name = some (.ref fa) →
      ∃ (K : Fr) (fd : FuncData), K.In h ∧ (∀ (s : Shared) (u : Value), BindsTo s fd ⟨[u], []⟩ [(x, u)]) ∧ ∀ base : Heap, FnG l.prog w K mg base CX0 k fa fd [x] (spD K m)) :
    PySem.W.WalkO q loose XP YP l.row.toRowW d [] (fun f vs => PySem.call f vs) := by
  refine Att.attach_call hn hdf fun w s₀ s₁ mg mb fa o pm cd doc a vs ns G Y ho hd hcd hmg hobj hints hlen hg => ?_
  obtain ⟨K, fd, KX, hb, hF⟩ := F w mg fa _ Y G.T.g hmg
  refine law_callV hr KX G.T.g G.T.b G.T.builtins G.T.nolimit hg hobj hints (Nat.le_trans hlen hn2) hb hF fun H fz => ?_
  obtain ⟨ts, e⟩ := hm ns hlen
  refine ⟨[.z (.list (ns.map .int))], fun _ => none, _, ts, ⟨rfl, fun i t e => ?_⟩, e, fun v H' own' _ _ r => ?_⟩
  · cases i with
    | zero => cases e; exact ⟨_, rfl, fz_ints fz⟩
    | succ i => simp at e
  · have r' : Fz K H' v (.bool true) := r
    cases r'; rfl
end VL

set_option Elab.async false
set_option linter.all false
set_option maxRecDepth 100000
set_option maxHeartbeats 4000000
namespace VL
open PySem PySem.Spec PyProof.Rows L2
/-! ### rules with their small premises found by themselves -/
theorem RoomG.u {k : Nat} {A : Around} (r : RoomG k A) : A.units + 65 < cLine := by have := r.rm.un; omega
theorem RoomG.u' {k : Nat} {A : Around} (r : RoomG k A) : A.units + 64 < cLine := by have := r.rm.un; omega
theorem oth {n i : Nat} {vs : List Nat} (h : vs.contains i = true) : (others n vs).contains i = false := by
  cases q : (others n vs).contains i with
  | false => rfl
  | true =>
    have := List.contains_iff_mem.mp q
    unfold others at this
    have := (List.mem_filter.mp this).2
    rw [h] at this
    cases this
section
variable {X : Cx} {pin : List Nat} {x : Str} {pos pos' : Pos} {e : Expr} {p : ME}
theorem pgn (i : Nat) (nd : X.N.Nodup) (hi : X.N[i]? = some x := by rfl) (hx : Loc X.env.scope x := by first | exact Or.inl rfl | exact Or.inr rfl) (hf : X.fn x = true ∨ X.env.scope.names.lookup x = some .local := by first | exact .inl rfl | exact .inr rfl) : PG X (.Name x pos) (gName i) := pg_name nd hi hx hf
theorem st_set (i : Nat) (nd : X.N.Nodup) (he : PX X e p) (hi : X.N[i]? = some x := by rfl) (hx : Loc X.env.scope x := by first | exact Or.inl rfl | exact Or.inr rfl) (hsw : swapsWith e (some (.Name x pos')) pos.line X.env = pure false := by rfl)
    (hf : X.fn x = true ∨ X.env.scope.names.lookup x = some .local := by first | exact .inl rfl | exact .inr rfl) (hp : pin.contains i = false := by rfl) : PSt X pin (.Assign [.Name x pos'] e pos) (sSet i p) := ps_set' (fun t ht => ps_set nd hi hx ht hsw hf) hp he
theorem tg_n (i : Nat) (nd : X.N.Nodup) (hp : pin.contains i = false := by rfl) (hi : X.N[i]? = some x := by rfl) (hx : Loc X.env.scope x := by first | exact Or.inl rfl | exact Or.inr rfl) (hf : X.fn x = true ∨ X.env.scope.names.lookup x = some .local := by first | exact .inl rfl | exact .inr rfl) : PTg X pin (.Name x pos) (gN i) := ptg_n (pg_name nd hi hx hf) hp
theorem th_n (i : Nat) (nd : X.N.Nodup) (hp : pin.contains i = false := by rfl) (hi : X.N[i]? = some x := by rfl) (hx : Loc X.env.scope x := by first | exact Or.inl rfl | exact Or.inr rfl) (hf : X.fn x = true ∨ X.env.scope.names.lookup x = some .local := by first | exact .inl rfl | exact .inr rfl) : PTh X pin (.Name x pos) (gN i) := pth_n (pg_name nd hi hx hf) hp
theorem st_par {y : Str} {a b : Expr} (i j : Nat) {ma : MA} {px py pt : Pos} {kt k2 pt2} (nd : X.N.Nodup) (ha : PAr X [a, b] ma) (hc : X.calm = true := by rfl) (hi : X.N[i]? = some x := by rfl) (hj : X.N[j]? = some y := by rfl) (hij : i ≠ j := by decide)
    (hx : X.env.scope.names.lookup x = some .local := by rfl) (hy : X.env.scope.names.lookup y = some .local := by rfl) (hpi : pin.contains i = false := by rfl) (hpj : pin.contains j = false := by rfl)
    (hw : swappedStores [.Tuple [.Name x px, .Name y py] kt pt] (.Tuple [a, b] k2 pt2) X.env = pure (some [x, y]) := by rfl)
    (hs : swapsWithSole [.Tuple [.Name x px, .Name y py] kt pt] (.Tuple [a, b] k2 pt2) pos.line X.env = pure false := by rfl) :
    PSt X pin (.Assign [.Tuple [.Name x px, .Name y py] kt pt] (.Tuple [a, b] k2 pt2) pos) (sPar i j ma) := ps_par' hc nd hi hj hij hx hy hpi hpj ha hw hs
theorem st_par3 {y z : Str} {a b c : Expr} (i j l : Nat) {ma : MA} {px py pz pt : Pos} {kt k2 pt2} (nd : X.N.Nodup) (ha : PAr X [a, b, c] ma) (hc : X.calm = true := by rfl) (hi : X.N[i]? = some x := by rfl) (hj : X.N[j]? = some y := by rfl) (hl : X.N[l]? = some z := by rfl) (hij : i ≠ j := by decide) (hil : i ≠ l := by decide) (hjl : j ≠ l := by decide)
    (hx : X.env.scope.names.lookup x = some .local := by rfl) (hy : X.env.scope.names.lookup y = some .local := by rfl) (hz : X.env.scope.names.lookup z = some .local := by rfl) (hpi : pin.contains i = false := by rfl) (hpj : pin.contains j = false := by rfl) (hpl : pin.contains l = false := by rfl)
    (hw : swappedStores [.Tuple [.Name x px, .Name y py, .Name z pz] kt pt] (.Tuple [a, b, c] k2 pt2) X.env = pure (some [x, y, z]) := by rfl)
    (hs : swapsWithSole [.Tuple [.Name x px, .Name y py, .Name z pz] kt pt] (.Tuple [a, b, c] k2 pt2) pos.line X.env = pure false := by rfl) :
    PSt X pin (.Assign [.Tuple [.Name x px, .Name y py, .Name z pz] kt pt] (.Tuple [a, b, c] k2 pt2) pos) (sPar3 i j l ma) := ps_par3' hc nd hi hj hl hij hil hjl hx hy hz hpi hpj hpl ha hw hs
theorem st_lc {elt tg iter : Expr} {ifs : List Expr} {scope : Scope} {mi : MI} {mg : MG} {mt : MB} {me : ME} {py spos : Pos} {y : Str} {vs : List Nat} (ow : List (Str × Nat)) (i : Nat) (nd : X.N.Nodup) (hi : PIt X tg iter mi) (ok : BlkOk X.N X.env.scope scope ow)
    (hg : ∀ (n : Nat) (s : Shared) (H : Hp) (C : Addr) (cl : List (Str × Addr)) (fp : List Addr), PTg (X.blk s H scope (compEnvC scope cl C X.env) fp) (others n vs) tg mg)
    (ht : ∀ (s : Shared) (H : Hp) (C : Addr) (cl : List (Str × Addr)) (fp : List Addr), PTs' (X.blk s H scope (compEnvC scope cl C X.env) fp) ifs mt)
    (he : ∀ (s : Shared) (H : Hp) (C : Addr) (cl : List (Str × Addr)) (fp : List Addr), PX (X.blk s H scope (compEnvC scope cl C X.env) fp) elt me) (hv : ow.map (·.2) = vs := by rfl)
    (hc : X.calm = true := by rfl) (hy : X.N[i]? = some y := by rfl) (hyl : X.env.scope.names.lookup y = some .local := by rfl)
    (hsw : swapsWith (.ListComp elt [⟨tg, iter, ifs, 0⟩] scope pos) (some (.Name y py)) spos.line X.env = pure true := by rfl) (hpin : pin.contains i = false := by rfl) (hs : ∀ x, foldedSetIterable iter X.env x = pure x := by intro _; rfl) :
    PSt X pin (.Assign [.Name y py] (.ListComp elt [⟨tg, iter, ifs, 0⟩] scope pos) spos) (sSet i (mLC mi mg mt me vs)) := by
  subst hv
  exact ps_lc hc nd hy hyl hsw hpin hi ok hg ht he hs
theorem px_lc' {elt tg iter : Expr} {ifs : List Expr} {scope : Scope} {mi : MI} {mg : MG} {mt : MB} {me : ME} {vs : List Nat} (ow : List (Str × Nat)) (nd : X.N.Nodup) (hi : PIt X tg iter mi) (ok : BlkOk X.N X.env.scope scope ow)
    (hg : ∀ (n : Nat) (s : Shared) (H : Hp) (C : Addr) (cl : List (Str × Addr)) (fp : List Addr), PTg (X.blk s H scope (compEnvC scope cl C X.env) fp) (others n vs) tg mg)
    (ht : ∀ (s : Shared) (H : Hp) (C : Addr) (cl : List (Str × Addr)) (fp : List Addr), PTs' (X.blk s H scope (compEnvC scope cl C X.env) fp) ifs mt)
    (he : ∀ (s : Shared) (H : Hp) (C : Addr) (cl : List (Str × Addr)) (fp : List Addr), PX (X.blk s H scope (compEnvC scope cl C X.env) fp) elt me) (hv : ow.map (·.2) = vs := by rfl)
    (hc : X.calm = true := by rfl) (hs : ∀ x, foldedSetIterable iter X.env x = pure x := by intro _; rfl) :
    PX X (.ListComp elt [⟨tg, iter, ifs, 0⟩] scope pos) (mLC mi mg mt me vs) := by
  subst hv
  exact px_lc hc nd hi ok hg ht he hs
end
/-! ### keywords -/
def gk (n m : Nat) (perm : List Nat) {α : Type} (us ws : List α) : List α := if us.length = n ∧ ws.length = m then perm.filterMap fun i => (us ++ ws)[i]? else []
theorem vals_pick {vs : List V} {us : List Value} (r : Vals vs us) : ∀ perm : List Nat, Vals (perm.filterMap fun i => vs[i]?) (perm.filterMap fun i => us[i]?)
  | [] => .nil
  | i :: perm => by
    rw [List.filterMap_cons, List.filterMap_cons]
    cases e : vs[i]? with
    | none =>
      have e2 : us[i]? = none := by rw [List.getElem?_eq_none_iff, ← r.length]; exact List.getElem?_eq_none_iff.mp e
      rw [e2]
      exact vals_pick r perm
    | some v =>
      obtain ⟨u, e2, q⟩ := r.get e
      rw [e2]
      exact .cons q (vals_pick r perm)
theorem fza_pick {K : Fr} {H : Hp} {vs : List V} {us : List D} (r : FzA K H vs us) : ∀ perm : List Nat, FzA K H (perm.filterMap fun i => vs[i]?) (perm.filterMap fun i => us[i]?)
  | [] => .nil
  | i :: perm => by
    rw [List.filterMap_cons, List.filterMap_cons]
    cases e : vs[i]? with
    | none =>
      have e2 : us[i]? = none := by rw [List.getElem?_eq_none_iff, ← r.length]; exact List.getElem?_eq_none_iff.mp e
      rw [e2]
      exact fza_pick r perm
    | some v =>
      obtain ⟨u, e2, q⟩ := r.getV i e
      rw [e2]
      exact .cons q (fza_pick r perm)
theorem gk_vals {n m : Nat} {perm : List Nat} {vs zs : List V} {us ws : List Value} (r : Vals vs us) (q : Vals zs ws) : Vals (gk n m perm vs zs) (gk n m perm us ws) := by
  unfold gk
  rw [r.length, q.length]
  by_cases h : us.length = n ∧ ws.length = m
  · rw [if_pos h, if_pos h]; exact vals_pick (r.append q) perm
  · rw [if_neg h, if_neg h]; exact .nil
theorem gk_fz {n m : Nat} {perm : List Nat} {K : Fr} {H : Hp} {vs zs : List V} {us ws : List D} (r : FzA K H vs us) (q : FzA K H zs ws) : FzA K H (gk n m perm vs zs) (gk n m perm us ws) := by
  unfold gk
  rw [r.length, q.length]
  by_cases h : us.length = n ∧ ws.length = m
  · rw [if_pos h, if_pos h]; exact fza_pick (r.append q) perm
  · rw [if_neg h, if_neg h]; exact .nil
theorem kb_of {K : Fr} {x qual : Str} {params : Arguments} {body : List Stmt} {scope : Scope} {f : Addr} {fd : FuncData} {ps ks : List Str} (F : FunD K x qual params body scope [] [] f fd) (n m : Nat) (perm : List Nat) (hp : ps.length ≠ 0)
    (h : ∀ (kV doc pm : Value) (an : Option Addr) (cdv ct : Value) (us ws : List Value), us.length = n → ws.length = m → bindArgs (PySem.W.fnOf x qual params body scope .none kV doc pm an cdv ct) ⟨us, ks.zip ws⟩ = pure (ps.zip (gk n m perm us ws))) : KBinds K fd ps ks (gk n m perm) (gk n m perm) := by
  obtain ⟨oc, od, dV, kV, doc, pm, an, cdv, ct, osl, rfl, lk, hcd, hD, hK⟩ := F.ex
  rcases hD with ⟨_, rfl⟩ | ⟨e, _⟩
  · refine ⟨fun s us ws _ hl => ?_, fun r q => gk_vals r q⟩
    have hh : us.length = n ∧ ws.length = m := Classical.byContradiction fun z => by
      unfold gk at hl
      rw [if_neg z] at hl
      exact hp hl.symm
    exact .of_eq (h kV doc pm an cdv ct us ws hh.1 hh.2)
  · exact absurd rfl e
/-! ### what the top's facts give -/
/-- names of the module that stand for built-in functions (from math import gcd) -/
def bltB (K : Fr) (l : List (Str × Value)) : Bool := l.all fun p => decide (PySem.W.nsIn K mainGlobals p.1 = some (some p.2))
abbrev AlV : Type := He.AlD × Bool
def obsV (n : Nat) (fa : List He.Fa) (fn : List He.DefD) (bl : List (Str × Value)) (g : Addr → Option Obj) : AlV := (He.obsDG n fa fn g, bltB (He.frG g (He.asD g n)) bl)
def hookV (n : Nat) (fa : List He.Fa) (fn : List He.DefD) (bl : List (Str × Value)) : PySem.W.Hook where
  α := AlV
  obs := fun s => obsV n fa fn bl s.heap.get?
  val := fun _ => (He.valD fn, true)
  says := fun _ h => ∃ K : Fr, K.In h ∧ He.SaysD fa fn K ∧ bltB K bl = true
  of := fun _ _ e => ⟨_, He.frG_in, congrArg Prod.fst e, congrArg Prod.snd e⟩
  keeps := fun _ _ _ ⟨K, hK, c⟩ k => ⟨K, PySem.W.Frag.In.keeps hK k, c⟩
theorem obsV_eq {n : Nat} {fa : List He.Fa} {fn : List He.DefD} {bl : List (Str × Value)} {g : Addr → Option Obj} {s : Shared} (h : ∀ a, g a = s.heap.get? a) : obsV n fa fn bl g = (hookV n fa fn bl).obs s := by
  have e : g = s.heap.get? := funext h
  rw [e]; rfl
structure Gd (fa : List He.Fa) (fn : List He.DefD) (bl : List (Str × Value)) (K : Fr) (mg : Str → Option Value) : Prop where
  ex : ∃ h : Heap, K.In h ∧ h.Ns mainGlobals mg
  c : He.SaysD fa fn K
  b : bltB K bl = true
section
variable {fa : List He.Fa} {fn : List He.DefD} {bl : List (Str × Value)} {K : Fr} {mg : Str → Option Value} (g : Gd fa fn bl K mg)
include g
theorem Gd.free (i : Nat) {x : Str} (h : fa[i]? = some (.free x) := by rfl) : mg x = none := by
  obtain ⟨_, X, G⟩ := g.ex
  exact He.free_ok X G (g.c.fact i h)
theorem Gd.int (i : Nat) {x : Str} {n : Int} (h : fa[i]? = some (.int x n) := by rfl) : ∃ t, mg x = some (.int n t) := by
  obtain ⟨_, X, G⟩ := g.ex
  exact He.int_ok X G (g.c.fact i h)
theorem Gd.str (i : Nat) {x z : Str} (h : fa[i]? = some (.str x z) := by rfl) : ∃ t, mg x = some (.str z t) := by
  obtain ⟨_, X, G⟩ := g.ex
  exact He.str_ok X G (g.c.fact i h)
theorem Gd.glo (i : Nat) {x : Str} (h : fa[i]? = some (.glo x) := by rfl) : mg x = some (.ref (He.ga K x)) := by
  obtain ⟨_, X, G⟩ := g.ex
  exact He.glo_ok X G (g.c.fact i h)
theorem Gd.blt (i : Nat) {x : Str} {v : Value} (h : bl[i]? = some (x, v) := by rfl) : mg x = some v := by
  obtain ⟨_, X, G⟩ := g.ex
  exact PySem.W.mg_of X G (of_decide_eq_true (List.all_eq_true.mp g.b (x, v) (List.mem_of_getElem? h)))
end
/-- f(e, ..), f a module's name of a built-in function -/
theorem px_cf {X : Cx} {x : Str} {id : String} {es : List Expr} {e : Expr} {g : List D → Option T} {ms : MA} {p pos : Pos} (hc : CallD X (.builtin id) g) (hg : Gl X x) (hm : X.mg x = some (.builtin id)) (ha : PAr X (e :: es) ms) (hdb : (x == ("__debug__" : Str)) = false := by decide)
    (he : starEach (e :: es) X.env = (false, eval e X.env) :: starEach es X.env := by rfl) (hpl : (backTo pos (starEach es X.env)).any (·.1) = false := by rfl) : PX X (.Call (.Name x p) (e :: es) [] pos) (mCB g ms) :=
  ⟨(pe_callBfun hc hg hm ha.pa hdb he hpl).of fun σ H Q q => tE_cb (fun _ _ _ h => h) q⟩
end VL

set_option Elab.async false
set_option linter.all false
set_option maxRecDepth 100000
set_option maxHeartbeats 4000000
/-! VX1: x[::-1] of a list or a tuple -/
namespace VL
open PySem PySem.Spec PyProof.Rows L2
section
variable {prog : Program} {w : World} {A : Around} {E : Value → Shared → Prop} {s : Shared}
theorem places_back (n : Nat) : Builtin.Slice.slicePlaces ((n : Int) - 1) (-1) (-1) = n := by
  unfold Builtin.Slice.slicePlaces
  have c : ¬ ((-1 : Int) > 0) := by decide
  simp only [c, if_false, show (- -1 : Int) = 1 by decide, Int.ediv_one]
  split <;> omega
theorem adjust_back (n : Nat) : Builtin.Slice.sliceAdjust none none (-1) (n : Int) = ((n : Int) - 1, -1) := by
  unfold Builtin.Slice.sliceAdjust
  simp
theorem pick_back (xs : Array Value) : (List.range xs.size).filterMap (fun m : Nat => xs[((xs.size : Int) - 1 + (m : Int) * (-1)).toNat]?) = xs.toList.reverse := by
  have e1 : (List.range xs.size).filterMap (fun m : Nat => xs[((xs.size : Int) - 1 + (m : Int) * (-1)).toNat]?) = (List.range xs.size).filterMap (fun m : Nat => xs[xs.size - 1 - m]?) := by
    have f : (fun m : Nat => xs[((xs.size : Int) - 1 + (m : Int) * (-1)).toNat]?) = fun m : Nat => xs[xs.size - 1 - m]? := by
      funext m
      rw [show ((xs.size : Int) - 1 + (m : Int) * (-1)).toNat = xs.size - 1 - m by omega]
    rw [f]
  rw [e1]
  have e2 : (List.range xs.size).filterMap (fun m : Nat => xs[xs.size - 1 - m]?) = ((List.range xs.size).map fun k => xs.size - 1 - k).filterMap (xs[·]?) := by rw [List.filterMap_map]; rfl
  rw [e2, PySem.W.krv_range, List.filterMap_reverse, PySem.W.krv_all]
/-- what a slice by steps of -1 is applied as -/
theorem applied_back {sl : Addr} {vl vu vs : Value} {n : Nat} {Q : Int × Int × Nat → Shared → Prop} (hs : s.heap.IsSliceOf sl vl vu vs) (pl : IsPart vl none) (pu : IsPart vu none) (ps : IsPart vs (some (-1)))
    (h : Q ((n : Int) - 1, -1, n) s) : wpAny (model prog w) A (Builtin.Slice.sliceApplied (.ref sl) (pure (n : Int))) Q E s := by
  obtain ⟨o, ho, hcl, hdt⟩ := id hs
  unfold Builtin.Slice.sliceApplied Builtin.Slice.sliceFields
  refine wpAny_bind (wpAny_bind (wpAny_field ho hdt (x := vl) rfl ?_))
  refine wpAny_bind (wpAny_field ho hdt (x := vu) rfl ?_)
  refine wpAny_bind (wpAny_field ho hdt (x := vs) rfl (wpAny_pure ?_))
  refine wpAny_bind (HT.slicePart_ ps ?_)
  show wpAny _ _ (if ((-1 : Int) == 0) = true then _ else _) _ _ s
  rw [if_neg (by decide)]
  refine wpAny_bind (HT.slicePart_ pl ?_)
  refine wpAny_bind (HT.slicePart_ pu ?_)
  refine wpAny_bind (wpAny_pure ?_)
  show wpAny _ _ (match Builtin.Slice.sliceAdjust none none (-1) (n : Int) with | (lo, hi) => pure (lo, (-1 : Int), Builtin.Slice.slicePlaces lo hi (-1))) _ _ s
  rw [adjust_back]
  show wpAny _ _ (pure ((n : Int) - 1, (-1 : Int), Builtin.Slice.slicePlaces ((n : Int) - 1) (-1) (-1))) _ _ s
  rw [places_back]
  exact wpAny_pure h
theorem tup_back {t sl : Addr} {items : Array Value} {vl vu vs : Value} {Q : Value → Shared → Prop} (ht : IsTup s.heap t items) (hs : s.heap.IsSliceOf sl vl vu vs) (pl : IsPart vl none) (pu : IsPart vu none) (ps : IsPart vs (some (-1))) (hz : items.size ≤ sizeLine)
    (h : Q (.ref s.heap.objs.size) { s with heap := s.heap.push { cls := .type "tuple", data := .seq items.toList.reverse.toArray } }) : wpAny (model prog w) A (getItem (.ref t) (.ref sl)) Q E s := by
  have fits : sizeOk (.seq items.toList.reverse.toArray) := by
    show items.toList.reverse.toArray.size ≤ sizeLine
    rw [List.size_toArray, List.length_reverse, Array.length_toList]
    exact hz
  have isSl : s.TypeIs (.ref sl) "slice" := let ⟨o, ho, hc, _⟩ := hs; ⟨o, ho, hc⟩
  unfold getItem
  try with_reducible refine wpAny_holding ?_
  first | refine wpAny_bind (wpAny_pure ?_) | skip
  refine wpAny_bind (wpAny_sequenceKey ht.typeIs (by decide) ?_)
  refine wpAny_bind (wpAny_callSpecial?_slot (name := Str.ofString "__getitem__") ht.typeIs PyProof.Rows.slot_tuple_getitem ?_)
  refine wpAny_call_entry PyProof.Rows.slot_tuple_getitem ht.typeIs entry_tuple_getitem ?_ (args_tuple_getitem _ _)
  show wpAny _ _ (Builtin.Tuple.tupleItemsOf (.ref t) >>= _) _ _ s
  refine wpAny_bind (tupleItemsOf_ ht (wpAny_bind (wpAny_typeOf isSl ?_)))
  rw [if_pos (by decide)]
  refine wpAny_bind (applied_back hs pl pu ps ?_)
  show wpAny _ _ (if (((items.size : Int) - 1) == 0 && ((-1 : Int) == 1) && items.size == items.size) = true then _ else _) _ _ s
  rw [if_neg (by simp), pick_back]
  first
    | exact wpAny_bind (m := Builtin.Tuple.tupleExact _) (wpAny_newObj_type (wpAny_pure ⟨_, rfl, wpAny_pure h⟩) fits)
    | exact wpAny_bind (wpAny_bind (m := Builtin.Tuple.tupleExact _) (wpAny_newObj_type (wpAny_pure (wpAny_pure ⟨_, rfl, wpAny_pure h⟩)) fits))
end
def gRev : D → Option T
  | .list a => some (.l a.reverse)
  | .tuple a => some (.z (.tuple a.reverse))
  | _ => none
def mRev (m : MO) : ME := fun ρ => (m ρ).bind fun p => (p.1.get p.2).bind fun t => (gRev t.data).map fun r => (r, p.2)
section
variable {X : Cx} {e : Expr} {m : MO} {k : Nat} {p1 p2 p3 pos : Pos}
def tRev (K : Fr) (te : TE) : TE := fun σ H Q => te σ H fun x H1 => ∃ d t, Rp K H1 x d ∧ gRev d = some t ∧ ∀ v H', Fresh K H1 H' v t → Q v H'
theorem pe_rev {te : TE} (he : PE X e te) : PE X (.Subscript e (.Slice none none (some (.UnaryOp .USub (.Constant (.int 1) k p1) p2)) p3) pos) (tRev X.K te) := by
  refine ⟨fun pins s σ H Q I h => Subscript_ (thn (he.run pins s σ H _ I h) fun v s1 ⟨x, H1, I1, r1, d, t, rd, eg, q⟩ => ?_)⟩
  have step : L2.PO X (some (.UnaryOp .USub (.Constant (.int 1) k p1) p2)) (tPart (tUn (rU fun i => .int (-i)) (tC (.int 1)))) := po_some (pe_un un_neg pe_int)
  refine wpAny_Slice (thn (po_none.run pins s1 σ H1 (fun o H2 => o = none ∧ H2 = H1) I1 ⟨rfl, rfl⟩) fun vl s2 ⟨l, H2, I2, pl, hl, hh⟩ => ?_)
  cases hl; cases hh
  refine thn (po_none.run pins s2 σ H1 (fun o H3 => o = none ∧ H3 = H1) I2 ⟨rfl, rfl⟩) fun vu s3 ⟨u, H3, I3, pu, hu, hh⟩ => ?_
  cases hu; cases hh
  refine thn (step.run pins s3 σ H1 (fun o H4 => o = some (-1) ∧ H4 = H1) I3 ⟨1, rfl, -1, rfl, rfl, rfl⟩) fun vs s4 ⟨o, H4, I4, ps, ho, hh⟩ => ?_
  cases ho; cases hh
  have I5 : Inv X pins σ H1 { s4 with heap := s4.heap.push { cls := .type "slice", data := .fields #[vl, vu, vs] } } := I4.kept (t' := s4.toks) fun b ob q => Heap.get?_push_of_some _ q
  show wpAny (model X.prog X.w) X.A (subscriptTail e (.Slice none none (some (.UnaryOp .USub (.Constant (.int 1) k p1) p2)) p3) v (.ref s4.heap.objs.size)) (EP X pins σ Q) X.xe { s4 with heap := s4.heap.push { cls := .type "slice", data := .fields #[vl, vu, vs] } }
  unfold gRev at eg
  split at eg
  · cases eg
    obtain ⟨a, xs, rfl, hx, f⟩ := rd.list
    cases r1
    obtain ⟨its, r, ht, hz⟩ := I5.list hx
    have len := r.length
    refine tail_any (ops := [.ref a, .ref s4.heap.objs.size]) ht.isList.typeIs (PySem.slot_list_getitem.lookup) ?_ (by with_unfolding_all rfl)
    refine wpAny_getItem_list_slice ht.isList (Heap.IsSliceOf.new _ vl vu vs) pl pu ps (by decide) ?_ (by rw [List.size_toArray]; omega)
    rw [PySem.W.krv_pick]
    have nw : ObjOk X.prog X.w (upd H1 (s4.heap.push { cls := .type "slice", data := .fields #[vl, vu, vs] }).objs.size (.lst xs.reverse)) ((s4.heap.push { cls := .type "slice", data := .fields #[vl, vu, vs] }).push { cls := .type "list", data := .seq its.reverse.toArray }) (s4.heap.push { cls := .type "slice", data := .fields #[vl, vu, vs] }).objs.size (.lst xs.reverse) :=
      ⟨by rw [List.length_reverse]; exact hz, _, 0, r.reverse, Heap.get?_push_size _ rfl⟩
    exact ⟨.ref _, _, I5.laid (t' := s4.toks) (o := .lst xs.reverse) (fun b ob q => Heap.get?_push_of_some _ q) (Nat.le_refl _) nw, rfl, q _ _ (.lst (I5.hok.fresh (Nat.le_refl _)) f.reverse)⟩
  · cases eg
    obtain ⟨a, xs, rfl, hx, f⟩ := rd.tuple
    cases r1
    obtain ⟨its, r, ht, hz⟩ := I5.tuple hx
    have len := r.length
    refine tail_any (ops := [.ref a, .ref s4.heap.objs.size]) ht.typeIs PyProof.Rows.slot_tuple_getitem.lookup ?_ (by with_unfolding_all rfl)
    refine tup_back ht (Heap.IsSliceOf.new _ vl vu vs) pl pu ps (by rw [List.size_toArray]; omega) ?_
    refine ⟨.ref _, _, I5.laid (t' := s4.toks) (o := .tup xs.reverse) (fun b ob q => Heap.get?_push_of_some _ q) (Nat.le_refl _) ?_, rfl, q _ _ (.tup (I5.hok.fresh (Nat.le_refl _)) f.reverse)⟩
    exact ⟨by rw [List.length_reverse]; exact hz, _, r.reverse, IsTup.new _ _⟩
  · cases eg
theorem px_rev (ha : PO X e m) : PX X (.Subscript e (.Slice none none (some (.UnaryOp .USub (.Constant (.int 1) k p1) p2)) p3) pos) (mRev m) := ⟨(pe_rev ha.pe).of fun σ H Q q => by
  obtain ⟨B, ρ, own, t, ρ', hB, es, e, k⟩ := q
  obtain ⟨⟨a, ρ1⟩, e1, e2⟩ := Option.bind_eq_some_iff.mp (show (m ρ).bind _ = some (t, ρ') from e)
  obtain ⟨u, e3, e4⟩ := Option.bind_eq_some_iff.mp e2
  obtain ⟨w, e5, e6⟩ := Option.map_eq_some_iff.mp e4
  cases e6
  refine ⟨B, ρ, own, a, ρ1, hB, es, e1, fun v H1 own1 st1 es1 r1 => ?_⟩
  exact ⟨u.data, _, argRp es1 r1 e3, e5, fun v2 H2 f => k v2 H2 _ (st1.trans f.step) (f.es es1) f.rep'⟩⟩
end
end VL

set_option Elab.async false
set_option linter.all false
set_option maxRecDepth 100000
set_option maxHeartbeats 4000000
/-! VX2: max, min, in, sorted, extend -/
namespace VL
open PySem PySem.Spec PyProof.Rows L2
/-! ### in, not in -/
def gIn : D → D → Option T
  | d, .list xs => if PyData.canLay0 (.list xs) = true ∧ PyData.canLay0 d = true ∧ min (PyData.depthAll xs) d.depth ≤ 60 then bo (xs.any fun y => PyData.eqv y d) else none
  | d, .tuple xs => if PyData.canLay0 (.tuple xs) = true ∧ PyData.canLay0 d = true ∧ min (PyData.depthAll xs) d.depth ≤ 60 then bo (xs.any fun y => PyData.eqv y d) else none
  | _, _ => none
def gNin : D → D → Option T
  | d, .list xs => if PyData.canLay0 (.list xs) = true ∧ PyData.canLay0 d = true ∧ min (PyData.depthAll xs) d.depth ≤ 60 then bo (!xs.any fun y => PyData.eqv y d) else none
  | d, .tuple xs => if PyData.canLay0 (.tuple xs) = true ∧ PyData.canLay0 d = true ∧ min (PyData.depthAll xs) d.depth ≤ 60 then bo (!xs.any fun y => PyData.eqv y d) else none
  | _, _ => none
section
variable {X : Cx}
theorem od_in (hu : X.A.units + 65 < cLine) : OpD X (compareOp .In) gIn := by
  intro pins s σ H x y v u Q I rx ry ⟨d, e, t, r1, r2, e1, k⟩
  unfold gIn at e1
  split at e1
  · obtain ⟨⟨h1, h2, h3⟩, rfl⟩ := ite_some' e1
    obtain ⟨as, q1⟩ := Dp.reads I _ _ _ r1.dp rx
    obtain ⟨bs, q2⟩ := Dp.reads I _ _ _ r2.dp ry
    exact PySem.SeqAt.in_list_reads q2 q1 h1 h2 (by omega) ⟨.bl _, H, I, rfl, k_bl k⟩
  · obtain ⟨⟨h1, h2, h3⟩, rfl⟩ := ite_some' e1
    obtain ⟨as, q1⟩ := Dp.reads I _ _ _ r1.dp rx
    obtain ⟨bs, q2⟩ := Dp.reads I _ _ _ r2.dp ry
    exact PySem.SeqAt.in_tuple_reads q2 q1 h1 h2 (by omega) ⟨.bl _, H, I, rfl, k_bl k⟩
  · cases e1
theorem od_nin (hu : X.A.units + 65 < cLine) : OpD X (compareOp .NotIn) gNin := by
  intro pins s σ H x y v u Q I rx ry ⟨d, e, t, r1, r2, e1, k⟩
  unfold gNin at e1
  split at e1
  · obtain ⟨⟨h1, h2, h3⟩, rfl⟩ := ite_some' e1
    obtain ⟨as, q1⟩ := Dp.reads I _ _ _ r1.dp rx
    obtain ⟨bs, q2⟩ := Dp.reads I _ _ _ r2.dp ry
    exact PySem.SeqAt.notIn_list_reads q2 q1 h1 h2 (by omega) ⟨.bl _, H, I, rfl, k_bl k⟩
  · obtain ⟨⟨h1, h2, h3⟩, rfl⟩ := ite_some' e1
    obtain ⟨as, q1⟩ := Dp.reads I _ _ _ r1.dp rx
    obtain ⟨bs, q2⟩ := Dp.reads I _ _ _ r2.dp ry
    exact PySem.SeqAt.notIn_tuple_reads q2 q1 h1 h2 (by omega) ⟨.bl _, H, I, rfl, k_bl k⟩
  · cases e1
end
/-! ### max, min of ints -/
def gMaxS (a : List D) : Option T := match ints? a with
  | some (n :: ns) => io (ns.foldl max n)
  | _ => none
def gMinS (a : List D) : Option T := match ints? a with
  | some (n :: ns) => io (ns.foldl min n)
  | _ => none
def gMax : List D → Option T
  | [.list a] => gMaxS a
  | [.tuple a] => gMaxS a
  | _ => none
def gMin : List D → Option T
  | [.list a] => gMinS a
  | [.tuple a] => gMinS a
  | _ => none
theorem ints?_eq : ∀ {a : List D} {ns : List Int}, ints? a = some ns → a = ns.map .int
  | [], _, h => by cases h; rfl
  | .int i :: ds, ns, h => by
    obtain ⟨l, e1, rfl⟩ := Option.map_eq_some_iff.mp (show (ints? ds).map _ = some ns from h)
    rw [ints?_eq e1]; rfl
  | .none :: _, _, e => by cases e
  | .bool _ :: _, _, e => by cases e
  | .str _ :: _, _, e => by cases e
  | .list _ :: _, _, e => by cases e
  | .tuple _ :: _, _, e => by cases e
  | .dict _ :: _, _, e => by cases e
theorem alike_ints (ns : List Int) : PySem.W.AlikeAll (ns.map .int) := by
  refine ⟨fun x hx y hy => ?_, fun x hx => ?_⟩
  · obtain ⟨i, _, rfl⟩ := List.mem_map.mp hx
    obtain ⟨j, _, rfl⟩ := List.mem_map.mp hy
    rfl
  · obtain ⟨i, _, rfl⟩ := List.mem_map.mp hx
    exact fun z => by cases z
theorem reads_int {h : Heap} {v : Value} {i : Int} {as : List Addr} (r : Reads h v (.int i) as) : ∃ t, v = .int i t := by cases r; exact ⟨_, rfl⟩
section
variable {X : Cx}
theorem depth_ints0 (ns : List Int) : PyData.depthAll (ns.map .int) = 0 := PySem.W.depth_ints ns
theorem cd_max (hc : X.calm = true) (hu : X.A.units + 65 < cLine) : CallD X (.builtin "max") gMax := by
  intro pins s σ H xs us Q I rs ⟨ds, t, r, e1, k⟩
  have fin : ∀ (i : Int) (v : Value) (h' : Heap) (tk : Nat) (bs : List Addr), Reads h' v (.int i) bs → (∀ b o, s.heap.get? b = some o → h'.get? b = some o) → (∀ v H', Fresh X.K H H' v (.z (.int i)) → Q v H') → EP X pins σ Q v { s with heap := h', toks := tk } := fun i v h' tk bs rd kp k => by
    obtain ⟨u, rfl⟩ := reads_int rd
    exact ⟨.int i, H, I.kept kp, ⟨_, rfl⟩, k_int k⟩
  unfold gMax gMaxS at e1
  split at e1
  · split at e1
    · rename_i a n ns e2
      cases e1
      obtain ⟨v, rfl, r1⟩ := rpA1 r
      cases ints?_eq e2
      obtain ⟨u, rfl, rx⟩ := vals1 rs
      obtain ⟨as, rd⟩ := Dp.reads I _ _ _ r1.dp rx
      obtain ⟨l, ys, rfl, q1, f1⟩ := r1.list
      cases rx
      obtain ⟨its, rv, pl, hz⟩ := I.list q1
      obtain ⟨bs, rr⟩ := Dp.readsAll I _ _ its (FzA.dp _ _ f1) rv
      have := PySem.W.max_list_data (A := X.A) (vs := its.toArray) (x := .int n) (xs := ns.map .int) (I.ok.hd hc) pl.isList rr (alike_ints (n :: ns)) (by rw [show PyData.depthAll (PyData.int n :: ns.map .int) = 0 from depth_ints0 (n :: ns)]; omega) (Q := EP X pins σ Q) (E := X.xe) (prog := X.prog) (w := X.w) (fun i v h' tk bs hv rd kp => by
        rw [PySem.W.maxD_ints] at rd
        exact fin _ v h' tk bs rd kp k)
      exact this
    · cases e1
  · split at e1
    · rename_i a n ns e2
      cases e1
      obtain ⟨v, rfl, r1⟩ := rpA1 r
      cases ints?_eq e2
      obtain ⟨u, rfl, rx⟩ := vals1 rs
      obtain ⟨l, ys, rfl, q1, f1⟩ := r1.tuple
      cases rx
      obtain ⟨its, rv, pl, hz⟩ := I.tuple q1
      obtain ⟨bs, rr⟩ := Dp.readsAll I _ _ its (FzA.dp _ _ f1) rv
      exact PySem.W.max_tuple_data (A := X.A) (vs := its.toArray) (x := .int n) (xs := ns.map .int) (I.ok.hd hc) pl rr (alike_ints (n :: ns)) (by rw [show PyData.depthAll (PyData.int n :: ns.map .int) = 0 from depth_ints0 (n :: ns)]; omega) (fun i v h' tk bs hv rd kp => by
        rw [PySem.W.maxD_ints] at rd
        exact fin _ v h' tk bs rd kp k)
    · cases e1
  · cases e1
theorem cd_min (hc : X.calm = true) (hu : X.A.units + 65 < cLine) : CallD X (.builtin "min") gMin := by
  intro pins s σ H xs us Q I rs ⟨ds, t, r, e1, k⟩
  have fin : ∀ (i : Int) (v : Value) (h' : Heap) (tk : Nat) (bs : List Addr), Reads h' v (.int i) bs → (∀ b o, s.heap.get? b = some o → h'.get? b = some o) → (∀ v H', Fresh X.K H H' v (.z (.int i)) → Q v H') → EP X pins σ Q v { s with heap := h', toks := tk } := fun i v h' tk bs rd kp k => by
    obtain ⟨u, rfl⟩ := reads_int rd
    exact ⟨.int i, H, I.kept kp, ⟨_, rfl⟩, k_int k⟩
  unfold gMin gMinS at e1
  split at e1
  · split at e1
    · rename_i a n ns e2
      cases e1
      obtain ⟨v, rfl, r1⟩ := rpA1 r
      cases ints?_eq e2
      obtain ⟨u, rfl, rx⟩ := vals1 rs
      obtain ⟨l, ys, rfl, q1, f1⟩ := r1.list
      cases rx
      obtain ⟨its, rv, pl, hz⟩ := I.list q1
      obtain ⟨bs, rr⟩ := Dp.readsAll I _ _ its (FzA.dp _ _ f1) rv
      exact PySem.W.min_list_data (A := X.A) (vs := its.toArray) (x := .int n) (xs := ns.map .int) (I.ok.hd hc) pl.isList rr (alike_ints (n :: ns)) (by rw [show PyData.depthAll (PyData.int n :: ns.map .int) = 0 from depth_ints0 (n :: ns)]; omega) (fun i v h' tk bs hv rd kp => by
        rw [PySem.W.minD_ints] at rd
        exact fin _ v h' tk bs rd kp k)
    · cases e1
  · split at e1
    · rename_i a n ns e2
      cases e1
      obtain ⟨v, rfl, r1⟩ := rpA1 r
      cases ints?_eq e2
      obtain ⟨u, rfl, rx⟩ := vals1 rs
      obtain ⟨l, ys, rfl, q1, f1⟩ := r1.tuple
      cases rx
      obtain ⟨its, rv, pl, hz⟩ := I.tuple q1
      obtain ⟨bs, rr⟩ := Dp.readsAll I _ _ its (FzA.dp _ _ f1) rv
      exact PySem.W.min_tuple_data (A := X.A) (vs := its.toArray) (x := .int n) (xs := ns.map .int) (I.ok.hd hc) pl rr (alike_ints (n :: ns)) (by rw [show PyData.depthAll (PyData.int n :: ns.map .int) = 0 from depth_ints0 (n :: ns)]; omega) (fun i v h' tk bs hv rd kp => by
        rw [PySem.W.minD_ints] at rd
        exact fin _ v h' tk bs rd kp k)
    · cases e1
  · cases e1
end
/-! ### sorted -/
def tupNE : D → Bool
  | .tuple (_ :: _) => true
  | _ => false
def flatK : D → Bool
  | .none => false
  | .tuple _ => false
  | _ => true
def canSort (ds : List D) : Bool := (ds.all fun a => ds.all fun b => PySem.W.alike a b) && (ds.all tupNE || ds.all flatK) && (ds.all fun d => decide (d.depth ≤ 60)) && decide (ds.length ≤ 100000)
def leD (a b : D) : Bool := !PySem.W.dataLt b a
def gSorted : List D → Option T
  | [.list ds] => if canSort ds = true then some (.l (ds.mergeSort leD)) else none
  | _ => none
theorem each_of {K : Fr} {H : Hp} : ∀ {ds : List D} {xs : List V} {us : List Value}, FzA K H xs ds → Vals xs us → PySem.W.EachIs (fun u d => ∃ x : V, L2.RelV x u ∧ Fz K H x d) us ds
  | [], _, _, f, r => by cases f; cases r; exact .nil
  | d :: ds, _, _, f, r => by
    cases f with
    | cons a b =>
      cases r with
      | cons p q => exact .cons ⟨_, p, a⟩ (each_of b q)
theorem of_each {K : Fr} {H : Hp} : ∀ {ds : List D} {us : List Value}, PySem.W.EachIs (fun u d => ∃ x : V, L2.RelV x u ∧ Fz K H x d) us ds → ∃ xs : List V, FzA K H xs ds ∧ Vals xs us
  | _, _, .nil => ⟨[], .nil, .nil⟩
  | _, _, .cons ⟨x, p, a⟩ t => by
    obtain ⟨xs, f, r⟩ := of_each t
    exact ⟨x :: xs, .cons a f, .cons p r⟩
theorem map_id' (ds : List D) : ds.map (fun d => d) = ds := by simp
section
variable {X : Cx}
theorem cd_sorted (hu : X.A.units + 65 < cLine) : CallD X (.builtin "sorted") gSorted := by
  intro pins s σ H xs us Q I rs ⟨ds, t, r, e1, k⟩
  unfold gSorted at e1
  split at e1
  · rename_i ds
    obtain ⟨ok, rfl⟩ := ite_some' e1
    obtain ⟨v, rfl, r1⟩ := rpA1 r
    obtain ⟨u, rfl, rx⟩ := vals1 rs
    obtain ⟨l, ys, rfl, q1, f1⟩ := r1.list
    cases rx
    obtain ⟨its, rv, pl, hz⟩ := I.list q1
    unfold canSort at ok
    simp only [Bool.and_eq_true, decide_eq_true_eq, List.all_eq_true, Bool.or_eq_true] at ok
    obtain ⟨⟨⟨h1, h2⟩, h3⟩, h4⟩ := ok
    have al : PySem.W.AllAlike (ds.map fun d => d) := by rw [map_id']; exact h1
    have so : PySem.W.Sortable (ds.map fun d => d) := by
      rw [map_id']
      rcases h2 with h2 | h2
      · refine .inl fun d hd => ?_
        have := h2 d hd
        cases d with
        | tuple zs => cases zs with
          | nil => cases this
          | cons a b => exact ⟨a, b, rfl⟩
        | _ => cases this
      · refine .inr fun d hd => ?_
        have := h2 d hd
        cases d with
        | none => cases this
        | tuple _ => cases this
        | bool _ => exact ⟨(fun z => nomatch z), (fun _ z => nomatch z)⟩
        | int _ => exact ⟨(fun z => nomatch z), (fun _ z => nomatch z)⟩
        | str _ => exact ⟨(fun z => nomatch z), (fun _ z => nomatch z)⟩
        | list _ => exact ⟨(fun z => nomatch z), (fun _ z => nomatch z)⟩
        | dict _ => exact ⟨(fun z => nomatch z), (fun _ z => nomatch z)⟩
    have ea := each_of f1 rv
    have er : PySem.W.EachIs (fun v b => ∃ as, Reads s.heap v ((fun d => d) b) as) its ds := ea.mono fun u d ⟨x, p, a⟩ => Dp.reads I d x u (Fz.dp d x a) p
    refine PySem.W.sorted_data (vs := its) (enc := fun d => d) pl.isList ea er al so (lim h4) (fun b hb => by have := h3 b hb; omega) fun out ho eo => ?_
    obtain ⟨zs, fz, vz⟩ := of_each eo
    have le : zs.length ≤ sizeLine := by rw [vz.length, ho]; exact lim h4
    have eq : ds.mergeSort (PySem.W.dataLe false fun d => d) = ds.mergeSort leD := rfl
    rw [eq] at fz
    obtain ⟨c, hc⟩ := PyProof.Rows.sortedAll_at s.heap its out.toArray
    have new : H (s.heap.objs.size + 1) = none := I.hok.fresh (Nat.le_succ _)
    refine ⟨.ref (s.heap.objs.size + 1), upd H (s.heap.objs.size + 1) (.lst zs), ?_, rfl, k _ _ (.lst new fz)⟩
    exact I.laid (t' := s.toks) (fun b o e => PyProof.Rows.sortedAll_old e) (Nat.le_succ _) ⟨le, out, c, vz, hc⟩
  · cases e1
end
/-! ### xs.extend(ys), ys a list that is made for it -/
def mExt (i : Nat) (m : ME) : ME := fun ρ => match slotT ρ i with
  | some (.l _) => (m ρ).bind fun p => match p.1, slotT p.2 i with
    | .l es, some (.l ds) => if ds.length + es.length ≤ 100000 then some (.z .none, p.2.set i (some (.l (ds ++ es)))) else none
    | .z (.list es), some (.l ds) => if ds.length + es.length ≤ 100000 then some (.z .none, p.2.set i (some (.l (ds ++ es)))) else none
    | _, _ => none
  | _ => none
def rExtG (K : Fr) : V → List V → Hp → VK → Prop := fun x vs H Q => ∃ l b xs zs, x = .ref l ∧ vs = [.ref b] ∧ H l = some (.lst xs) ∧ (H b = some (.lst zs) ∨ FzL K H b zs) ∧ xs.length + zs.length ≤ sizeLine ∧ Q .non (upd H l (.lst (xs ++ zs)))
section
variable {X : Cx}
theorem mt_extG : MtM X "list.extend" (rExtG X.K) := by
  intro pins s σ H x vs v us Q I rx rv h
  obtain ⟨l, b, xs, zs, rfl, rfl, hH, hB, hz, q⟩ := h
  cases rx
  obtain ⟨u, rfl, ru⟩ := rv.one
  cases ru
  obtain ⟨z, its, n, r, hl, e⟩ := I.lstM hH
  obtain ⟨its2, n2, r2, e2⟩ : ∃ (its : List Value) (n : Nat), Vals zs its ∧ s.heap.get? b = some { cls := .type "list", data := .seq its.toArray n } := by
    rcases hB with hB | hB
    · obtain ⟨z2, its2, n2, r2, hl2, e2⟩ := I.lstM hB
      exact ⟨its2, n2, r2, e2⟩
    · exact hB.obj I
  have hl2 := r2.length
  have hsz : its.toArray.size + its2.toArray.size ≤ sizeLine := by rw [List.size_toArray, List.size_toArray]; omega
  have hlong : ¬ (!its.toArray.isEmpty && Builtin.List.listTooLong (its.toArray.size + its2.toArray.size)) = true := by
    rw [notLongL hsz, Bool.and_false]
    exact Bool.false_ne_true
  refine call_meets F.slot_list_extend ⟨_, e, rfl⟩ F.entry_list_extend (F.args_list_extend_2 _ _)
    (AutoSeq1.list_extend_list_list_0 l its.toArray n b its2.toArray n2 hlong (by rw [List.size_toArray]; omega) (by omega)) ⟨e, e2, ?_⟩
  refine ⟨.non, _, I.lset (its' := its ++ its2) hH e (by simp) (r.append r2) ?_, rfl, q⟩
  rw [List.length_append]
  omega
end
section
variable {X : Cx} {i : Nat} {e : Expr} {x : Str} {npos apos cpos : Pos} {m : ME}
theorem px_ext (hn : PE X (.Name x npos) (tVar i)) (he : PX X e m) (hbase : attributeBase (.Name x npos) "extend" X.env (eval (.Name x npos) X.env) = eval (.Name x npos) X.env := by rfl)
    (hfew : ((backTo cpos (starEach [e] X.env)).all (fun x => !x.1) && (backToKw cpos (keywordEach [] X.env)).all (fun x => x.1.isSome)
      && decide (([e] : List Expr).length + ([] : List Keyword).length + (if ([] : List Keyword).isEmpty then 0 else 1) < 30)) = true := by rfl)
    (hline : (apos.endLine == cpos.line) = true := by rfl) (hs : starEach [e] X.env = (false, eval e X.env) :: starEach [] X.env := by rfl) (hplain : (backTo cpos (starEach [] X.env)).any (·.1) = false := by rfl) :
    PX X (.Call (.Attribute (.Name x npos) "extend" apos) [e] [] cpos) (mExt i m) :=
  ⟨(pe_bm F.plainAttrs_list F.slot_list_extend (by kernel_rfl) mt_extG (po_n hn).pe (pa_cons he.pe pa_nil hs) hbase hfew hline hs hplain).of fun σ H Q q => by
    obtain ⟨B, ρ, own, t, ρ', hB, es, e, k⟩ := q
    unfold mExt at e
    split at e
    · rename_i ds0 es0
      obtain ⟨⟨t1, ρ1⟩, e1, e2⟩ := Option.bind_eq_some_iff.mp e
      refine ⟨B, ρ, own, .slot i, ρ, hB, es, by unfold oN; rw [es0]; rfl, fun v H1 own1 st1 es1 r1 => ?_⟩
      have r1' : σ[i]? = some (some v) := r1
      obtain ⟨w, q1, a, xs, rfl, sa, hl1, f⟩ := es1.rep i _ (slotT_some es0)
      rw [r1'] at q1
      cases q1
      refine ⟨.inl ⟨rfl, xs, SqL.of hl1⟩, B, ρ, own1, t1, ρ1, hB, es1, e1, fun u H2 own2 st2 es2 r2 => ?_⟩
      have hi : i < σ.length := (List.getElem?_eq_some_iff.mp r1').1
      split at e2
      · rename_i es' ds eq1 es1'
        obtain ⟨hl, e3⟩ := ite_some' e2
        cases e3
        obtain ⟨w2, q2, a2, xs2, rfl, sa2, hl2, f2⟩ := es2.rep i _ (slotT_some es1')
        rw [r1'] at q2
        cases q2
        simp only at eq1
        subst eq1
        obtain ⟨b, zs, rfl, sb, hb, fb⟩ := r2
        refine ⟨a, b, xs2, zs, rfl, rfl, hl2, .inl hb, by rw [f2.length, fb.length]; exact lim hl, ?_⟩
        exact k .non _ own2 ((st1.trans st2).trans (write_step hi sa2 hl2)) (es2.write hi r1' sa2 hl2 (f2.append fb)) .non
      · rename_i es' ds eq1 es1'
        obtain ⟨hl, e3⟩ := ite_some' e2
        cases e3
        obtain ⟨w2, q2, a2, xs2, rfl, sa2, hl2, f2⟩ := es2.rep i _ (slotT_some es1')
        rw [r1'] at q2
        cases q2
        simp only at eq1
        subst eq1
        cases r2 with
        | lst hb fb =>
          refine ⟨a, _, xs2, _, rfl, rfl, hl2, .inr hb, by rw [f2.length, fb.length]; exact lim hl, ?_⟩
          exact k .non _ own2 ((st1.trans st2).trans (write_step hi sa2 hl2)) (es2.write hi r1' sa2 hl2 (f2.append fb)) .non
      · cases e2
    · cases e⟩
end
end VL

set_option Elab.async false
set_option linter.all false
set_option maxRecDepth 100000
set_option maxHeartbeats 4000000
/-! VX3: sorted(set(rows)), rows: tuples of ints -/
namespace VL
open PySem PySem.Spec PyProof.Rows L2
/-! ### the order of rows -/
abbrev rowT (r : List Int) : D := .tuple (r.map .int)
def ltI : List Int → List Int → Bool
  | [], [] => false
  | [], _ :: _ => true
  | _ :: _, [] => false
  | x :: a, y :: b => if x = y then ltI a b else decide (x < y)
theorem lt_rows : ∀ a b : List Int, PySem.W.dataLt (rowT a) (rowT b) = ltI a b := by
  have key : ∀ a b : List Int, PyProof.Rows.lexLt PyProof.Rows.itemOrd (PySem.W.keyToksAll (a.map .int)) (PySem.W.keyToksAll (b.map .int)) = ltI a b := by
    intro a
    induction a with
    | nil =>
      intro b
      cases b with
      | nil => rfl
      | cons y b => rfl
    | cons x a ih =>
      intro b
      cases b with
      | nil => rfl
      | cons y b =>
        by_cases h : x = y
        · subst h
          rw [List.map_cons, List.map_cons, PySem.W.dataLt_all_yes rfl (by simp [PyData.eqv]), ih b]
          simp [ltI]
        · rw [List.map_cons, List.map_cons, PySem.W.dataLt_all_no rfl (by simp [PyData.eqv, h])]
          simp only [ltI, if_neg h]
          show (decide (x < y) || (!decide (y < x) && false)) = _
          simp
  intro a b
  rw [PySem.W.dataLt_tuple, key]
theorem ltI_irr : ∀ a : List Int, ltI a a = false
  | [] => rfl
  | x :: a => by simp [ltI, ltI_irr a]
theorem ltI_trans : ∀ a b c : List Int, ltI a b = true → ltI b c = true → ltI a c = true
  | [], [], _, h, _ => by cases h
  | [], _ :: _, [], _, h => by cases h
  | [], _ :: _, _ :: _, _, _ => rfl
  | _ :: _, [], _, h, _ => by cases h
  | _ :: _, _ :: _, [], _, h => by cases h
  | x :: a, y :: b, z :: c, h1, h2 => by
    simp only [ltI] at h1 h2 ⊢
    by_cases e1 : x = y
    · by_cases e2 : y = z
      · subst e1 e2
        simp at h1 h2 ⊢
        exact ltI_trans a b c h1 h2
      · subst e1
        simp [e2] at h1 h2 ⊢
        exact h2
    · by_cases e2 : y = z
      · subst e2
        simp [e1] at h1 h2 ⊢
        exact h1
      · simp [e1, e2] at h1 h2
        have : x < z := by omega
        have ne : x ≠ z := by omega
        simp [ne, this]
theorem ltI_tri : ∀ a b : List Int, ltI a b = false → ltI b a = false → a = b
  | [], [], _, _ => rfl
  | [], _ :: _, h, _ => by cases h
  | _ :: _, [], _, h => by cases h
  | x :: a, y :: b, h1, h2 => by
    simp only [ltI] at h1 h2
    by_cases e : x = y
    · subst e
      simp at h1 h2
      rw [ltI_tri a b h1 h2]
    · have e' : ¬ y = x := fun z => e z.symm
      simp [e, e'] at h1 h2
      omega
/-- the order that sorted keeps, on rows -/
def leI (a b : List Int) : Bool := !ltI b a
theorem leD_rows (a b : List Int) : leD (rowT a) (rowT b) = leI a b := by unfold leD leI; rw [lt_rows]
theorem leI_total (a b : List Int) : leI a b = true ∨ leI b a = true := by
  unfold leI
  cases h : ltI b a with
  | false => exact .inl rfl
  | true =>
    refine .inr ?_
    cases h2 : ltI a b with
    | false => rfl
    | true =>
      have := ltI_trans a b a h2 h
      rw [ltI_irr] at this
      cases this
theorem leI_trans (a b c : List Int) (h1 : leI a b = true) (h2 : leI b c = true) : leI a c = true := by
  unfold leI at *
  cases h : ltI c a with
  | false => rfl
  | true =>
    -- c < a; not b < a, not c < b
    cases q : ltI c b with
    | true => rw [q] at h2; cases h2
    | false =>
      cases q2 : ltI b c with
      | false =>
        have := ltI_tri b c q2 q
        subst this
        rw [h] at h1; cases h1
      | true =>
        have := ltI_trans b c a q2 h
        rw [this] at h1; cases h1
theorem leI_anti (a b : List Int) (h1 : leI a b = true) (h2 : leI b a = true) : a = b := by
  unfold leI at *
  exact ltI_tri a b (by simpa using h2) (by simpa using h1)
theorem sorted_unique {α : Type} {le : α → α → Prop} (anti : ∀ a b, le a b → le b a → a = b) : ∀ {l m : List α}, l.Pairwise le → m.Pairwise le → l.Perm m → l = m
  | [], m, _, _, p => (List.Perm.nil_eq p)
  | a :: l, [], _, _, p => by have := p.length_eq; simp at this
  | a :: l, b :: m, hl, hm, p => by
    have e : a = b := by
      have h1 : a ∈ b :: m := p.mem_iff.mp (List.mem_cons_self ..)
      have h2 : b ∈ a :: l := p.mem_iff.mpr (List.mem_cons_self ..)
      rcases List.mem_cons.mp h1 with h1 | h1
      · exact h1
      · rcases List.mem_cons.mp h2 with h2 | h2
        · exact h2.symm
        · exact anti a b (List.rel_of_pairwise_cons hl h2) (List.rel_of_pairwise_cons hm h1)
    subst e
    rw [sorted_unique anti hl.of_cons hm.of_cons (List.Perm.cons_inv p)]
theorem ints?_ints' : ∀ ns : List Int, ints? (ns.map PyData.int) = some ns
  | [] => rfl
  | n :: ns => by show (ints? (ns.map PyData.int)).map _ = _; rw [ints?_ints' ns]; rfl
/-! ### sets of rows -/
def nub : List (List Int) → List (List Int)
  | [] => []
  | x :: l => if x ∈ l then nub l else x :: nub l
theorem mem_nub : ∀ {l : List (List Int)} {x : List Int}, x ∈ nub l ↔ x ∈ l
  | [], x => Iff.rfl
  | y :: l, x => by
    unfold nub
    by_cases h : y ∈ l
    · rw [if_pos h, mem_nub, List.mem_cons]
      exact ⟨.inr, fun z => z.elim (fun e => e ▸ h) id⟩
    · rw [if_neg h, List.mem_cons, List.mem_cons, mem_nub]
theorem nub_nodup : ∀ l : List (List Int), (nub l).Nodup
  | [] => .nil
  | y :: l => by
    unfold nub
    by_cases h : y ∈ l
    · rw [if_pos h]; exact nub_nodup l
    · rw [if_neg h]; exact List.nodup_cons.mpr ⟨fun z => h (mem_nub.mp z), nub_nodup l⟩
/-- the rows of a set, in order -/
def sortI (l : List (List Int)) : List (List Int) := l.mergeSort leI
theorem sortI_pw (l : List (List Int)) : (sortI l).Pairwise fun a b => leI a b = true := List.pairwise_mergeSort leI_trans (fun a b => Bool.or_eq_true_iff.mpr (leI_total a b)) l
theorem sortI_eq {l m : List (List Int)} (h : m.Pairwise fun a b => leI a b = true) (p : m.Perm l) : m = sortI l :=
  sorted_unique leI_anti h (sortI_pw l) (p.trans (List.mergeSort_perm l leI).symm)
theorem sortI_perm {l m : List (List Int)} (p : l.Perm m) : sortI l = sortI m := sortI_eq (sortI_pw l) ((List.mergeSort_perm l leI).trans p)
def rows? : List D → Option (List (List Int))
  | [] => some []
  | .tuple a :: ds => (ints? a).bind fun r => (rows? ds).map fun rs => r :: rs
  | _ :: _ => none
theorem rows?_eq : ∀ {ds : List D} {rs : List (List Int)}, rows? ds = some rs → ds = rs.map rowT
  | [], _, h => by cases h; rfl
  | .tuple a :: ds, rs, h => by
    obtain ⟨r, e1, e2⟩ := Option.bind_eq_some_iff.mp (show (ints? a).bind _ = some rs from h)
    obtain ⟨rs', e3, rfl⟩ := Option.map_eq_some_iff.mp e2
    rw [rows?_eq e3, ints?_eq e1]; rfl
  | .none :: _, _, h => by cases h
  | .bool _ :: _, _, h => by cases h
  | .int _ :: _, _, h => by cases h
  | .str _ :: _, _, h => by cases h
  | .list _ :: _, _, h => by cases h
  | .dict _ :: _, _, h => by cases h
theorem rows_fz {K : Fr} {H : Hp} : ∀ {rs : List (List Int)} {xs : List V}, FzA K H xs (rs.map rowT) → ∃ ks : List (Addr × List Int), xs = ks.map (fun p => V.ref p.1) ∧ ks.map (·.2) = rs ∧ ∀ p ∈ ks, SqT K H p.1 (p.2.map V.int)
  | [], _, f => by cases f; exact ⟨[], rfl, rfl, fun p hp => by cases hp⟩
  | r :: rs, _, f => by
    cases f with
    | cons a b =>
      obtain ⟨ks, e1, e2, h⟩ := rows_fz (rs := rs) b
      cases a with
      | @tup ad ys _ sq fa =>
        have e : ys = r.map V.int := ints?_fz (ints?_ints' r) fa
        subst e
        exact ⟨(ad, r) :: ks, by rw [e1]; rfl, by rw [← e2]; rfl, fun p hp => by
          rcases List.mem_cons.mp hp with rfl | hp
          · exact sq
          · exact h p hp⟩
theorem perm_map_inv {α β : Type} {f : α → β} : ∀ {l m : List β}, l.Perm m → ∀ {L : List α}, m = L.map f → ∃ L1 : List α, L1.Perm L ∧ l = L1.map f := by
  intro l m p
  induction p with
  | nil =>
    intro L e
    cases L with
    | nil => exact ⟨[], .nil, rfl⟩
    | cons => cases e
  | cons x _ ih =>
    intro L e
    cases L with
    | nil => cases e
    | cons b L =>
      rw [List.map_cons] at e
      obtain ⟨e1, e2⟩ := List.cons.inj e
      obtain ⟨L1, p1, h1⟩ := ih e2
      exact ⟨b :: L1, p1.cons b, by rw [List.map_cons, e1, h1]⟩
  | swap x y l =>
    intro L e
    cases L with
    | nil => cases e
    | cons b L =>
      cases L with
      | nil => cases e
      | cons c L =>
        rw [List.map_cons, List.map_cons] at e
        obtain ⟨e1, e2⟩ := List.cons.inj e
        obtain ⟨e3, e4⟩ := List.cons.inj e2
        exact ⟨c :: b :: L, .swap .., by rw [List.map_cons, List.map_cons, e1, e3, e4]⟩
  | trans _ _ ih1 ih2 =>
    intro L e
    obtain ⟨L2, p2, e2⟩ := ih2 e
    obtain ⟨L1, p1, e1⟩ := ih1 e2
    exact ⟨L1, p1.trans p2, e1⟩
theorem readsAll_row {h : Heap} : ∀ {k : List Int} {vs : List Value}, IntsAre vs k → ReadsAll h vs (k.map .int) []
  | _, _, .nil => .nil
  | _, _, .cons n t r => ReadsAll.cons (as := []) (bs := []) (.int n t) (readsAll_row r)
theorem each_refs {β : Type} {f : β → Value} : ∀ L : List β, PySem.W.EachIs (fun u q => u = f q) (L.map f) L
  | [] => .nil
  | _ :: L => .cons rfl (each_refs L)
theorem refs_each {β : Type} {f : β → Value} : ∀ {us : List Value} {L : List β}, PySem.W.EachIs (fun u q => u = f q) us L → us = L.map f
  | _, _, .nil => rfl
  | _, _, .cons e t => by rw [e, refs_each t]; rfl
theorem each_reads {h : Heap} {a : Addr} {β : Type} {f : β → Value} {enc : β → D} : ∀ {L : List β}, (∀ q ∈ L, Reads h (f q) (enc q) []) → PySem.W.EachIs (fun v b => ∃ as, Reads h v (enc b) as ∧ a ∉ as) (L.map f) L
  | [], _ => .nil
  | q :: L, hq => .cons ⟨[], hq q (List.mem_cons_self ..), List.not_mem_nil⟩ (each_reads fun r hr => hq r (List.mem_cons_of_mem _ hr))
section
variable {P : Program} {w : World} {A : Around} {E : Value → Shared → Prop} {s : Shared}
theorem reads_row {h : Heap} {k : List Int} {b : Addr} (x : IsT P w h k b) : Reads h (.ref b) (rowT k) [] := by
  obtain ⟨o, its, n, ho, hc, hd, hi⟩ := x
  exact .tuple ho hc hd (readsAll_row (ints_of_items hi))
def encR (q : Addr × List Int) : D := rowT q.2
theorem le_encR : PySem.W.dataLe false encR = fun a b => leI a.2 b.2 := by
  funext a b
  exact leD_rows a.2 b.2
theorem alikeAll_ints : ∀ a b : List Int, PySem.W.alike (rowT a) (rowT b) = true := by
  intro a b
  unfold PySem.W.alike
  show PySem.W.alikeAll (a.map .int) (b.map .int) = true
  induction a generalizing b with
  | nil => cases b <;> rfl
  | cons x a ih => cases b with
    | nil => rfl
    | cons y b =>
      show (PySem.W.alike (.int x) (.int y) && PySem.W.alikeAll (a.map .int) (b.map .int)) = true
      rw [ih b]; rfl
theorem depth_row (k : List Int) : PyData.depth (rowT k) = 1 := by
  show PyData.depthAll (k.map .int) + 1 = 1
  rw [depth_ints0]
/-- sorted(set), at the library's level: rows of any numbers -/
theorem sorted_rows {a : Addr} {L : List (Addr × List Int)} {es : Array (Int × Value)} {ep : Nat} {t : SetTable} {Q : Value → Shared → Prop} (R : SetTR P w s.heap a L es ep t) (hh : A.handled = none) (hu : A.units + 65 < cLine) (hne : ∀ p ∈ L, p.2 ≠ [])
    (hQ : ∀ (s' : Shared) (p : Addr) (c : Nat) (L' : List (Addr × List Int)), (∀ b o, s.heap.get? b = some o → s'.heap.get? b = some o) → s'.gens = s.gens → s'.os = s.os → s.heap.objs.size ≤ p →
      s'.heap.get? p = some (seqObj "list" (L'.map fun q => Value.ref q.1).toArray c) → (∀ q ∈ L', q ∈ L) → L'.map (·.2) = sortI (L.map (·.2)) → L'.length = L.length → Q (.ref p) s') :
    wpAny (model P w) A (call (.builtin "sorted") [.ref a]) Q E s := by
  obtain ⟨o, ho, ex, hd⟩ := R.ob
  have size := R.size
  have few := R.few
  refine Calls.call_function_entry kind_sorted plain_sorted entry_sorted (args_sorted1 _) ?_
  unfold Builtin.«sorted»
  refine wpAny_bind (m := checkCount "sorted" 1 1 _) (wpAny_pure (wpAny_bind ?_))
  refine collect_set (A := A.in1) hh ⟨o, ho, ex.1, hd⟩ R.fits (by unfold scanBound; omega) R.tab.ris R.led fun s1 vs kp sz g1 o1 pm => ?_
  have rows : es.toList.map (·.2) = L.map fun q => Value.ref q.1 := by
    rw [R.rows]; unfold rowsOf; rw [List.map_map]; rfl
  rw [rows] at pm
  obtain ⟨L1, p1, rfl⟩ := perm_map_inv pm rfl
  have len : L1.length = L.length := p1.length_eq
  refine wpAny_bind (wpAny_newList ?_ (by rw [List.length_map, sizeLine_eq]; omega))
  have at1 : (s1.heap.push (seqObj "list" (L1.map fun q => Value.ref q.1).toArray 0)).get? s1.heap.objs.size = some (seqObj "list" (L1.map fun q => Value.ref q.1).toArray 0) := Heap.get?_push_size _ rfl
  have old : ∀ b u, s.heap.get? b = some u → (s1.heap.push (seqObj "list" (L1.map fun q => Value.ref q.1).toArray 0)).get? b = some u := fun b u e => Heap.get?_push_of_some _ (kp b u e)
  have rd : ∀ q ∈ L1, Reads (s1.heap.push (seqObj "list" (L1.map fun q => Value.ref q.1).toArray 0)) (Value.ref q.1) (encR q) [] := fun q hq => reads_row (P := P) (w := w) (isT_keep (R.tup q (p1.mem_iff.mp hq)) fun b u e => old b u e)
  have al : PySem.W.AllAlike (L1.map encR) := fun d hd d' hd' => by
    obtain ⟨q, _, rfl⟩ := List.mem_map.mp hd
    obtain ⟨q', _, rfl⟩ := List.mem_map.mp hd'
    exact alikeAll_ints q.2 q'.2
  have so : PySem.W.Sortable (L1.map encR) := .inl fun d hd => by
    obtain ⟨q, hq, rfl⟩ := List.mem_map.mp hd
    have ne := hne q (p1.mem_iff.mp hq)
    unfold encR
    cases e : q.2 with
    | nil => exact absurd e ne
    | cons x r => exact ⟨.int x, r.map .int, rfl⟩
  refine wpAny_bind (wpAny_holding (PySem.W.list_sort_data (s := { s1 with heap := s1.heap.push (seqObj "list" (L1.map fun q => Value.ref q.1).toArray 0) }) (enc := encR) at1 (each_refs L1) (each_reads rd) al so (by rw [sizeLine_eq]; omega) (fun b _ => by show A.units + 1 + 1 + PyData.depth (rowT b.2) < _; rw [depth_row]; omega) fun out ho eo => ?_))
  have eo' := refs_each eo
  subst eo'
  obtain ⟨c, hc⟩ := sortedHeap_at (vs := L1.map fun q => Value.ref q.1) (out := ((L1.mergeSort (PySem.W.dataLe false encR)).map fun q => Value.ref q.1).toArray) at1
  refine wpAny_pure ⟨_, rfl, hQ _ s1.heap.objs.size c (L1.mergeSort (PySem.W.dataLe false encR)) (fun b u e => ?_) g1 o1 sz hc (fun q hq => ?_) ?_ ?_⟩
  · have q := kp b u e
    have lt := Heap.lt_size q
    show (sortedHeap (s1.heap.push (seqObj "list" (L1.map fun q => Value.ref q.1).toArray 0)) s1.heap.objs.size _ _).get? b = some u
    rw [sortedHeap_old (Nat.ne_of_lt lt) (by rw [size_push']; exact Nat.lt_succ_of_lt lt)]
    exact Heap.get?_push_of_some _ q
  · exact p1.mem_iff.mp ((List.mergeSort_perm _ _).mem_iff.mp hq)
  · rw [le_encR]
    refine sortI_eq ?_ (((List.mergeSort_perm _ _).trans p1).map _)
    exact List.pairwise_map.mpr (List.pairwise_mergeSort (le := fun a b : Addr × List Int => leI a.2 b.2) (fun a b c => leI_trans a.2 b.2 c.2) (fun a b => Bool.or_eq_true_iff.mpr (leI_total a.2 b.2)) L1)
  · rw [List.length_mergeSort, len]
end
def rSortedR (K : Fr) (P : Program) (w : World) : List V → Hp → VK → Prop := fun vs H Q => ∃ (a : Addr) (L : List (Addr × List Int)), vs = [V.ref a] ∧ H a = some (SetTO P w a L) ∧ (∀ p ∈ L, SqT K H p.1 (p.2.map V.int)) ∧ (∀ p ∈ L, p.2 ≠ []) ∧
  ∀ (p : Addr) (zs : List V), H p = none → (L.map (·.2)).Nodup → FzA K H zs ((sortI (L.map (·.2))).map rowT) → Q (.ref p) (upd H p (.lst zs))
section
variable {X : Cx}
theorem refs_fz {K : Fr} {H : Hp} : ∀ {L : List (Addr × List Int)}, (∀ q ∈ L, SqT K H q.1 (q.2.map V.int)) → FzA K H (L.map fun q => V.ref q.1) ((L.map (·.2)).map rowT)
  | [], _ => .nil
  | q :: L, h => .cons (.tup (h q (List.mem_cons_self ..)) (FzA.ints q.2)) (refs_fz fun r hr => h r (List.mem_cons_of_mem _ hr))
theorem cr_sortedR (hc : X.calm = true) (hu : X.A.units + 65 < cLine) : CallR X (.builtin "sorted") (rSortedR X.K X.prog X.w) := by
  intro pins s σ H vs us Q I r h
  obtain ⟨a, L, rfl, ha, hk, hne, q⟩ := h
  have R0 : SetT0 X.prog X.w s.heap a L := (I.hok a _ ha).1
  obtain ⟨es, ep, t, R⟩ := R0.full fun p hp => I.isT (hk p hp)
  rw [Vals.ref1 r]
  refine sorted_rows R (I.ok.hd hc) hu hne fun s' p c L' kp g o hp hg sub eq len => ?_
  have few := R.few
  have lz : (L'.map fun q => V.ref q.1).length ≤ sizeLine := by rw [List.length_map, sizeLine_eq]; omega
  have new : H p = none := I.hok.fresh hp
  have fz := refs_fz (K := X.K) (H := H) (L := L') fun q hq => hk q (sub q hq)
  rw [eq] at fz
  have J : Inv X pins σ (upd H p (.lst (L'.map fun q => V.ref q.1))) { s with heap := s'.heap, gens := s'.gens, drawn := s'.drawn, toks := s'.toks } :=
    I.call (ch := []) (Un.laid kp hp new) (I.hok.laid kp hp ⟨lz, _, c, vals_of_refs L', hg⟩) (by rw [g]; exact I.bare) (fun _ z => nomatch z)
  have same : s' = { s with heap := s'.heap, gens := s'.gens, drawn := s'.drawn, toks := s'.toks } := by
    obtain ⟨h1, h2, h3, h4, h5⟩ := s'
    cases o
    rfl
  rw [same]
  exact ⟨.ref p, _, J, rfl, q p _ new R.nd fz⟩
def gSS : D → Option T
  | .list ds => match rows? ds with
    | some rs => if rs.length < 64 ∧ [] ∉ rs then some (.l ((sortI (nub rs)).map rowT)) else none
    | none => none
  | _ => none
def mSS (m : MO) : ME := fun ρ => (m ρ).bind fun p => (p.1.get p.2).bind fun t => (gSS t.data).map fun r => (r, p.2)
variable {e : Expr} {m : MO} {p p2 pos pos2 : Pos}
/-- sorted(set(e)), e a list of rows -/
theorem px_ss (hc : X.calm = true) (hu : X.A.units + 65 < cLine) (hg : Gl X "sorted") (hm : X.mg "sorted" = none) (hg2 : Gl X "set") (hm2 : X.mg "set" = none) (ha : PO X e m)
    (hs : starEach [e] X.env = (false, eval e X.env) :: starEach [] X.env := by rfl) (hpl : (backTo pos2 (starEach [] X.env)).any (·.1) = false := by rfl)
    (hs2 : starEach [.Call (.Name "set" p2) [e] [] pos2] X.env = (false, eval (.Call (.Name "set" p2) [e] [] pos2) X.env) :: starEach [] X.env := by rfl) (hpl2 : (backTo pos (starEach [] X.env)).any (·.1) = false := by rfl) :
    PX X (.Call (.Name "sorted" p) [.Call (.Name "set" p2) [e] [] pos2] [] pos) (mSS m) :=
  ⟨(pe_callB (cr_sortedR hc hu) hg hm (by decide +kernel) (pa_cons (pe_callTy (cr_setOfT (X := X) hc (by omega)) hg2 hm2 (by decide +kernel) (pa_cons ha.pe pa_nil hs) (he := hs) (hpl := hpl)) pa_nil hs2) (he := hs2) (hpl := hpl2)).of fun σ H Q q => by
    obtain ⟨B, ρ, own, t, ρ', hB, es, e1, k⟩ := q
    obtain ⟨⟨a, ρ1⟩, e2, e3⟩ := Option.bind_eq_some_iff.mp (show (m ρ).bind _ = some (t, ρ') from e1)
    obtain ⟨u, e4, e5⟩ := Option.bind_eq_some_iff.mp e3
    obtain ⟨z, e6, e7⟩ := Option.map_eq_some_iff.mp e5
    cases e7
    refine ⟨B, ρ, own, a, _, hB, es, e2, fun v H1 own1 st1 es1 r1 => ?_⟩
    have rd := argRp es1 r1 e4
    unfold gSS at e6
    split at e6
    · rename_i ds eq
      rw [eq] at rd
      split at e6
      · rename_i rs er
        obtain ⟨⟨few, ne⟩, rfl⟩ := ite_some' e6
        cases rows?_eq er
        obtain ⟨l, xs, rfl, sq, f⟩ := rd.list
        obtain ⟨ks, rfl, ek, hk⟩ := rows_fz f
        refine ⟨l, ks, rfl, sq, hk, by rw [← List.length_map (f := (·.2)), ek]; exact few, fun A L hA sub all => ?_⟩
        have up : ∀ b o, H1 b = some o → upd H1 A (SetTO X.prog X.w A L) b = some o := fun b o e => by rw [upd_ne (ne_of_none e hA)]; exact e
        have pk1 : PK H1 (upd H1 A (SetTO X.prog X.w A L)) := .new hA
        refine ⟨A, L, rfl, upd_same, fun q hq => sqT_mono pk1 (hk q (sub q hq)), fun q hq z => ?_, fun P zs hP nd fz => ?_⟩
        · refine ne ?_
          rw [← ek, ← z]
          exact List.mem_map.mpr ⟨q, sub q hq, rfl⟩
        · have hP1 : H1 P = none := by
            cases y : H1 P with
            | none => rfl
            | some o => rw [up P o y] at hP; cases hP
          have mem : ∀ x, x ∈ L.map (·.2) ↔ x ∈ rs := fun x => ⟨fun hx => by
            obtain ⟨q, hq, rfl⟩ := List.mem_map.mp hx
            rw [← ek]; exact List.mem_map.mpr ⟨q, sub q hq, rfl⟩, fun hx => by
            rw [← ek] at hx
            obtain ⟨q, hq, rfl⟩ := List.mem_map.mp hx
            exact all q hq⟩
          have e : sortI (L.map (·.2)) = sortI (nub rs) := sortI_perm ((List.perm_ext_iff_of_nodup nd (nub_nodup rs)).mpr fun x => (mem x).trans mem_nub.symm)
          rw [e] at fz
          have fr : Fresh X.K H1 (upd (upd H1 A (SetTO X.prog X.w A L)) P (.lst zs)) (.ref P) (.l ((sortI (nub rs)).map rowT)) :=
            ⟨fun b o y => by rw [upd_ne (ne_of_none (up b o y) hP)]; exact up b o y, ⟨P, zs, rfl, hP1, upd_same, fz.mono (.new hP)⟩⟩
          exact k _ _ _ (st1.trans fr.step) (fr.es es1) fr.rep'
      · cases e6
    · cases e6⟩
end
end VL

set_option Elab.async false
set_option linter.all false
set_option maxRecDepth 100000
set_option maxHeartbeats 4000000
/-! VX4: loops over a list that a local owns, which stays its own -/
namespace VL
open PySem PySem.Spec PyProof.Rows L2
def tIN (K : Fr) (i : Nat) : TI := fun σ H R => ∃ v, σ[i]? = some (some v) ∧ ((∃ d ds, Fz K H v d ∧ seqOf d = some ds ∧ ∀ J, WalkD J K H ds → R J H) ∨ ∃ a xs, v = .ref a ∧ H a = some (.lst xs) ∧ R (Itl K a) H)
theorem pi_n {X : Cx} {tg : Expr} {i : Nat} {x : Str} {npos : Pos} (h : PE X (.Name x npos) (tVar i)) : PI X tg (.Name x npos) (tIN X.K i) := PI.of' (pi_seq h) fun σ H R q => by
  obtain ⟨v, e, q⟩ := q
  refine ⟨v, e, ?_⟩
  rcases q with ⟨d, ds, f, es, r⟩ | ⟨a, xs, ev, ha, r⟩
  · obtain ⟨kk, a, xs, ev, fk, fa⟩ := fzSeq f es
    exact ⟨kk, a, xs, ev, fk.sq, fun pins s I => r _ (walk_seq I fk fa)⟩
  · exact ⟨.l, a, xs, ev, SqL.of ha, fun pins s I => r⟩
def forLGo (i : Nat) (mg : MG) (mb : MS) : Nat → Nat → MS
  | 0, _, _ => none
  | n + 1, k, ρ => match slotT ρ i with
    | some (.l ds) => match ds[k]? with
      | none => some (.nx, ρ)
      | some d => (mg d ρ).bind fun ρ1 => (mb ρ1).bind fun p => match p.1 with
        | .nx => forLGo i mg mb n (k + 1) p.2
        | .ct => forLGo i mg mb n (k + 1) p.2
        | .bk => some (.nx, p.2)
        | .ret t => some (.ret t, p.2)
    | _ => none
/-- for .. in a local -/
def sForN (i : Nat) (mg : MG) (mb : MS) : MS := fun ρ => match slotT ρ i with
  | some (.l _) => forLGo i mg mb 1000000 0 ρ
  | some (.z d) => (seqOf d).bind fun ds => forGo mg mb ds ρ
  | _ => none
theorem sqL_get {K : Fr} {H : Hp} {a : Addr} {xs : List V} (h : H a = some (.lst xs)) : SqL K H a xs := SqL.of h
theorem ps_forN {X : Cx} {pin : List Nat} {tg : Expr} {i : Nat} {x : Str} {npos : Pos} {body : List Stmt} {pos : Pos} {mg : MG} {mb : MS} (hp : PassesOwn (model X.prog X.w) X.A X.env X.xe) (hc : X.calm = true) (hn : PE X (.Name x npos) (tVar i)) (hg : PTg X (i :: pin) tg mg) (hb : PSts X (i :: pin) body mb)
    (hs : ∀ y, foldedSetIterable (.Name x npos) X.env y = pure y := by intro _; rfl) : PSt X pin (.For tg (.Name x npos) body [] pos) (sForN i mg mb) := ⟨(ps_for hp hc (pi_n hn) hg.pg hb.ps hs).of fun E σ H q => by
  obtain ⟨B, ρ, own, f, ρ', hB, es, e, k⟩ := q
  unfold sForN at e
  split at e
  · rename_i ds0 e0
    obtain ⟨v, ev, a, xs0, rfl, sa, ha, f0⟩ := es.rep i _ (slotT_some e0)
    refine ⟨_, ev, .inr ⟨a, xs0, rfl, ha, ?_⟩⟩
    let G : Nat → Nat → St → Hp → Prop := fun j m σ' H' => ∃ ρi owni, forLGo i mg mb m j ρi = some (f, ρ') ∧ σ'.length = σ.length ∧ (∀ j ∈ i :: pin, σ'[j]? = σ[j]?) ∧ Step σ.length B own H owni H' ∧ ES X.K H' σ' ρi owni
    refine ⟨G, ⟨1000000, ρ, own, e, rfl, fun _ _ => rfl, .refl, es⟩, ?_⟩
    rintro j m σ' H' ⟨ρi, owni, ei, li, pi, sti, esi⟩
    cases m with
    | zero => cases ei
    | succ m =>
      unfold forLGo at ei
      split at ei
      · rename_i ds es0
        obtain ⟨w, ew, a', xs, rfl, sa', ha', f'⟩ := esi.rep i _ (slotT_some es0)
        have : σ'[i]? = σ[i]? := pi i (List.mem_cons_self ..)
        rw [this, ev] at ew
        cases ew
        split at ei
        · rename_i ed
          cases ei
          have lx : xs.length ≤ j := by rw [f'.length]; exact List.getElem?_eq_none_iff.mp ed
          exact .inl ⟨⟨xs, SqL.of ha', lx⟩, k σ' H' owni li (fun q hq => pi q (List.mem_cons_of_mem _ hq)) sti esi⟩
        · rename_i d ed
          obtain ⟨u, eu, fu⟩ := f'.get j ed
          refine .inr ⟨⟨xs, u, SqL.of ha', eu⟩, fun σ2 H2 => G (j + 1) m σ2 H2, fun σ2 H2 g => ⟨m, Nat.lt_succ_self m, g⟩, fun y H2 yd => ?_⟩
          obtain ⟨rfl, yd⟩ := yd
          have ey := yd xs (SqL.of ha')
          rw [eu] at ey
          cases ey
          obtain ⟨ρg, eg, ei2⟩ := Option.bind_eq_some_iff.mp (show (mg d ρi).bind _ = some (f, ρ') from ei)
          obtain ⟨⟨fl, ρb⟩, eb, ei3⟩ := Option.bind_eq_some_iff.mp ei2
          refine ⟨d, ρi, owni, ρg, fu, esi, eg, fun σ3 l3 p3 es3 => ?_⟩
          refine ⟨B, ρg, owni, fl, ρb, by rw [l3, li]; exact hB, es3, eb, fun σ4 H4 own4 l4 p4 st4 es4 => ?_⟩
          rw [l3, li] at st4
          have l4' : σ4.length = σ.length := l4.trans (l3.trans li)
          have p4' : ∀ j ∈ i :: pin, σ4[j]? = σ[j]? := fun j hj => (p4 j hj).trans ((p3 j hj).trans (pi j hj))
          have p4'' : ∀ j ∈ pin, σ4[j]? = σ[j]? := fun j hj => p4' j (List.mem_cons_of_mem _ hj)
          have st' : Step σ.length B own H own4 H4 := sti.trans st4
          cases fl with
          | nx => exact ⟨ρb, own4, ei3, l4', p4', st', es4⟩
          | ct => exact ⟨ρb, own4, ei3, l4', p4', st', es4⟩
          | bk => cases ei3; exact k σ4 H4 own4 l4' p4'' st' es4
          | ret t =>
            cases ei3
            intro v r
            exact k σ4 H4 own4 l4' p4'' st' es4 v r
      · cases ei
  · rename_i d0 e0
    obtain ⟨ds, eq, e2⟩ := Option.bind_eq_some_iff.mp e
    obtain ⟨v, ev, fz0⟩ := es.rep i _ (slotT_some e0)
    refine ⟨v, ev, .inl ⟨d0, ds, fz0, eq, fun J W => ?_⟩⟩
    let G : Nat → Nat → St → Hp → Prop := fun i m σ' H' => m = ds.length - i ∧ i ≤ ds.length ∧ ∃ ρi owni, forGo mg mb (ds.drop i) ρi = some (f, ρ') ∧ σ'.length = σ.length ∧ (∀ j ∈ pin, σ'[j]? = σ[j]?) ∧ Step σ.length B own H owni H' ∧ PK H H' ∧ ES X.K H' σ' ρi owni
    refine ⟨G, ⟨ds.length, rfl, Nat.zero_le _, ρ, own, e2, rfl, fun _ _ => rfl, .refl, .refl, es⟩, ?_⟩
    rintro i m σ' H' ⟨rfl, hi, ρi, owni, ei, li, pi, sti, pki, esi⟩
    by_cases hlt : i < ds.length
    · refine .inr ⟨W.go i H' pki hlt, fun σ2 H2 => G (i + 1) (ds.length - (i + 1)) σ2 H2, fun σ2 H2 g => ⟨_, by omega, g⟩, fun x H2 y => ?_⟩
      obtain ⟨d, ed, fz, same⟩ := W.yld i H' x H2 pki hlt y
      have edr : ds.drop i = d :: ds.drop (i + 1) := by
        rw [List.drop_eq_getElem_cons hlt]
        rw [List.getElem?_eq_getElem hlt] at ed
        cases ed; rfl
      rw [edr] at ei
      obtain ⟨ρg, eg, ei2⟩ := Option.bind_eq_some_iff.mp (show (mg d ρi).bind _ = some (f, ρ') from ei)
      obtain ⟨⟨fl, ρb⟩, eb, ei3⟩ := Option.bind_eq_some_iff.mp ei2
      have st2 : Step σ.length B owni H' owni H2 := ⟨fun b o e _ => ⟨same b o e, rfl⟩, fun b q => .inl q, .same same⟩
      have es2 : ES X.K H2 σ' ρi owni := esi.same (.same same) fun a o j ha _ e => ⟨same a o e, ha⟩
      refine ⟨d, ρi, owni, ρg, fz, es2, eg, fun σ3 l3 p3 es3 => ?_⟩
      refine ⟨B, ρg, owni, fl, ρb, by rw [l3, li]; exact hB, es3, eb, fun σ4 H4 own4 l4 p4 st4 es4 => ?_⟩
      rw [l3, li] at st4
      have l4' : σ4.length = σ.length := l4.trans (l3.trans li)
      have p4' : ∀ j ∈ pin, σ4[j]? = σ[j]? := fun j hj => (p4 j (List.mem_cons_of_mem _ hj)).trans ((p3 j (List.mem_cons_of_mem _ hj)).trans (pi j hj))
      have st' : Step σ.length B own H own4 H4 := (sti.trans st2).trans st4
      have pk' : PK H H4 := (pki.trans st2.pk).trans st4.pk
      cases fl with
      | nx => exact ⟨rfl, hlt, ρb, own4, ei3, l4', p4', st', pk', es4⟩
      | ct => exact ⟨rfl, hlt, ρb, own4, ei3, l4', p4', st', pk', es4⟩
      | bk => cases ei3; exact k σ4 H4 own4 l4' p4' st' es4
      | ret t =>
        cases ei3
        intro v r
        exact k σ4 H4 own4 l4' p4' st' es4 v r
    · have e : i = ds.length := by omega
      subst e
      rw [List.drop_length] at ei
      cases ei
      exact .inl ⟨W.stop H' pki, k σ' H' owni li pi sti esi⟩
  · cases e⟩
theorem ite_s2 {p : Prop} [Decidable p] {α : Type} {x : Option α} {y : α} (h : (if p then x else none) = some y) : p ∧ x = some y := by
  by_cases c : p
  · rw [if_pos c] at h; exact ⟨c, h⟩
  · rw [if_neg c] at h; cases h
/-! ### comprehensions -/
def lcLGo (i : Nat) (mg : MG) (mt : MB) (me : ME) (vs : List Nat) : Nat → Nat → Env → List D → Option (List D × Env)
  | 0, _, _, _ => none
  | n + 1, k, ρ, acc => match slotT ρ i with
    | some (.l ds) => match ds[k]? with
      | none => some (acc, ρ)
      | some d => (mg d ρ).bind fun ρ1 => (mt ρ1).bind fun b => match b.1 with
        | false => lcLGo i mg mt me vs n (k + 1) (wipeE b.2 vs) acc
        | true => (me b.2).bind fun p => match p.1 with
          | .z y => if acc.length < 100000 then lcLGo i mg mt me vs n (k + 1) (wipeE p.2 vs) (acc ++ [y]) else none
          | _ => none
    | _ => none
def iNm (i : Nat) : MI := fun ρ => match slotT ρ i with
  | some (.z d) => (seqOf d).map fun ds => (ds, ρ)
  | _ => none
def mLCN (i : Nat) (mg : MG) (mt : MB) (me : ME) (vs : List Nat) : ME := fun ρ => match slotT ρ i with
  | some (.l _) => (lcLGo i mg mt me vs 1000000 0 (wipeE ρ vs) []).map fun q => (.l q.1, restE ρ q.2 vs)
  | _ => mLC (iNm i) mg mt me vs ρ
theorem tI_N {K : Fr} {i : Nat} {σ : St} {H : Hp} {R : It → Hp → Prop} (q : tI K (iNm i) σ H R) : tIN K i σ H R := by
  obtain ⟨B, ρ, own, ds, ρ', hB, es, e, k⟩ := q
  unfold iNm at e
  split at e
  · rename_i d e0
    obtain ⟨ds', e1, e2⟩ := Option.map_eq_some_iff.mp e
    cases e2
    obtain ⟨v, ev, fz⟩ := es.rep i _ (slotT_some e0)
    exact ⟨v, ev, .inl ⟨d, _, fz, e1, fun J W => k J H own .refl es W⟩⟩
  · cases e
theorem tLcN_of {X : Cx} {K : Fr} {i : Nat} {mg : MG} {mt : MB} {me : ME} {vs : List Nat} {σ : St} {H : Hp} {Q : VK} (q : tE K (mLCN i mg mt me vs) σ H Q) : tLc (tIN K i) (tG K (others σ.length vs) mg) (tT K mt) (tE K me) vs σ H Q := by
  obtain ⟨B, ρ, own, t, ρ', hB, es, e, k⟩ := q
  unfold mLCN at e
  split at e
  · rename_i ds0 e0
    obtain ⟨⟨out, ρ2⟩, e3, e4⟩ := Option.map_eq_some_iff.mp e
    cases e4
    obtain ⟨v, ev, a, xs0, rfl, sa, ha, f0⟩ := es.rep i _ (slotT_some e0)
    refine ⟨_, ev, .inr ⟨a, xs0, rfl, ha, fun D hD => ?_⟩⟩
    have hi0 : i < σ.length := (List.getElem?_eq_some_iff.mp ev).1
    let own2 : Ow := fun b => if b = D then some B else own b
    have own2_ne : ∀ {b}, b ≠ D → own2 b = own b := fun {b} n => if_neg n
    have own2_D : own2 D = some B := if_pos rfl
    have ne_D : ∀ {b o}, H b = some o → b ≠ D := fun {b o} e z => by subst z; rw [hD] at e; cases e
    have hst2 : Step σ.length B own H own2 (upd H D (.lst [])) :=
      ⟨fun b o e _ => ⟨by rw [upd_ne (ne_D e)]; exact e, own2_ne (ne_D e)⟩, fun b q => by
        by_cases z : b = D
        · subst z; exact .inr hD
        · rw [own2_ne z] at q; exact .inl q, .new hD⟩
    have es2 : ES K (upd H D (.lst [])) σ ρ own2 := es.same hst2.pk fun a o i ha _ e => ⟨by rw [upd_ne (ne_D e)]; exact e, by rw [own2_ne (ne_D e)]; exact ha⟩
    let G : Nat → Nat → Hp → Prop := fun j m H' => ∃ ρi owni acc xs, lcLGo i mg mt me vs m j ρi acc = some (out, ρ2) ∧ ES K H' (wipe σ vs) ρi owni ∧ Step σ.length B own H owni H' ∧
      H' D = some (.lst xs) ∧ owni D = some B ∧ FzA K H' xs acc
    refine ⟨G, ⟨1000000, wipeE ρ vs, own2, [], [], e3, es2.wipe vs, hst2, upd_same, own2_D, .nil⟩, ?_⟩
    rintro j m H' ⟨ρi, owni, acc, xs, ei, esi, sti, hDi, oDi, fzi⟩
    have hBn : σ.length ≤ B := hB
    have wl : (wipe σ vs).length = σ.length := wipe_length σ vs
    cases m with
    | zero => cases ei
    | succ m =>
      unfold lcLGo at ei
      split at ei
      · rename_i ds es0
        obtain ⟨w, ew, a', ys, rfl, sa', ha', f'⟩ := esi.rep i _ (slotT_some es0)
        have ni : i ∉ vs := fun z => by
          have wz : ∀ (τ : St) (ws : List Nat), i ∈ ws → (wipe τ ws)[i]? = if i < τ.length then some none else none := fun τ ws => by
            induction ws with
            | nil => intro q; cases q
            | cons w ws ih =>
              intro q
              unfold L2.wipe
              by_cases e : w = i
              · subst e
                by_cases hw : w < τ.length
                · rw [List.getElem?_set_self (by rw [wipe_length]; exact hw), if_pos hw]
                · rw [List.getElem?_eq_none (by rw [List.length_set, wipe_length]; omega), if_neg hw]
              · rw [List.getElem?_set_ne e]
                exact ih ((List.mem_cons.mp q).resolve_left fun x => e x.symm)
          rw [wz σ vs z, if_pos hi0] at ew
          cases ew
        rw [wipe_get ni, ev] at ew
        cases ew
        split at ei
        · rename_i ed
          cases ei
          have lx : ys.length ≤ j := by rw [f'.length]; exact List.getElem?_eq_none_iff.mp ed
          refine .inl ⟨⟨ys, SqL.of ha', lx⟩, k (.ref D) H' owni sti ⟨by rw [restE_len, esi.len, wl], fun j t e => ?_⟩ ⟨D, xs, rfl, oDi, hDi, fzi⟩⟩
          rcases restE_some e with ⟨hn, ex⟩ | ⟨d, rfl, ex⟩
          · obtain ⟨v, e5, r⟩ := esi.rep j t ex
            exact ⟨v, by rw [← wipe_get (σ := σ) hn]; exact e5, r⟩
          · obtain ⟨v, e5, r⟩ := es.rep j _ (slotT_some ex)
            exact ⟨v, e5, Fz.mono sti.pk _ _ r⟩
        · rename_i d ed
          obtain ⟨u, eu, fz⟩ := f'.get j ed
          refine .inr ⟨⟨ys, u, SqL.of ha', eu⟩, fun H2 => G (j + 1) m H2, fun H2 g => ⟨m, Nat.lt_succ_self m, g⟩, fun y H2 yd => ?_⟩
          obtain ⟨rfl, yd⟩ := yd
          have ey := yd ys (SqL.of ha')
          rw [eu] at ey
          cases ey
          obtain ⟨ρg, eg, ei2⟩ := Option.bind_eq_some_iff.mp (show (mg d ρi).bind _ = some (out, ρ2) from ei)
          obtain ⟨⟨bb, ρb⟩, eb, ei3⟩ := Option.bind_eq_some_iff.mp ei2
          refine ⟨d, ρi, owni, ρg, fz, esi, eg, fun σ3 l3 p3 es3 => ?_⟩
          have l3' : σ3.length = σ.length := l3.trans wl
          have hw : wipe σ3 vs = wipe σ vs := by
            have a1 : wipe σ3 vs = wipe (wipe σ vs) vs := wipe_eq l3 fun j hj => by
              by_cases hjl : j < σ.length
              · exact p3 j (List.mem_filter.mpr ⟨List.mem_range.mpr hjl, by simpa using hj⟩)
              · rw [List.getElem?_eq_none (by rw [l3']; omega), List.getElem?_eq_none (by rw [wl]; omega)]
            rw [a1]
            exact wipe_eq wl fun j hj => wipe_get hj
          refine ⟨hw, ?_⟩
          refine ⟨B + 1, ρg, owni, bb, ρb, by rw [l3']; omega, es3, eb, fun H4 own4 st4 es4 => ?_⟩
          rw [l3'] at st4
          have nD : ¬ Act σ.length (B + 1) (owni D) := by rw [oDi, Act.some]; omega
          obtain ⟨hD4, oD4⟩ := st4.keep D _ hDi nD
          have fz4 : FzA K H4 xs acc := fzi.mono st4.pk
          have st' : Step σ.length B own H own4 H4 := sti.trans (st4.down (Nat.le_succ B))
          cases bb with
          | false =>
            rw [if_neg Bool.false_ne_true]
            refine ⟨wipeE ρb vs, own4, acc, xs, ei3, ?_, st', hD4, oD4.trans oDi, fz4⟩
            rw [← hw]
            exact es4.wipe vs
          | true =>
            rw [if_pos rfl]
            obtain ⟨⟨u, ρu⟩, eu, ei4⟩ := Option.bind_eq_some_iff.mp (show (me ρb).bind _ = some (out, ρ2) from ei3)
            refine ⟨B + 1, ρb, own4, u, ρu, by rw [l3']; omega, es4, eu, fun yv H5 own5 st5 es5 r5 => ?_⟩
            rw [l3'] at st5
            have nD4 : ¬ Act σ.length (B + 1) (own4 D) := by rw [oD4, oDi, Act.some]; omega
            obtain ⟨hD5, oD5⟩ := st5.keep D _ hD4 nD4
            have fz5 : FzA K H5 xs acc := fz4.mono st5.pk
            cases u with
            | l es => cases ei4
            | dc es => cases ei4
            | fd es => cases ei4
            | z y =>
              obtain ⟨hal, ei5⟩ := ite_s2 ei4
              have fy : Fz K H5 yv y := r5
              have pkD : PK H5 (upd H5 D (.lst (xs ++ [yv]))) := .mut hD5 trivial
              have accl : xs.length < sizeLine := by
                rw [fz5.length]
                exact lt_line hal
              have oD : own5 D = some B := oD5.trans (oD4.trans oDi)
              have stD : Step σ.length B own5 H5 own5 (upd H5 D (.lst (xs ++ [yv]))) := ⟨fun b o e na => ⟨by rw [upd_ne (fun z => na (by rw [z, oD, Act.some]; exact .inr (Nat.le_refl B)))]; exact e, rfl⟩, fun b q => .inl q, pkD⟩
              refine ⟨xs, hD5, accl, wipeE ρu vs, own5, acc ++ [y], xs ++ [yv], ei5, ?_, (st'.trans (st5.down (Nat.le_succ B))).trans stD, upd_same, oD, (fz5.append (.cons fy .nil)).mono pkD⟩
              rw [← hw]
              refine ES.wipe ?_ vs
              refine es5.same pkD fun a o j ha hj e => ⟨?_, ha⟩
              rw [upd_ne]
              · exact e
              · intro z
                subst z
                rw [oD] at ha
                cases ha
                rw [l3'] at hj
                omega
      · cases ei
  · have q' : tE K (mLC (iNm i) mg mt me vs) σ H Q := ⟨B, ρ, own, t, ρ', hB, es, e, k⟩
    exact tI_N (tLc_of (X := X) q')
section
variable {X : Cx} {elt tg : Expr} {ifs : List Expr} {scope : Scope} {pos npos : Pos} {x : Str} {i : Nat} {mg : MG} {mt : MB} {me : ME} {vs : List Nat}
theorem px_lcN (ow : List (Str × Nat)) (nd : X.N.Nodup) (hn : PE X (.Name x npos) (tVar i)) (ok : BlkOk X.N X.env.scope scope ow)
    (hg : ∀ (n : Nat) (s : Shared) (H : Hp) (C : Addr) (cl : List (Str × Addr)) (fp : List Addr), PTg (X.blk s H scope (compEnvC scope cl C X.env) fp) (others n vs) tg mg)
    (ht : ∀ (s : Shared) (H : Hp) (C : Addr) (cl : List (Str × Addr)) (fp : List Addr), PTs' (X.blk s H scope (compEnvC scope cl C X.env) fp) ifs mt)
    (he : ∀ (s : Shared) (H : Hp) (C : Addr) (cl : List (Str × Addr)) (fp : List Addr), PX (X.blk s H scope (compEnvC scope cl C X.env) fp) elt me) (hv : ow.map (·.2) = vs := by rfl)
    (hc : X.calm = true := by rfl) (hs : ∀ y, foldedSetIterable (.Name x npos) X.env y = pure y := by intro _; rfl) :
    PX X (.ListComp elt [⟨tg, .Name x npos, ifs, 0⟩] scope pos) (mLCN i mg mt me vs) := by
  subst hv
  have hg' : ∀ (n : Nat) (s : Shared) (H : Hp) (C : Addr) (cl : List (Str × Addr)) (fp : List Addr), PG (X.blk s H scope (compEnvC scope cl C X.env) fp) tg (tG X.K (others n (ow.map (·.2))) mg) := fun n s H C cl fp => (hg n s H C cl fp).pg
  have ht' : ∀ (s : Shared) (H : Hp) (C : Addr) (cl : List (Str × Addr)) (fp : List Addr), PTs (X.blk s H scope (compEnvC scope cl C X.env) fp) ifs (tT X.K mt) := fun s H C cl fp => (ht s H C cl fp).pts
  have he' : ∀ (s : Shared) (H : Hp) (C : Addr) (cl : List (Str × Addr)) (fp : List Addr), PE (X.blk s H scope (compEnvC scope cl C X.env) fp) elt (tE X.K me) := fun s H C cl fp => (he s H C cl fp).pe
  refine ⟨⟨fun pins s σ H Q I q => ?_⟩⟩
  exact (pe_lc hc nd (pi_n hn) ok (hg' σ.length) ht' he' hs).run pins s σ H Q I (tLcN_of (X := X) q)
end
/-! ### a, b = e, f where a, b are used by comprehensions too: by a tuple -/
theorem RepT.tupNew {K : Fr} {H : Hp} {p : Addr} {vs : List V} {v : V} {t : T} {j : Nat} {own : Ow} (hp : H p = none) (r : RepT K H v t (fun b => own b = some j)) : RepT K (upd H p (.tup vs)) v t (fun b => (if b = p then none else own b) = some j) := by
  refine r.mono (.new hp) fun a o s q => ?_
  have ne : a ≠ p := fun z => by subst z; rw [hp] at q; cases q
  exact ⟨by rw [upd_ne ne]; exact q, by rw [if_neg ne]; exact s⟩
theorem ES.tupNew {K : Fr} {H : Hp} {σ : St} {ρ : Env} {own : Ow} {p : Addr} {vs : List V} (hp : H p = none) (es : ES K H σ ρ own) : ES K (upd H p (.tup vs)) σ ρ (fun b => if b = p then none else own b) :=
  es.same (.new hp) fun a o i ha _ q => by
    have ne : a ≠ p := fun z => by subst z; rw [hp] at q; cases q
    exact ⟨by rw [upd_ne ne]; exact q, by rw [if_neg ne]; exact ha⟩
theorem Step.tupNew {n B : Nat} {H : Hp} {own : Ow} {p : Addr} {vs : List V} (hp : H p = none) : Step n B own H (fun b => if b = p then none else own b) (upd H p (.tup vs)) := by
  refine ⟨fun b o e _ => ?_, fun b q => ?_, .new hp⟩
  · have ne : b ≠ p := fun z => by subst z; rw [hp] at e; cases e
    exact ⟨by rw [upd_ne ne]; exact e, by rw [if_neg ne]⟩
  · by_cases z : b = p
    · exact .inr (by rw [z]; exact hp)
    · exact .inl (by rw [if_neg z] at q; exact q)
section
variable {X : Cx} {pin : List Nat} {x y z : Str} {a b c : Expr} {i j l : Nat} {ma : MA} {px py pz pt pos pt2 : Pos} {kt k2 : Nat}
theorem ps_parT (hc : X.calm = true) (hgi : PG X (.Name x px) (gName i)) (hgj : PG X (.Name y py) (gName j)) (hpi : pin.contains i = false) (hpj : pin.contains j = false) (ha : PAr X [a, b] ma)
    (hw : swappedStores [.Tuple [.Name x px, .Name y py] kt pt] (.Tuple [a, b] k2 pt2) X.env = pure none := by rfl)
    (hs : swapsWithSole [.Tuple [.Name x px, .Name y py] kt pt] (.Tuple [a, b] k2 pt2) pos.line X.env = pure false := by rfl)
    (h1 : (assignEach [.Tuple [.Name x px, .Name y py] kt pt] X.env).map (·.2) = [assign (.Tuple [.Name x px, .Name y py] kt pt) X.env] := by rfl) :
    PSt X pin (.Assign [.Tuple [.Name x px, .Name y py] kt pt] (.Tuple [a, b] k2 pt2) pos) (sPar i j ma) := ⟨(ps_asg (pe_tup ha.pa) (pg_tup hc (pgs_cons hgi (pgs_cons hgj pgs_nil))) hs hw h1).of fun D σ H q => by
  obtain ⟨B, ρ, own, f, ρ', hB, es, e, k⟩ := q
  obtain ⟨⟨as, ρ1⟩, e1, e2⟩ := Option.bind_eq_some_iff.mp (show (ma ρ).bind _ = some (f, ρ') from e)
  refine ⟨B, ρ, own, as, ρ1, hB, es, e1, fun vs H1 own1 st1 es1 r1 => ?_⟩
  split at e2
  · rename_i t u eq
    cases eq
    obtain ⟨ρ2, e3, e4⟩ := Option.bind_eq_some_iff.mp e2
    obtain ⟨ρ3, e5, e6⟩ := Option.map_eq_some_iff.mp e4
    cases e6
    obtain ⟨q1, rfl⟩ := setSl_some e3
    obtain ⟨q2, rfl⟩ := setSl_some e5
    match vs, r1 with
    | [v, w], ⟨rv, rw', _⟩ =>
      have rv : RepT X.K H1 v t fun b => own1 b = some B := rv
      have rw' : RepT X.K H1 w u fun b => own1 b = some (B + 1) := rw'
      refine ⟨line1000 (by simp), fun p hp => ?_⟩
      have es2 := es1.tupNew (vs := [v, w]) hp
      have rv2 := rv.tupNew (vs := [v, w]) hp
      have rw2 := rw'.tupNew (vs := [v, w]) hp
      have st2 : Step σ.length B own H _ _ := st1.trans (.tupNew (vs := [v, w]) hp)
      have hi' : i < σ.length := by rw [← es1.len]; exact q1
      have hj' : j < σ.length := by rw [← es1.len]; simpa using q2
      refine ⟨p, [v, w], rfl, .inl (.inl upd_same), rfl, v, [w], rfl, w, [], rfl, rfl, ?_⟩
      have s1 := es2.setSlot hB hi' rv2
      have s2 := s1.setSlot (i := j) (j := B + 1) (by simpa using Nat.le_succ_of_le hB) (by simpa using hj') (rw2.relNe (by omega))
      refine k _ _ _ (by simp) (fun m hm => ?_) ((st2.trans (rel_step (Nat.le_refl B) hi')).trans (rel_step (Nat.le_succ B) hj')) s2
      rw [pin_ne hpj m hm, pin_ne hpi m hm]
  · cases e2⟩
theorem ps_parT3 (hc : X.calm = true) (hgi : PG X (.Name x px) (gName i)) (hgj : PG X (.Name y py) (gName j)) (hgl : PG X (.Name z pz) (gName l)) (hpi : pin.contains i = false) (hpj : pin.contains j = false) (hpl : pin.contains l = false) (ha : PAr X [a, b, c] ma)
    (hw : swappedStores [.Tuple [.Name x px, .Name y py, .Name z pz] kt pt] (.Tuple [a, b, c] k2 pt2) X.env = pure none := by rfl)
    (hs : swapsWithSole [.Tuple [.Name x px, .Name y py, .Name z pz] kt pt] (.Tuple [a, b, c] k2 pt2) pos.line X.env = pure false := by rfl)
    (h1 : (assignEach [.Tuple [.Name x px, .Name y py, .Name z pz] kt pt] X.env).map (·.2) = [assign (.Tuple [.Name x px, .Name y py, .Name z pz] kt pt) X.env] := by rfl) :
    PSt X pin (.Assign [.Tuple [.Name x px, .Name y py, .Name z pz] kt pt] (.Tuple [a, b, c] k2 pt2) pos) (sPar3 i j l ma) := ⟨(ps_asg (pe_tup ha.pa) (pg_tup hc (pgs_cons hgi (pgs_cons hgj (pgs_cons hgl pgs_nil)))) hs hw h1).of fun D σ H q => by
  obtain ⟨B, ρ, own, f, ρ', hB, es, e, k⟩ := q
  obtain ⟨⟨as, ρ1⟩, e1, e2⟩ := Option.bind_eq_some_iff.mp (show (ma ρ).bind _ = some (f, ρ') from e)
  refine ⟨B, ρ, own, as, ρ1, hB, es, e1, fun vs H1 own1 st1 es1 r1 => ?_⟩
  split at e2
  · rename_i t u t3 eq
    cases eq
    obtain ⟨ρ2, e3, e4⟩ := Option.bind_eq_some_iff.mp e2
    obtain ⟨ρ3, e5, e6⟩ := Option.bind_eq_some_iff.mp e4
    obtain ⟨ρ4, e7, e8⟩ := Option.map_eq_some_iff.mp e6
    cases e8
    obtain ⟨q1, rfl⟩ := setSl_some e3
    obtain ⟨q2, rfl⟩ := setSl_some e5
    obtain ⟨q3, rfl⟩ := setSl_some e7
    match vs, r1 with
    | [v, w, w3], ⟨rv, rw', rw3, _⟩ =>
      have rv : RepT X.K H1 v t fun b => own1 b = some B := rv
      have rw' : RepT X.K H1 w u fun b => own1 b = some (B + 1) := rw'
      have rw3 : RepT X.K H1 w3 t3 fun b => own1 b = some (B + 1 + 1) := rw3
      refine ⟨line1000 (by simp), fun p hp => ?_⟩
      have es2 := es1.tupNew (vs := [v, w, w3]) hp
      have rv2 := rv.tupNew (vs := [v, w, w3]) hp
      have rw2 := rw'.tupNew (vs := [v, w, w3]) hp
      have rw32 := rw3.tupNew (vs := [v, w, w3]) hp
      have st2 : Step σ.length B own H _ _ := st1.trans (.tupNew (vs := [v, w, w3]) hp)
      have hi' : i < σ.length := by rw [← es1.len]; exact q1
      have hj' : j < σ.length := by rw [← es1.len]; simpa using q2
      have hl' : l < σ.length := by rw [← es1.len]; simpa using q3
      refine ⟨p, [v, w, w3], rfl, .inl (.inl upd_same), rfl, v, [w, w3], rfl, w, [w3], rfl, w3, [], rfl, rfl, ?_⟩
      have s1 := es2.setSlot hB hi' rv2
      have s2 := s1.setSlot (i := j) (j := B + 1) (by simp; omega) (by simpa using hj') (rw2.relNe (by omega))
      have s3 := s2.setSlot (i := l) (j := B + 2) (by simp; omega) (by simpa using hl') ((rw32.relNe (by omega)).relNe (by omega))
      refine k _ _ _ (by simp) (fun m hm => ?_) (((st2.trans (rel_step (Nat.le_refl B) hi')).trans (rel_step (Nat.le_succ B) hj')).trans (rel_step (by omega) hl')) s3
      rw [pin_ne hpl m hm, pin_ne hpj m hm, pin_ne hpi m hm]
  · cases e2⟩
theorem st_parT (i j : Nat) (nd : X.N.Nodup) (ha : PAr X [a, b] ma) (hc : X.calm = true := by rfl) (hi : X.N[i]? = some x := by rfl) (hj : X.N[j]? = some y := by rfl)
    (hx : Loc X.env.scope x := by first | exact Or.inl rfl | exact Or.inr rfl) (hy : Loc X.env.scope y := by first | exact Or.inl rfl | exact Or.inr rfl)
    (hfx : X.fn x = true ∨ X.env.scope.names.lookup x = some .local := by first | exact .inl rfl | exact .inr rfl) (hfy : X.fn y = true ∨ X.env.scope.names.lookup y = some .local := by first | exact .inl rfl | exact .inr rfl)
    (hpi : pin.contains i = false := by rfl) (hpj : pin.contains j = false := by rfl)
    (hw : swappedStores [.Tuple [.Name x px, .Name y py] kt pt] (.Tuple [a, b] k2 pt2) X.env = pure none := by rfl)
    (hs : swapsWithSole [.Tuple [.Name x px, .Name y py] kt pt] (.Tuple [a, b] k2 pt2) pos.line X.env = pure false := by rfl)
    (h1 : (assignEach [.Tuple [.Name x px, .Name y py] kt pt] X.env).map (·.2) = [assign (.Tuple [.Name x px, .Name y py] kt pt) X.env] := by rfl) :
    PSt X pin (.Assign [.Tuple [.Name x px, .Name y py] kt pt] (.Tuple [a, b] k2 pt2) pos) (sPar i j ma) := ps_parT hc (pg_name nd hi hx hfx) (pg_name nd hj hy hfy) hpi hpj ha hw hs h1
theorem st_parT3 (i j l : Nat) (nd : X.N.Nodup) (ha : PAr X [a, b, c] ma) (hc : X.calm = true := by rfl) (hi : X.N[i]? = some x := by rfl) (hj : X.N[j]? = some y := by rfl) (hl : X.N[l]? = some z := by rfl)
    (hx : Loc X.env.scope x := by first | exact Or.inl rfl | exact Or.inr rfl) (hy : Loc X.env.scope y := by first | exact Or.inl rfl | exact Or.inr rfl) (hz : Loc X.env.scope z := by first | exact Or.inl rfl | exact Or.inr rfl)
    (hfx : X.fn x = true ∨ X.env.scope.names.lookup x = some .local := by first | exact .inl rfl | exact .inr rfl) (hfy : X.fn y = true ∨ X.env.scope.names.lookup y = some .local := by first | exact .inl rfl | exact .inr rfl) (hfz : X.fn z = true ∨ X.env.scope.names.lookup z = some .local := by first | exact .inl rfl | exact .inr rfl)
    (hpi : pin.contains i = false := by rfl) (hpj : pin.contains j = false := by rfl) (hpl : pin.contains l = false := by rfl)
    (hw : swappedStores [.Tuple [.Name x px, .Name y py, .Name z pz] kt pt] (.Tuple [a, b, c] k2 pt2) X.env = pure none := by rfl)
    (hs : swapsWithSole [.Tuple [.Name x px, .Name y py, .Name z pz] kt pt] (.Tuple [a, b, c] k2 pt2) pos.line X.env = pure false := by rfl)
    (h1 : (assignEach [.Tuple [.Name x px, .Name y py, .Name z pz] kt pt] X.env).map (·.2) = [assign (.Tuple [.Name x px, .Name y py, .Name z pz] kt pt) X.env] := by rfl) :
    PSt X pin (.Assign [.Tuple [.Name x px, .Name y py, .Name z pz] kt pt] (.Tuple [a, b, c] k2 pt2) pos) (sPar3 i j l ma) := ps_parT3 hc (pg_name nd hi hx hfx) (pg_name nd hj hy hfy) (pg_name nd hl hz hfz) hpi hpj hpl ha hw hs h1
end
end VL

set_option Elab.async false
set_option linter.all false
set_option maxRecDepth 100000
set_option maxHeartbeats 4000000
/-! VD1: dicts that a local owns; keys are tuples (of whole numbers, bools, None, such tuples), or whole numbers -/
namespace VL
open PySem PySem.Spec PyProof.Rows L2

/-! ### on data -/
/-- the class of a key: true: a tuple; false: a whole number -/
def kcls : D → Option Bool
  | .tuple ds => match nkey (.tuple ds) with
    | some k => if k.depth ≤ 8 then some true else none
    | none => none
  | .int _ => some false
  | _ => none
def dcls (kvs : List (D × D)) (k : D) : Bool := (kcls k).isSome && kvs.all fun p => decide (kcls p.1 = kcls k)
def dfind (k : Option NestedKey) : List (D × D) → Option D
  | [] => none
  | p :: r => if nkey p.1 = k then some p.2 else dfind k r
def dput (kvs : List (D × D)) (k v : D) : List (D × D) := if (dfind (nkey k) kvs).isSome then kvs.map fun p => if nkey p.1 = nkey k then (p.1, v) else p else kvs ++ [(k, v)]
def gDIn (kvs : List (D × D)) (k : D) : Option T := if dcls kvs k then some (.z (.bool (dfind (nkey k) kvs).isSome)) else none
def gDNin (kvs : List (D × D)) (k : D) : Option T := if dcls kvs k then some (.z (.bool (!(dfind (nkey k) kvs).isSome))) else none
def gDIx (kvs : List (D × D)) (k : D) : Option T := if dcls kvs k then (dfind (nkey k) kvs).map .z else none
def gDSet (kvs : List (D × D)) (k v : D) : Option (List (D × D)) := if dcls kvs k ∧ kvs.length < 100000 then some (dput kvs k v) else none
theorem dput_nodup {kvs : List (D × D)} {k v : D} (h : (kvs.map fun p => nkey p.1).Nodup) : ((dput kvs k v).map fun p => nkey p.1).Nodup := by
  unfold dput
  split
  · rw [List.map_map]
    have e : ((fun p : D × D => nkey p.1) ∘ fun p : D × D => if nkey p.1 = nkey k then (p.1, v) else p) = fun p => nkey p.1 := by
      funext p
      simp only [Function.comp]
      split <;> rfl
    rw [e]; exact h
  · rename_i hn
    rw [List.map_append, List.nodup_append]
    refine ⟨h, by simp, ?_⟩
    intro a ha b hb e
    have hb' : b = nkey k := by simpa using hb
    subst e
    rw [hb'] at ha
    clear hb hb' h
    apply hn
    induction kvs with
    | nil => simp at ha
    | cons p r ih =>
      unfold dfind
      by_cases q : nkey p.1 = nkey k
      · rw [if_pos q]; rfl
      · rw [if_neg q]
        refine ih (fun z => hn ?_) ?_
        · unfold dfind; rw [if_neg q]; exact z
        · rw [List.map_cons] at ha
          rcases List.mem_cons.mp ha with z | z
          · exact absurd z.symm q
          · exact z
mutual
theorem nkey_hash (w w' : World) : ∀ (d : D) (k : NestedKey), nkey d = some k → k.hash w = k.hash w'
  | .none, k, h => by cases h; rfl
  | .bool b, k, h => by cases h; rfl
  | .int i, k, h => by cases h; rfl
  | .tuple ds, k, h => by
    obtain ⟨ks, e, rfl⟩ := Option.map_eq_some_iff.mp (show (nkeys ds).map NestedKey.tup = some k from h)
    show reduceHash _ = reduceHash _
    rw [nkeys_hash w w' ds ks e]
  | .str _, k, h => by cases h
  | .list _, k, h => by cases h
  | .dict _, k, h => by cases h
theorem nkeys_hash (w w' : World) : ∀ (ds : List D) (ks : List NestedKey), nkeys ds = some ks → NestedKey.hashes w ks = NestedKey.hashes w' ks
  | [], ks, h => by cases h; rfl
  | d :: ds, ks, h => by
    obtain ⟨k, e1, e2⟩ := Option.bind_eq_some_iff.mp (show (nkey d).bind _ = some ks from h)
    obtain ⟨ks', e3, rfl⟩ := Option.map_eq_some_iff.mp e2
    show _ :: _ = _ :: _
    rw [nkey_hash w w' d k e1, nkeys_hash w w' ds ks' e3]
end

/-! ### data as keys -/
section
variable {X : Cx} {pins : List (Addr × Obj)} {σ : St} {H : Hp} {s : Shared}
mutual
theorem nestedOf (I : Inv X pins σ H s) : ∀ (d : D) (v : V) (u : Value) (k : NestedKey), Fz X.K H v d → nkey d = some k → RelV v u → NestedIs s.heap k u
  | .none, v, u, k, f, h, r => by cases f; cases h; cases r; exact .none
  | .bool b, v, u, k, f, h, r => by cases f; cases h; cases r; exact .bool rfl
  | .int i, v, u, k, f, h, r => by
    cases f; cases h
    obtain ⟨t, rfl⟩ := r
    exact .int i t
  | .tuple ds, v, u, k, f, h, r => by
    obtain ⟨ks, e, rfl⟩ := Option.map_eq_some_iff.mp (show (nkeys ds).map NestedKey.tup = some k from h)
    cases f with
    | tup q g =>
      obtain ⟨its, rv, o, ho, hc, n, hd⟩ := invSeq (k := .t) I q
      cases r
      exact .tup ho hc hd (by simpa using nestedAllOf I ds _ its ks g e rv)
  | .str _, v, u, k, f, h, r => by cases h
  | .list _, v, u, k, f, h, r => by cases h
  | .dict _, v, u, k, f, h, r => by cases h
theorem nestedAllOf (I : Inv X pins σ H s) : ∀ (ds : List D) (vs : List V) (us : List Value) (ks : List NestedKey), FzA X.K H vs ds → nkeys ds = some ks → Vals vs us → NestedAll s.heap ks us
  | [], vs, us, ks, f, h, r => by cases f; cases h; cases r; exact .nil
  | d :: ds, vs, us, ks, f, h, r => by
    obtain ⟨k, e1, e2⟩ := Option.bind_eq_some_iff.mp (show (nkey d).bind _ = some ks from h)
    obtain ⟨ks', e3, rfl⟩ := Option.map_eq_some_iff.mp e2
    cases f with
    | cons a b =>
      cases r with
      | cons c e => exact .cons (nestedOf I d _ _ k a e1 c) (nestedAllOf I ds _ _ ks' b e3 e)
end
theorem kcls_t (ds : List D) : kcls (.tuple ds) = match nkey (.tuple ds) with
    | some k => if k.depth ≤ 8 then some true else none
    | none => none := rfl
theorem kcls_tup {d : D} (h : kcls d = some true) : ∃ ds k, d = .tuple ds ∧ nkey d = some k ∧ k.depth ≤ 8 := by
  cases d with
  | tuple ds =>
    rw [kcls_t] at h
    cases q : nkey (.tuple ds) with
    | none => rw [q] at h; cases h
    | some k =>
      rw [q] at h
      by_cases z : k.depth ≤ 8
      · exact ⟨ds, k, rfl, rfl, z⟩
      · simp only [if_neg z] at h; cases h
  | _ => cases h
theorem kcls_int {d : D} (h : kcls d = some false) : ∃ i, d = .int i := by
  cases d with
  | tuple ds =>
    rw [kcls_t] at h
    cases q : nkey (.tuple ds) with
    | none => rw [q] at h; cases h
    | some k =>
      rw [q] at h
      by_cases z : k.depth ≤ 8
      · simp only [if_pos z] at h; cases h
      · simp only [if_neg z] at h; cases h
  | int i => exact ⟨i, rfl⟩
  | _ => cases h

/-! ### entries whose keys are tuples -/
abbrev XE := NestedKey × Addr × Value
structure TP (K : Fr) (H : Hp) (x : XE) (p : D × D) : Prop where
  key : nkey p.1 = some x.1
  kf : Fz K H (.ref x.2.1) p.1
  dp : x.1.depth ≤ 8
  val : ∃ y, RelV y x.2.2 ∧ Fz K H y p.2
theorem entT (w : World) {K : Fr} {H : Hp} : ∀ {es : List DictEntry} {kvs : List (D × D)}, EntA K H es kvs → (∀ p ∈ kvs, kcls p.1 = some true) → ∃ xs : List XE, es = xs.map (fun x => ⟨x.1.hash w, .ref x.2.1, x.2.2⟩) ∧ Paired (TP K H) xs kvs
  | _, _, .nil, _ => ⟨[], rfl, .nil⟩
  | _, _, @EntA.cons _ _ e es k d kvs x y a b c g hh f, h => by
    obtain ⟨xs, e1, e2⟩ := entT w f fun p hp => h p (List.mem_cons_of_mem _ hp)
    obtain ⟨ds, nk, hk, e3, e4⟩ := kcls_tup (h _ (List.mem_cons_self ..))
    obtain ⟨nk', e5, e6⟩ := hh
    obtain ⟨eh, ek, ev⟩ := e
    simp only at a b e6 hk e3
    subst hk
    rw [e3] at e5
    cases e5
    cases c with
    | tup q1 q2 =>
      rename_i ad xs'
      cases (show ek = .ref ad from a)
      refine ⟨(nk, ad, ev) :: xs, ?_, .cons ⟨e3, .tup q1 q2, e4, y, b, g⟩ e2⟩
      rw [List.map_cons, ← e1, e6 w]
theorem entT_back (w : World) {K : Fr} {H : Hp} : ∀ {xs : List XE} {kvs : List (D × D)}, Paired (TP K H) xs kvs → EntA K H (xs.map fun x => ⟨x.1.hash w, .ref x.2.1, x.2.2⟩) kvs
  | _, _, .nil => .nil
  | _, _, .cons h t => by
    obtain ⟨y, hy, fy⟩ := h.val
    exact .cons (show RelV (.ref _) (.ref _) from rfl) hy h.kf fy ⟨_, h.key, fun w' => nkey_hash w' w _ _ h.key⟩ (entT_back w t)
theorem TP.keys {K : Fr} {H : Hp} : ∀ {xs : List XE} {kvs : List (D × D)}, Paired (TP K H) xs kvs → kvs.map (fun p => nkey p.1) = xs.map fun x => some x.1
  | _, _, .nil => rfl
  | _, _, .cons h t => by rw [List.map_cons, List.map_cons, h.key, TP.keys t]
theorem TP.nodup {K : Fr} {H : Hp} {xs : List XE} {kvs : List (D × D)} (h : Paired (TP K H) xs kvs) (n : (kvs.map fun p => nkey p.1).Nodup) : (xs.map (·.1)).Nodup := by
  rw [TP.keys h] at n
  refine List.pairwise_map.mpr ((List.pairwise_map.mp n).imp fun {a b} q e => q (congrArg some e))
theorem TP.find {K : Fr} {H : Hp} {k : NestedKey} : ∀ {xs : List XE} {kvs : List (D × D)}, Paired (TP K H) xs kvs → (atKey xs k = none ∧ dfind (some k) kvs = none) ∨ ∃ p d y, atKey xs k = some p ∧ dfind (some k) kvs = some d ∧ RelV y p.2 ∧ Fz K H y d
  | _, _, .nil => .inl ⟨rfl, rfl⟩
  | x :: xs, p :: kvs, .cons h t => by
    obtain ⟨y, hy, fy⟩ := h.val
    by_cases e : x.1 = k
    · refine .inr ⟨x.2, p.2, y, ?_, ?_, hy, fy⟩
      · simp [atKey, List.find?_cons, e]
      · unfold dfind; rw [if_pos (by rw [h.key, e])]
    · have a : atKey (x :: xs) k = atKey xs k := by simp [atKey, List.find?_cons, e]
      have b : dfind (some k) (p :: kvs) = dfind (some k) kvs := by
        conv => lhs; unfold dfind
        rw [if_neg (by rw [h.key]; intro z; exact e (Option.some.inj z))]
      rw [a, b]
      exact TP.find t
theorem TP.repl {K : Fr} {H : Hp} {k : NestedKey} {kd v : D} {y : V} {u : Value} (hk : nkey kd = some k) (ry : RelV y u) (fy : Fz K H y v) : ∀ {xs : List XE} {kvs : List (D × D)}, Paired (TP K H) xs kvs →
    Paired (TP K H) (xs.map (putAt k u)) (kvs.map fun p => if nkey p.1 = nkey kd then (p.1, v) else p)
  | _, _, .nil => .nil
  | x :: xs, p :: kvs, .cons h t => by
    rw [List.map_cons, List.map_cons]
    refine .cons ?_ (TP.repl hk ry fy t)
    unfold putAt
    by_cases e : x.1 = k
    · rw [if_pos e, if_pos (by rw [h.key, hk, e])]
      exact ⟨h.key, h.kf, h.dp, y, ry, fy⟩
    · rw [if_neg e, if_neg (by rw [h.key, hk]; intro z; exact e (Option.some.inj z))]
      exact h
theorem TP.put {K : Fr} {H : Hp} {k : NestedKey} {kd v : D} {b : Addr} {y : V} {u : Value} (hk : nkey kd = some k) (dk : k.depth ≤ 8) (fk : Fz K H (.ref b) kd) (ry : RelV y u) (fy : Fz K H y v) {xs : List XE} {kvs : List (D × D)} (h : Paired (TP K H) xs kvs) :
    Paired (TP K H) (storedH xs k b u) (dput kvs kd v) := by
  unfold storedH dput
  rw [hk]
  rcases TP.find (k := k) h with ⟨a, c⟩ | ⟨p, d, z, a, c, _, _⟩
  · rw [a, c]
    exact Paired.snoc h ⟨hk, fk, dk, y, ry, fy⟩
  · rw [a, c]
    have q := TP.repl (kd := kd) hk ry fy h
    rw [hk] at q
    exact q
theorem TP.mono {K : Fr} {H H' : Hp} (p : PK H H') {xs : List XE} {kvs : List (D × D)} (h : Paired (TP K H) xs kvs) : Paired (TP K H') xs kvs :=
  Paired.mapP h fun x q z => ⟨z.key, Fz.mono p _ _ z.kf, z.dp, let ⟨y, a, b⟩ := z.val; ⟨y, a, Fz.mono p _ _ b⟩⟩
theorem TP.is (I : Inv X pins σ H s) : ∀ {xs : List XE} {kvs : List (D × D)}, Paired (TP X.K H) xs kvs → ∀ x ∈ xs, (nestedKind X.prog X.w).is s.heap x.1 x.2.1
  | _, _, .nil, x, hx => by cases hx
  | _, _, .cons h t, x, hx => by
    rcases List.mem_cons.mp hx with rfl | hx
    · exact ⟨nestedOf I _ _ _ _ h.kf h.key rfl, h.dp⟩
    · exact TP.is I t x hx
end
end VL

set_option Elab.async false
set_option linter.all false
set_option maxRecDepth 100000
set_option maxHeartbeats 4000000
namespace VL
open PySem PySem.Spec PyProof.Rows L2
/-! ### entries whose keys are whole numbers -/
structure IP (K : Fr) (H : Hp) (x : Int × Value) (p : D × D) : Prop where
  key : p.1 = .int x.1
  val : ∃ y, RelV y x.2 ∧ Fz K H y p.2
theorem entI (P : Program) (w : World) {K : Fr} {H : Hp} : ∀ {es : List DictEntry} {kvs : List (D × D)}, EntA K H es kvs → (∀ p ∈ kvs, kcls p.1 = some false) → ∃ vs : List (Int × Value), Pairs (intKind P w) es vs ∧ (∀ e ∈ es, ∃ k, (intKind P w).is k e.key = true ∧ e.hash = (intKind P w).hash k) ∧ Paired (IP K H) vs kvs
  | _, _, .nil, _ => ⟨[], .nil, (fun e he => by cases he), .nil⟩
  | _, _, @EntA.cons _ _ e es k d kvs x y a b c g hh f, h => by
    obtain ⟨vs, e1, e2, e3⟩ := entI P w f fun p hp => h p (List.mem_cons_of_mem _ hp)
    obtain ⟨i, hk⟩ := kcls_int (h _ (List.mem_cons_self ..))
    obtain ⟨nk', e5, e6⟩ := hh
    simp only at hk
    subst hk
    cases e5
    cases c
    obtain ⟨t, ht⟩ := (show ∃ t, e.key = Value.int i t from a)
    have is : (intKind P w).is i e.key = true := by rw [ht]; exact intKind_is P w i t
    refine ⟨(i, e.val) :: vs, .cons is rfl e1, ?_, .cons ⟨rfl, y, b, g⟩ e3⟩
    intro e' he'
    rcases List.mem_cons.mp he' with rfl | he'
    · exact ⟨i, is, (e6 w).symm⟩
    · exact e2 e' he'
theorem entI_back (P : Program) (w : World) {K : Fr} {H : Hp} : ∀ {es : List DictEntry} {vs : List (Int × Value)} {kvs : List (D × D)}, Pairs (intKind P w) es vs → (∀ e ∈ es, ∃ k, (intKind P w).is k e.key = true ∧ e.hash = (intKind P w).hash k) → Paired (IP K H) vs kvs → EntA K H es kvs
  | _, _, _, .nil, _, .nil => .nil
  | _, _, _, @Pairs.cons _ _ _ _ _ e kv es kvs hk hv t, h, @Paired.cons _ _ _ _ p _ ps ih it => by
    obtain ⟨k', i1, i2⟩ := h e (List.mem_cons_self ..)
    obtain ⟨y, hy, fy⟩ := ih.val
    have ek : k' = kv.1 := (intKind P w).inj e.key _ _ i1 hk
    subst ek
    obtain ⟨t', ht⟩ := Value.isInt_shape hk
    obtain ⟨p1, p2⟩ := p
    have hp : p1 = .int kv.1 := ih.key
    subst hp
    refine .cons (x := .int kv.1) ?_ (by rw [hv]; exact hy) (.int _) fy ⟨_, rfl, fun w' => i2.symm⟩ (entI_back P w t (fun e' he' => h e' (List.mem_cons_of_mem _ he')) it)
    exact ⟨t', ht⟩
theorem IP.nodup {K : Fr} {H : Hp} : ∀ {xs : List (Int × Value)} {kvs : List (D × D)}, Paired (IP K H) xs kvs → kvs.map (fun p => nkey p.1) = xs.map fun x => some (.num x.1)
  | _, _, .nil => rfl
  | _, _, .cons h t => by rw [List.map_cons, List.map_cons, h.key, IP.nodup t]; rfl
theorem IP.nd {K : Fr} {H : Hp} {xs : List (Int × Value)} {kvs : List (D × D)} (h : Paired (IP K H) xs kvs) (n : (kvs.map fun p => nkey p.1).Nodup) : (xs.map (·.1)).Nodup := by
  rw [IP.nodup h] at n
  refine List.pairwise_map.mpr ((List.pairwise_map.mp n).imp fun {a b} q e => q (by rw [e]))
theorem IP.find {K : Fr} {H : Hp} {k : Int} : ∀ {xs : List (Int × Value)} {kvs : List (D × D)}, Paired (IP K H) xs kvs → (valueAt xs k = none ∧ dfind (some (.num k)) kvs = none) ∨ ∃ p d y, valueAt xs k = some p ∧ dfind (some (.num k)) kvs = some d ∧ RelV y p ∧ Fz K H y d
  | _, _, .nil => .inl ⟨rfl, rfl⟩
  | x :: xs, p :: kvs, .cons h t => by
    obtain ⟨y, hy, fy⟩ := h.val
    have hn : nkey p.1 = some (.num x.1) := by rw [h.key]; rfl
    by_cases e : x.1 = k
    · refine .inr ⟨x.2, p.2, y, ?_, ?_, hy, fy⟩
      · simp [valueAt, List.find?_cons, e]
      · unfold dfind; rw [if_pos (by rw [hn, e])]
    · have a : valueAt (x :: xs) k = valueAt xs k := by simp [valueAt, List.find?_cons, e]
      have b : dfind (some (.num k)) (p :: kvs) = dfind (some (.num k)) kvs := by
        conv => lhs; unfold dfind
        rw [if_neg (by rw [hn]; intro z; injection z with z; injection z with z; exact e z)]
      rw [a, b]
      exact IP.find t
theorem IP.any {K : Fr} {H : Hp} {k : Int} {xs : List (Int × Value)} {kvs : List (D × D)} (h : Paired (IP K H) xs kvs) : xs.any (fun kv => kv.1 = k) = (dfind (some (.num k)) kvs).isSome := by
  have q : xs.any (fun kv => kv.1 = k) = (valueAt xs k).isSome := by
    unfold valueAt
    rw [Option.isSome_map, Bool.eq_iff_iff, List.any_eq_true, List.find?_isSome]
  rw [q]
  rcases IP.find (k := k) h with ⟨a, c⟩ | ⟨p, d, z, a, c, _, _⟩
  · rw [a, c]; rfl
  · rw [a, c]; rfl
theorem IP.put {K : Fr} {H : Hp} {k : Int} {v : D} {y : V} {u : Value} (ry : RelV y u) (fy : Fz K H y v) {xs : List (Int × Value)} {kvs : List (D × D)} (h : Paired (IP K H) xs kvs) : Paired (IP K H) (stored xs k u) (dput kvs (.int k) v) := by
  unfold stored dput
  rw [IP.any h]
  show Paired (IP K H) _ (if (dfind (some (.num k)) kvs).isSome = true then _ else _)
  cases q : (dfind (some (.num k)) kvs).isSome with
  | false => exact Paired.snoc h ⟨rfl, y, ry, fy⟩
  | true =>
    clear q
    show Paired (IP K H) (xs.map _) (kvs.map _)
    induction h with
    | nil => exact .nil
    | @cons x p xs kvs h t ih =>
      rw [List.map_cons, List.map_cons]
      refine .cons ?_ ih
      have hn : nkey p.1 = some (.num x.1) := by rw [h.key]; rfl
      by_cases e : x.1 = k
      · rw [if_pos e, if_pos (by rw [hn, e]; rfl)]; exact ⟨h.key, y, ry, fy⟩
      · rw [if_neg e, if_neg (by rw [hn]; intro z; injection z with z; injection z with z; exact e z)]; exact h
theorem IP.mono {K : Fr} {H H' : Hp} (p : PK H H') {xs : List (Int × Value)} {kvs : List (D × D)} (h : Paired (IP K H) xs kvs) : Paired (IP K H') xs kvs :=
  Paired.mapP h fun x q z => ⟨z.key, let ⟨y, a, b⟩ := z.val; ⟨y, a, Fz.mono p _ _ b⟩⟩

/-! ### a dict in the heap -/
structure Dc (K : Fr) (H : Hp) (x : V) (a : Addr) (es : List DictEntry) (kvs : List (D × D)) : Prop where
  ref : x = .ref a
  obj : Rd H a (dicO a es)
  ent : EntA K H es kvs
  nd : (kvs.map fun p => nkey p.1).Nodup
theorem RepT.dc {K : Fr} {H : Hp} {v : V} {kvs : List (D × D)} {S : Addr → Prop} (h : RepT K H v (.dc kvs) S) : ∃ a es, Dc K H v a es kvs ∧ H a = some (dicO a es) ∧ S a := by
  obtain ⟨a, es, e, s, q, f, nd⟩ := h
  exact ⟨a, es, ⟨e, .inl q, f, nd⟩, q, s⟩
theorem RepT.fd {K : Fr} {H : Hp} {v : V} {kvs : List (D × D)} {S : Addr → Prop} (h : RepT K H v (.fd kvs) S) : ∃ a es, Dc K H v a es kvs ∧ ∃ o, H a = some (.frz o (dicO a es)) := by
  obtain ⟨a, es, e, q, f, nd⟩ := h
  exact ⟨a, es, ⟨e, .inr q, f, nd⟩, q⟩
section
variable {X : Cx} {pins : List (Addr × Obj)} {σ : St} {H : Hp} {s : Shared} {x : V} {a : Addr} {es : List DictEntry} {kvs : List (D × D)}
theorem Dc.raw (I : Inv X pins σ H s) (d : Dc X.K H x a es kvs) : (a == sysModules) = false ∧ ∃ ep, s.heap.DictRaw a es.toArray ep := (show ObjOk X.prog X.w H s.heap a (dicO a es) from d.obj.ok I.hok).1
theorem Dc.typeIs (I : Inv X pins σ H s) (d : Dc X.K H x a es kvs) : s.TypeIs (.ref a) "dict" := let ⟨_, _, h⟩ := d.raw I; h.typeIs
theorem Dc.tup (I : Inv X pins σ H s) (d : Dc X.K H x a es kvs) (h : ∀ p ∈ kvs, kcls p.1 = some true) : ∃ xs, Paired (TP X.K H) xs kvs ∧ s.heap.DictOfH (nestedKind X.prog X.w) a xs := by
  obtain ⟨xs, e, t⟩ := entT X.w d.ent h
  obtain ⟨_, ep, o, ho, hc, hd⟩ := d.raw I
  exact ⟨xs, t, o, _, ep, ho, hc, hd, (show es.toArray.toList = _ from by rw [List.toList_toArray]; exact e), TP.is I t, TP.nodup t d.nd⟩
theorem Dc.ints (I : Inv X pins σ H s) (d : Dc X.K H x a es kvs) (h : ∀ p ∈ kvs, kcls p.1 = some false) : ∃ vs, Paired (IP X.K H) vs kvs ∧ s.heap.DictOf (intKind X.prog X.w) a vs := by
  obtain ⟨vs, e, k, t⟩ := entI X.prog X.w d.ent h
  obtain ⟨_, ep, o, ho, hc, hd⟩ := d.raw I
  exact ⟨vs, t, o, _, ep, ho, hc, hd, fun e' he' => k e' (by simpa using he'), by simpa using e, IP.nd t d.nd⟩
theorem dcls_some {kvs : List (D × D)} {k : D} (h : dcls kvs k = true) : (kcls k = some true ∧ ∀ p ∈ kvs, kcls p.1 = some true) ∨ (kcls k = some false ∧ ∀ p ∈ kvs, kcls p.1 = some false) := by
  unfold dcls at h
  rw [Bool.and_eq_true, List.all_eq_true] at h
  obtain ⟨h1, h2⟩ := h
  cases q : kcls k with
  | none => rw [q] at h1; cases h1
  | some b =>
    have h3 : ∀ p ∈ kvs, kcls p.1 = some b := fun p hp => by have := h2 p hp; rw [decide_eq_true_eq] at this; rw [this, q]
    cases b with
    | true => exact .inl ⟨rfl, h3⟩
    | false => exact .inr ⟨rfl, h3⟩
theorem Rp.fzT {K : Fr} {H : Hp} {v : V} {ds : List D} (h : Rp K H v (.tuple ds)) : Fz K H v (.tuple ds) := by
  rcases h with h | ⟨a, xs, es, rfl, e, q, f⟩
  · exact h
  · cases e
end
end VL

set_option Elab.async false
set_option linter.all false
set_option maxRecDepth 100000
set_option maxHeartbeats 4000000
namespace VL
open PySem PySem.Spec PyProof.Rows L2
/-! ### operations by values -/
/-- a dict at the right, a value at the left -/
def rDR (K : Fr) (g : List (D × D) → D → Option T) : R2 := fun x y H Q => ∃ a es kvs k t, Dc K H y a es kvs ∧ Rp K H x k ∧ g kvs k = some t ∧ ∀ v H', Fresh K H H' v t → Q v H'
def rDL (K : Fr) (g : List (D × D) → D → Option T) : R2 := fun x y H Q => rDR K g y x H Q
section
variable {X : Cx}
theorem room_n (hu : X.A.units + 65 < cLine) : (nestedKind X.prog X.w).room X.A.in1 := by show X.A.in1.units + 8 < cLine; show X.A.units + 1 + 8 < cLine; omega
theorem ite_s {p : Prop} [Decidable p] {α : Type} {x : Option α} {y : α} (h : (if p then x else none) = some y) : p ∧ x = some y := by
  by_cases c : p
  · rw [if_pos c] at h; exact ⟨c, h⟩
  · rw [if_neg c] at h; cases h
/-- what is found under a key -/
theorem dc_in {pins : List (Addr × Obj)} {σ : St} {H : Hp} {s : Shared} {x y : V} {a : Addr} {es : List DictEntry} {kvs : List (D × D)} {k : D} {u : Value} {Q : Value → Shared → Prop} {E : Value → Shared → Prop} (hu : X.A.units + 65 < cLine) (I : Inv X pins σ H s) (d : Dc X.K H x a es kvs) (rk : Rp X.K H y k) (ry : RelV y u) (hc : dcls kvs k = true)
    (h : ∀ s', Inv X pins σ H s' → Q (.bool (dfind (nkey k) kvs).isSome) s') : wpAny (model X.prog X.w) X.A (compareOp .In u (.ref a)) Q E s := by
  obtain ⟨hd, _⟩ := d.raw I
  rcases dcls_some hc with ⟨c1, c2⟩ | ⟨c1, c2⟩
  · obtain ⟨ds, nk, rfl, e1, e2⟩ := kcls_tup c1
    obtain ⟨xs, t, dd⟩ := d.tup I c2
    obtain ⟨b, ys, rfl, q1, f1⟩ := rk.tuple
    cases (show u = .ref b from ry)
    refine wpAny_in_heap (room_n hu) ⟨nestedOf I _ _ _ _ rk.fzT e1 rfl, e2⟩ hd dd ?_
    have q : (atKey xs nk).isSome = (dfind (nkey (.tuple ds)) kvs).isSome := by
      rw [e1]
      rcases TP.find (k := nk) t with ⟨z1, z2⟩ | ⟨p, d', y, z1, z2, _, _⟩ <;> rw [z1, z2] <;> rfl
    rw [q]
    exact h _ (I.tok _)
  · obtain ⟨i, rfl⟩ := kcls_int c1
    obtain ⟨vs, t, dd⟩ := d.ints I c2
    cases rk.int
    obtain ⟨tk, rfl⟩ := ry
    refine wpAny_in_of (intKind_is X.prog X.w i tk) hd dd.mapOf ?_
    have q : (valueAt vs i).isSome = (dfind (nkey (.int i)) kvs).isSome := by
      show _ = (dfind (some (.num i)) kvs).isSome
      rcases IP.find (k := i) t with ⟨z1, z2⟩ | ⟨p, d', y, z1, z2, _, _⟩ <;> rw [z1, z2] <;> rfl
    rw [q]
    exact h _ (I.tok _)
theorem dc_nin {pins : List (Addr × Obj)} {σ : St} {H : Hp} {s : Shared} {x y : V} {a : Addr} {es : List DictEntry} {kvs : List (D × D)} {k : D} {u : Value} {Q : Value → Shared → Prop} {E : Value → Shared → Prop} (hu : X.A.units + 65 < cLine) (I : Inv X pins σ H s) (d : Dc X.K H x a es kvs) (rk : Rp X.K H y k) (ry : RelV y u) (hc : dcls kvs k = true)
    (h : ∀ s', Inv X pins σ H s' → Q (.bool (!(dfind (nkey k) kvs).isSome)) s') : wpAny (model X.prog X.w) X.A (compareOp .NotIn u (.ref a)) Q E s := by
  obtain ⟨hd, _⟩ := d.raw I
  rcases dcls_some hc with ⟨c1, c2⟩ | ⟨c1, c2⟩
  · obtain ⟨ds, nk, rfl, e1, e2⟩ := kcls_tup c1
    obtain ⟨xs, t, dd⟩ := d.tup I c2
    obtain ⟨b, ys, rfl, q1, f1⟩ := rk.tuple
    cases (show u = .ref b from ry)
    refine wpAny_notIn_heap (room_n hu) ⟨nestedOf I _ _ _ _ rk.fzT e1 rfl, e2⟩ hd dd ?_
    have q : (atKey xs nk).isSome = (dfind (nkey (.tuple ds)) kvs).isSome := by
      rw [e1]
      rcases TP.find (k := nk) t with ⟨z1, z2⟩ | ⟨p, d', y, z1, z2, _, _⟩ <;> rw [z1, z2] <;> rfl
    rw [q]
    exact h _ (I.tok _)
  · obtain ⟨i, rfl⟩ := kcls_int c1
    obtain ⟨vs, t, dd⟩ := d.ints I c2
    cases rk.int
    obtain ⟨tk, rfl⟩ := ry
    refine wpAny_notIn_of (intKind_is X.prog X.w i tk) hd dd.mapOf ?_
    have q : (valueAt vs i).isSome = (dfind (nkey (.int i)) kvs).isSome := by
      show _ = (dfind (some (.num i)) kvs).isSome
      rcases IP.find (k := i) t with ⟨z1, z2⟩ | ⟨p, d', y, z1, z2, _, _⟩ <;> rw [z1, z2] <;> rfl
    rw [q]
    exact h _ (I.tok _)
theorem dc_get {pins : List (Addr × Obj)} {σ : St} {H : Hp} {s : Shared} {x y : V} {a : Addr} {es : List DictEntry} {kvs : List (D × D)} {k d' : D} {u : Value} {Q : Value → Shared → Prop} {E : Value → Shared → Prop} (hu : X.A.units + 65 < cLine) (I : Inv X pins σ H s) (d : Dc X.K H x a es kvs) (rk : Rp X.K H y k) (ry : RelV y u) (hc : dcls kvs k = true)
    (hf : dfind (nkey k) kvs = some d') (h : ∀ z w s', Inv X pins σ H s' → RelV z w → Fz X.K H z d' → Q w s') : wpAny (model X.prog X.w) X.A (getItem (.ref a) u) Q E s := by
  rcases dcls_some hc with ⟨c1, c2⟩ | ⟨c1, c2⟩
  · obtain ⟨ds, nk, rfl, e1, e2⟩ := kcls_tup c1
    obtain ⟨xs, t, dd⟩ := d.tup I c2
    obtain ⟨b, ys, rfl, q1, f1⟩ := rk.tuple
    cases (show u = .ref b from ry)
    rw [e1] at hf
    rcases TP.find (k := nk) t with ⟨z1, z2⟩ | ⟨p, d2, y, z1, z2, ry, fy⟩
    · rw [z2] at hf; cases hf
    · rw [z2] at hf; cases hf
      exact wpAny_getItem_heap (room_n hu) ⟨nestedOf I _ _ _ _ rk.fzT e1 rfl, e2⟩ dd z1 (h _ _ _ (I.tok _) ry fy)
  · obtain ⟨i, rfl⟩ := kcls_int c1
    obtain ⟨vs, t, dd⟩ := d.ints I c2
    cases rk.int
    obtain ⟨tk, rfl⟩ := ry
    rcases IP.find (k := i) t with ⟨z1, z2⟩ | ⟨p, d2, y, z1, z2, ry, fy⟩
    · rw [show nkey (.int i) = some (.num i) from rfl, z2] at hf; cases hf
    · rw [show nkey (.int i) = some (.num i) from rfl, z2] at hf; cases hf
      exact wpAny_getItem_of (intKind_is X.prog X.w i tk) dd.mapOf z1 (h _ _ _ (I.tok _) ry fy)
theorem dput_len (kvs : List (D × D)) (k v : D) : (dput kvs k v).length ≤ kvs.length + 1 := by
  unfold dput
  split <;> simp
theorem dc_put {pins : List (Addr × Obj)} {σ : St} {H : Hp} {s : Shared} {x y z : V} {a : Addr} {es : List DictEntry} {kvs : List (D × D)} {k d' : D} {u w : Value} {Q : Unit → Shared → Prop} {E : Value → Shared → Prop} (hu : X.A.units + 65 < cLine) (I : Inv X pins σ H s) (d : Dc X.K H x a es kvs) (hm : H a = some (dicO a es)) (rk : Rp X.K H y k) (ry : RelV y u) (rz : RelV z w) (fz : Fz X.K H z d') (hc : dcls kvs k = true) (hl : kvs.length < 100000)
    (h : ∀ es' s', Dc X.K (upd H a (dicO a es')) x a es' (dput kvs k d') → Inv X pins σ (upd H a (dicO a es')) s' → Q () s') : wpAny (model X.prog X.w) X.A (setItem (.ref a) u w) Q E s := by
  obtain ⟨hd, _⟩ := d.raw I
  have mu : Mut (H a) := by rw [hm]; exact True.intro
  have pk : ∀ es', PK H (upd H a (dicO a es')) := fun es' => .mut hm trivial
  rcases dcls_some hc with ⟨c1, c2⟩ | ⟨c1, c2⟩
  · obtain ⟨ds, nk, rfl, e1, e2⟩ := kcls_tup c1
    obtain ⟨xs, t, dd⟩ := d.tup I c2
    obtain ⟨b, ys, rfl, q1, f1⟩ := rk.tuple
    cases (show u = .ref b from ry)
    have hz : xs.length ≤ sizeLine := by rw [Paired.length t]; exact Nat.le_trans (Nat.le_of_lt hl) (by decide)
    refine wpAny_setItem_heap (hsz := hz) (room_n hu) ⟨nestedOf I _ _ _ _ rk.fzT e1 rfl, e2⟩ dd fun h' dd' hs => ?_
    obtain ⟨q, es', ep, hq, h2, h3, h4, _, h5⟩ := dd'
    have tp := TP.put e1 e2 rk.fzT rz fz t
    have ent : EntA X.K H es'.toList (dput kvs (.tuple ds) d') := by
      rw [h4]; exact entT_back X.w tp
    refine h es'.toList _ ⟨d.ref, .inl upd_same, ent.mono (pk _), dput_nodup d.nd⟩ (d_write I mu hs ⟨q, hq⟩ ?_)
    refine ⟨⟨hd, ep, q, hq, h2, by simpa using h3⟩, ⟨q, hq⟩, fun h1 h2 p st => ?_⟩
    obtain ⟨p1, ep, p2⟩ := p
    exact ⟨p1, ep, p2.at st⟩
  · obtain ⟨i, rfl⟩ := kcls_int c1
    obtain ⟨vs, t, dd⟩ := d.ints I c2
    cases rk.int
    obtain ⟨tk, rfl⟩ := ry
    have hz : vs.length ≤ sizeLine := by rw [Paired.length t]; exact Nat.le_trans (Nat.le_of_lt hl) (by decide)
    refine wpAny_setItem_pairs (hsz := hz) (intKind_is X.prog X.w i tk) dd fun h' dd' hs => ?_
    obtain ⟨q, es', ep, hq, h2, h3, h4, h5, _⟩ := dd'
    have ent : EntA X.K H es'.toList (dput kvs (.int i) d') := entI_back X.prog X.w h5 (fun e he => h4 e (by simpa using he)) (IP.put rz fz t)
    refine h es'.toList _ ⟨d.ref, .inl upd_same, ent.mono (pk _), dput_nodup d.nd⟩ (d_write I mu hs ⟨q, hq⟩ ?_)
    refine ⟨⟨hd, ep, q, hq, h2, by simpa using h3⟩, ⟨q, hq⟩, fun h1 h2 p st => ?_⟩
    obtain ⟨p1, ep, p2⟩ := p
    exact ⟨p1, ep, p2.at st⟩
theorem od_din (hu : X.A.units + 65 < cLine) : OpR X (compareOp .In) (rDR X.K gDIn) := by
  intro pins s σ H x y v u Q I rx ry ⟨a, es, kvs, k, t, d, rk, e, h⟩
  obtain ⟨hc, e2⟩ := ite_s (show (if dcls kvs k = true then some _ else none) = some t from e)
  cases e2
  have er := d.ref
  subst er
  cases (show u = .ref a from ry)
  exact dc_in hu I d rk rx hc fun s' I' => ⟨.bl _, H, I', rfl, h _ _ (.z (.bl _))⟩
theorem od_dnin (hu : X.A.units + 65 < cLine) : OpR X (compareOp .NotIn) (rDR X.K gDNin) := by
  intro pins s σ H x y v u Q I rx ry ⟨a, es, kvs, k, t, d, rk, e, h⟩
  obtain ⟨hc, e2⟩ := ite_s (show (if dcls kvs k = true then some _ else none) = some t from e)
  cases e2
  have er := d.ref
  subst er
  cases (show u = .ref a from ry)
  exact dc_nin hu I d rk rx hc fun s' I' => ⟨.bl _, H, I', rfl, h _ _ (.z (.bl _))⟩
theorem id_dix (hu : X.A.units + 65 < cLine) : IxR X (rDL X.K gDIx) := by
  intro value slice pins s σ H x y v u Q I rx ry ⟨a, es, kvs, k, t, d, rk, e, h⟩ hs
  obtain ⟨hc, e2⟩ := ite_s (show (if dcls kvs k = true then _ else none) = some t from e)
  obtain ⟨d', e3, rfl⟩ := Option.map_eq_some_iff.mp e2
  have er := d.ref
  subst er
  cases (show v = .ref a from rx)
  exact tail_any (d.typeIs I) PySem.F.slot_dict_getitem.lookup (dc_get hu I d rk ry hc e3 fun z w s' I' rz fz => ⟨z, H, I', rz, h _ _ (.z fz)⟩) hs
end
end VL

set_option Elab.async false
set_option linter.all false
set_option maxRecDepth 100000
set_option maxHeartbeats 4000000
namespace VL
open PySem PySem.Spec PyProof.Rows L2
/-! ### mirrors: an operand may be a dict -/
def mDR (g : D → D → Option T) (gd : List (D × D) → D → Option T) (m m' : MO) : ME := fun ρ => (m ρ).bind fun p => (m' p.2).bind fun q => (p.1.get q.2).bind fun t => match q.1.raw q.2 with
  | some (.dc kvs) => (gd kvs t.data).map fun r => (r, q.2)
  | some (.fd kvs) => (gd kvs t.data).map fun r => (r, q.2)
  | some (.z d) => (g t.data d).map fun r => (r, q.2)
  | some (.l ds) => (g t.data (.list ds)).map fun r => (r, q.2)
  | none => none
def mDL (g : D → D → Option T) (gd : List (D × D) → D → Option T) (m m' : MO) : ME := fun ρ => (m ρ).bind fun p => (m' p.2).bind fun q => (q.1.get q.2).bind fun t => match p.1.raw q.2 with
  | some (.dc kvs) => (gd kvs t.data).map fun r => (r, q.2)
  | some (.fd kvs) => (gd kvs t.data).map fun r => (r, q.2)
  | some (.z d) => (g d t.data).map fun r => (r, q.2)
  | some (.l ds) => (g (.list ds) t.data).map fun r => (r, q.2)
  | none => none
/-- a call of a builtin with one argument, which may be a dict -/
def mCD (g : List D → Option T) (gd : List (D × D) → Option T) (m : MO) : ME := fun ρ => (m ρ).bind fun p => match p.1.raw p.2 with
  | some (.dc kvs) => (gd kvs).map fun r => (r, p.2)
  | some (.fd kvs) => (gd kvs).map fun r => (r, p.2)
  | some (.z d) => (g [d]).map fun r => (r, p.2)
  | some (.l ds) => (g [.list ds]).map fun r => (r, p.2)
  | none => none
def gDLen (kvs : List (D × D)) : Option T := if kvs.length < 100000 then some (.z (.int (kvs.length : Nat))) else none
def gDLst (kvs : List (D × D)) : Option T := if kvs.length < 100000 then some (.l (kvs.map (·.1))) else none
def mD0 : ME := fun ρ => some (.dc [], ρ)
def mD1 (mk mv : ME) : ME := fun ρ => (mk ρ).bind fun p => (mv p.2).bind fun q => match p.1, q.1 with
  | .z k, .z d => if kcls k = some true then some (.dc [(k, d)], q.2) else none
  | _, _ => none
theorem rawRp {K : Fr} {H : Hp} {σ : St} {ρ : Env} {own : Ow} {j : Nat} {v : V} {a : Arg} {t : T} (es : ES K H σ ρ own) (r : ArgRep K H σ own j v a) (g : a.raw ρ = some t) : ∃ S, RepT K H v t S := by
  cases a with
  | val u =>
    cases (Option.some.inj g : u = t)
    exact ⟨_, r⟩
  | slot i =>
    obtain ⟨w, e, q⟩ := es.rep i t (slotT_some g)
    have r' : σ[i]? = some (some v) := r
    rw [e] at r'
    cases r'
    exact ⟨_, q⟩
section
variable {X : Cx} {a b : Expr} {m m' : MO} {pos : Pos}
theorem tE_DR {K : Fr} {g : D → D → Option T} {gd : List (D × D) → D → Option T} {σ : St} {H : Hp} {Q : VK} (q : tE K (mDR g gd m m') σ H Q) : tOp (fun x y H Q => rD2 K g x y H Q ∨ rDR K gd x y H Q) (tO K m) (tO K m') σ H Q := by
  obtain ⟨B, ρ, own, t, ρ', hB, es, e, k⟩ := q
  obtain ⟨⟨a, ρ1⟩, e1, e2⟩ := Option.bind_eq_some_iff.mp (show (m ρ).bind _ = some (t, ρ') from e)
  obtain ⟨⟨b, ρ2⟩, e3, e4⟩ := Option.bind_eq_some_iff.mp e2
  obtain ⟨u, e5, e6⟩ := Option.bind_eq_some_iff.mp e4
  refine ⟨B, ρ, own, a, ρ1, hB, es, e1, fun v H1 own1 st1 es1 r1 => ?_⟩
  refine ⟨B + 1, ρ1, own1, b, ρ2, Nat.le_succ_of_le hB, es1, e3, fun v2 H2 own2 st2 es2 r2 => ?_⟩
  have r1' := argStep (K := K) (σ := σ) (v := v) (a := a) st2 hB (Nat.lt_succ_self B) r1
  have ru := argRp es2 r1' e5
  have fin : ∀ z, (∃ w, (w, ρ2) = (t, ρ') ∧ z = w) → ∀ v3 H3, Fresh K H2 H3 v3 z → Q v3 H3 := by
    rintro z ⟨w, h, rfl⟩ v3 H3 f
    cases h
    exact k v3 H3 _ ((st1.trans (st2.down (Nat.le_succ B))).trans f.step) (f.es es2) f.rep'
  split at e6
  · rename_i kvs er
    obtain ⟨z, e9, e10⟩ := Option.map_eq_some_iff.mp e6
    obtain ⟨S, rr⟩ := rawRp es2 r2 er
    obtain ⟨ad, en, d, _⟩ := rr.dc
    exact .inr ⟨ad, en, kvs, u.data, z, d, ru, e9, fun v3 H3 f => fin z ⟨z, e10, rfl⟩ v3 H3 f⟩
  · rename_i kvs er
    obtain ⟨z, e9, e10⟩ := Option.map_eq_some_iff.mp e6
    obtain ⟨S, rr⟩ := rawRp es2 r2 er
    obtain ⟨ad, en, d, _⟩ := rr.fd
    exact .inr ⟨ad, en, kvs, u.data, z, d, ru, e9, fun v3 H3 f => fin z ⟨z, e10, rfl⟩ v3 H3 f⟩
  · rename_i d er
    obtain ⟨z, e9, e10⟩ := Option.map_eq_some_iff.mp e6
    obtain ⟨S, rr⟩ := rawRp es2 r2 er
    exact .inl ⟨u.data, d, z, ru, rr.rp rfl, e9, fun v3 H3 f => fin z ⟨z, e10, rfl⟩ v3 H3 f⟩
  · rename_i d er
    obtain ⟨z, e9, e10⟩ := Option.map_eq_some_iff.mp e6
    obtain ⟨S, rr⟩ := rawRp es2 r2 er
    exact .inl ⟨u.data, .list d, z, ru, rr.rp rfl, e9, fun v3 H3 f => fin z ⟨z, e10, rfl⟩ v3 H3 f⟩
  · cases e6
theorem tE_DL {K : Fr} {g : D → D → Option T} {gd : List (D × D) → D → Option T} {σ : St} {H : Hp} {Q : VK} (q : tE K (mDL g gd m m') σ H Q) : tOp (fun x y H Q => rD2 K g x y H Q ∨ rDL K gd x y H Q) (tO K m) (tO K m') σ H Q := by
  obtain ⟨B, ρ, own, t, ρ', hB, es, e, k⟩ := q
  obtain ⟨⟨a, ρ1⟩, e1, e2⟩ := Option.bind_eq_some_iff.mp (show (m ρ).bind _ = some (t, ρ') from e)
  obtain ⟨⟨b, ρ2⟩, e3, e4⟩ := Option.bind_eq_some_iff.mp e2
  obtain ⟨u, e5, e6⟩ := Option.bind_eq_some_iff.mp e4
  refine ⟨B, ρ, own, a, ρ1, hB, es, e1, fun v H1 own1 st1 es1 r1 => ?_⟩
  refine ⟨B + 1, ρ1, own1, b, ρ2, Nat.le_succ_of_le hB, es1, e3, fun v2 H2 own2 st2 es2 r2 => ?_⟩
  have r1' := argStep (K := K) (σ := σ) (v := v) (a := a) st2 hB (Nat.lt_succ_self B) r1
  have ru := argRp es2 r2 e5
  have fin : ∀ z, (∃ w, (w, ρ2) = (t, ρ') ∧ z = w) → ∀ v3 H3, Fresh K H2 H3 v3 z → Q v3 H3 := by
    rintro z ⟨w, h, rfl⟩ v3 H3 f
    cases h
    exact k v3 H3 _ ((st1.trans (st2.down (Nat.le_succ B))).trans f.step) (f.es es2) f.rep'
  split at e6
  · rename_i kvs er
    obtain ⟨z, e9, e10⟩ := Option.map_eq_some_iff.mp e6
    obtain ⟨S, rr⟩ := rawRp es2 r1' er
    obtain ⟨ad, en, d, _⟩ := rr.dc
    exact .inr ⟨ad, en, kvs, u.data, z, d, ru, e9, fun v3 H3 f => fin z ⟨z, e10, rfl⟩ v3 H3 f⟩
  · rename_i kvs er
    obtain ⟨z, e9, e10⟩ := Option.map_eq_some_iff.mp e6
    obtain ⟨S, rr⟩ := rawRp es2 r1' er
    obtain ⟨ad, en, d, _⟩ := rr.fd
    exact .inr ⟨ad, en, kvs, u.data, z, d, ru, e9, fun v3 H3 f => fin z ⟨z, e10, rfl⟩ v3 H3 f⟩
  · rename_i d er
    obtain ⟨z, e9, e10⟩ := Option.map_eq_some_iff.mp e6
    obtain ⟨S, rr⟩ := rawRp es2 r1' er
    exact .inl ⟨d, u.data, z, rr.rp rfl, ru, e9, fun v3 H3 f => fin z ⟨z, e10, rfl⟩ v3 H3 f⟩
  · rename_i d er
    obtain ⟨z, e9, e10⟩ := Option.map_eq_some_iff.mp e6
    obtain ⟨S, rr⟩ := rawRp es2 r1' er
    exact .inl ⟨.list d, u.data, z, rr.rp rfl, ru, e9, fun v3 H3 f => fin z ⟨z, e10, rfl⟩ v3 H3 f⟩
  · cases e6
theorem px_din (hu : X.A.units + 65 < cLine) (ha : PO X a m) (hb : PO X b m') (hm : behindInMarks .In b = false) : PX X (.Compare a [.In] [b] pos) (mDR gIn gDIn m m') := ⟨(pe_cmpR (OpR.or (od_in hu) (od_din hu)) ha.pe hb.pe hm).of fun σ H Q q => tE_DR q⟩
theorem px_dnin (hu : X.A.units + 65 < cLine) (ha : PO X a m) (hb : PO X b m') (hm : behindInMarks .NotIn b = false) : PX X (.Compare a [.NotIn] [b] pos) (mDR gNin gDNin m m') := ⟨(pe_cmpR (OpR.or (od_nin hu) (od_dnin hu)) ha.pe hb.pe hm).of fun σ H Q q => tE_DR q⟩
theorem pb_din (hu : X.A.units + 65 < cLine) (ha : PO X a m) (hb : PO X b m') (hm : behindInMarks .In b = false) : PB X (.Compare a [.In] [b] pos) (bV (mDR gIn gDIn m m')) := ⟨(pt_cmpR (OpR.or (od_in hu) (od_din hu)) ha.pe hb.pe hm).of fun σ H Q q => tE_DR (tB_of q)⟩
theorem pb_dnin (hu : X.A.units + 65 < cLine) (ha : PO X a m) (hb : PO X b m') (hm : behindInMarks .NotIn b = false) : PB X (.Compare a [.NotIn] [b] pos) (bV (mDR gNin gDNin m m')) := ⟨(pt_cmpR (OpR.or (od_nin hu) (od_dnin hu)) ha.pe hb.pe hm).of fun σ H Q q => tE_DR (tB_of q)⟩
theorem px_dix (hu : X.A.units + 65 < cLine) (ha : PO X a m) (hb : PO X b m') (hs : PlainIx b := by intro _ _; rfl) : PX X (.Subscript a b pos) (mDL gIx gDIx m m') := ⟨(pe_ix (IxR.or id_ix (id_dix hu)) ha.pe hb.pe hs).of fun σ H Q q => tE_DL q⟩

/-! ### {} -/
theorem dic_empty {P : Program} {w : World} {H : Hp} (h : Heap) (hb : sysModules < h.objs.size) : ObjOk P w H (h.push { cls := .type "dict", data := .dict #[] }) h.objs.size (dicO h.objs.size []) := by
  refine ⟨⟨beq_eq_false_iff_ne.mpr (Ne.symm (Nat.ne_of_lt hb)), 0, _, Heap.get?_push_size _ rfl, ⟨rfl, rfl, rfl⟩, rfl⟩, ⟨_, Heap.get?_push_size _ rfl⟩, fun h1 h2 p st => ?_⟩
  obtain ⟨p1, ep, p2⟩ := p
  exact ⟨p1, ep, p2.at st⟩
theorem pe_d0 : PE X (.Dict [] [] pos) fun _ H Q => ∀ p, H p = none → Q (.ref p) (upd H p (dicO p [])) := ⟨fun pins s σ H Q I h =>
  wpAny_Dict_empty ⟨.ref s.heap.objs.size, _, I.laid (a := s.heap.objs.size) (o := dicO s.heap.objs.size []) (t' := s.toks) (fun _ _ q => Heap.get?_push_of_some _ q) (Nat.le_refl _) (dic_empty s.heap I.big), rfl, h _ (I.hok.fresh (Nat.le_refl _))⟩⟩
theorem Fresh.dc0 {K : Fr} {H : Hp} {p : Addr} (h : H p = none) : Fresh K H (upd H p (dicO p [])) (.ref p) (.dc []) :=
  ⟨fun b o e => by rw [upd_ne (ne_of_none e h)]; exact e, ⟨p, [], rfl, h, upd_same, .nil, by simp⟩⟩
theorem px_d0 : PX X (.Dict [] [] pos) mD0 := ⟨pe_d0.of fun σ H Q q => by
  obtain ⟨B, ρ, own, t, ρ', hB, es, e, k⟩ := q
  cases e
  intro p hp
  have f : Fresh X.K H _ _ _ := .dc0 hp
  exact k _ _ _ f.step (f.es es) f.rep'⟩

/-! ### len(d), list(d) -/
def rCD (K : Fr) (g : List D → Option T) (gd : List (D × D) → Option T) : List V → Hp → VK → Prop := fun xs H Q => rDA K g xs H Q ∨ ∃ x a es kvs t, xs = [x] ∧ Dc K H x a es kvs ∧ gd kvs = some t ∧ ∀ v H', Fresh K H H' v t → Q v H'
theorem tE_CD {K : Fr} {g : List D → Option T} {gd : List (D × D) → Option T} {σ : St} {H : Hp} {Q : VK} (q : tE K (mCD g gd m) σ H Q) : tCB (rCD K g gd) (tA K (aCons m aNil)) σ H Q := by
  obtain ⟨B, ρ, own, t, ρ', hB, es, e, k⟩ := q
  obtain ⟨⟨a, ρ1⟩, e1, e2⟩ := Option.bind_eq_some_iff.mp (show (m ρ).bind _ = some (t, ρ') from e)
  refine ⟨B, ρ, own, [a], ρ1, hB, es, by show (m ρ).bind _ = _; rw [e1]; rfl, fun vs H1 own1 st1 es1 r1 => ?_⟩
  cases vs with
  | nil => exact False.elim r1
  | cons v vs =>
    obtain ⟨r1, r2⟩ := r1
    cases vs with
    | cons _ _ => exact False.elim r2
    | nil =>
      have fin : ∀ z, (∃ w, (w, ρ1) = (t, ρ') ∧ z = w) → ∀ v3 H3, Fresh K H1 H3 v3 z → Q v3 H3 := by
        rintro z ⟨w, h, rfl⟩ v3 H3 f
        cases h
        exact k v3 H3 _ (st1.trans f.step) (f.es es1) f.rep'
      simp only at e2
      split at e2
      · rename_i kvs er
        obtain ⟨z, e9, e10⟩ := Option.map_eq_some_iff.mp e2
        obtain ⟨S, rr⟩ := rawRp es1 r1 er
        obtain ⟨ad, en, d, _⟩ := rr.dc
        exact .inr ⟨v, ad, en, kvs, z, rfl, d, e9, fun v3 H3 f => fin z ⟨z, e10, rfl⟩ v3 H3 f⟩
      · rename_i kvs er
        obtain ⟨z, e9, e10⟩ := Option.map_eq_some_iff.mp e2
        obtain ⟨S, rr⟩ := rawRp es1 r1 er
        obtain ⟨ad, en, d, _⟩ := rr.fd
        exact .inr ⟨v, ad, en, kvs, z, rfl, d, e9, fun v3 H3 f => fin z ⟨z, e10, rfl⟩ v3 H3 f⟩
      · rename_i d er
        obtain ⟨z, e9, e10⟩ := Option.map_eq_some_iff.mp e2
        obtain ⟨S, rr⟩ := rawRp es1 r1 er
        exact .inl ⟨[d], z, .cons (rr.rp rfl) .nil, e9, fun v3 H3 f => fin z ⟨z, e10, rfl⟩ v3 H3 f⟩
      · rename_i d er
        obtain ⟨z, e9, e10⟩ := Option.map_eq_some_iff.mp e2
        obtain ⟨S, rr⟩ := rawRp es1 r1 er
        exact .inl ⟨[.list d], z, .cons (rr.rp rfl) .nil, e9, fun v3 H3 f => fin z ⟨z, e10, rfl⟩ v3 H3 f⟩
      · cases e2
theorem cd_dlen : CallR X (.builtin "len") (rCD X.K gLen gDLen) := by
  refine CallR.or cd_len ?_
  intro pins s σ H xs us Q I r h
  obtain ⟨x, a, es, kvs, t, rfl, d, e, k⟩ := h
  obtain ⟨hl, e2⟩ := ite_s e
  cases e2
  obtain ⟨u, rfl, ru⟩ := vals1 r
  have er := d.ref
  subst er
  cases (show u = .ref a from ru)
  obtain ⟨hd, ep, raw⟩ := d.raw I
  have hn : es.toArray.size = kvs.length := by rw [List.size_toArray, d.ent.length]
  have big : (sizeLine : Nat) = 16777216 := sizeLine_eq
  refine PyProof.Rows.call_len_slot (n := kvs.length) raw.typeIs F.slot_dict_len (fun Q' hq => call_len_raw hd raw (by rw [hn]; exact hq)) (by omega) (by omega) ?_
  exact ⟨.int kvs.length, H, I.tok _, ⟨_, rfl⟩, k _ _ (.z (.int _))⟩
theorem EntA.keys {K : Fr} {H : Hp} : ∀ {es : List DictEntry} {kvs : List (D × D)}, EntA K H es kvs → ∃ xs, Vals xs (es.map (·.key)) ∧ FzA K H xs (kvs.map (·.1))
  | _, _, .nil => ⟨[], .nil, .nil⟩
  | _, _, .cons a b c d e f => by
    obtain ⟨xs, h1, h2⟩ := EntA.keys f
    exact ⟨_ :: xs, .cons a h1, .cons c h2⟩
theorem cd_dlst (hc : X.calm = true) : CallR X (.type "list") (rCD X.K gLst gDLst) := by
  refine CallR.or cd_lst ?_
  intro pins s σ H xs us Q I r h
  obtain ⟨x, a, es, kvs, t, rfl, d, e, k⟩ := h
  obtain ⟨hl, e2⟩ := ite_s e
  cases e2
  obtain ⟨u, rfl, ru⟩ := vals1 r
  have er := d.ref
  subst er
  cases (show u = .ref a from ru)
  obtain ⟨hd, ep, raw⟩ := d.raw I
  have hn : es.toArray.size = kvs.length := by rw [List.size_toArray, d.ent.length]
  refine PySem.W.kdl_call (PySem.KdlSrc.rawDict hd) (I.ok.hd hc) raw (by rw [hn]; exact Nat.le_trans (Nat.le_of_lt hl) (by decide)) fun h' tk acc c hk hS hacc => ?_
  obtain ⟨ks, hv, fk⟩ := d.ent.keys
  have ea : acc.toList = es.map (·.key) := by
    refine List.ext_getElem? fun j => ?_
    rw [Array.getElem?_toList, List.getElem?_map]
    obtain ⟨h1, h2⟩ := hacc
    by_cases hj : j < acc.size
    · obtain ⟨hi, e3⟩ := h2 j _ (Array.getElem?_eq_getElem hj)
      rw [Array.getElem?_eq_getElem hj, e3]
      have hi' : j < es.length := by simpa using hi
      rw [List.getElem?_eq_getElem hi']
      simp
    · have hj2 : ¬ j < es.length := by rw [h1] at hj; simpa using hj
      rw [Array.getElem?_eq_none (by omega), List.getElem?_eq_none (by omega)]
      rfl
  have new : H s.heap.objs.size = none := I.hok.fresh (Nat.le_refl _)
  have kl : ks.length ≤ sizeLine := by rw [fk.length, List.length_map]; exact Nat.le_trans (Nat.le_of_lt hl) (by decide)
  refine ⟨.ref s.heap.objs.size, upd H s.heap.objs.size (.lst ks), ?_, rfl, k _ _ (.lst new fk)⟩
  exact I.laid (t' := tk) (fun b o e => hk b o e) (Nat.le_refl _) ⟨kl, acc.toList, c, by rw [ea]; exact hv, by rw [hS]⟩
theorem px_dlen {x : Str} {p : Pos} (hg : Gl X x) (hm : X.mg x = none) (hv : bootBuiltins x = some (.builtin "len")) (ha : PO X a m)
    (hn : x ≠ "__name__" := by decide) (hdb : (x == ("__debug__" : Str)) = false := by decide) (hs : starEach [a] X.env = (false, eval a X.env) :: starEach [] X.env := by rfl) (hpl : (backTo pos (starEach [] X.env)).any (·.1) = false := by rfl) : PX X (.Call (.Name x p) [a] [] pos) (mCD gLen gDLen m) :=
  ⟨(pe_callB cd_dlen hg hm hv (pa_c ha pa_0 hs).pa hn hdb hs hpl).of fun σ H Q q => tE_CD q⟩
theorem px_dlst {x : Str} {p : Pos} (hc : X.calm = true) (hg : Gl X x) (hm : X.mg x = none) (hv : bootBuiltins x = some (.type "list")) (ha : PO X a m)
    (hn : x ≠ "__name__" := by decide) (hdb : (x == ("__debug__" : Str)) = false := by decide) (hs : starEach [a] X.env = (false, eval a X.env) :: starEach [] X.env := by rfl) (hpl : (backTo pos (starEach [] X.env)).any (·.1) = false := by rfl) : PX X (.Call (.Name x p) [a] [] pos) (mCD gLst gDLst m) :=
  ⟨(pe_callTy (cd_dlst hc) hg hm hv (pa_c ha pa_0 hs).pa hn hdb hs hpl).of fun σ H Q q => tE_CD q⟩
end
end VL

set_option Elab.async false
set_option linter.all false
set_option maxRecDepth 100000
set_option maxHeartbeats 4000000
namespace VL
open PySem PySem.Spec PyProof.Rows L2
/-! ### d[k] = v -/
def rSetDc (K : Fr) : TSet := fun o i v H Q => ∃ a es kvs k d, Dc K H o a es kvs ∧ H a = some (dicO a es) ∧ Rp K H i k ∧ Fz K H v d ∧ dcls kvs k = true ∧ kvs.length < 100000 ∧ ∀ es', Dc K (upd H a (dicO a es')) o a es' (dput kvs k d) → Q (upd H a (dicO a es'))
def gSD (i : Nat) (mi : MO) : MG := fun d ρ => match slotT ρ i with
  | some (.l _) => gS i mi d ρ
  | some (.dc _) => (mi ρ).bind fun q => (q.1.get q.2).bind fun t => match slotT q.2 i with
    | some (.dc kvs) => (gDSet kvs t.data d).map fun kvs' => q.2.set i (some (.dc kvs'))
    | _ => none
  | _ => none
theorem ES.writeD {K : Fr} {H : Hp} {σ : St} {ρ : Env} {own : Ow} {i : Nat} {a : Addr} {es es' : List DictEntry} {kvs' : List (D × D)} {x : V} (Es : ES K H σ ρ own) (hi : i < σ.length) (hs : σ[i]? = some (some x)) (ho : own a = some i) (hl : H a = some (dicO a es)) (f : Dc K (upd H a (dicO a es')) x a es' kvs') :
    ES K (upd H a (dicO a es')) σ (ρ.set i (some (.dc kvs'))) own := by
  have pk : PK H (upd H a (dicO a es')) := .mut hl trivial
  refine ⟨by simpa using Es.len, fun k u e => ?_⟩
  by_cases hk : k = i
  · subst hk
    rw [List.getElem?_set_self (by rw [Es.len]; exact hi)] at e
    cases e
    exact ⟨_, hs, a, es', f.ref, ho, upd_same, f.ent, f.nd⟩
  · rw [List.getElem?_set_ne (Ne.symm hk)] at e
    obtain ⟨w, e1, r⟩ := Es.rep k u e
    refine ⟨w, e1, r.mono pk fun b o sa qa => ⟨?_, sa⟩⟩
    rw [upd_ne (fun z => by subst z; rw [ho] at sa; cases sa; exact hk rfl)]
    exact qa
theorem writeD_step {n B : Nat} {own : Ow} {H : Hp} {a : Addr} {es es' : List DictEntry} (ho : Act n B (own a)) (hl : H a = some (dicO a es)) : Step n B own H own (upd H a (dicO a es')) :=
  ⟨fun b o e na => ⟨by rw [upd_ne (fun z => na (by rw [z]; exact ho))]; exact e, rfl⟩, fun b q => .inl q, .mut hl trivial⟩
section
variable {X : Cx} {pin : List Nat} {i : Nat} {x : Str} {pos npos : Pos} {mi : MO} {ix : Expr}
theorem set_dc (hu : X.A.units + 65 < cLine) : PSet X (rSetDc X.K) := by
  intro pins s σ H o i v ov iv u Q I ro ri rv h
  obtain ⟨a, es, kvs, k, d, dd, hm, rk, fz, hc, hl, q⟩ := h
  have er := dd.ref
  subst er
  cases (show ov = Value.ref a from ro)
  exact dc_put hu I dd hm rk ri rv fz hc hl fun es' s' dc' I' => ⟨_, I', q es' dc'⟩
theorem PSet.or {t t' : TSet} (h : PSet X t) (h' : PSet X t') : PSet X (fun o i v H Q => t o i v H Q ∨ t' o i v H Q) := by
  intro pins s σ H o i v ov iv u Q I ro ri rv q
  rcases q with q | q
  · exact h pins s σ H o i v ov iv u Q I ro ri rv q
  · exact h' pins s σ H o i v ov iv u Q I ro ri rv q
theorem pth_sd (hu : X.A.units + 65 < cLine) (hn : PE X (.Name x npos) (tVar i)) (hx : PO X ix mi)
    (ha : ∀ v, assign (.Subscript (.Name x npos) ix pos) X.env v = (do
      let ov ← holding [v] (eval (.Name x npos) X.env)
      let iv ← holding [v, ov] (eval ix X.env)
      standAt pos
      holding [v, ov, iv] (setItem ov iv v)
      release [v, ov, iv] []) := by intro _; rfl) : PTh X pin (.Subscript (.Name x npos) ix pos) (gSD i mi) := ⟨(pg_sub (po_n hn).pe hx.pe (PSet.or set_list (set_dc hu)) ha).of fun v σ H Q q => by
  obtain ⟨B, d, ρ, own, ρ', hB, f, es, e, k⟩ := q
  unfold gSD at e
  split at e
  · unfold gS at e
    split at e
    · rename_i ds0 es0
      obtain ⟨⟨a, ρ1⟩, e1, e2⟩ := Option.bind_eq_some_iff.mp e
      obtain ⟨t, e3, e4⟩ := Option.bind_eq_some_iff.mp e2
      split at e4
      · rename_i kk ds es1'
        obtain ⟨j, e5, e6⟩ := Option.map_eq_some_iff.mp e4
        cases e6
        refine ⟨B, ρ, own, .slot i, ρ, hB, es, by unfold oN; rw [es0]; rfl, fun o H1 own1 st1 es1 r1 => ?_⟩
        have r1' : σ[i]? = some (some o) := r1
        refine ⟨B, ρ, own1, a, ρ1, hB, es1, e1, fun y H2 own2 st2 es2 r2 => ?_⟩
        obtain ⟨w2, q2, l, xs2, rfl, sa2, hl2, f2⟩ := es2.rep i _ (slotT_some es1')
        rw [r1'] at q2
        cases q2
        have hi : i < σ.length := (List.getElem?_eq_some_iff.mp r1').1
        have ry := argRp es2 r2 e3
        cases (show y = .int kk from ry.int)
        have fv := Fz.step st2 (Fz.step st1 f)
        refine .inl ⟨l, xs2, kk, j, rfl, rfl, hl2, by rw [f2.length]; exact e5, ?_⟩
        exact k σ _ own2 rfl (fun _ _ => rfl) ((st1.trans st2).trans (write_step hi sa2 hl2)) (es2.write hi r1' sa2 hl2 (f2.set fv j))
      · cases e4
    · cases e
  · rename_i ds0 es0
    obtain ⟨⟨a, ρ1⟩, e1, e2⟩ := Option.bind_eq_some_iff.mp e
    obtain ⟨t, e3, e4⟩ := Option.bind_eq_some_iff.mp e2
    split at e4
    · rename_i kvs es1'
      obtain ⟨kvs', e5, e6⟩ := Option.map_eq_some_iff.mp e4
      cases e6
      refine ⟨B, ρ, own, .slot i, ρ, hB, es, by unfold oN; rw [es0]; rfl, fun o H1 own1 st1 es1 r1 => ?_⟩
      have r1' : σ[i]? = some (some o) := r1
      refine ⟨B, ρ, own1, a, ρ1, hB, es1, e1, fun y H2 own2 st2 es2 r2 => ?_⟩
      obtain ⟨w2, q2, rr⟩ := es2.rep i _ (slotT_some es1')
      rw [r1'] at q2
      cases q2
      obtain ⟨ad, en, dd, hm, sa⟩ := rr.dc
      have hi : i < σ.length := (List.getElem?_eq_some_iff.mp r1').1
      have ry := argRp es2 r2 e3
      have fv := Fz.step st2 (Fz.step st1 f)
      obtain ⟨⟨hc, hl⟩, e7⟩ := ite_s e5
      cases e7
      refine .inr ⟨ad, en, kvs, _, d, dd, hm, ry, fv, hc, hl, fun es' dc' => ?_⟩
      exact k σ _ own2 rfl (fun _ _ => rfl) ((st1.trans st2).trans (writeD_step (by rw [sa, Act.some]; exact .inl hi) hm)) (es2.writeD hi r1' sa hm dc')
    · cases e4
  · cases e⟩
end

/-! ### {k: v} -/
def rD1' (K : Fr) (p : Addr) (x y : V) (H : Hp) (Q : VK) : Prop := ∃ kd d, Rp K H x kd ∧ Fz K H y d ∧ kcls kd = some true ∧ H p = some (dicO p []) ∧ ∀ es, Dc K (upd H p (dicO p es)) (.ref p) p es [(kd, d)] → Q (.ref p) (upd H p (dicO p es))
def tD1 (K : Fr) (tk tv : TE) : TE := fun σ H Q => ∀ p, H p = none → tk σ (upd H p (dicO p [])) fun x H1 => tv σ H1 fun y H2 => rD1' K p x y H2 Q
section
variable {X : Cx} {k v : Expr} {tk tv : TE} {pos : Pos}
theorem pe_d1 (hu : X.A.units + 65 < cLine) (hk : PE X k tk) (hv : PE X v tv) : PE X (.Dict [some k] [v] pos) (tD1 X.K tk tv) := ⟨fun pins s σ H Q I q => by
  have I1 := I.laid (a := s.heap.objs.size) (o := dicO s.heap.objs.size []) (t' := s.toks) (fun _ _ q => Heap.get?_push_of_some _ q) (Nat.le_refl _) (dic_empty s.heap I.big)
  have q1 := q _ (I.hok.fresh (Nat.le_refl _))
  rw [arm_eval_Dict, zip_pairTrees [some k] [v] X.env pos rfl rfl, dictDisplay_pairs _ (by simp [pairTrees]) (by simp [pairTrees])]
  refine wpAny_bind (wpAny_standAt (wpAny_bind (wpAny_subDictH (knd := nestedKind X.prog X.w) (Q := fun d s' => wpAny (model X.prog X.w) X.A (pure (Value.ref d)) (EP X pins σ Q) X.xe s') (show X.A.units + 8 < cLine by omega) (by simp [pairTrees]) ?_)))
  refine pairTrees_cons_walk (thn (hk.run pins _ σ _ _ I1 q1) fun u s1 ⟨x, H1, J1, rx, q2⟩ => thn (hv.run pins s1 σ H1 _ J1 q2) fun w s2 ⟨y, H2, J2, ry, q3⟩ => pairTrees_nil_walk ?_)
  obtain ⟨kd, d, rk, fz, hc, hp, q4⟩ := q3
  obtain ⟨ds, nk, rfl, e1, e2⟩ := kcls_tup hc
  obtain ⟨b, ys, rfl, _, _⟩ := rk.tuple
  cases (show u = .ref b from rx)
  have dd : Dc X.K H2 (.ref s.heap.objs.size) s.heap.objs.size [] [] := ⟨rfl, .inl hp, .nil, by simp⟩
  obtain ⟨hd, _⟩ := dd.raw J2
  obtain ⟨xs, t, dof⟩ := dd.tup J2 (fun p hp => by cases hp)
  cases t
  refine ⟨[(nk, b, w)], ⟨rfl, rfl, ⟨nestedOf J2 _ _ _ _ rk.fzT e1 rfl, e2⟩, trivial⟩, dof, fun h' tk dd' hs => wpAny_pure ?_⟩
  obtain ⟨q, es', ep, hq, h2, h3, h4, _, h5⟩ := dd'
  have mu : Mut (H2 s.heap.objs.size) := by rw [hp]; exact True.intro
  have pk : PK H2 (upd H2 s.heap.objs.size (dicO s.heap.objs.size es'.toList)) := .mut hp trivial
  have ent : EntA X.K H2 es'.toList [(.tuple ds, d)] := by
    rw [h4]
    exact entT_back X.w (.cons ⟨e1, rk.fzT, e2, y, ry, fz⟩ .nil)
  refine ⟨.ref s.heap.objs.size, _, d_write J2 mu hs ⟨q, hq⟩ ?_, rfl, q4 es'.toList ⟨rfl, .inl upd_same, ent.mono pk, by simp⟩⟩
  refine ⟨⟨hd, ep, q, hq, h2, by simpa using h3⟩, ⟨q, hq⟩, fun h1 h2 p st => ?_⟩
  obtain ⟨p1, ep, p2⟩ := p
  exact ⟨p1, ep, p2.at st⟩⟩
theorem px_d1 {mk mv : ME} (hu : X.A.units + 65 < cLine) (hk : PX X k mk) (hv : PX X v mv) : PX X (.Dict [some k] [v] pos) (mD1 mk mv) := ⟨(pe_d1 hu hk.pe hv.pe).of fun σ H Q q => by
  obtain ⟨B, ρ, own, t, ρ', hB, es, e, k⟩ := q
  obtain ⟨⟨a, ρ1⟩, e1, e2⟩ := Option.bind_eq_some_iff.mp (show (mk ρ).bind _ = some (t, ρ') from e)
  obtain ⟨⟨b, ρ2⟩, e3, e4⟩ := Option.bind_eq_some_iff.mp e2
  intro p hp
  have f : Fresh X.K H (upd H p (dicO p [])) (.ref p) (.dc []) := .dc0 hp
  have st0 : Step σ.length B own H (born B H own) (upd H p (dicO p [])) := f.step
  have op : born B H own p = some B := born_new hp
  refine ⟨B + 1, ρ, born B H own, a, ρ1, Nat.le_succ_of_le hB, f.es es, e1, fun x H1 own1 st1 es1 r1 => ?_⟩
  refine ⟨B + 2, ρ1, own1, b, ρ2, by omega, es1, e3, fun y H2 own2 st2 es2 r2 => ?_⟩
  have n0 : ¬ Act σ.length (B + 1) (born B H own p) := by rw [op, Act.some]; omega
  obtain ⟨hp1, op1⟩ := st1.keep p _ upd_same n0
  have n1 : ¬ Act σ.length (B + 2) (own1 p) := by rw [op1, op, Act.some]; omega
  obtain ⟨hp2, op2⟩ := st2.keep p _ hp1 n1
  cases a with
  | l _ => cases e4
  | dc _ => cases e4
  | fd _ => cases e4
  | z kd =>
    cases b with
    | l _ => cases e4
    | dc _ => cases e4
    | fd _ => cases e4
    | z d =>
      obtain ⟨hc, e5⟩ := ite_s e4
      cases e5
      have ob : own2 p = some B := op2.trans (op1.trans op)
      have fx : Fz X.K H2 x kd := Fz.step st2 r1
      refine ⟨kd, d, .inl fx, r2, hc, hp2, fun es' dd => ?_⟩
      have pk : PK H2 (upd H2 p (dicO p es')) := .mut hp2 trivial
      have stw : Step σ.length B own2 H2 own2 (upd H2 p (dicO p es')) := writeD_step (by rw [ob, Act.some]; exact .inr (Nat.le_refl B)) hp2
      refine k _ _ own2 (((st0.trans (st1.down (by omega))).trans (st2.down (by omega))).trans stw) (es2.same pk fun c o i hi hl hc => ⟨?_, hi⟩) ⟨p, es', rfl, ob, upd_same, dd.ent, dd.nd⟩
      rw [upd_ne (fun z => by subst z; rw [ob] at hi; cases hi; omega)]
      exact hc⟩
end
end VL

set_option Elab.async false
set_option linter.all false
set_option maxRecDepth 100000
set_option maxHeartbeats 4000000
namespace VL
open PySem PySem.Spec PyProof.Rows L2
/-! ### a dict that is looked through -/
def mFD (i : Nat) : ME := fun ρ => match slotT ρ i with
  | some (.dc kvs) => some (.fd kvs, ρ.set i (some (.fd kvs)))
  | some (.fd kvs) => some (.fd kvs, ρ)
  | _ => none
/-- .. that was made for it -/
def mTD (m : ME) : ME := fun ρ => (m ρ).bind fun p => match p.1 with
  | .dc kvs => some (.fd kvs, p.2)
  | .fd kvs => some (.fd kvs, p.2)
  | _ => none
theorem lockD {X : Cx} {pins : List (Addr × Obj)} {σ : St} {H : Hp} {s : Shared} {v : V} {kvs : List (D × D)} {S : Addr → Prop} (I : Inv X pins σ H s) (r : RepT X.K H v (.dc kvs) S) :
    ∃ H', Inv X pins σ H' s ∧ (∀ S', RepT X.K H' v (.fd kvs) S') ∧ PK H H' ∧ (∀ b o, H b = some o → ¬ S b → H' b = some o) := by
  obtain ⟨a, es, rfl, sa, q, f, nd⟩ := r
  obtain ⟨od, I'⟩ := I.lock q trivial
  have p : PK H (upd H a (.frz od (dicO a es))) := .mut q trivial
  refine ⟨_, I', fun S' => ⟨a, es, rfl, ⟨od, upd_same⟩, f.mono p, nd⟩, p, fun b o e ns => ?_⟩
  rw [upd_ne (fun z => ns (by rw [z]; exact sa))]; exact e
section
variable {X : Cx} {i : Nat} {x : Str} {pos : Pos}
theorem px_fd (h : PE X (.Name x pos) (tVar i)) : PX X (.Name x pos) (mFD i) := ⟨h.ghost fun pins σ H Q q => by
  obtain ⟨B, ρ, own, a, ρ', hB, es, e, k⟩ := q
  unfold mFD at e
  split at e
  · rename_i kvs es0
    cases e
    obtain ⟨v, e3, r⟩ := es.rep i _ (slotT_some es0)
    refine ⟨v, e3, fun s1 I1 => ?_⟩
    have hi : i < σ.length := (List.getElem?_eq_some_iff.mp e3).1
    obtain ⟨H2, I2, f, p, kp⟩ := lockD I1 r
    have st : Step σ.length B own H own H2 := ⟨fun b o e na => ⟨kp b o e fun z => na (by rw [z, Act.some]; exact .inl hi), rfl⟩, fun b q => .inl q, p⟩
    refine ⟨H2, I2, k v H2 own st ⟨by simpa using es.len, fun j u e => ?_⟩ (f _)⟩
    by_cases hj : j = i
    · subst hj
      rw [List.getElem?_set_self (by rw [es.len]; exact hi)] at e
      cases e
      exact ⟨v, e3, f _⟩
    · rw [List.getElem?_set_ne (Ne.symm hj)] at e
      obtain ⟨w, e4, r4⟩ := es.rep j u e
      exact ⟨w, e4, r4.mono p fun a o sa qa => ⟨kp a o qa (by rw [sa]; intro z; cases z; exact hj rfl), sa⟩⟩
  · rename_i kvs es0
    cases e
    obtain ⟨v, e3, r⟩ := es.rep i _ (slotT_some es0)
    refine ⟨v, e3, fun s1 I1 => ⟨H, I1, k v H own .refl es ?_⟩⟩
    obtain ⟨ad, en, ev, ⟨o, q⟩, f, nd⟩ := r
    exact ⟨ad, en, ev, ⟨o, q⟩, f, nd⟩
  · cases e⟩
theorem px_td {e : Expr} {m : ME} (h : PX X e m) : PX X e (mTD m) := ⟨h.pe.ghost fun pins σ H Q q => by
  obtain ⟨B, ρ, own, a, ρ', hB, es, e, k⟩ := q
  obtain ⟨⟨t, ρ1⟩, e1, e2⟩ := Option.bind_eq_some_iff.mp (show (m ρ).bind _ = some (a, ρ') from e)
  cases t with
  | z d => cases e2
  | l d => cases e2
  | fd kvs =>
    cases e2
    refine ⟨B, ρ, own, _, _, hB, es, e1, fun v H' own' st es' r s1 I1 => ⟨H', I1, k v H' own' st es' ?_⟩⟩
    obtain ⟨ad, en, ev, ⟨o, q⟩, f, nd⟩ := r
    exact ⟨ad, en, ev, ⟨o, q⟩, f, nd⟩
  | dc kvs =>
    cases e2
    refine ⟨B, ρ, own, _, _, hB, es, e1, fun v H' own' st es' r s1 I1 => ?_⟩
    obtain ⟨H2, I2, f, p, kp⟩ := lockD I1 r
    have st2 : Step σ.length B own' H' own' H2 := ⟨fun b o e na => ⟨kp b o e fun z => na (by rw [z, Act.some]; exact .inr (Nat.le_refl _)), rfl⟩, fun b q => .inl q, p⟩
    exact ⟨H2, I2, k v H2 own' (st.trans st2) (es'.same p fun a o i ha hi e => ⟨kp a o e (by rw [ha]; intro z; cases z; omega), ha⟩) (f _)⟩⟩
end
theorem frzX {X : Cx} {pins : List (Addr × Obj)} {σ : St} {H : Hp} {s : Shared} {a : Addr} {o : Obj} {es : List DictEntry} (I : Inv X pins σ H s) (h : H a = some (.frz o (dicO a es))) :
    (a == sysModules) = false ∧ s.heap.get? a = some o ∧ o.ExactDict ∧ ∃ ep, o.data = .dict es.toArray ep := by
  obtain ⟨e, ⟨hd, ep, o', ho, hc, hdt⟩, _⟩ := (show s.heap.get? a = some o ∧ ObjOk X.prog X.w H s.heap a (dicO a es) from I.hok a _ h)
  rw [e] at ho
  cases ho
  exact ⟨hd, e, hc, ep, hdt⟩
/-- the keys of a locked dict -/
def Itx (a : Addr) (o : Obj) (xs : List V) (es : List DictEntry) : It :=
  ⟨fun i H => H a = some (.frz o (dicO a es)) ∧ i < es.length, fun i H x H' => H' = H ∧ xs[i]? = some x, fun i H => H a = some (.frz o (dicO a es)) ∧ es.length ≤ i⟩
theorem turn_keysX {P : Program} {w : World} {K : Fr} {tg : Expr} {a : Addr} {o : Obj} {xs : List V} {es : List DictEntry} {ep : Nat} (it : Addr) (hod : o.data = .dict es.toArray ep) (hv : Vals xs (es.map (·.key))) : Turn P w K tg (Itx a o xs es) [it] it (fun i h => h.IsKeyIter it a i es.length ep) where
  mem := by simp
  obj := fun i h st b hb => by
    have e : b = it := by simpa using hb
    subst e
    obtain ⟨oi, e, c, dd⟩ := st
    exact ⟨oi, e, fun v z => by rw [dd] at z; cases z⟩
  keep := fun i h h' st k => st.at fun oi e => k it (by simp) oi e
  item := by
    intro X hP hw hK hc i pins s σ H E I hf st hg
    subst hP hw hK
    obtain ⟨hd, hi⟩ := hg
    obtain ⟨f0, f1, f2, f3, f4, f5⟩ := hf it (by simp)
    obtain ⟨hs, hgd, hx, ep', hdt⟩ := frzX I hd
    obtain ⟨_, rfl⟩ := dict_ep hod hdt
    have lx : xs.length = es.length := by simpa using hv.length
    obtain ⟨x, hkx⟩ : ∃ x, xs[i]? = some x := ⟨xs[i], List.getElem?_eq_getElem (by omega)⟩
    obtain ⟨u, hu, ru⟩ := hv.get hkx
    rw [List.getElem?_map] at hu
    obtain ⟨en, hen, rfl⟩ := Option.map_eq_some_iff.mp hu
    refine next_key_item st hgd hdt (by simp) (by simpa using hen) fun h' st' sb => ?_
    have I1 : Inv X pins σ H { s with heap := h' } := I.turned (t' := s.toks) (fun b ob hb e => (sb.2 b hb).trans e) f0 f1 f3 f4 f5
    obtain ⟨oi, e, c, dd⟩ := id st'
    exact ⟨en.key, rfl, go_of (s := { s with heap := h' }) e c dd (by decide) ⟨x, H, I1, ru, ⟨rfl, hkx⟩, st', fun b hb => (hf b hb).1⟩⟩
  done := by
    intro X hP hw hK hc i pins s σ H E I hf st hg
    subst hP hw hK
    obtain ⟨hd, hi⟩ := hg
    obtain ⟨f0, f1, f2, f3, f4, f5⟩ := hf it (by simp)
    obtain ⟨hs, hgd, hx, ep', hdt⟩ := frzX I hd
    obtain ⟨_, rfl⟩ := dict_ep hod hdt
    exact next_key_end (I.ok.hd hc) st hgd hdt (by simp) hi fun h' eb => ⟨rfl, I.turned (t' := s.toks) (fun b ob hb e => eb b ob hb e) f0 f1 f3 f4 f5⟩
  self := fun A i s Q E st h => by
    refine wpAny_pyIter_slot st.typeIs F.slot_dict_keyiterator_iter (wpAny_call_entry F.slot_dict_keyiterator_iter st.typeIs F.entry_dict_keyiterator_iter ?_ (F.args_dict_keyiterator_iter_1 _))
    show wpAny _ _ (ret (.ref it)) _ _ s
    exact wpAny_pure ⟨_, rfl, "dict_keyiterator", _, st.typeIs, F.slot_dict_keyiterator_next.lookup, h⟩
def iDc (tl : TE) : TI := fun σ H R => tl σ H fun x H1 => ∃ a o xs es, x = .ref a ∧ H1 a = some (.frz o (dicO a es)) ∧ Vals xs (es.map (·.key)) ∧ R (Itx a o xs es) H1
theorem pi_dc {X : Cx} {tg l : Expr} {tl : TE} (hl : PE X l tl) : PI X tg l (iDc tl) := by
  refine ⟨fun pins s σ H R I h => ?_⟩
  refine thn (hl.run pins s σ H _ I h) fun v s1 ⟨x, H1, I1, r1, q1⟩ => ?_
  obtain ⟨a, o, xs, es, e, hd, hv, q⟩ := q1
  subst e
  obtain rfl : v = Value.ref a := r1
  obtain ⟨hs, hgd, hx, ep, hdt⟩ := frzX I1 hd
  refine iter_keys hs hgd hx hdt (pi_one (tk := s1.toks) I1 _ (turn_keysX _ hdt hv) ⟨_, Heap.get?_push_size _ rfl, rfl, ?_⟩ q)
  simp
theorem walk_dc {K : Fr} {H : Hp} {a : Addr} {o : Obj} {xs : List V} {es : List DictEntry} {ds : List D} (h : H a = some (.frz o (dicO a es))) (hv : Vals xs (es.map (·.key))) (f : FzA K H xs ds) (hl : ds.length ≤ sizeLine) : WalkD (Itx a o xs es) K H ds := by
  have lx : xs.length = es.length := by simpa using hv.length
  have ld := f.length
  refine ⟨fun i H' p hi => ⟨p.2 _ _ _ h, by omega⟩, fun H' p => ⟨p.2 _ _ _ h, by omega⟩, fun i H' x H'' p hi y => ?_, hl⟩
  obtain ⟨e, y⟩ := y
  subst e
  obtain ⟨d, e1, e2⟩ := f.getV i y
  exact ⟨d, e1, Fz.mono p _ _ e2, fun _ _ z => z⟩
def iFD (m : ME) : MI := fun ρ => (m ρ).bind fun p => match p.1 with
  | .fd kvs => if kvs.length ≤ 100000 then some (kvs.map (·.1), p.2) else none
  | _ => none
theorem pit_dc {X : Cx} {tg e : Expr} {m : ME} (h : PX X e m) : PIt X tg e (iFD m) := ⟨PI.of' (pi_dc h.pe) fun σ H R q => by
  obtain ⟨B, ρ, own, ds, ρ', hB, es, e, k⟩ := q
  obtain ⟨⟨t, ρ1⟩, e1, e2⟩ := Option.bind_eq_some_iff.mp (show (m ρ).bind _ = some (ds, ρ') from e)
  cases t with
  | l es => cases e2
  | dc es => cases e2
  | z es => cases e2
  | fd kvs =>
    obtain ⟨hl, e3⟩ := ite_s e2
    cases e3
    refine ⟨B, ρ, own, _, _, hB, es, e1, fun v H1 own1 st1 es1 r1 => ?_⟩
    obtain ⟨a, en, ev, ⟨o, q⟩, f, nd⟩ := r1
    obtain ⟨xs, hv, fk⟩ := f.keys
    exact ⟨a, o, xs, en, ev, q, hv, fun pins s I => k _ H1 own1 st1 es1 (walk_dc q hv fk (by rw [List.length_map]; exact lim hl))⟩⟩

/-! ### sorted(d) -/
def gDSorted (kvs : List (D × D)) : Option T := if canSort (kvs.map (·.1)) = true ∧ (kvs.all fun p => (nkey p.1).isSome) = true then some (.l ((kvs.map (·.1)).mergeSort leD)) else none
section
variable {X : Cx} {pins : List (Addr × Obj)} {σ : St} {H : Hp} {s : Shared}
mutual
theorem readsKey (I : Inv X pins σ H s) : ∀ (d : D) (v : V) (u : Value) (k : NestedKey), Fz X.K H v d → nkey d = some k → RelV v u → Reads s.heap u d []
  | .none, v, u, k, f, h, r => by cases f; cases h; cases r; exact .none
  | .bool b, v, u, k, f, h, r => by cases f; cases h; cases r; exact .bool b
  | .int i, v, u, k, f, h, r => by
    cases f; cases h
    obtain ⟨t, rfl⟩ := r
    exact .int i t
  | .tuple ds, v, u, k, f, h, r => by
    obtain ⟨ks, e, rfl⟩ := Option.map_eq_some_iff.mp (show (nkeys ds).map NestedKey.tup = some k from h)
    cases f with
    | tup q g =>
      obtain ⟨its, rv, o, ho, hc, n, hd⟩ := invSeq (k := .t) I q
      cases r
      exact .tuple ho hc hd (readsKeys I ds _ its ks g e rv)
  | .str _, v, u, k, f, h, r => by cases h
  | .list _, v, u, k, f, h, r => by cases h
  | .dict _, v, u, k, f, h, r => by cases h
theorem readsKeys (I : Inv X pins σ H s) : ∀ (ds : List D) (vs : List V) (us : List Value) (ks : List NestedKey), FzA X.K H vs ds → nkeys ds = some ks → Vals vs us → ReadsAll s.heap us ds []
  | [], vs, us, ks, f, h, r => by cases f; cases h; cases r; exact .nil
  | d :: ds, vs, us, ks, f, h, r => by
    obtain ⟨k, e1, e2⟩ := Option.bind_eq_some_iff.mp (show (nkey d).bind _ = some ks from h)
    obtain ⟨ks', e3, rfl⟩ := Option.map_eq_some_iff.mp e2
    cases f with
    | cons a b =>
      cases r with
      | cons c e => exact ReadsAll.cons (as := []) (bs := []) (readsKey I d _ _ k a e1 c) (readsKeys I ds _ _ ks' b e3 e)
end
end
theorem sortable_of {ds : List D} (ok : canSort ds = true) : PySem.W.AllAlike ds ∧ PySem.W.Sortable ds ∧ (∀ d ∈ ds, PyData.depth d ≤ 60) ∧ ds.length ≤ 100000 := by
  unfold canSort at ok
  simp only [Bool.and_eq_true, decide_eq_true_eq, List.all_eq_true, Bool.or_eq_true] at ok
  obtain ⟨⟨⟨h1, h2⟩, h3⟩, h4⟩ := ok
  refine ⟨h1, ?_, h3, h4⟩
  rcases h2 with h2 | h2
  · refine .inl fun d hd => ?_
    have := h2 d hd
    cases d with
    | tuple zs => cases zs with
      | nil => cases this
      | cons a b => exact ⟨a, b, rfl⟩
    | _ => cases this
  · refine .inr fun d hd => ?_
    have := h2 d hd
    cases d with
    | none => cases this
    | tuple _ => cases this
    | bool _ => exact ⟨(fun z => nomatch z), (fun _ z => nomatch z)⟩
    | int _ => exact ⟨(fun z => nomatch z), (fun _ z => nomatch z)⟩
    | str _ => exact ⟨(fun z => nomatch z), (fun _ z => nomatch z)⟩
    | list _ => exact ⟨(fun z => nomatch z), (fun _ z => nomatch z)⟩
    | dict _ => exact ⟨(fun z => nomatch z), (fun _ z => nomatch z)⟩
theorem each_of' {K : Fr} {H : Hp} {P : Value → D → Prop} (hp : ∀ (x : V) u d k, RelV x u → Fz K H x d → nkey d = some k → P u d) : ∀ {ds : List D} {xs : List V} {us : List Value}, FzA K H xs ds → Vals xs us → (∀ d ∈ ds, (nkey d).isSome = true) → PySem.W.EachIs P us ds
  | [], _, _, f, r, _ => by cases f; cases r; exact .nil
  | d :: ds, _, _, f, r, h => by
    cases f with
    | cons a b =>
      cases r with
      | cons p q =>
        obtain ⟨k, hk⟩ := Option.isSome_iff_exists.mp (h d (List.mem_cons_self ..))
        exact .cons (hp _ _ _ k p a hk) (each_of' hp b q fun e he => h e (List.mem_cons_of_mem _ he))
theorem cd_dsorted {X : Cx} (hc : X.calm = true) (hu : X.A.units + 65 < cLine) : CallR X (.builtin "sorted") (rCD X.K gSorted gDSorted) := by
  refine CallR.or (cd_sorted hu) ?_
  intro pins s σ H xs us Q I r h
  obtain ⟨x, a, es, kvs, t, rfl, d, e, k⟩ := h
  obtain ⟨⟨ok, nk⟩, e2⟩ := ite_s e
  cases e2
  obtain ⟨u, rfl, ru⟩ := vals1 r
  have er := d.ref
  subst er
  cases (show u = .ref a from ru)
  obtain ⟨hd, ep, raw⟩ := d.raw I
  obtain ⟨al, so, dp, hl⟩ := sortable_of ok
  have nk' : ∀ d ∈ kvs.map (·.1), (nkey d).isSome = true := fun d hd => by
    obtain ⟨p, hp, rfl⟩ := List.mem_map.mp hd
    exact List.all_eq_true.mp nk p hp
  have hn : es.toArray.size = kvs.length := by rw [List.size_toArray, d.ent.length]
  have hl' : kvs.length ≤ 100000 := by simpa using hl
  refine Calls.call_function_entry PyProof.Rows.kind_sorted PyProof.Rows.plain_sorted PyProof.Rows.entry_sorted (PyProof.Rows.args_sorted1 _) ?_
  unfold Builtin.«sorted»
  refine wpAny_bind (m := checkCount "sorted" 1 1 _) (wpAny_pure ?_)
  refine wpAny_bind (PySem.W.kdu_collect (A := X.A.in1) (PySem.KdlSrc.rawDict hd) (I.ok.hd hc) raw (by rw [hn]; exact lim hl') fun h' tk acc hk hacc => ?_)
  obtain ⟨ks, hv, fk⟩ := d.ent.keys
  have ea : acc.toList = es.map (·.key) := by
    refine List.ext_getElem? fun j => ?_
    rw [Array.getElem?_toList, List.getElem?_map]
    obtain ⟨h1, h2⟩ := hacc
    by_cases hj : j < acc.size
    · obtain ⟨hi, e3⟩ := h2 j _ (Array.getElem?_eq_getElem hj)
      rw [Array.getElem?_eq_getElem hj, e3]
      have hi' : j < es.length := by simpa using hi
      rw [List.getElem?_eq_getElem hi']
      simp
    · have hj2 : ¬ j < es.length := by rw [h1] at hj; simpa using hj
      rw [Array.getElem?_eq_none (by omega), List.getElem?_eq_none (by omega)]
      rfl
  rw [← ea] at hv
  have I1 : Inv X pins σ H { s with heap := h', toks := tk } := I.kept hk
  have al' : acc.toList.length = kvs.length := by rw [← hv.length, fk.length, List.length_map]
  refine wpAny_bind (wpAny_newList ?_ (by rw [al']; exact lim hl'))
  have hoL : (h'.push (seqObj "list" acc.toList.toArray 0)).get? h'.objs.size = some (seqObj "list" acc.toList.toArray 0) := Heap.get?_push_size _ rfl
  show wpAny _ _ _ _ _ { s with heap := h'.push (seqObj "list" acc.toList.toArray 0), toks := tk }
  have I2 : Inv X pins σ H { s with heap := h'.push (seqObj "list" acc.toList.toArray 0), toks := tk } := I.kept fun b o e => Heap.get?_push_of_some _ (hk b o e)
  have ee : PySem.W.EachIs (fun u d => ∃ x : V, L2.RelV x u ∧ Fz X.K H x d) acc.toList (kvs.map (·.1)) := each_of fk hv
  have er : PySem.W.EachIs (fun v b => ∃ as, Reads (h'.push (seqObj "list" acc.toList.toArray 0)) v ((fun d => d) b) as ∧ h'.objs.size ∉ as) acc.toList (kvs.map (·.1)) :=
    each_of' (fun x u d k rx fx hkey => ⟨[], readsKey I2 d x u k fx hkey rx, List.not_mem_nil⟩) fk hv nk'
  have idm : (kvs.map (·.1)).map (fun d => d) = kvs.map (·.1) := map_id' _
  refine wpAny_bind (wpAny_holding (PySem.W.list_sort_data (s := { s with heap := h'.push (seqObj "list" acc.toList.toArray 0), toks := tk }) (enc := fun d => d) hoL ee er (by rw [idm]; exact al) (by rw [idm]; exact so) (by rw [List.length_map]; exact lim hl') (fun b hb => by
    have := dp b hb
    show X.A.units + 1 + 1 + b.depth < cLine
    omega) fun out ho eo => ?_))
  obtain ⟨zs, fz, vz⟩ := of_each eo
  have le : zs.length ≤ sizeLine := by rw [vz.length, ho, List.length_map]; exact lim hl'
  have eq : (kvs.map (·.1)).mergeSort (PySem.W.dataLe false fun d => d) = (kvs.map (·.1)).mergeSort leD := rfl
  rw [eq] at fz
  obtain ⟨c, hcc⟩ := PyProof.Rows.sortedHeap_at (vs := acc.toList) (out := out.toArray) hoL
  have new : H h'.objs.size = none := I1.hok.fresh (Nat.le_refl _)
  refine wpAny_pure ⟨_, rfl, .ref h'.objs.size, upd H h'.objs.size (.lst zs), I1.laid (t' := tk) (fun b u e => ?_) (Nat.le_refl _) ⟨le, out, c, vz, hcc⟩, rfl, k _ _ (.lst new fz)⟩
  have hb : b < h'.objs.size := Heap.lt_size e
  rw [PyProof.Rows.sortedHeap_old (Nat.ne_of_lt hb) (by rw [size_push']; exact Nat.lt_succ_of_lt hb)]
  exact Heap.get?_push_of_some _ e
section
variable {X : Cx} {a b : Expr} {m m' : MO} {pos : Pos}
theorem px_dsorted {x : Str} {p : Pos} (hc : X.calm = true) (hu : X.A.units + 65 < cLine) (hg : Gl X x) (hm : X.mg x = none) (hv : bootBuiltins x = some (.builtin "sorted")) (ha : PO X a m)
    (hn : x ≠ "__name__" := by decide) (hdb : (x == ("__debug__" : Str)) = false := by decide) (hs : starEach [a] X.env = (false, eval a X.env) :: starEach [] X.env := by rfl) (hpl : (backTo pos (starEach [] X.env)).any (·.1) = false := by rfl) : PX X (.Call (.Name x p) [a] [] pos) (mCD gSorted gDSorted m) :=
  ⟨(pe_callB (cd_dsorted hc hu) hg hm hv (pa_c ha pa_0 hs).pa hn hdb hs hpl).of fun σ H Q q => tE_CD q⟩
/-! ### a dict is None, is not None -/
def gDIs (_ : List (D × D)) (d : D) : Option T := match d with
  | .none => some (.z (.bool false))
  | _ => none
def gDIsN (_ : List (D × D)) (d : D) : Option T := match d with
  | .none => some (.z (.bool true))
  | _ => none
theorem od_dis : OpR X (compareOp .Is) (rDL X.K gDIs) := by
  intro pins s σ H x y v u Q I rx ry ⟨a, es, kvs, k, t, d, rk, e, h⟩
  unfold gDIs at e
  split at e
  · cases e
    cases rk.non
    refine op_isN pins s σ H _ _ v u Q I rx ry ⟨rfl, ?_⟩
    rw [d.ref]
    exact h _ _ (.z (.bl false))
  · cases e
theorem od_disn : OpR X (compareOp .IsNot) (rDL X.K gDIsN) := by
  intro pins s σ H x y v u Q I rx ry ⟨a, es, kvs, k, t, d, rk, e, h⟩
  unfold gDIsN at e
  split at e
  · cases e
    cases rk.non
    refine op_notN pins s σ H _ _ v u Q I rx ry ⟨rfl, ?_⟩
    rw [d.ref]
    exact h _ _ (.z (.bl true))
  · cases e
theorem px_dis (ha : PO X a m) (hb : PO X b m') (hm : behindInMarks .Is b = false) : PX X (.Compare a [.Is] [b] pos) (mDL gIs gDIs m m') := ⟨(pe_cmpR (OpR.or od_is od_dis) ha.pe hb.pe hm).of fun σ H Q q => tE_DL q⟩
theorem px_disn (ha : PO X a m) (hb : PO X b m') (hm : behindInMarks .IsNot b = false) : PX X (.Compare a [.IsNot] [b] pos) (mDL gIsN gDIsN m m') := ⟨(pe_cmpR (OpR.or od_isn od_disn) ha.pe hb.pe hm).of fun σ H Q q => tE_DL q⟩
theorem pb_dis (ha : PO X a m) (hb : PO X b m') (hm : behindInMarks .Is b = false) : PB X (.Compare a [.Is] [b] pos) (bV (mDL gIs gDIs m m')) := ⟨(pt_cmpR (OpR.or od_is od_dis) ha.pe hb.pe hm).of fun σ H Q q => tE_DL (tB_of q)⟩
theorem pb_disn (ha : PO X a m) (hb : PO X b m') (hm : behindInMarks .IsNot b = false) : PB X (.Compare a [.IsNot] [b] pos) (bV (mDL gIsN gDIsN m m')) := ⟨(pt_cmpR (OpR.or od_isn od_disn) ha.pe hb.pe hm).of fun σ H Q q => tE_DL (tB_of q)⟩
end
end VL

set_option Elab.async false
set_option linter.all false
set_option maxRecDepth 100000
set_option maxHeartbeats 4000000
/-! VM: reading mirrors, with no program in sight -/
namespace VL
open PySem
abbrev iz (i : Int) : Option T := some (.z (.int i))
abbrev rowD (r : List Int) : D := .tuple (r.map .int)
/-! ### comprehensions -/
theorem lc_map {α : Type} {mg : MG} {me : ME} {vs : List Nat} (g f : α → D) {ρ : Env} : ∀ (as : List α) (acc : List D), (∀ a ∈ as, ∃ ρ1 ρ3, mg (g a) ρ = some ρ1 ∧ me ρ1 = some (.z (f a), ρ3) ∧ wipeE ρ3 vs = ρ) →
    lcGo mg bYes me vs (as.map g) ρ acc = some (acc ++ as.map f, ρ)
  | [], acc, _ => by simp [lcGo]
  | a :: as, acc, h => by
    obtain ⟨ρ1, ρ3, e1, e2, e3⟩ := h a (List.mem_cons_self ..)
    have ih := lc_map g f as (acc ++ [f a]) fun b hb => h b (List.mem_cons_of_mem _ hb)
    show (mg (g a) ρ).bind _ = _
    rw [e1]
    show (me ρ1).bind _ = _
    rw [e2]
    show lcGo mg bYes me vs (as.map g) (wipeE ρ3 vs) (acc ++ [f a]) = _
    rw [e3, ih]
    simp
theorem lc_filter {α : Type} {mg : MG} {mt : MB} {me : ME} {vs : List Nat} (g f : α → D) (p : α → Bool) {ρ : Env} : ∀ (as : List α) (acc : List D), (∀ a ∈ as, ∃ ρ1 ρ2 ρ3, mg (g a) ρ = some ρ1 ∧ mt ρ1 = some (p a, ρ2) ∧ (p a = false → wipeE ρ2 vs = ρ) ∧ (p a = true → me ρ2 = some (.z (f a), ρ3) ∧ wipeE ρ3 vs = ρ)) →
    lcGo mg mt me vs (as.map g) ρ acc = some (acc ++ (as.filter p).map f, ρ)
  | [], acc, _ => by simp [lcGo]
  | a :: as, acc, h => by
    obtain ⟨ρ1, ρ2, ρ3, e1, e2, e3, e4⟩ := h a (List.mem_cons_self ..)
    have h' : ∀ b ∈ as, _ := fun b hb => h b (List.mem_cons_of_mem _ hb)
    show (mg (g a) ρ).bind _ = _
    rw [e1]
    show (mt ρ1).bind _ = _
    rw [e2]
    cases q : p a with
    | false =>
      show lcGo mg mt me vs (as.map g) (wipeE ρ2 vs) acc = _
      rw [e3 q, lc_filter g f p as acc h']
      simp [q]
    | true =>
      show (me ρ2).bind _ = _
      obtain ⟨e5, e6⟩ := e4 q
      rw [e5]
      show lcGo mg mt me vs (as.map g) (wipeE ρ3 vs) (acc ++ [f a]) = _
      rw [e6, lc_filter g f p as (acc ++ [f a]) h']
      simp [q]
/-- a comprehension whose turns change the locals (draws): P is kept, each item is good -/
theorem lc_rel {mg : MG} {me : ME} {vs : List Nat} (P : Env → Prop) (G : D → D → Prop) : ∀ (ds : List D) (ρ : Env) (acc : List D), P ρ → (∀ d ∈ ds, ∀ ρ, P ρ → ∃ ρ1 y ρ3, mg d ρ = some ρ1 ∧ me ρ1 = some (.z y, ρ3) ∧ G d y ∧ P (wipeE ρ3 vs)) →
    ∃ ys ρ', lcGo mg bYes me vs ds ρ acc = some (acc ++ ys, ρ') ∧ P ρ' ∧ ys.length = ds.length ∧ (∀ p ∈ ds.zip ys, G p.1 p.2)
  | [], ρ, acc, h, _ => ⟨[], ρ, by simp [lcGo], h, rfl, by simp⟩
  | d :: ds, ρ, acc, h, k => by
    obtain ⟨ρ1, y, ρ3, e1, e2, gy, e3⟩ := k d (List.mem_cons_self ..) ρ h
    obtain ⟨ys, ρ', e4, h4, l, gs⟩ := lc_rel P G ds _ (acc ++ [y]) e3 fun b hb => k b (List.mem_cons_of_mem _ hb)
    refine ⟨y :: ys, ρ', ?_, h4, by simp [l], ?_⟩
    · show (mg d ρ).bind _ = _
      rw [e1]
      show (me ρ1).bind _ = _
      rw [e2]
      show lcGo mg bYes me vs ds (wipeE ρ3 vs) (acc ++ [y]) = _
      rw [e4]
      simp
    · intro p hp
      rw [List.zip_cons_cons] at hp
      rcases List.mem_cons.mp hp with rfl | hp
      · exact gy
      · exact gs p hp
theorem mLC_map {mi : MI} {mg : MG} {me : ME} {vs : List Nat} {ρ ρ1 : Env} {α : Type} {g f : α → D} {as : List α} (hi : mi ρ = some (as.map g, ρ1))
    (h : ∀ a ∈ as, ((mg (g a) (wipeE ρ1 vs)).bind me).map (fun p => (p.1, wipeE p.2 vs)) = some (.z (f a), wipeE ρ1 vs)) : mLC mi mg bYes me vs ρ = some (.l (as.map f), restE ρ1 (wipeE ρ1 vs) vs) := by
  have e := lc_map g f (mg := mg) (me := me) (vs := vs) (ρ := wipeE ρ1 vs) as [] fun a ha => by
    obtain ⟨⟨t, ρ3⟩, e1, e2⟩ := Option.map_eq_some_iff.mp (h a ha)
    obtain ⟨ρ2, e3, e4⟩ := Option.bind_eq_some_iff.mp e1
    have e5 : t = .z (f a) := congrArg Prod.fst e2
    have e6 : wipeE ρ3 vs = wipeE ρ1 vs := congrArg Prod.snd e2
    subst e5
    exact ⟨ρ2, ρ3, e3, e4, e6⟩
  show (mi ρ).bind _ = _
  rw [hi]
  show (lcGo mg bYes me vs (as.map g) (wipeE ρ1 vs) []).map _ = _
  rw [e]
  rfl
theorem mLC_filter {mi : MI} {mg : MG} {mt : MB} {me : ME} {vs : List Nat} {ρ ρ1 : Env} {α : Type} {g f : α → D} {p : α → Bool} {as : List α} (hi : mi ρ = some (as.map g, ρ1))
    (h : ∀ a ∈ as, ((mg (g a) (wipeE ρ1 vs)).bind fun ρ2 => (mt ρ2).bind fun b => match b.1 with
      | false => some (none, wipeE b.2 vs)
      | true => (me b.2).map fun q => (some q.1, wipeE q.2 vs)) = some (if p a then some (.z (f a)) else none, wipeE ρ1 vs)) : mLC mi mg mt me vs ρ = some (.l ((as.filter p).map f), restE ρ1 (wipeE ρ1 vs) vs) := by
  have e := lc_filter g f p (mg := mg) (mt := mt) (me := me) (vs := vs) (ρ := wipeE ρ1 vs) as [] fun a ha => by
    obtain ⟨ρ2, e1, e2⟩ := Option.bind_eq_some_iff.mp (h a ha)
    obtain ⟨⟨b, ρ3⟩, e3, e4⟩ := Option.bind_eq_some_iff.mp e2
    cases b with
    | false =>
      cases q : p a with
      | false =>
        rw [q] at e4
        have e5 : wipeE ρ3 vs = wipeE ρ1 vs := congrArg Prod.snd (Option.some.inj e4)
        exact ⟨ρ2, ρ3, [], e1, e3, fun _ => e5, fun z => by cases z⟩
      | true =>
        rw [q] at e4
        have e5 := congrArg Prod.fst (Option.some.inj e4)
        cases e5
    | true =>
      obtain ⟨⟨t, ρ4⟩, e5, e6⟩ := Option.map_eq_some_iff.mp (show (me ρ3).map _ = _ from e4)
      cases q : p a with
      | false =>
        rw [q] at e6
        have e7 := congrArg Prod.fst e6
        cases e7
      | true =>
        rw [q] at e6
        have e7 : some t = some (.z (f a)) := congrArg Prod.fst e6
        have e8 : wipeE ρ4 vs = wipeE ρ1 vs := congrArg Prod.snd e6
        cases e7
        exact ⟨ρ2, ρ3, ρ4, e1, e3, fun z => by (cases z), fun _ => ⟨e5, e8⟩⟩
  show (mi ρ).bind _ = _
  rw [hi]
  show (lcGo mg mt me vs (as.map g) (wipeE ρ1 vs) []).map _ = _
  rw [e]
  rfl
theorem mLC_rel {mi : MI} {mg : MG} {me : ME} {vs : List Nat} {ρ ρ1 : Env} {ds : List D} (P : Env → Prop) (G : D → D → Prop) (hi : mi ρ = some (ds, ρ1)) (h0 : P (wipeE ρ1 vs))
    (h : ∀ d ∈ ds, ∀ ρ, P ρ → ∃ y ρ3, (mg d ρ).bind me = some (.z y, ρ3) ∧ G d y ∧ P (wipeE ρ3 vs)) : ∃ ys ρ', mLC mi mg bYes me vs ρ = some (.l ys, restE ρ1 ρ' vs) ∧ P ρ' ∧ ys.length = ds.length ∧ (∀ p ∈ ds.zip ys, G p.1 p.2) := by
  obtain ⟨ys, ρ', e, p, l, g⟩ := lc_rel P G (mg := mg) (me := me) (vs := vs) ds _ [] h0 fun d hd ρ hp => by
    obtain ⟨y, ρ3, e1, g1, p1⟩ := h d hd ρ hp
    obtain ⟨ρ2, e2, e3⟩ := Option.bind_eq_some_iff.mp e1
    exact ⟨ρ2, y, ρ3, e2, e3, g1, p1⟩
  refine ⟨ys, ρ', ?_, p, l, g⟩
  show (mi ρ).bind _ = _
  rw [hi]
  show (lcGo mg bYes me vs ds (wipeE ρ1 vs) []).map _ = _
  rw [e]
  rfl
/-! ### loops -/
theorem for_rel {mg : MG} {mb : MS} (P : List D → Env → Prop) (R : Flow → Env → Prop) : ∀ (ds : List D) (ρ : Env), P ds ρ → (∀ ρ, P [] ρ → R .nx ρ) → (∀ d ds ρ, P (d :: ds) ρ → ∃ ρ1 f ρ2, mg d ρ = some ρ1 ∧ mb ρ1 = some (f, ρ2) ∧ match f with
      | .nx => P ds ρ2
      | .ct => P ds ρ2
      | .bk => R .nx ρ2
      | .ret t => R (.ret t) ρ2) → ∃ f ρ', forGo mg mb ds ρ = some (f, ρ') ∧ R f ρ'
  | [], ρ, h, e, _ => ⟨.nx, ρ, rfl, e ρ h⟩
  | d :: ds, ρ, h, e, k => by
    obtain ⟨ρ1, f, ρ2, e1, e2, q⟩ := k d ds ρ h
    cases f with
    | nx =>
      obtain ⟨f, ρ', e3, r⟩ := for_rel P R ds ρ2 q e k
      refine ⟨f, ρ', ?_, r⟩
      show (mg d ρ).bind _ = _
      rw [e1]; show (mb ρ1).bind _ = _; rw [e2]; exact e3
    | ct =>
      obtain ⟨f, ρ', e3, r⟩ := for_rel P R ds ρ2 q e k
      refine ⟨f, ρ', ?_, r⟩
      show (mg d ρ).bind _ = _
      rw [e1]; show (mb ρ1).bind _ = _; rw [e2]; exact e3
    | bk =>
      refine ⟨.nx, ρ2, ?_, q⟩
      show (mg d ρ).bind _ = _
      rw [e1]; show (mb ρ1).bind _ = _; rw [e2]; rfl
    | ret t =>
      refine ⟨.ret t, ρ2, ?_, q⟩
      show (mg d ρ).bind _ = _
      rw [e1]; show (mb ρ1).bind _ = _; rw [e2]; rfl
/-- for with an invariant: turn by turn -/
theorem sFor_rel {mi : MI} {mg : MG} {mb : MS} {ρ ρ1 : Env} {ds : List D} (P : List D → Env → Prop) (R : Flow → Env → Prop) (hi : mi ρ = some (ds, ρ1)) (h0 : P ds ρ1) (h1 : ∀ ρ, P [] ρ → R .nx ρ) (h : ∀ d ds ρ, P (d :: ds) ρ → ∃ f ρ2, (mg d ρ).bind mb = some (f, ρ2) ∧ match f with
      | .nx => P ds ρ2
      | .ct => P ds ρ2
      | .bk => R .nx ρ2
      | .ret t => R (.ret t) ρ2) : ∃ f ρ', sFor mi mg mb ρ = some (f, ρ') ∧ R f ρ' := by
  obtain ⟨f, ρ', e, r⟩ := for_rel P R (mg := mg) (mb := mb) ds ρ1 h0 h1 fun d ds ρ hp => by
    obtain ⟨f, ρ2, e1, c⟩ := h d ds ρ hp
    obtain ⟨ρ3, e2, e3⟩ := Option.bind_eq_some_iff.mp e1
    exact ⟨ρ3, f, ρ2, e2, e3, c⟩
  refine ⟨f, ρ', ?_, r⟩
  show (mi ρ).bind _ = _
  rw [hi]
  exact e
theorem wh_rel {n : MB} {m : MS} (P : Nat → Env → Prop) (R : Flow → Env → Prop) (h : ∀ k ρ, P k ρ → ∃ b ρ1, n ρ = some (b, ρ1) ∧ match b with
      | false => R .nx ρ1
      | true => ∃ f ρ2, m ρ1 = some (f, ρ2) ∧ match f with
        | .nx => ∃ j, j < k ∧ P j ρ2
        | .ct => ∃ j, j < k ∧ P j ρ2
        | .bk => R .nx ρ2
        | .ret t => R (.ret t) ρ2) : ∀ (fuel k : Nat) (ρ : Env), k < fuel → P k ρ → ∃ f ρ', sWh n m fuel ρ = some (f, ρ') ∧ R f ρ'
  | 0, _, _, q, _ => absurd q (by omega)
  | fuel + 1, k, ρ, q, p => by
    obtain ⟨b, ρ1, e1, c⟩ := h k ρ p
    cases b with
    | false => exact ⟨.nx, ρ1, by show (n ρ).bind _ = _; rw [e1]; rfl, c⟩
    | true =>
      obtain ⟨f, ρ2, e2, c⟩ := c
      cases f with
      | nx =>
        obtain ⟨j, hj, pj⟩ := c
        obtain ⟨f, ρ', e3, r⟩ := wh_rel P R h fuel j ρ2 (by omega) pj
        refine ⟨f, ρ', ?_, r⟩
        show (n ρ).bind _ = _
        rw [e1]; show (m ρ1).bind _ = _; rw [e2]; exact e3
      | ct =>
        obtain ⟨j, hj, pj⟩ := c
        obtain ⟨f, ρ', e3, r⟩ := wh_rel P R h fuel j ρ2 (by omega) pj
        refine ⟨f, ρ', ?_, r⟩
        show (n ρ).bind _ = _
        rw [e1]; show (m ρ1).bind _ = _; rw [e2]; exact e3
      | bk => exact ⟨.nx, ρ2, by show (n ρ).bind _ = _; rw [e1]; show (m ρ1).bind _ = _; rw [e2]; rfl, c⟩
      | ret t => exact ⟨.ret t, ρ2, by show (n ρ).bind _ = _; rw [e1]; show (m ρ1).bind _ = _; rw [e2]; rfl, c⟩
/-! ### data -/
theorem ints?_ints : ∀ ns : List Int, ints? (ns.map PyData.int) = some ns
  | [] => rfl
  | n :: ns => by show (ints? (ns.map PyData.int)).map _ = _; rw [ints?_ints ns]; rfl
theorem bools?_bools : ∀ ns : List Bool, bools? (ns.map PyData.bool) = some ns
  | [] => rfl
  | n :: ns => by show (bools? (ns.map PyData.bool)).map _ = _; rw [bools?_bools ns]; rfl
theorem eqv_int (i j : Int) : PyData.eqv (.int i) (.int j) = decide (i = j) := by
  unfold PyData.eqv
  by_cases h : i = j
  · simp [h]
  · simp [h]
theorem eqvAll_ints : ∀ a b : List Int, PyData.eqvAll (a.map .int) (b.map .int) = decide (a = b)
  | [], [] => by simp [PyData.eqvAll]
  | [], _ :: _ => by simp [PyData.eqvAll]
  | _ :: _, [] => by simp [PyData.eqvAll]
  | x :: a, y :: b => by
    simp only [List.map_cons, PyData.eqvAll, eqv_int, eqvAll_ints a b]
    by_cases h : x = y <;> by_cases h2 : a = b <;> simp [h, h2]
theorem eqv_row (a b : List Int) : PyData.eqv (rowD a) (rowD b) = decide (a = b) := by
  show PyData.eqv (.tuple _) (.tuple _) = _
  unfold PyData.eqv
  exact eqvAll_ints a b
theorem eqv_str (a b : Str) : PyData.eqv (.str a) (.str b) = (a == b) := by unfold PyData.eqv; rfl
theorem str_beq (a : Str) : (a == a) = true := by
  rw [← eqv_str]
  simp [PyData.eqv]
theorem shaped_int (i : Int) : SeqAt.shaped (.int i) = true := rfl
theorem shaped_none : SeqAt.shaped .none = true := rfl
theorem shaped_bool (i : Bool) : SeqAt.shaped (.bool i) = true := rfl
end VL

set_option Elab.async false
set_option linter.all false
set_option maxRecDepth 100000
set_option maxHeartbeats 4000000
namespace VL
open PySem
/-! ### what repr shows within the sizes -/
def okD : Nat → D → Bool
  | _, .none => true
  | _, .bool _ => true
  | _, .int i => decide (i.natAbs < 10 ^ 12)
  | _, .str x => x.cps.toList.all fun c => decide (c < 16 ^ 8)
  | 0, _ => false
  | n + 1, .list ds => ds.all (okD n)
  | n + 1, .tuple ds => ds.all (okD n)
  | _, .dict _ => false
theorem okAll {ds : List D} {n : Nat} (ih : ∀ d, okD n d = true → d.showable = true ∧ d.leavesShort 13 = true ∧ d.hasDict = false ∧ d.depth ≤ n) (h : ds.all (okD n) = true) :
    PyData.showableAll ds = true ∧ PyData.leavesShortAll 13 ds = true ∧ PyData.hasDictAll ds = false ∧ PyData.depthAll ds ≤ n := by
  induction ds with
  | nil => exact ⟨rfl, rfl, rfl, Nat.zero_le _⟩
  | cons d ds ihd =>
    simp only [List.all_cons, Bool.and_eq_true] at h
    obtain ⟨a1, a2, a3, a4⟩ := ih d h.1
    obtain ⟨b1, b2, b3, b4⟩ := ihd h.2
    refine ⟨by simp [PyData.showableAll, a1, b1], by simp [PyData.leavesShortAll, a2, b2], by simp [PyData.hasDictAll, a3, b3], ?_⟩
    show max (PyData.depth d) (PyData.depthAll ds) ≤ n
    omega
theorem log_le {n : Nat} (h : n < 10 ^ 12) : n.log2 < 1920 := by
  by_cases h0 : n = 0
  · subst h0; decide
  · rw [Nat.log2_lt h0]
    exact Nat.lt_of_lt_of_le h (by decide)
theorem okD_all : ∀ (n : Nat) (d : D), okD n d = true → d.showable = true ∧ d.leavesShort 13 = true ∧ d.hasDict = false ∧ d.depth ≤ n
  | n, .none, _ => ⟨rfl, rfl, rfl, Nat.zero_le _⟩
  | n, .bool _, _ => ⟨rfl, rfl, rfl, Nat.zero_le _⟩
  | n, .int i, h => by
    have h' : i.natAbs < 10 ^ 12 := by cases n <;> exact of_decide_eq_true h
    exact ⟨decide_eq_true (log_le h'), decide_eq_true (PyData.shown_int_le h'), rfl, Nat.zero_le _⟩
  | n, .str x, h => by
    have h' : (x.cps.toList.all fun c => decide (c < 16 ^ 8)) = true := by cases n <;> exact h
    exact ⟨rfl, h', rfl, Nat.zero_le _⟩
  | 0, .list _, h => by cases h
  | 0, .tuple _, h => by cases h
  | 0, .dict _, h => by cases h
  | n + 1, .dict _, h => by cases h
  | n + 1, .list ds, h => by
    obtain ⟨a, b, c, d⟩ := okAll (okD_all n) (show ds.all (okD n) = true from h)
    exact ⟨a, b, c, Nat.succ_le_succ d⟩
  | n + 1, .tuple ds, h => by
    obtain ⟨a, b, c, d⟩ := okAll (okD_all n) (show ds.all (okD n) = true from h)
    exact ⟨a, b, c, Nat.succ_le_succ d⟩
theorem okShow_of {d : D} {n : Nat} (h : okD n d = true) (hn : n ≤ 60) (hb : d.bulk ≤ 2 ^ 20) : okShow d = true := by
  obtain ⟨a, b, c, e⟩ := okD_all n d h
  unfold okShow
  simp only [Bool.and_eq_true, decide_eq_true_eq, Bool.not_eq_true']
  exact ⟨⟨⟨⟨a, b⟩, hb⟩, c⟩, by omega⟩
theorem okD_row {r : List Int} {n : Nat} (h : ∀ a ∈ r, a.natAbs < 10 ^ 12) : okD (n + 1) (rowD r) = true := by
  show (r.map PyData.int).all (okD n) = true
  rw [List.all_map, List.all_eq_true]
  intro a ha
  show okD n (.int a) = true
  cases n <;> exact decide_eq_true (h a ha)
theorem bulk_row (r : List Int) : PyData.bulk (rowD r) = r.length := by
  show PyData.bulkAll (r.map .int) = _
  induction r with
  | nil => rfl
  | cons a r ih =>
    show PyData.bulk (.int a) + 1 + PyData.bulkAll (r.map .int) = _
    rw [ih]
    show 0 + 1 + r.length = r.length + 1
    omega
theorem okShow_int {i : Int} (h : i.natAbs < 10 ^ 12) : okShow (.int i) = true := okShow_of (n := 0) (decide_eq_true h) (by omega) (by show 0 ≤ _; omega)
theorem okShow_bool (b : Bool) : okShow (.bool b) = true := okShow_of (n := 0) rfl (by omega) (by show 0 ≤ _; omega)
theorem okShow_none : okShow .none = true := okShow_of (n := 0) rfl (by omega) (by show 0 ≤ _; omega)
/-! ### rows and pairs of rows, compared -/
theorem zipW_map {α β γ : Type} (f : α → β → γ) (x : List α) (y : List β) : List.zipWith f x y = (x.zip y).map fun p => f p.1 p.2 := by
  induction x generalizing y with
  | nil => rfl
  | cons a x ih => cases y with
    | nil => rfl
    | cons b y => simp [ih]
theorem ints?_map {α : Type} (f : α → Int) (l : List α) : ints? (l.map fun a => PyData.int (f a)) = some (l.map f) := by
  rw [show (l.map fun a => PyData.int (f a)) = (l.map f).map PyData.int by simp]; exact ints?_ints _
theorem bools?_map {α : Type} (f : α → Bool) (l : List α) : bools? (l.map fun a => PyData.bool (f a)) = some (l.map f) := by
  rw [show (l.map fun a => PyData.bool (f a)) = (l.map f).map PyData.bool by simp]; exact bools?_bools _
theorem shaped_row (r : List Int) : SeqAt.shaped (rowD r) = true := PySem.W.shaped_ints r
theorem eq_row (a b : List Int) : gEq (rowD a) (rowD b) = bo (decide (a = b)) := by
  show (if SeqAt.shaped (rowD a) = true ∧ SeqAt.shaped (rowD b) = true then bo (PyData.eqv (rowD a) (rowD b)) else none) = _
  rw [if_pos ⟨shaped_row a, shaped_row b⟩, eqv_row]
theorem ne_row (a b : List Int) : gNe (rowD a) (rowD b) = bo (!decide (a = b)) := by
  show (if SeqAt.shaped (rowD a) = true ∧ SeqAt.shaped (rowD b) = true then bo (!PyData.eqv (rowD a) (rowD b)) else none) = _
  rw [if_pos ⟨shaped_row a, shaped_row b⟩, eqv_row]
theorem depth_rowD (k : List Int) : PyData.depth (rowD k) = 1 := depth_row k
theorem lt_row (a b : List Int) : gLt (rowD a) (rowD b) = bo (ltI a b) := by
  show (if PySem.W.alike (rowD a) (rowD b) = true ∧ isNon (rowD a) = false ∧ min (PyData.depth (rowD a)) (PyData.depth (rowD b)) ≤ 60 then bo (PySem.W.dataLt (rowD a) (rowD b)) else none) = _
  rw [if_pos ⟨alikeAll_ints a b, rfl, by rw [depth_rowD, depth_rowD]; decide⟩, lt_rows]
theorem gt_row (a b : List Int) : gGt (rowD a) (rowD b) = bo (ltI b a) := by
  show (if PySem.W.alike (rowD a) (rowD b) = true ∧ isNon (rowD a) = false ∧ min (PyData.depth (rowD a)) (PyData.depth (rowD b)) ≤ 60 then bo (PySem.W.dataLt (rowD b) (rowD a)) else none) = _
  rw [if_pos ⟨alikeAll_ints a b, rfl, by rw [depth_rowD, depth_rowD]; decide⟩, lt_rows]
theorem lt_cons_int (x y : Int) (xs ys : List D) : PyProof.Rows.lexLt PyProof.Rows.itemOrd (PySem.W.keyToksAll (.int x :: xs)) (PySem.W.keyToksAll (.int y :: ys)) = if x = y then PyProof.Rows.lexLt PyProof.Rows.itemOrd (PySem.W.keyToksAll xs) (PySem.W.keyToksAll ys) else decide (x < y) := by
  by_cases h : x = y
  · subst h
    rw [PySem.W.dataLt_all_yes rfl (by simp [PyData.eqv]), if_pos rfl]
  · rw [PySem.W.dataLt_all_no rfl (by simp [PyData.eqv, h]), if_neg h]
    show (decide (x < y) || (!decide (y < x) && false)) = _
    simp
theorem lt_cons_row (a b : List Int) (xs ys : List D) : PyProof.Rows.lexLt PyProof.Rows.itemOrd (PySem.W.keyToksAll (rowD a :: xs)) (PySem.W.keyToksAll (rowD b :: ys)) = if a = b then PyProof.Rows.lexLt PyProof.Rows.itemOrd (PySem.W.keyToksAll xs) (PySem.W.keyToksAll ys) else ltI a b := by
  by_cases h : a = b
  · subst h
    rw [PySem.W.dataLt_all_yes (alikeAll_ints a a) (by rw [eqv_row]; simp), if_pos rfl]
  · rw [PySem.W.dataLt_all_no (alikeAll_ints a b) (by rw [eqv_row]; simp [h]), if_neg h]
    exact lt_rows a b
/-- a pair of rows -/
abbrev prD (p : List Int × List Int) : D := .tuple [rowD p.1, rowD p.2]
def ltP (p q : List Int × List Int) : Bool := if p.1 = q.1 then ltI p.2 q.2 else ltI p.1 q.1
theorem lt_prs (p q : List Int × List Int) : PySem.W.dataLt (prD p) (prD q) = ltP p q := by
  rw [PySem.W.dataLt_tuple, lt_cons_row, lt_cons_row]
  unfold ltP
  by_cases h : p.1 = q.1
  · rw [if_pos h, if_pos h]
    by_cases h2 : p.2 = q.2
    · rw [if_pos h2, h2, ltI_irr]; rfl
    · rw [if_neg h2]
  · rw [if_neg h, if_neg h]
theorem alike_prs (p q : List Int × List Int) : PySem.W.alike (prD p) (prD q) = true := by
  unfold PySem.W.alike
  simp only [PySem.W.alikeAll, alikeAll_ints p.1 q.1, alikeAll_ints p.2 q.2, Bool.and_self]
theorem depth_pr (p : List Int × List Int) : PyData.depth (prD p) = 2 := by
  show PyData.depthAll [rowD p.1, rowD p.2] + 1 = 2
  simp only [PyData.depthAll, depth_rowD]
  rfl
theorem lt_pr (p q : List Int × List Int) : gLt (prD p) (prD q) = bo (ltP p q) := by
  show (if PySem.W.alike (prD p) (prD q) = true ∧ isNon (prD p) = false ∧ min (PyData.depth (prD p)) (PyData.depth (prD q)) ≤ 60 then bo (PySem.W.dataLt (prD p) (prD q)) else none) = _
  rw [if_pos ⟨alike_prs p q, rfl, by rw [depth_pr, depth_pr]; decide⟩, lt_prs]
theorem ltP_irr (p : List Int × List Int) : ltP p p = false := by unfold ltP; rw [if_pos rfl, ltI_irr]
theorem ltP_tri (p q : List Int × List Int) (h1 : ltP p q = false) (h2 : ltP q p = false) : p = q := by
  unfold ltP at h1 h2
  by_cases h : p.1 = q.1
  · rw [if_pos h] at h1
    rw [if_pos h.symm] at h2
    exact Prod.ext h (ltI_tri _ _ h1 h2)
  · rw [if_neg h] at h1
    rw [if_neg fun z => h z.symm] at h2
    exact absurd (ltI_tri _ _ h1 h2) h
theorem ltP_trans (p q r : List Int × List Int) (h1 : ltP p q = true) (h2 : ltP q r = true) : ltP p r = true := by
  unfold ltP at *
  by_cases a : p.1 = q.1
  · by_cases b : q.1 = r.1
    · rw [if_pos a] at h1; rw [if_pos b] at h2; rw [if_pos (a.trans b)]
      exact ltI_trans _ _ _ h1 h2
    · rw [if_neg b] at h2; rw [if_neg (by rw [a]; exact b), a]; exact h2
  · by_cases b : q.1 = r.1
    · rw [if_neg a] at h1; rw [if_neg (by rw [← b]; exact a), ← b]; exact h1
    · rw [if_neg a] at h1; rw [if_neg b] at h2
      have t := ltI_trans _ _ _ h1 h2
      have ne : p.1 ≠ r.1 := fun z => by rw [z, ltI_irr] at t; cases t
      rw [if_neg ne]; exact t
def leP (p q : List Int × List Int) : Bool := !ltP q p
theorem leD_prs (p q : List Int × List Int) : leD (prD p) (prD q) = leP p q := by unfold leD leP; rw [lt_prs]
theorem leP_total (a b : List Int × List Int) : leP a b = true ∨ leP b a = true := by
  unfold leP
  cases h : ltP b a with
  | false => exact .inl rfl
  | true =>
    refine .inr ?_
    cases h2 : ltP a b with
    | false => rfl
    | true =>
      have := ltP_trans a b a h2 h
      rw [ltP_irr] at this
      cases this
theorem leP_trans (a b c : List Int × List Int) (h1 : leP a b = true) (h2 : leP b c = true) : leP a c = true := by
  unfold leP at *
  cases h : ltP c a with
  | false => rfl
  | true =>
    cases q : ltP c b with
    | true => rw [q] at h2; cases h2
    | false =>
      cases q2 : ltP b c with
      | false =>
        have := ltP_tri b c q2 q
        subst this
        rw [h] at h1; cases h1
      | true =>
        have := ltP_trans b c a q2 h
        rw [this] at h1; cases h1
end VL

set_option Elab.async false
set_option linter.all false
set_option maxRecDepth 100000
set_option maxHeartbeats 4000000
/-! VN2: dicts, read as association lists -/
namespace VL
open PySem
section
variable {κ : Type} [DecidableEq κ]
/-- data that serve as keys -/
structure KeyF (kd : κ → D) where
  nk : κ → NestedKey
  spec : ∀ k, nkey (kd k) = some (nk k)
  inj : ∀ a b, nk a = nk b → a = b
  cls : ∀ a, kcls (kd a) = some true
def aget : List (κ × D) → κ → Option D
  | [], _ => none
  | p :: r, k => if p.1 = k then some p.2 else aget r k
def aput (l : List (κ × D)) (k : κ) (v : D) : List (κ × D) := if (aget l k).isSome then l.map fun p => if p.1 = k then (p.1, v) else p else l ++ [(k, v)]
abbrev aD (kd : κ → D) (l : List (κ × D)) : List (D × D) := l.map fun p => (kd p.1, p.2)
variable {kd : κ → D}
theorem KeyF.iff (f : KeyF kd) (a b : κ) : nkey (kd a) = nkey (kd b) ↔ a = b := by
  rw [f.spec, f.spec]
  exact ⟨fun h => f.inj _ _ (Option.some.inj h), fun h => by rw [h]⟩
theorem KeyF.find (f : KeyF kd) (k : κ) : ∀ l : List (κ × D), dfind (nkey (kd k)) (aD kd l) = aget l k
  | [] => rfl
  | p :: l => by
    show (if nkey (kd p.1) = nkey (kd k) then some p.2 else dfind (nkey (kd k)) (aD kd l)) = if p.1 = k then some p.2 else aget l k
    rw [f.find k l]
    by_cases h : p.1 = k
    · rw [if_pos h, if_pos ((f.iff _ _).mpr h)]
    · rw [if_neg h, if_neg (fun z => h ((f.iff _ _).mp z))]
theorem KeyF.dcls (f : KeyF kd) (k : κ) (l : List (κ × D)) : dcls (aD kd l) (kd k) = true := by
  unfold VL.dcls
  rw [f.cls]
  simp only [Option.isSome_some, Bool.true_and, List.all_eq_true, List.mem_map, decide_eq_true_eq]
  rintro _ ⟨p, _, rfl⟩
  exact f.cls _
theorem KeyF.put (f : KeyF kd) (k : κ) (v : D) (l : List (κ × D)) : dput (aD kd l) (kd k) v = aD kd (aput l k v) := by
  unfold dput aput
  rw [f.find k l]
  split
  · unfold aD
    rw [List.map_map, List.map_map]
    refine List.map_congr_left fun p _ => ?_
    show (if nkey (kd p.1) = nkey (kd k) then (kd p.1, v) else (kd p.1, p.2)) = (kd (if p.1 = k then (p.1, v) else p).1, (if p.1 = k then (p.1, v) else p).2)
    by_cases h : p.1 = k
    · rw [if_pos h, if_pos ((f.iff _ _).mpr h)]
    · rw [if_neg h, if_neg (fun z => h ((f.iff _ _).mp z))]
  · simp [aD]
theorem KeyF.gIn (f : KeyF kd) (k : κ) (l : List (κ × D)) : gDIn (aD kd l) (kd k) = some (.z (.bool (aget l k).isSome)) := by
  unfold gDIn; rw [f.dcls, f.find]; rfl
theorem KeyF.gNin (f : KeyF kd) (k : κ) (l : List (κ × D)) : gDNin (aD kd l) (kd k) = some (.z (.bool (!(aget l k).isSome))) := by
  unfold gDNin; rw [f.dcls, f.find]; rfl
theorem KeyF.gIx (f : KeyF kd) (k : κ) (l : List (κ × D)) : gDIx (aD kd l) (kd k) = (aget l k).map .z := by
  unfold gDIx; rw [f.dcls, f.find]; rfl
theorem KeyF.gSet (f : KeyF kd) (k : κ) (v : D) (l : List (κ × D)) (h : l.length < 100000) : gDSet (aD kd l) (kd k) v = some (aD kd (aput l k v)) := by
  unfold gDSet
  rw [f.dcls, f.put, if_pos ⟨rfl, by simpa using h⟩]
theorem aput_len (l : List (κ × D)) (k : κ) (v : D) : (aput l k v).length ≤ l.length + 1 := by
  unfold aput; split <;> simp
theorem aput_new {l : List (κ × D)} {k : κ} (h : aget l k = none) (v : D) : aput l k v = l ++ [(k, v)] := by
  unfold aput; rw [h]; rfl
theorem aget_mem {k : κ} : ∀ {l : List (κ × D)}, (aget l k).isSome = true ↔ k ∈ l.map (·.1)
  | [] => by simp [aget]
  | p :: l => by
    unfold aget
    by_cases h : p.1 = k
    · rw [if_pos h]; simp [h]
    · rw [if_neg h, aget_mem (l := l)]
      simp only [List.map_cons, List.mem_cons]
      exact ⟨.inr, fun z => z.resolve_left fun e => h e.symm⟩
theorem aget_none {k : κ} {l : List (κ × D)} : aget l k = none ↔ k ∉ l.map (·.1) := by
  rw [← aget_mem]
  cases aget l k <;> simp
theorem aget_of {k : κ} (g : κ → D) : ∀ {l : List κ}, k ∈ l → aget (l.map fun r => (r, g r)) k = some (g k)
  | [], h => by cases h
  | p :: l, h => by
    show (if p = k then some (g p) else aget (l.map fun r => (r, g r)) k) = _
    by_cases e : p = k
    · rw [if_pos e, e]
    · rw [if_neg e]
      exact aget_of g (by rcases List.mem_cons.mp h with z | z; exact absurd z.symm e; exact z)
theorem aput_same {k : κ} (g : κ → D) {l : List κ} (h : k ∈ l) : aput (l.map fun r => (r, g r)) k (g k) = l.map fun r => (r, g r) := by
  unfold aput
  rw [aget_of g h]
  show (l.map fun r => (r, g r)).map _ = _
  rw [List.map_map]
  refine List.map_congr_left fun p _ => ?_
  show (if p = k then (p, g k) else (p, g p)) = _
  by_cases e : p = k
  · rw [if_pos e, e]
  · rw [if_neg e]
end
/-! ### loops as folds -/
theorem for_fold {α β γ : Type} {mg : MG} {mb : MS} (g : α → D) (env : β → γ → Env) (step : β → α → β) (I : Nat → β → Prop) : ∀ (as : List α) (n : Nat) (b : β) (c : γ), I n b → (∀ a ∈ as, ∀ n' b c, n' < n + as.length → I n' b → I (n' + 1) (step b a) ∧ ∃ c', (mg (g a) (env b c)).bind mb = some (.nx, env (step b a) c')) →
    ∃ c', forGo mg mb (as.map g) (env b c) = some (.nx, env (as.foldl step b) c') ∧ I (n + as.length) (as.foldl step b)
  | [], n, b, c, h, _ => ⟨c, rfl, h⟩
  | a :: as, n, b, c, h, k => by
    obtain ⟨h1, c1, e1⟩ := k a (List.mem_cons_self ..) n b c (by simp) h
    obtain ⟨ρ1, e2, e3⟩ := Option.bind_eq_some_iff.mp e1
    obtain ⟨c2, e4, h2⟩ := for_fold g env step I as (n + 1) (step b a) c1 h1 fun a' ha' n' b' c' hn => k a' (List.mem_cons_of_mem _ ha') n' b' c' (by simp; omega)
    refine ⟨c2, ?_, by rw [List.length_cons, show n + (as.length + 1) = n + 1 + as.length by omega]; exact h2⟩
    show (mg (g a) (env b c)).bind _ = _
    rw [e2]
    show (mb ρ1).bind _ = _
    rw [e3]
    exact e4
/-- a for loop as a fold; I: what holds behind so many turns -/
theorem sFor_fold {α β γ : Type} {mi : MI} {mg : MG} {mb : MS} (g : α → D) (env : β → γ → Env) (step : β → α → β) (I : Nat → β → Prop) (as : List α) (b : β) (c : γ) {ρ : Env} (hi : mi ρ = some (as.map g, env b c)) (h : I 0 b) (k : ∀ a ∈ as, ∀ n b c, n < as.length → I n b → I (n + 1) (step b a) ∧ ∃ c', (mg (g a) (env b c)).bind mb = some (.nx, env (step b a) c')) :
    ∃ c', sFor mi mg mb ρ = some (.nx, env (as.foldl step b) c') ∧ I as.length (as.foldl step b) := by
  obtain ⟨c', e, h'⟩ := for_fold g env step I as 0 b c h (by simpa using k)
  refine ⟨c', ?_, by simpa using h'⟩
  show (mi ρ).bind _ = _
  rw [hi]
  exact e
/-- first comers -/
def addU {κ : Type} [DecidableEq κ] (s : List κ) (r : κ) : List κ := if r ∈ s then s else s ++ [r]
def uniq {κ : Type} [DecidableEq κ] (l : List κ) : List κ := l.foldl addU []
theorem addU_put {κ : Type} [DecidableEq κ] (g : κ → D) (s : List κ) (r : κ) : aput (s.map fun r => (r, g r)) r (g r) = (addU s r).map fun r => (r, g r) := by
  unfold addU
  by_cases h : r ∈ s
  · rw [if_pos h, aput_same g h]
  · rw [if_neg h, aput_new (aget_none.mpr (by simpa using h))]
    simp
theorem addU_len {κ : Type} [DecidableEq κ] (s : List κ) (r : κ) : (addU s r).length ≤ s.length + 1 := by
  unfold addU; split <;> simp
theorem foldl_addU {κ : Type} [DecidableEq κ] : ∀ (l s : List κ), s.Nodup → ((l.foldl addU s).Nodup ∧ ∀ x, x ∈ l.foldl addU s ↔ x ∈ s ∨ x ∈ l)
  | [], s, h => ⟨h, fun x => by simp⟩
  | a :: l, s, h => by
    have h1 : (addU s a).Nodup := by
      unfold addU
      by_cases q : a ∈ s
      · rw [if_pos q]; exact h
      · rw [if_neg q]
        rw [List.nodup_append]
        exact ⟨h, by simp, fun x hx y hy e => q (by simp at hy; rw [← hy, ← e]; exact hx)⟩
    have h2 : ∀ x, x ∈ addU s a ↔ x ∈ s ∨ x = a := fun x => by
      unfold addU
      by_cases q : a ∈ s
      · rw [if_pos q]; exact ⟨.inl, fun z => z.elim id fun e => e ▸ q⟩
      · rw [if_neg q]; simp
    obtain ⟨h3, h4⟩ := foldl_addU l (addU s a) h1
    refine ⟨h3, fun x => ?_⟩
    show x ∈ l.foldl addU (addU s a) ↔ _
    rw [h4, h2, List.mem_cons, or_assoc]
theorem uniq_nodup {κ : Type} [DecidableEq κ] (l : List κ) : (uniq l).Nodup := (foldl_addU l [] List.nodup_nil).1
theorem mem_uniq {κ : Type} [DecidableEq κ] {l : List κ} {x : κ} : x ∈ uniq l ↔ x ∈ l := by
  have := (foldl_addU l [] List.nodup_nil).2 x
  unfold uniq
  rw [this]; simp
/-! ### rows as keys -/
theorem nkeys_ints : ∀ r : List Int, nkeys (r.map .int) = some (r.map .num)
  | [] => rfl
  | i :: r => by
    show (nkey (.int i)).bind _ = _
    rw [nkeys_ints r]; rfl
theorem num_inj : ∀ {a b : List Int}, a.map NestedKey.num = b.map NestedKey.num → a = b
  | [], [], _ => rfl
  | [], _ :: _, h => by simp at h
  | _ :: _, [], h => by simp at h
  | x :: a, y :: b, h => by
    rw [List.map_cons, List.map_cons] at h
    injection h with h1 h2
    injection h1 with h1
    rw [h1, num_inj h2]
theorem depthAll_num : ∀ r : List Int, NestedKey.depthAll (r.map .num) = 0
  | [] => rfl
  | i :: r => by
    show max (NestedKey.depth (.num i)) (NestedKey.depthAll (r.map .num)) = 0
    rw [depthAll_num r]; rfl
theorem nkey_row (r : List Int) : nkey (rowD r) = some (.tup (r.map .num)) := by
  show (nkeys (r.map .int)).map NestedKey.tup = _
  rw [nkeys_ints]; rfl
theorem kcls_of {ds : List D} {k : NestedKey} (h : nkey (.tuple ds) = some k) (hd : k.depth ≤ 8) : kcls (.tuple ds) = some true := by
  rw [kcls_t, h]
  show (if k.depth ≤ 8 then some true else none) = _
  rw [if_pos hd]
def rowKey : KeyF rowD where
  nk := fun r => .tup (r.map .num)
  spec := nkey_row
  inj := fun a b h => by injection h with h; exact num_inj h
  cls := fun r => kcls_of (nkey_row r) (by show NestedKey.depthAll (r.map .num) + 1 ≤ 8; rw [depthAll_num]; omega)
/-! ### == of lists and tuples of data -/
theorem canLayAll_map {α : Type} (f : α → D) : ∀ l : List α, (∀ a ∈ l, SeqAt.shaped (f a) = true) → PyData.canLayAll0 (l.map f) = true
  | [], _ => rfl
  | a :: l, h => by
    show (PyData.canLay0 (f a) && PyData.canLayAll0 (l.map f)) = true
    rw [SeqAt.canLay_of_shaped (h a (List.mem_cons_self ..)), canLayAll_map f l fun b hb => h b (List.mem_cons_of_mem _ hb)]; rfl
theorem depthAll_map {α : Type} {k : Nat} (f : α → D) : ∀ l : List α, (∀ a ∈ l, PyData.depth (f a) ≤ k) → PyData.depthAll (l.map f) ≤ k
  | [], _ => Nat.zero_le _
  | a :: l, h => by
    show max (PyData.depth (f a)) (PyData.depthAll (l.map f)) ≤ k
    have h1 := h a (List.mem_cons_self ..)
    have h2 := depthAll_map f l fun b hb => h b (List.mem_cons_of_mem _ hb)
    omega
theorem shaped_map {α : Type} {k : Nat} (f : α → D) (l : List α) (h : ∀ a ∈ l, SeqAt.shaped (f a) = true) (hd : ∀ a ∈ l, PyData.depth (f a) ≤ k) (hk : k ≤ 60) : SeqAt.shaped (.list (l.map f)) = true ∧ SeqAt.shaped (.tuple (l.map f)) = true := by
  have h1 := canLayAll_map f l h
  have h2 := depthAll_map f l hd
  have e1 : PyData.depth (.list (l.map f)) = PyData.depthAll (l.map f) + 1 := rfl
  have e2 : PyData.depth (.tuple (l.map f)) = PyData.depthAll (l.map f) + 1 := rfl
  constructor
  · show (PyData.canLay0 (.list (l.map f)) && decide (PyData.depth (.list (l.map f)) ≤ 64)) = true
    rw [Bool.and_eq_true]
    exact ⟨by simp only [PyData.canLay0]; exact h1, decide_eq_true (by omega)⟩
  · show (PyData.canLay0 (.tuple (l.map f)) && decide (PyData.depth (.tuple (l.map f)) ≤ 64)) = true
    rw [Bool.and_eq_true]
    exact ⟨by simp only [PyData.canLay0]; exact h1, decide_eq_true (by omega)⟩
theorem eqvAll_map {α : Type} [DecidableEq α] (f : α → D) (h : ∀ a b, PyData.eqv (f a) (f b) = decide (a = b)) : ∀ l m : List α, PyData.eqvAll (l.map f) (m.map f) = decide (l = m)
  | [], [] => by simp [PyData.eqvAll]
  | [], _ :: _ => by simp [PyData.eqvAll]
  | _ :: _, [] => by simp [PyData.eqvAll]
  | x :: a, y :: b => by
    simp only [List.map_cons, PyData.eqvAll, h, eqvAll_map f h a b]
    by_cases h1 : x = y <;> by_cases h2 : a = b <;> simp [h1, h2]
theorem gEq_lists {α : Type} [DecidableEq α] {k : Nat} (f : α → D) (he : ∀ a b, PyData.eqv (f a) (f b) = decide (a = b)) (h : ∀ a, SeqAt.shaped (f a) = true) (hd : ∀ a, PyData.depth (f a) ≤ k) (hk : k ≤ 60) (l m : List α) : gEq (.list (l.map f)) (.list (m.map f)) = bo (decide (l = m)) := by
  show (if SeqAt.shaped (.list (l.map f)) = true ∧ SeqAt.shaped (.list (m.map f)) = true then bo (PyData.eqv (.list (l.map f)) (.list (m.map f))) else none) = _
  rw [if_pos ⟨(shaped_map f l (fun a _ => h a) (fun a _ => hd a) hk).1, (shaped_map f m (fun a _ => h a) (fun a _ => hd a) hk).1⟩]
  have : PyData.eqv (.list (l.map f)) (.list (m.map f)) = PyData.eqvAll (l.map f) (m.map f) := by rw [PyData.eqv]
  rw [this, eqvAll_map f he]
theorem gEq_tuples {α : Type} [DecidableEq α] {k : Nat} (f : α → D) (he : ∀ a b, PyData.eqv (f a) (f b) = decide (a = b)) (h : ∀ a, SeqAt.shaped (f a) = true) (hd : ∀ a, PyData.depth (f a) ≤ k) (hk : k ≤ 60) (l m : List α) : gEq (.tuple (l.map f)) (.tuple (m.map f)) = bo (decide (l = m)) := by
  show (if SeqAt.shaped (.tuple (l.map f)) = true ∧ SeqAt.shaped (.tuple (m.map f)) = true then bo (PyData.eqv (.tuple (l.map f)) (.tuple (m.map f))) else none) = _
  rw [if_pos ⟨(shaped_map f l (fun a _ => h a) (fun a _ => hd a) hk).2, (shaped_map f m (fun a _ => h a) (fun a _ => hd a) hk).2⟩]
  have : PyData.eqv (.tuple (l.map f)) (.tuple (m.map f)) = PyData.eqvAll (l.map f) (m.map f) := by rw [PyData.eqv]
  rw [this, eqvAll_map f he]
theorem gEq_rows (l m : List (List Int)) : gEq (.list (l.map rowD)) (.list (m.map rowD)) = bo (decide (l = m)) := gEq_lists (k := 1) rowD eqv_row shaped_row (fun r => by rw [depth_rowD]; omega) (by decide) l m
theorem okD_rows {rs : List (List Int)} {n : Nat} (h : ∀ r ∈ rs, ∀ a ∈ r, a.natAbs < 10 ^ 12) : okD (n + 2) (.list (rs.map rowD)) = true ∧ okD (n + 2) (.tuple (rs.map rowD)) = true := by
  have : (rs.map rowD).all (okD (n + 1)) = true := by
    rw [List.all_eq_true]
    intro d hd
    obtain ⟨r, hr, rfl⟩ := List.mem_map.mp hd
    exact okD_row (h r hr)
  exact ⟨this, this⟩
theorem bulkAll_rows {k : Nat} : ∀ {rs : List (List Int)}, (∀ r ∈ rs, r.length ≤ k) → PyData.bulkAll (rs.map rowD) ≤ (k + 1) * rs.length
  | [], _ => Nat.zero_le _
  | r :: rs, h => by
    have ih := bulkAll_rows (rs := rs) fun q hq => h q (List.mem_cons_of_mem _ hq)
    have h1 := h r (List.mem_cons_self ..)
    show PyData.bulk (rowD r) + 1 + PyData.bulkAll (rs.map rowD) ≤ _
    rw [bulk_row, List.length_cons, Nat.mul_succ]
    omega
/-! ### slices -/
theorem cutD_to (xs : List D) (k : Nat) : cutD xs none (some (k : Int)) = xs.take k := by
  unfold cutD
  rw [HT.sIx_nat, HT.sIx_none, List.drop_zero, Nat.sub_zero]
  by_cases h : k ≤ xs.length
  · rw [Nat.min_eq_left h]
  · rw [Nat.min_eq_right (by omega), List.take_length, List.take_of_length_le (by omega)]
theorem cutD_from (xs : List D) (k : Nat) : cutD xs (some (k : Int)) none = xs.drop k := by
  unfold cutD
  rw [HT.sIx_nat, HT.sIx_none]
  by_cases h : k ≤ xs.length
  · rw [Nat.min_eq_left h, List.take_of_length_le (by simp)]
  · rw [Nat.min_eq_right (by omega), List.drop_length, List.drop_eq_nil_of_le (by omega)]; simp
end VL

set_option maxHeartbeats 0
namespace My
open PySem PySem.Spec PyProof.Rows L2
def top (i : Nat) : Stmt := PySem.Challenge.pw_sumroads_k34_whole_paths_and_ends.main.body.getD i (.Pass ⟨0, 0, 0, 0⟩)
abbrev s_TableError_Dinit : Stmt := inClass (top 1) 0
abbrev s_TooMany_Dinit : Stmt := inClass (top 6) 0
abbrev s_is_integer : Stmt := top 8
abbrev s_is_count : Stmt := top 9
abbrev s_want_at_most : Stmt := top 10
abbrev s_are_counts_to : Stmt := top 16
abbrev s_is_monomial_of : Stmt := top 17
abbrev s_is_order_value : Stmt := top 18
abbrev s_want_order : Stmt := top 19
abbrev s_want_monomial : Stmt := top 20
abbrev s_order_key : Stmt := top 21
abbrev s_is_greater : Stmt := top 22
abbrev s_greater : Stmt := top 23
abbrev s_goes_by_of : Stmt := top 26
abbrev s_led_by : Stmt := top 27
abbrev s_is_rule_of : Stmt := top 28
abbrev s_are_rules : Stmt := top 29
abbrev s_want_rules : Stmt := top 30
abbrev s_first_going : Stmt := top 34
abbrev s_end_by : Stmt := top 35
abbrev s_path_by : Stmt := top 36
abbrev s_all_led : Stmt := top 37
abbrev s_all_ends : Stmt := top 38
abbrev s_want_led : Stmt := top 39
abbrev s_end_of : Stmt := top 40
abbrev s_path_of : Stmt := top 41
abbrev s_have_one_end : Stmt := top 42
abbrev s_ends_in_some_way : Stmt := top 43
abbrev s_L_pot : Stmt := top 45
abbrev s_L_draw : Stmt := top 46
abbrev s_L_key : Stmt := top 47
abbrev s_L_compared : Stmt := top 48
abbrev s_L_rule : Stmt := top 49
abbrev s_L_monomial : Stmt := top 50
abbrev s_L_weights : Stmt := top 51
abbrev s_L_goes : Stmt := top 52
abbrev s_L_led : Stmt := top 53
abbrev s_L_reached : Stmt := top 54
abbrev s_L_rules : Stmt := top 55
abbrev s_L_path : Stmt := top 56
abbrev s_L_all_ends : Stmt := top 57
abbrev s_L_one_right : Stmt := top 58
abbrev s_L_right : Stmt := top 59
abbrev s_law : Stmt := top 60
section
def d_TableError_Dinit : He.DefD := ⟨("TableError", some "__init__"), "__init__", "TableError.__init__", defArgs s_TableError_Dinit, defBody s_TableError_Dinit, defScope s_TableError_Dinit, [.non], []⟩
def d_TooMany_Dinit : He.DefD := ⟨("TooMany", some "__init__"), "__init__", "TooMany.__init__", defArgs s_TooMany_Dinit, defBody s_TooMany_Dinit, defScope s_TooMany_Dinit, [], []⟩
def d_is_integer : He.DefD := ⟨("is_integer", none), "is_integer", "is_integer", defArgs s_is_integer, defBody s_is_integer, defScope s_is_integer, [], []⟩
def d_is_count : He.DefD := ⟨("is_count", none), "is_count", "is_count", defArgs s_is_count, defBody s_is_count, defScope s_is_count, [], []⟩
def d_want_at_most : He.DefD := ⟨("want_at_most", none), "want_at_most", "want_at_most", defArgs s_want_at_most, defBody s_want_at_most, defScope s_want_at_most, [], []⟩
def d_are_counts_to : He.DefD := ⟨("are_counts_to", none), "are_counts_to", "are_counts_to", defArgs s_are_counts_to, defBody s_are_counts_to, defScope s_are_counts_to, [], []⟩
def d_is_monomial_of : He.DefD := ⟨("is_monomial_of", none), "is_monomial_of", "is_monomial_of", defArgs s_is_monomial_of, defBody s_is_monomial_of, defScope s_is_monomial_of, [], []⟩
def d_is_order_value : He.DefD := ⟨("is_order_value", none), "is_order_value", "is_order_value", defArgs s_is_order_value, defBody s_is_order_value, defScope s_is_order_value, [], []⟩
def d_want_order : He.DefD := ⟨("want_order", none), "want_order", "want_order", defArgs s_want_order, defBody s_want_order, defScope s_want_order, [], []⟩
def d_want_monomial : He.DefD := ⟨("want_monomial", none), "want_monomial", "want_monomial", defArgs s_want_monomial, defBody s_want_monomial, defScope s_want_monomial, [], []⟩
def d_order_key : He.DefD := ⟨("order_key", none), "order_key", "order_key", defArgs s_order_key, defBody s_order_key, defScope s_order_key, [], []⟩
def d_is_greater : He.DefD := ⟨("is_greater", none), "is_greater", "is_greater", defArgs s_is_greater, defBody s_is_greater, defScope s_is_greater, [], []⟩
def d_greater : He.DefD := ⟨("greater", none), "greater", "greater", defArgs s_greater, defBody s_greater, defScope s_greater, [], []⟩
def d_goes_by_of : He.DefD := ⟨("goes_by_of", none), "goes_by_of", "goes_by_of", defArgs s_goes_by_of, defBody s_goes_by_of, defScope s_goes_by_of, [], []⟩
def d_led_by : He.DefD := ⟨("led_by", none), "led_by", "led_by", defArgs s_led_by, defBody s_led_by, defScope s_led_by, [], []⟩
def d_is_rule_of : He.DefD := ⟨("is_rule_of", none), "is_rule_of", "is_rule_of", defArgs s_is_rule_of, defBody s_is_rule_of, defScope s_is_rule_of, [], []⟩
def d_are_rules : He.DefD := ⟨("are_rules", none), "are_rules", "are_rules", defArgs s_are_rules, defBody s_are_rules, defScope s_are_rules, [], []⟩
def d_want_rules : He.DefD := ⟨("want_rules", none), "want_rules", "want_rules", defArgs s_want_rules, defBody s_want_rules, defScope s_want_rules, [], []⟩
def d_first_going : He.DefD := ⟨("first_going", none), "first_going", "first_going", defArgs s_first_going, defBody s_first_going, defScope s_first_going, [], []⟩
def d_end_by : He.DefD := ⟨("end_by", none), "end_by", "end_by", defArgs s_end_by, defBody s_end_by, defScope s_end_by, [], []⟩
def d_path_by : He.DefD := ⟨("path_by", none), "path_by", "path_by", defArgs s_path_by, defBody s_path_by, defScope s_path_by, [], []⟩
def d_all_led : He.DefD := ⟨("all_led", none), "all_led", "all_led", defArgs s_all_led, defBody s_all_led, defScope s_all_led, [], []⟩
def d_all_ends : He.DefD := ⟨("all_ends", none), "all_ends", "all_ends", defArgs s_all_ends, defBody s_all_ends, defScope s_all_ends, [], []⟩
def d_want_led : He.DefD := ⟨("want_led", none), "want_led", "want_led", defArgs s_want_led, defBody s_want_led, defScope s_want_led, [], []⟩
def d_end_of : He.DefD := ⟨("end_of", none), "end_of", "end_of", defArgs s_end_of, defBody s_end_of, defScope s_end_of, [], []⟩
def d_path_of : He.DefD := ⟨("path_of", none), "path_of", "path_of", defArgs s_path_of, defBody s_path_of, defScope s_path_of, [], []⟩
def d_have_one_end : He.DefD := ⟨("have_one_end", none), "have_one_end", "have_one_end", defArgs s_have_one_end, defBody s_have_one_end, defScope s_have_one_end, [], []⟩
def d_ends_in_some_way : He.DefD := ⟨("ends_in_some_way", none), "ends_in_some_way", "ends_in_some_way", defArgs s_ends_in_some_way, defBody s_ends_in_some_way, defScope s_ends_in_some_way, [], []⟩
def d_L_pot : He.DefD := ⟨("_law_pot", none), "_law_pot", "_law_pot", defArgs s_L_pot, defBody s_L_pot, defScope s_L_pot, [], []⟩
def d_L_draw : He.DefD := ⟨("_law_draw", none), "_law_draw", "_law_draw", defArgs s_L_draw, defBody s_L_draw, defScope s_L_draw, [], []⟩
def d_L_key : He.DefD := ⟨("_law_key", none), "_law_key", "_law_key", defArgs s_L_key, defBody s_L_key, defScope s_L_key, [], []⟩
def d_L_compared : He.DefD := ⟨("_law_compared", none), "_law_compared", "_law_compared", defArgs s_L_compared, defBody s_L_compared, defScope s_L_compared, [], []⟩
def d_L_rule : He.DefD := ⟨("_law_rule", none), "_law_rule", "_law_rule", defArgs s_L_rule, defBody s_L_rule, defScope s_L_rule, [], []⟩
def d_L_monomial : He.DefD := ⟨("_law_monomial", none), "_law_monomial", "_law_monomial", defArgs s_L_monomial, defBody s_L_monomial, defScope s_L_monomial, [], []⟩
def d_L_weights : He.DefD := ⟨("_law_weights", none), "_law_weights", "_law_weights", defArgs s_L_weights, defBody s_L_weights, defScope s_L_weights, [], []⟩
def d_L_goes : He.DefD := ⟨("_law_goes", none), "_law_goes", "_law_goes", defArgs s_L_goes, defBody s_L_goes, defScope s_L_goes, [], []⟩
def d_L_led : He.DefD := ⟨("_law_led", none), "_law_led", "_law_led", defArgs s_L_led, defBody s_L_led, defScope s_L_led, [], []⟩
def d_L_reached : He.DefD := ⟨("_law_reached", none), "_law_reached", "_law_reached", defArgs s_L_reached, defBody s_L_reached, defScope s_L_reached, [], []⟩
def d_L_rules : He.DefD := ⟨("_law_rules", none), "_law_rules", "_law_rules", defArgs s_L_rules, defBody s_L_rules, defScope s_L_rules, [], []⟩
def d_L_path : He.DefD := ⟨("_law_path", none), "_law_path", "_law_path", defArgs s_L_path, defBody s_L_path, defScope s_L_path, [], []⟩
def d_L_all_ends : He.DefD := ⟨("_law_all_ends", none), "_law_all_ends", "_law_all_ends", defArgs s_L_all_ends, defBody s_L_all_ends, defScope s_L_all_ends, [], []⟩
def d_L_one_right : He.DefD := ⟨("_law_one_right", none), "_law_one_right", "_law_one_right", defArgs s_L_one_right, defBody s_L_one_right, defScope s_L_one_right, [], []⟩
def d_L_right : He.DefD := ⟨("_law_right", none), "_law_right", "_law_right", defArgs s_L_right, defBody s_L_right, defScope s_L_right, [], []⟩
def d_law : He.DefD := ⟨("law", none), "law", "law", defArgs s_law, defBody s_law, defScope s_law, [], []⟩
end
def fn : List He.DefD := [d_TableError_Dinit, d_TooMany_Dinit, d_is_integer, d_is_count, d_want_at_most, d_are_counts_to, d_is_monomial_of, d_is_order_value, d_want_order, d_want_monomial, d_order_key, d_is_greater, d_greater, d_goes_by_of, d_led_by, d_is_rule_of, d_are_rules, d_want_rules, d_first_going, d_end_by, d_path_by, d_all_led, d_all_ends, d_want_led, d_end_of, d_path_of, d_have_one_end, d_ends_in_some_way, d_L_pot, d_L_draw, d_L_key, d_L_compared, d_L_rule, d_L_monomial, d_L_weights, d_L_goes, d_L_led, d_L_reached, d_L_rules, d_L_path, d_L_all_ends, d_L_one_right, d_L_right, d_law]
def fa : List He.Fa := [.glo "is_integer", .glo "is_count", .glo "want_at_most", .glo "are_counts_to", .glo "is_monomial_of", .glo "is_order_value", .glo "want_order", .glo "want_monomial", .glo "order_key", .glo "is_greater", .glo "greater", .glo "goes_by_of", .glo "led_by", .glo "is_rule_of", .glo "are_rules", .glo "want_rules", .glo "first_going", .glo "end_by", .glo "path_by", .glo "all_led", .glo "all_ends", .glo "want_led", .glo "end_of", .glo "path_of", .glo "have_one_end", .glo "ends_in_some_way", .glo "_law_pot", .glo "_law_draw", .glo "_law_key", .glo "_law_compared", .glo "_law_rule", .glo "_law_monomial", .glo "_law_weights", .glo "_law_goes", .glo "_law_led", .glo "_law_reached", .glo "_law_rules", .glo "_law_path", .glo "_law_all_ends", .glo "_law_one_right", .glo "_law_right", .glo "law", .free "ArithmeticError", .free "ValueError", .free "abs", .free "all", .free "bool", .free "divmod", .free "int", .free "isinstance", .free "len", .free "max", .free "range", .free "repr", .free "sorted", .free "str", .free "sum", .free "tuple", .free "zip", .int "MOST_LETTERS" 40, .int "MOST_WEIGHT" 99, .int "MOST_COUNT" 20000, .str "ORDER" "order", .int "MOST_RULES" 200, .int "MOST_STEPS" 2000, .int "MOST_MET" 2000]
abbrev R : PySem.W.OpenRow := PySem.W.OpenLaw.row PySem.Challenge.rw_sumroads_k34_whole_paths_and_ends
def bl : List (PySem.Str × Value) := []
abbrev hk : PySem.W.Hook := VL.hookV 4 fa fn bl
def ob (s : PySem.W.SharedT) : VL.AlV := VL.obsV 4 fa fn bl (HandSHeadRun.getT s)
theorem ob_eq (s : PySem.W.SharedT) : ob s = hk.obs s.abs := VL.obsV_eq (HandSHeadRun.getT_eq s)
def loose0 : List PySem.Str := ["InvalidMonomial", "InvalidOrder", "InvalidRules", "LimitError", "MOST_COUNT", "MOST_LETTERS", "MOST_MET", "MOST_RULES", "MOST_STEPS", "MOST_WEIGHT", "ORDER", "TableError", "TooMany", "_law_all_ends", "_law_compared", "_law_draw", "_law_goes", "_law_key", "_law_led", "_law_monomial", "_law_one_right", "_law_path", "_law_pot", "_law_reached", "_law_right", "_law_rule", "_law_rules", "_law_weights", "all_ends", "all_led"]
def loose1 : List PySem.Str := ["are_counts_to", "are_rules", "end_by", "end_of", "ends_in_some_way", "first_going", "goes_by_of", "greater", "have_one_end", "is_count", "is_greater", "is_integer", "is_monomial_of", "is_order_value", "is_rule_of", "led_by", "order_key", "path_by", "path_of", "want_at_most", "want_led", "want_monomial", "want_order", "want_rules"]
def loose : List PySem.Str := loose0 ++ loose1
theorem run (w : World) : HandSHeadRun.RunEq R (PySem.W.view R.prog [60]) hk ob 4000 loose w := by
  intro os
  kernel_rfl

open VL PySem PySem.Spec PyProof.Rows L2
abbrev Gg (K : Fr) (mg : Str → Option Value) : Prop := Gd fa fn bl K mg
/-! ### is_integer -/
def m_is_integer : MD := defM 1 [false] ((sRet (mAnd (mIsi "int" (oN 0)) (mNot (mIsi "bool" (oN 0))))))
theorem sc_is_integer : FnScope ["value"] ["value"] (defScope s_is_integer) := ⟨rfl, rfl, rfl, by decide +kernel, rfl, by decide +kernel, by decide +kernel⟩
section
variable {P : Program} {w : World} {K : Fr} {mg : Str → Option Value} {base : Heap}
noncomputable def fd_is_integer (g : Gg K mg) : FuncData := Classical.choose (g.c.def_ 2 (d := d_is_integer) rfl)
theorem F_is_integer (g : Gg K mg) : FunD K "is_integer" "is_integer" (defArgs s_is_integer) (defBody s_is_integer) (defScope s_is_integer) [] [] (He.ga K "is_integer") (fd_is_integer g) := Classical.choose_spec (g.c.def_ 2 (d := d_is_integer) rfl)
theorem b_is_integer (g : Gg K mg) : Binds K (fd_is_integer g) ["value"] [] := (F_is_integer g).bindsN fun _ _ _ _ _ _ us hl => match us, hl with | [_], _ => rfl
theorem t_is_integer (g : Gg K mg) : FnG P w K mg base CX0 1 (He.ga K "is_integer") (fd_is_integer g) ["value"] (spD K m_is_integer) := fn_d (F_is_integer g) sc_is_integer rfl fun cdv A outer s H E hr =>
    (pst_1 (ps_ret' (px_and (px_isi isTy_int rfl (g.free 49) (po_n (pv 0)) rfl (g.free 48)) (px_one (px_not (px_isi isTy_bool rfl (g.free 49) (po_n (pv 0)) rfl (g.free 46)))))))
end
/-! ### is_count -/
def m_is_count : MD := defM 1 [false] ((sRet (mAnd (mCallD m_is_integer [false] [] (aCons (oE (mZ 0)) aNil)) (mBin gGe (oN 0) (oE (mC (.int 0)))))))
theorem sc_is_count : FnScope ["value"] ["value"] (defScope s_is_count) := ⟨rfl, rfl, rfl, by decide +kernel, rfl, by decide +kernel, by decide +kernel⟩
section
variable {P : Program} {w : World} {K : Fr} {mg : Str → Option Value} {base : Heap}
noncomputable def fd_is_count (g : Gg K mg) : FuncData := Classical.choose (g.c.def_ 3 (d := d_is_count) rfl)
theorem F_is_count (g : Gg K mg) : FunD K "is_count" "is_count" (defArgs s_is_count) (defBody s_is_count) (defScope s_is_count) [] [] (He.ga K "is_count") (fd_is_count g) := Classical.choose_spec (g.c.def_ 3 (d := d_is_count) rfl)
theorem b_is_count (g : Gg K mg) : Binds K (fd_is_count g) ["value"] [] := (F_is_count g).bindsN fun _ _ _ _ _ _ us hl => match us, hl with | [_], _ => rfl
theorem t_is_count (g : Gg K mg) : FnG P w K mg base CX0 2 (He.ga K "is_count") (fd_is_count g) ["value"] (spD K m_is_count) := fn_d (F_is_count g) sc_is_count rfl fun cdv A outer s H E hr =>
    (pst_1 (ps_ret' (px_and (px_call (t_is_integer g) defM_Len (hr.mono (by decide)) rfl (g.glo 0) (F_is_integer g).kp (b_is_integer g) (pa_c (PX.po (px_z (pv 0))) pa_0)) (px_one (px_cmp od_ge (po_n (pv 0)) (PX.po px_int) (nomark _))))))
end
/-! ### want_at_most -/
def m_want_at_most : MD := defM 3 [false, false, false] ((sIf (bV (mBin gGt (oN 2) (oN 1))) sNo sNx))
theorem sc_want_at_most : FnScope ["what", "limit", "number"] ["what", "limit", "number"] (defScope s_want_at_most) := ⟨rfl, rfl, rfl, by decide +kernel, rfl, by decide +kernel, by decide +kernel⟩
section
variable {P : Program} {w : World} {K : Fr} {mg : Str → Option Value} {base : Heap}
noncomputable def fd_want_at_most (g : Gg K mg) : FuncData := Classical.choose (g.c.def_ 4 (d := d_want_at_most) rfl)
theorem F_want_at_most (g : Gg K mg) : FunD K "want_at_most" "want_at_most" (defArgs s_want_at_most) (defBody s_want_at_most) (defScope s_want_at_most) [] [] (He.ga K "want_at_most") (fd_want_at_most g) := Classical.choose_spec (g.c.def_ 4 (d := d_want_at_most) rfl)
theorem b_want_at_most (g : Gg K mg) : Binds K (fd_want_at_most g) ["what", "limit", "number"] [] := (F_want_at_most g).bindsN fun _ _ _ _ _ _ us hl => match us, hl with | [_, _, _], _ => rfl
theorem t_want_at_most (g : Gg K mg) : FnG P w K mg base CX0 1 (He.ga K "want_at_most") (fd_want_at_most g) ["what", "limit", "number"] (spD K m_want_at_most) := fn_d (F_want_at_most g) sc_want_at_most rfl fun cdv A outer s H E hr =>
    (pst_1 (ps_if' (pb_cmp (od_gt hr.u) (po_n (pv 2)) (po_n (pv 1)) (nomark _)) (pst_1 ps_no) pst_0))
end
/-! ### are_counts_to -/
def l_are_counts_to_1 : ME := mLC (iV (mZ 1)) (gN 2) bYes (mAnd (mCallD m_is_count [false] [] (aCons (oE (mZ 2)) aNil)) (mBin gLe (oN 2) (oN 0))) [2]
def m_are_counts_to : MD := defM 3 [false, false] ((sRet (mAnd (mIsi "tuple" (oN 1)) (mCB gAll (aCons (oE l_are_counts_to_1) aNil)))))
theorem sc_are_counts_to : FnScope ["most", "value", "one"] ["most", "value"] (defScope s_are_counts_to) := ⟨rfl, rfl, rfl, by decide +kernel, rfl, by decide +kernel, by decide +kernel⟩
section
variable {P : Program} {w : World} {K : Fr} {mg : Str → Option Value} {base : Heap}
noncomputable def fd_are_counts_to (g : Gg K mg) : FuncData := Classical.choose (g.c.def_ 5 (d := d_are_counts_to) rfl)
theorem F_are_counts_to (g : Gg K mg) : FunD K "are_counts_to" "are_counts_to" (defArgs s_are_counts_to) (defBody s_are_counts_to) (defScope s_are_counts_to) [] [] (He.ga K "are_counts_to") (fd_are_counts_to g) := Classical.choose_spec (g.c.def_ 5 (d := d_are_counts_to) rfl)
theorem b_are_counts_to (g : Gg K mg) : Binds K (fd_are_counts_to g) ["most", "value"] [] := (F_are_counts_to g).bindsN fun _ _ _ _ _ _ us hl => match us, hl with | [_, _], _ => rfl
theorem t_are_counts_to (g : Gg K mg) : FnG P w K mg base CX0 3 (He.ga K "are_counts_to") (fd_are_counts_to g) ["most", "value"] (spD K m_are_counts_to) := fn_d (F_are_counts_to g) sc_are_counts_to rfl fun cdv A outer s H E hr =>
    (pst_1 (ps_ret' (px_and (px_isi isTy_tuple rfl (g.free 49) (po_n (pv 1)) rfl (g.free 57)) (px_one (px_cb (cd_all rfl) rfl (g.free 45) (by decide +kernel) (pa_c (PX.po (px_lc' [("one", 2)] sc_are_counts_to.nd (pit_v (px_z (pv 1))) (blkOk_by (by rfl)) (fun n s H C cl fp => (tg_n 2 sc_are_counts_to.nd (oth (by rfl)))) (fun s H C cl fp => pts_0) (fun s H C cl fp => (px_and (px_call (t_is_count g) defM_Len (hr.mono (by decide)) rfl (g.glo 1) (F_is_count g).kp (b_is_count g) (pa_c (PX.po (px_z (pv 2))) pa_0)) (px_one (px_cmp od_le (po_n (pv 2)) (po_n (pv 0)) (nomark _))))))) pa_0))))))
end
/-! ### is_monomial_of -/
def m_is_monomial_of : MD := defM 2 [false, false] ((sRet (mAnd (mCallD m_are_counts_to [false, false] [] (aCons (oE (mC (.int 20000))) (aCons (oE (mZ 1)) aNil))) (mBin gEq (oE (mCB gLen (aCons (oN 1) aNil))) (oN 0)))))
theorem sc_is_monomial_of : FnScope ["many", "value"] ["many", "value"] (defScope s_is_monomial_of) := ⟨rfl, rfl, rfl, by decide +kernel, rfl, by decide +kernel, by decide +kernel⟩
section
variable {P : Program} {w : World} {K : Fr} {mg : Str → Option Value} {base : Heap}
noncomputable def fd_is_monomial_of (g : Gg K mg) : FuncData := Classical.choose (g.c.def_ 6 (d := d_is_monomial_of) rfl)
theorem F_is_monomial_of (g : Gg K mg) : FunD K "is_monomial_of" "is_monomial_of" (defArgs s_is_monomial_of) (defBody s_is_monomial_of) (defScope s_is_monomial_of) [] [] (He.ga K "is_monomial_of") (fd_is_monomial_of g) := Classical.choose_spec (g.c.def_ 6 (d := d_is_monomial_of) rfl)
theorem b_is_monomial_of (g : Gg K mg) : Binds K (fd_is_monomial_of g) ["many", "value"] [] := (F_is_monomial_of g).bindsN fun _ _ _ _ _ _ us hl => match us, hl with | [_, _], _ => rfl
theorem t_is_monomial_of (g : Gg K mg) : FnG P w K mg base CX0 4 (He.ga K "is_monomial_of") (fd_is_monomial_of g) ["many", "value"] (spD K m_is_monomial_of) := fn_d (F_is_monomial_of g) sc_is_monomial_of rfl fun cdv A outer s H E hr =>
    (pst_1 (ps_ret' (px_and (px_call (t_are_counts_to g) defM_Len (hr.mono (by decide)) rfl (g.glo 3) (F_are_counts_to g).kp (b_are_counts_to g) (pa_c (PX.po (px_gint rfl (g.int 61))) (pa_c (PX.po (px_z (pv 1))) pa_0))) (px_one (px_cmp (od_eq hr.u') (PX.po (px_cb cd_len rfl (g.free 50) (by decide +kernel) (pa_c (po_n (pv 1)) pa_0))) (po_n (pv 0)) (nomark _))))))
end
/-! ### is_order_value -/
def m_is_order_value : MD := defM 1 [false] ((sSeq
    (sIf (bOr (bNot (bT (oE (mIsi "tuple" (oN 0))))) (bOr (bV (mBin gNe (oE (mCB gLen (aCons (oN 0) aNil))) (oE (mC (.int 2))))) (bOr (bNot (bT (oE (mIsi "str" (oE (mBin gIx (oN 0) (oE (mC (.int 0))))))))) (bV (mBin gNe (oE (mBin gIx (oN 0) (oE (mC (.int 0))))) (oE (mC (.str "order")))))))) (sRet (mC (.bool false))) sNx)
    (sRet (mAnd (mCallD m_are_counts_to [false, false] [] (aCons (oE (mC (.int 99))) (aCons (oE (mBin gIx (oN 0) (oE (mC (.int 1))))) aNil))) (mChain gLe gLe (oE (mC (.int 1))) (oE (mCB gLen (aCons (oE (mBin gIx (oN 0) (oE (mC (.int 1))))) aNil))) (oE (mC (.int 40))))))))
theorem sc_is_order_value : FnScope ["value"] ["value"] (defScope s_is_order_value) := ⟨rfl, rfl, rfl, by decide +kernel, rfl, by decide +kernel, by decide +kernel⟩
section
variable {P : Program} {w : World} {K : Fr} {mg : Str → Option Value} {base : Heap}
noncomputable def fd_is_order_value (g : Gg K mg) : FuncData := Classical.choose (g.c.def_ 7 (d := d_is_order_value) rfl)
theorem F_is_order_value (g : Gg K mg) : FunD K "is_order_value" "is_order_value" (defArgs s_is_order_value) (defBody s_is_order_value) (defScope s_is_order_value) [] [] (He.ga K "is_order_value") (fd_is_order_value g) := Classical.choose_spec (g.c.def_ 7 (d := d_is_order_value) rfl)
theorem b_is_order_value (g : Gg K mg) : Binds K (fd_is_order_value g) ["value"] [] := (F_is_order_value g).bindsN fun _ _ _ _ _ _ us hl => match us, hl with | [_], _ => rfl
theorem t_is_order_value (g : Gg K mg) : FnG P w K mg base CX0 4 (He.ga K "is_order_value") (fd_is_order_value g) ["value"] (spD K m_is_order_value) := fn_d (F_is_order_value g) sc_is_order_value rfl fun cdv A outer s H E hr =>
    (pst_c
      (ps_if' (PBw.pb (pbw_or (pb_not (pb_t (PX.po (px_isi isTy_tuple rfl (g.free 49) (po_n (pv 0)) rfl (g.free 57))))) (pbw_or (pb_cmp (od_ne hr.u') (PX.po (px_cb cd_len rfl (g.free 50) (by decide +kernel) (pa_c (po_n (pv 0)) pa_0))) (PX.po px_int) (nomark _)) (pbw_or (pb_not (pb_t (PX.po (px_isi isTy_str rfl (g.free 49) (PX.po (px_ix (po_n (pv 0)) (PX.po px_int))) rfl (g.free 55))))) (pbw_or1 (pb_cmp (od_ne hr.u') (PX.po (px_ix (po_n (pv 0)) (PX.po px_int))) (PX.po (px_gstr rfl (g.str 62))) (nomark _))))))) (pst_1 (ps_ret' px_bl)) pst_0)
    (pst_1 (ps_ret' (px_and (px_call (t_are_counts_to g) defM_Len (hr.mono (by decide)) rfl (g.glo 3) (F_are_counts_to g).kp (b_are_counts_to g) (pa_c (PX.po (px_gint rfl (g.int 60))) (pa_c (PX.po (px_ix (po_n (pv 0)) (PX.po px_int))) pa_0))) (px_one (px_chain od_le od_le (PX.po px_int) (PX.po (px_cb cd_len rfl (g.free 50) (by decide +kernel) (pa_c (PX.po (px_ix (po_n (pv 0)) (PX.po px_int))) pa_0))) (PX.po (px_gint rfl (g.int 59)))))))))
end
/-! ### want_order -/
def m_want_order : MD := defM 1 [false] ((sSeq
    (sIf (bNot (bT (oE (mCallD m_is_order_value [false] [] (aCons (oE (mZ 0)) aNil))))) sNo sNx)
    (sRet (mM 0))))
theorem sc_want_order : FnScope ["value"] ["value"] (defScope s_want_order) := ⟨rfl, rfl, rfl, by decide +kernel, rfl, by decide +kernel, by decide +kernel⟩
section
variable {P : Program} {w : World} {K : Fr} {mg : Str → Option Value} {base : Heap}
noncomputable def fd_want_order (g : Gg K mg) : FuncData := Classical.choose (g.c.def_ 8 (d := d_want_order) rfl)
theorem F_want_order (g : Gg K mg) : FunD K "want_order" "want_order" (defArgs s_want_order) (defBody s_want_order) (defScope s_want_order) [] [] (He.ga K "want_order") (fd_want_order g) := Classical.choose_spec (g.c.def_ 8 (d := d_want_order) rfl)
theorem b_want_order (g : Gg K mg) : Binds K (fd_want_order g) ["value"] [] := (F_want_order g).bindsN fun _ _ _ _ _ _ us hl => match us, hl with | [_], _ => rfl
theorem t_want_order (g : Gg K mg) : FnG P w K mg base CX0 5 (He.ga K "want_order") (fd_want_order g) ["value"] (spD K m_want_order) := fn_d (F_want_order g) sc_want_order rfl fun cdv A outer s H E hr =>
    (pst_c
      (ps_if' (pb_not (pb_t (PX.po (px_call (t_is_order_value g) defM_Len (hr.mono (by decide)) rfl (g.glo 5) (F_is_order_value g).kp (b_is_order_value g) (pa_c (PX.po (px_z (pv 0))) pa_0))))) (pst_1 ps_no) pst_0)
    (pst_1 (ps_ret' (px_m (pv 0)))))
end
/-! ### want_monomial -/
def m_want_monomial : MD := defM 2 [false, false] ((sSeq
    (sIf (bNot (bT (oE (mCallD m_is_monomial_of [false, false] [] (aCons (oE (mZ 0)) (aCons (oE (mZ 1)) aNil)))))) sNo sNx)
    (sRet (mM 1))))
theorem sc_want_monomial : FnScope ["many", "value"] ["many", "value"] (defScope s_want_monomial) := ⟨rfl, rfl, rfl, by decide +kernel, rfl, by decide +kernel, by decide +kernel⟩
section
variable {P : Program} {w : World} {K : Fr} {mg : Str → Option Value} {base : Heap}
noncomputable def fd_want_monomial (g : Gg K mg) : FuncData := Classical.choose (g.c.def_ 9 (d := d_want_monomial) rfl)
theorem F_want_monomial (g : Gg K mg) : FunD K "want_monomial" "want_monomial" (defArgs s_want_monomial) (defBody s_want_monomial) (defScope s_want_monomial) [] [] (He.ga K "want_monomial") (fd_want_monomial g) := Classical.choose_spec (g.c.def_ 9 (d := d_want_monomial) rfl)
theorem b_want_monomial (g : Gg K mg) : Binds K (fd_want_monomial g) ["many", "value"] [] := (F_want_monomial g).bindsN fun _ _ _ _ _ _ us hl => match us, hl with | [_, _], _ => rfl
theorem t_want_monomial (g : Gg K mg) : FnG P w K mg base CX0 5 (He.ga K "want_monomial") (fd_want_monomial g) ["many", "value"] (spD K m_want_monomial) := fn_d (F_want_monomial g) sc_want_monomial rfl fun cdv A outer s H E hr =>
    (pst_c
      (ps_if' (pb_not (pb_t (PX.po (px_call (t_is_monomial_of g) defM_Len (hr.mono (by decide)) rfl (g.glo 4) (F_is_monomial_of g).kp (b_is_monomial_of g) (pa_c (PX.po (px_z (pv 0))) (pa_c (PX.po (px_z (pv 1))) pa_0)))))) (pst_1 ps_no) pst_0)
    (pst_1 (ps_ret' (px_m (pv 1)))))
end
/-! ### order_key -/
def l_order_key_1 : ME := mLC (iV (mF (mRev (oN 1)))) (gN 4) bYes (mUn gNeg (oN 4)) [4]
def l_order_key_2 : ME := mLC (iZ zip2D (aCons (oE (mZ 0)) (aCons (oE (mZ 1)) aNil))) (gT 2 (gsC (gN 3) (gsC (gN 4) gs0))) bYes (mF (mBin gMul (oN 3) (oN 4))) [3, 4]
def m_order_key : MD := defM 5 [false, false] ((sSeq
    (sSet 2 (mCB gSum (aCons (oE l_order_key_2) aNil)))
    (sRet (mTup (aCons (oE (mZ 2)) (aCons (oE (mCB gSum (aCons (oN 1) aNil))) (aCons (oE (mCB gTup (aCons (oE l_order_key_1) aNil))) aNil)))))))
theorem sc_order_key : FnScope ["weights", "monomial", "weighed", "weight", "count"] ["weights", "monomial"] (defScope s_order_key) := ⟨rfl, rfl, rfl, by decide +kernel, rfl, by decide +kernel, by decide +kernel⟩
section
variable {P : Program} {w : World} {K : Fr} {mg : Str → Option Value} {base : Heap}
noncomputable def fd_order_key (g : Gg K mg) : FuncData := Classical.choose (g.c.def_ 10 (d := d_order_key) rfl)
theorem F_order_key (g : Gg K mg) : FunD K "order_key" "order_key" (defArgs s_order_key) (defBody s_order_key) (defScope s_order_key) [] [] (He.ga K "order_key") (fd_order_key g) := Classical.choose_spec (g.c.def_ 10 (d := d_order_key) rfl)
theorem b_order_key (g : Gg K mg) : Binds K (fd_order_key g) ["weights", "monomial"] [] := (F_order_key g).bindsN fun _ _ _ _ _ _ us hl => match us, hl with | [_, _], _ => rfl
theorem t_order_key (g : Gg K mg) : FnG P w K mg base CX0 1 (He.ga K "order_key") (fd_order_key g) ["weights", "monomial"] (spD K m_order_key) := fn_d (F_order_key g) sc_order_key rfl fun cdv A outer s H E hr =>
    (pst_c
      (st_set 2 sc_order_key.nd (px_cb (cd_sum rfl) rfl (g.free 56) (by decide +kernel) (pa_c (PX.po (px_lc' [("weight", 3), ("count", 4)] sc_order_key.nd (pit_zip2 rfl (g.free 58) (pa_c (PX.po (px_z (pv 0))) (pa_c (PX.po (px_z (pv 1))) pa_0))) (blkOk_by (by rfl)) (fun n s H C cl fp => (ptg_t (n := 2) rfl (ptgs_c (tg_n 3 sc_order_key.nd (oth (by rfl))) (ptgs_c (tg_n 4 sc_order_key.nd (oth (by rfl))) ptgs_0)))) (fun s H C cl fp => pts_0) (fun s H C cl fp => (px_f (px_op od_mul (po_n (pv 3)) (po_n (pv 4))))))) pa_0)))
    (pst_1 (ps_ret' (px_tup (pa_c (PX.po (px_z (pv 2))) (pa_c (PX.po (px_cb (cd_sum rfl) rfl (g.free 56) (by decide +kernel) (pa_c (po_n (pv 1)) pa_0))) (pa_c (PX.po (px_ct cd_tup rfl (g.free 57) (by decide +kernel) (pa_c (PX.po (px_lc' [("count", 4)] sc_order_key.nd (pit_v (px_f (px_rev (po_n (pv 1))))) (blkOk_by (by rfl)) (fun n s H C cl fp => (tg_n 4 sc_order_key.nd (oth (by rfl)))) (fun s H C cl fp => pts_0) (fun s H C cl fp => (px_un ud_neg (po_n (pv 4)))))) pa_0))) pa_0)))))))
end
/-! ### is_greater -/
def m_is_greater : MD := defM 3 [false, false, false] ((sRet (mBin gGt (oE (mCallD m_order_key [false, false] [] (aCons (oE (mZ 0)) (aCons (oE (mZ 1)) aNil)))) (oE (mCallD m_order_key [false, false] [] (aCons (oE (mZ 0)) (aCons (oE (mZ 2)) aNil)))))))
theorem sc_is_greater : FnScope ["weights", "one", "other"] ["weights", "one", "other"] (defScope s_is_greater) := ⟨rfl, rfl, rfl, by decide +kernel, rfl, by decide +kernel, by decide +kernel⟩
section
variable {P : Program} {w : World} {K : Fr} {mg : Str → Option Value} {base : Heap}
noncomputable def fd_is_greater (g : Gg K mg) : FuncData := Classical.choose (g.c.def_ 11 (d := d_is_greater) rfl)
theorem F_is_greater (g : Gg K mg) : FunD K "is_greater" "is_greater" (defArgs s_is_greater) (defBody s_is_greater) (defScope s_is_greater) [] [] (He.ga K "is_greater") (fd_is_greater g) := Classical.choose_spec (g.c.def_ 11 (d := d_is_greater) rfl)
theorem b_is_greater (g : Gg K mg) : Binds K (fd_is_greater g) ["weights", "one", "other"] [] := (F_is_greater g).bindsN fun _ _ _ _ _ _ us hl => match us, hl with | [_, _, _], _ => rfl
theorem t_is_greater (g : Gg K mg) : FnG P w K mg base CX0 2 (He.ga K "is_greater") (fd_is_greater g) ["weights", "one", "other"] (spD K m_is_greater) := fn_d (F_is_greater g) sc_is_greater rfl fun cdv A outer s H E hr =>
    (pst_1 (ps_ret' (px_cmp (od_gt hr.u) (PX.po (px_call (t_order_key g) defM_Len (hr.mono (by decide)) rfl (g.glo 8) (F_order_key g).kp (b_order_key g) (pa_c (PX.po (px_z (pv 0))) (pa_c (PX.po (px_z (pv 1))) pa_0)))) (PX.po (px_call (t_order_key g) defM_Len (hr.mono (by decide)) rfl (g.glo 8) (F_order_key g).kp (b_order_key g) (pa_c (PX.po (px_z (pv 0))) (pa_c (PX.po (px_z (pv 2))) pa_0)))) (nomark _))))
end
/-! ### greater -/
def k_greater_1 : MS := (sSet 3 (mBin gIx (oE (mCallD m_want_order [false] [] (aCons (oE (mZ 0)) aNil))) (oE (mC (.int 1)))))
def k_greater_2 : MS := (sDrop (mCallD m_want_monomial [false, false] [] (aCons (oE (mCB gLen (aCons (oN 3) aNil))) (aCons (oE (mZ 1)) aNil))))
def k_greater_3 : MS := (sDrop (mCallD m_want_monomial [false, false] [] (aCons (oE (mCB gLen (aCons (oN 3) aNil))) (aCons (oE (mZ 2)) aNil))))
def k_greater_4 : MS := (sIf (bV (mBin gEq (oN 1) (oN 2))) (sRet (mC (.int 0))) sNx)
def k_greater_5 : MS := (sRet (mIf (bT (oE (mCallD m_is_greater [false, false, false] [] (aCons (oE (mZ 3)) (aCons (oE (mZ 1)) (aCons (oE (mZ 2)) aNil)))))) (mC (.int 1)) (mUn gNeg (oE (mC (.int 1))))))
def m_greater : MD := defM 4 [false, false, false] ((sSeq k_greater_1 (sSeq k_greater_2 (sSeq k_greater_3 (sSeq k_greater_4 k_greater_5)))))
theorem sc_greater : FnScope ["order", "one", "other", "weights"] ["order", "one", "other"] (defScope s_greater) := ⟨rfl, rfl, rfl, by decide +kernel, rfl, by decide +kernel, by decide +kernel⟩
section
variable {P : Program} {w : World} {K : Fr} {mg : Str → Option Value} {base : Heap}
noncomputable def fd_greater (g : Gg K mg) : FuncData := Classical.choose (g.c.def_ 12 (d := d_greater) rfl)
theorem F_greater (g : Gg K mg) : FunD K "greater" "greater" (defArgs s_greater) (defBody s_greater) (defScope s_greater) [] [] (He.ga K "greater") (fd_greater g) := Classical.choose_spec (g.c.def_ 12 (d := d_greater) rfl)
theorem b_greater (g : Gg K mg) : Binds K (fd_greater g) ["order", "one", "other"] [] := (F_greater g).bindsN fun _ _ _ _ _ _ us hl => match us, hl with | [_, _, _], _ => rfl
theorem t_greater (g : Gg K mg) : FnG P w K mg base CX0 6 (He.ga K "greater") (fd_greater g) ["order", "one", "other"] (spD K m_greater) := fn_d (F_greater g) sc_greater rfl fun cdv A outer s H E hr =>
    (pst_c
      (st_set 3 sc_greater.nd (px_ix (PX.po (px_call (t_want_order g) defM_Len (hr.mono (by decide)) rfl (g.glo 6) (F_want_order g).kp (b_want_order g) (pa_c (PX.po (px_z (pv 0))) pa_0))) (PX.po px_int)))
    (pst_c
      (ps_ex (px_call (t_want_monomial g) defM_Len (hr.mono (by decide)) rfl (g.glo 7) (F_want_monomial g).kp (b_want_monomial g) (pa_c (PX.po (px_cb cd_len rfl (g.free 50) (by decide +kernel) (pa_c (po_n (pv 3)) pa_0))) (pa_c (PX.po (px_z (pv 1))) pa_0))))
    (pst_c
      (ps_ex (px_call (t_want_monomial g) defM_Len (hr.mono (by decide)) rfl (g.glo 7) (F_want_monomial g).kp (b_want_monomial g) (pa_c (PX.po (px_cb cd_len rfl (g.free 50) (by decide +kernel) (pa_c (po_n (pv 3)) pa_0))) (pa_c (PX.po (px_z (pv 2))) pa_0))))
    (pst_c
      (ps_if' (pb_cmp (od_eq hr.u') (po_n (pv 1)) (po_n (pv 2)) (nomark _)) (pst_1 (ps_ret' px_int)) pst_0)
    (pst_1 (ps_ret' (px_if (pb_t (PX.po (px_call (t_is_greater g) defM_Len (hr.mono (by decide)) rfl (g.glo 9) (F_is_greater g).kp (b_is_greater g) (pa_c (PX.po (px_z (pv 3))) (pa_c (PX.po (px_z (pv 1))) (pa_c (PX.po (px_z (pv 2))) pa_0)))))) px_int (px_un ud_neg (PX.po px_int)))))))))
end
/-! ### goes_by_of -/
def l_goes_by_of_1 : ME := mLC (iZ zip2D (aCons (oE (mBin gIx (oN 0) (oE (mC (.int 0))))) (aCons (oE (mZ 1)) aNil))) (gT 2 (gsC (gN 2) (gsC (gN 3) gs0))) bYes (mBin gLe (oN 2) (oN 3)) [2, 3]
def m_goes_by_of : MD := defM 4 [false, false] ((sRet (mCB gAll (aCons (oE l_goes_by_of_1) aNil))))
theorem sc_goes_by_of : FnScope ["rule", "monomial", "less", "count"] ["rule", "monomial"] (defScope s_goes_by_of) := ⟨rfl, rfl, rfl, by decide +kernel, rfl, by decide +kernel, by decide +kernel⟩
section
variable {P : Program} {w : World} {K : Fr} {mg : Str → Option Value} {base : Heap}
noncomputable def fd_goes_by_of (g : Gg K mg) : FuncData := Classical.choose (g.c.def_ 13 (d := d_goes_by_of) rfl)
theorem F_goes_by_of (g : Gg K mg) : FunD K "goes_by_of" "goes_by_of" (defArgs s_goes_by_of) (defBody s_goes_by_of) (defScope s_goes_by_of) [] [] (He.ga K "goes_by_of") (fd_goes_by_of g) := Classical.choose_spec (g.c.def_ 13 (d := d_goes_by_of) rfl)
theorem b_goes_by_of (g : Gg K mg) : Binds K (fd_goes_by_of g) ["rule", "monomial"] [] := (F_goes_by_of g).bindsN fun _ _ _ _ _ _ us hl => match us, hl with | [_, _], _ => rfl
theorem t_goes_by_of (g : Gg K mg) : FnG P w K mg base CX0 1 (He.ga K "goes_by_of") (fd_goes_by_of g) ["rule", "monomial"] (spD K m_goes_by_of) := fn_d (F_goes_by_of g) sc_goes_by_of rfl fun cdv A outer s H E hr =>
    (pst_1 (ps_ret' (px_cb (cd_all rfl) rfl (g.free 45) (by decide +kernel) (pa_c (PX.po (px_lc' [("less", 2), ("count", 3)] sc_goes_by_of.nd (pit_zip2 rfl (g.free 58) (pa_c (PX.po (px_ix (po_n (pv 0)) (PX.po px_int))) (pa_c (PX.po (px_z (pv 1))) pa_0))) (blkOk_by (by rfl)) (fun n s H C cl fp => (ptg_t (n := 2) rfl (ptgs_c (tg_n 2 sc_goes_by_of.nd (oth (by rfl))) (ptgs_c (tg_n 3 sc_goes_by_of.nd (oth (by rfl))) ptgs_0)))) (fun s H C cl fp => pts_0) (fun s H C cl fp => (px_cmp od_le (po_n (pv 2)) (po_n (pv 3)) (nomark _))))) pa_0))))
end
/-! ### led_by -/
def k_led_by_1 : MS := (sAsg (mZ 0) (gT 2 (gsC (gN 2) (gsC (gN 3) gs0))))
def l_led_by_1 : ME := mLC (iZ zip3D (aCons (oE (mZ 1)) (aCons (oE (mZ 2)) (aCons (oE (mZ 3)) aNil)))) (gT 3 (gsC (gN 5) (gsC (gN 6) (gsC (gN 7) gs0)))) bYes (mF (mBin gAdd (oE (mBin gSub (oN 5) (oN 6))) (oN 7))) [5, 6, 7]
def k_led_by_2 : MS := (sSet 4 (mCB gTup (aCons (oE l_led_by_1) aNil)))
def k_led_by_3 : MS := (sDrop (mCallD m_want_at_most [false, false, false] [] (aCons (oE (mC (.str "counts"))) (aCons (oE (mC (.int 20000))) (aCons (oE (mCB gMax (aCons (oN 4) aNil))) aNil)))))
def k_led_by_4 : MS := (sRet (mM 4))
def m_led_by : MD := defM 8 [false, false] ((sSeq k_led_by_1 (sSeq k_led_by_2 (sSeq k_led_by_3 k_led_by_4))))
theorem sc_led_by : FnScope ["rule", "monomial", "ahead", "behind", "found", "count", "less", "more"] ["rule", "monomial"] (defScope s_led_by) := ⟨rfl, rfl, rfl, by decide +kernel, rfl, by decide +kernel, by decide +kernel⟩
section
variable {P : Program} {w : World} {K : Fr} {mg : Str → Option Value} {base : Heap}
noncomputable def fd_led_by (g : Gg K mg) : FuncData := Classical.choose (g.c.def_ 14 (d := d_led_by) rfl)
theorem F_led_by (g : Gg K mg) : FunD K "led_by" "led_by" (defArgs s_led_by) (defBody s_led_by) (defScope s_led_by) [] [] (He.ga K "led_by") (fd_led_by g) := Classical.choose_spec (g.c.def_ 14 (d := d_led_by) rfl)
theorem b_led_by (g : Gg K mg) : Binds K (fd_led_by g) ["rule", "monomial"] [] := (F_led_by g).bindsN fun _ _ _ _ _ _ us hl => match us, hl with | [_, _], _ => rfl
theorem t_led_by (g : Gg K mg) : FnG P w K mg base CX0 2 (He.ga K "led_by") (fd_led_by g) ["rule", "monomial"] (spD K m_led_by) := fn_d (F_led_by g) sc_led_by rfl fun cdv A outer s H E hr =>
    (pst_c
      (ps_asgT (px_z (pv 0)) (pth_t (n := 2) rfl (pths_c (th_n 2 sc_led_by.nd) (pths_c (th_n 3 sc_led_by.nd) pths_0))))
    (pst_c
      (st_set 4 sc_led_by.nd (px_ct cd_tup rfl (g.free 57) (by decide +kernel) (pa_c (PX.po (px_lc' [("count", 5), ("less", 6), ("more", 7)] sc_led_by.nd (pit_zip3 rfl (g.free 58) (pa_c (PX.po (px_z (pv 1))) (pa_c (PX.po (px_z (pv 2))) (pa_c (PX.po (px_z (pv 3))) pa_0)))) (blkOk_by (by rfl)) (fun n s H C cl fp => (ptg_t (n := 3) rfl (ptgs_c (tg_n 5 sc_led_by.nd (oth (by rfl))) (ptgs_c (tg_n 6 sc_led_by.nd (oth (by rfl))) (ptgs_c (tg_n 7 sc_led_by.nd (oth (by rfl))) ptgs_0))))) (fun s H C cl fp => pts_0) (fun s H C cl fp => (px_f (px_op od_add (PX.po (px_op od_sub (po_n (pv 5)) (po_n (pv 6)))) (po_n (pv 7))))))) pa_0)))
    (pst_c
      (ps_ex (px_call (t_want_at_most g) defM_Len (hr.mono (by decide)) rfl (g.glo 2) (F_want_at_most g).kp (b_want_at_most g) (pa_c (PX.po px_str) (pa_c (PX.po (px_gint rfl (g.int 61))) (pa_c (PX.po (px_cb (cd_max rfl hr.u) rfl (g.free 51) (by decide +kernel) (pa_c (po_n (pv 4)) pa_0))) pa_0)))))
    (pst_1 (ps_ret' (px_m (pv 4)))))))
end
/-! ### is_rule_of -/
def k_is_rule_of_1 : MS := (sSet 2 (mBin gIx (oN 0) (oE (mC (.int 1)))))
def k_is_rule_of_2 : MS := (sIf (bOr (bNot (bT (oE (mIsi "tuple" (oN 1))))) (bV (mBin gNe (oE (mCB gLen (aCons (oN 1) aNil))) (oE (mC (.int 2)))))) (sRet (mC (.bool false))) sNx)
def l_is_rule_of_1 : ME := mLC (iV (mZ 1)) (gN 3) bYes (mF (mCallD m_is_monomial_of [false, false] [] (aCons (oE (mCB gLen (aCons (oN 2) aNil))) (aCons (oE (mZ 3)) aNil)))) [3]
def k_is_rule_of_3 : MS := (sIf (bNot (bT (oE (mCB gAll (aCons (oE l_is_rule_of_1) aNil))))) (sRet (mC (.bool false))) sNx)
def k_is_rule_of_4 : MS := (sRet (mCallD m_is_greater [false, false, false] [] (aCons (oE (mZ 2)) (aCons (oE (mBin gIx (oN 1) (oE (mC (.int 0))))) (aCons (oE (mBin gIx (oN 1) (oE (mC (.int 1))))) aNil)))))
def m_is_rule_of : MD := defM 4 [false, false] ((sSeq k_is_rule_of_1 (sSeq k_is_rule_of_2 (sSeq k_is_rule_of_3 k_is_rule_of_4))))
theorem sc_is_rule_of : FnScope ["order", "value", "weights", "one"] ["order", "value"] (defScope s_is_rule_of) := ⟨rfl, rfl, rfl, by decide +kernel, rfl, by decide +kernel, by decide +kernel⟩
section
variable {P : Program} {w : World} {K : Fr} {mg : Str → Option Value} {base : Heap}
noncomputable def fd_is_rule_of (g : Gg K mg) : FuncData := Classical.choose (g.c.def_ 15 (d := d_is_rule_of) rfl)
theorem F_is_rule_of (g : Gg K mg) : FunD K "is_rule_of" "is_rule_of" (defArgs s_is_rule_of) (defBody s_is_rule_of) (defScope s_is_rule_of) [] [] (He.ga K "is_rule_of") (fd_is_rule_of g) := Classical.choose_spec (g.c.def_ 15 (d := d_is_rule_of) rfl)
theorem b_is_rule_of (g : Gg K mg) : Binds K (fd_is_rule_of g) ["order", "value"] [] := (F_is_rule_of g).bindsN fun _ _ _ _ _ _ us hl => match us, hl with | [_, _], _ => rfl
theorem t_is_rule_of (g : Gg K mg) : FnG P w K mg base CX0 5 (He.ga K "is_rule_of") (fd_is_rule_of g) ["order", "value"] (spD K m_is_rule_of) := fn_d (F_is_rule_of g) sc_is_rule_of rfl fun cdv A outer s H E hr =>
    (pst_c
      (st_set 2 sc_is_rule_of.nd (px_ix (po_n (pv 0)) (PX.po px_int)))
    (pst_c
      (ps_if' (PBw.pb (pbw_or (pb_not (pb_t (PX.po (px_isi isTy_tuple rfl (g.free 49) (po_n (pv 1)) rfl (g.free 57))))) (pbw_or1 (pb_cmp (od_ne hr.u') (PX.po (px_cb cd_len rfl (g.free 50) (by decide +kernel) (pa_c (po_n (pv 1)) pa_0))) (PX.po px_int) (nomark _))))) (pst_1 (ps_ret' px_bl)) pst_0)
    (pst_c
      (ps_if' (pb_not (pb_t (PX.po (px_cb (cd_all rfl) rfl (g.free 45) (by decide +kernel) (pa_c (PX.po (px_lc' [("one", 3)] sc_is_rule_of.nd (pit_v (px_z (pv 1))) (blkOk_by (by rfl)) (fun n s H C cl fp => (tg_n 3 sc_is_rule_of.nd (oth (by rfl)))) (fun s H C cl fp => pts_0) (fun s H C cl fp => (px_f (px_call (t_is_monomial_of g) defM_Len (hr.mono (by decide)) rfl (g.glo 4) (F_is_monomial_of g).kp (b_is_monomial_of g) (pa_c (PX.po (px_cb cd_len rfl (g.free 50) (by decide +kernel) (pa_c (po_n (pv 2)) pa_0))) (pa_c (PX.po (px_z (pv 3))) pa_0))))))) pa_0))))) (pst_1 (ps_ret' px_bl)) pst_0)
    (pst_1 (ps_ret' (px_call (t_is_greater g) defM_Len (hr.mono (by decide)) rfl (g.glo 9) (F_is_greater g).kp (b_is_greater g) (pa_c (PX.po (px_z (pv 2))) (pa_c (PX.po (px_ix (po_n (pv 1)) (PX.po px_int))) (pa_c (PX.po (px_ix (po_n (pv 1)) (PX.po px_int))) pa_0)))))))))
end
/-! ### are_rules -/
def l_are_rules_1 : ME := mLC (iZ zip2D (aCons (oE (mZ 1)) (aCons (oE (mF (mSl (oN 1) (some (oE (mC (.int 1)))) none))) aNil))) (gT 2 (gsC (gN 2) (gsC (gN 3) gs0))) bYes (mBin gLt (oN 2) (oN 3)) [2, 3]
def l_are_rules_2 : ME := mLC (iV (mZ 1)) (gN 2) bYes (mF (mCallD m_is_rule_of [false, false] [] (aCons (oE (mZ 0)) (aCons (oE (mZ 2)) aNil)))) [2]
def m_are_rules : MD := defM 4 [false, false] ((sSeq
    (sIf (bOr (bNot (bT (oE (mIsi "tuple" (oN 1))))) (bOr (bV (mBin gGt (oE (mCB gLen (aCons (oN 1) aNil))) (oE (mC (.int 200))))) (bNot (bT (oE (mCB gAll (aCons (oE l_are_rules_2) aNil))))))) (sRet (mC (.bool false))) sNx)
    (sRet (mCB gAll (aCons (oE l_are_rules_1) aNil)))))
theorem sc_are_rules : FnScope ["order", "value", "one", "other"] ["order", "value"] (defScope s_are_rules) := ⟨rfl, rfl, rfl, by decide +kernel, rfl, by decide +kernel, by decide +kernel⟩
section
variable {P : Program} {w : World} {K : Fr} {mg : Str → Option Value} {base : Heap}
noncomputable def fd_are_rules (g : Gg K mg) : FuncData := Classical.choose (g.c.def_ 16 (d := d_are_rules) rfl)
theorem F_are_rules (g : Gg K mg) : FunD K "are_rules" "are_rules" (defArgs s_are_rules) (defBody s_are_rules) (defScope s_are_rules) [] [] (He.ga K "are_rules") (fd_are_rules g) := Classical.choose_spec (g.c.def_ 16 (d := d_are_rules) rfl)
theorem b_are_rules (g : Gg K mg) : Binds K (fd_are_rules g) ["order", "value"] [] := (F_are_rules g).bindsN fun _ _ _ _ _ _ us hl => match us, hl with | [_, _], _ => rfl
theorem t_are_rules (g : Gg K mg) : FnG P w K mg base CX0 6 (He.ga K "are_rules") (fd_are_rules g) ["order", "value"] (spD K m_are_rules) := fn_d (F_are_rules g) sc_are_rules rfl fun cdv A outer s H E hr =>
    (pst_c
      (ps_if' (PBw.pb (pbw_or (pb_not (pb_t (PX.po (px_isi isTy_tuple rfl (g.free 49) (po_n (pv 1)) rfl (g.free 57))))) (pbw_or (pb_cmp (od_gt hr.u) (PX.po (px_cb cd_len rfl (g.free 50) (by decide +kernel) (pa_c (po_n (pv 1)) pa_0))) (PX.po (px_gint rfl (g.int 63))) (nomark _)) (pbw_or1 (pb_not (pb_t (PX.po (px_cb (cd_all rfl) rfl (g.free 45) (by decide +kernel) (pa_c (PX.po (px_lc' [("one", 2)] sc_are_rules.nd (pit_v (px_z (pv 1))) (blkOk_by (by rfl)) (fun n s H C cl fp => (tg_n 2 sc_are_rules.nd (oth (by rfl)))) (fun s H C cl fp => pts_0) (fun s H C cl fp => (px_f (px_call (t_is_rule_of g) defM_Len (hr.mono (by decide)) rfl (g.glo 13) (F_is_rule_of g).kp (b_is_rule_of g) (pa_c (PX.po (px_z (pv 0))) (pa_c (PX.po (px_z (pv 2))) pa_0))))))) pa_0))))))))) (pst_1 (ps_ret' px_bl)) pst_0)
    (pst_1 (ps_ret' (px_cb (cd_all rfl) rfl (g.free 45) (by decide +kernel) (pa_c (PX.po (px_lc' [("one", 2), ("other", 3)] sc_are_rules.nd (pit_zip2 rfl (g.free 58) (pa_c (PX.po (px_z (pv 1))) (pa_c (PX.po (px_f (px_sl (po_n (pv 1)) (ppt_1 (PX.po px_int)) ppt_0))) pa_0))) (blkOk_by (by rfl)) (fun n s H C cl fp => (ptg_t (n := 2) rfl (ptgs_c (tg_n 2 sc_are_rules.nd (oth (by rfl))) (ptgs_c (tg_n 3 sc_are_rules.nd (oth (by rfl))) ptgs_0)))) (fun s H C cl fp => pts_0) (fun s H C cl fp => (px_cmp (od_lt hr.u) (po_n (pv 2)) (po_n (pv 3)) (nomark _))))) pa_0)))))
end
/-! ### want_rules -/
def m_want_rules : MD := defM 2 [false, false] ((sSeq
    (sIf (bNot (bT (oE (mCallD m_are_rules [false, false] [] (aCons (oE (mZ 0)) (aCons (oE (mZ 1)) aNil)))))) sNo sNx)
    (sRet (mM 1))))
theorem sc_want_rules : FnScope ["order", "value"] ["order", "value"] (defScope s_want_rules) := ⟨rfl, rfl, rfl, by decide +kernel, rfl, by decide +kernel, by decide +kernel⟩
section
variable {P : Program} {w : World} {K : Fr} {mg : Str → Option Value} {base : Heap}
noncomputable def fd_want_rules (g : Gg K mg) : FuncData := Classical.choose (g.c.def_ 17 (d := d_want_rules) rfl)
theorem F_want_rules (g : Gg K mg) : FunD K "want_rules" "want_rules" (defArgs s_want_rules) (defBody s_want_rules) (defScope s_want_rules) [] [] (He.ga K "want_rules") (fd_want_rules g) := Classical.choose_spec (g.c.def_ 17 (d := d_want_rules) rfl)
theorem b_want_rules (g : Gg K mg) : Binds K (fd_want_rules g) ["order", "value"] [] := (F_want_rules g).bindsN fun _ _ _ _ _ _ us hl => match us, hl with | [_, _], _ => rfl
theorem t_want_rules (g : Gg K mg) : FnG P w K mg base CX0 7 (He.ga K "want_rules") (fd_want_rules g) ["order", "value"] (spD K m_want_rules) := fn_d (F_want_rules g) sc_want_rules rfl fun cdv A outer s H E hr =>
    (pst_c
      (ps_if' (pb_not (pb_t (PX.po (px_call (t_are_rules g) defM_Len (hr.mono (by decide)) rfl (g.glo 14) (F_are_rules g).kp (b_are_rules g) (pa_c (PX.po (px_z (pv 0))) (pa_c (PX.po (px_z (pv 1))) pa_0)))))) (pst_1 ps_no) pst_0)
    (pst_1 (ps_ret' (px_m (pv 1)))))
end
/-! ### first_going -/
def l_first_going_1 : MS := sFor (iV (mZ 0)) (gN 2) (sIf (bT (oE (mCallD m_goes_by_of [false, false] [] (aCons (oE (mZ 2)) (aCons (oE (mZ 1)) aNil))))) (sRet (mM 2)) sNx)
def m_first_going : MD := defM 3 [false, false] ((sSeq
    l_first_going_1
    (sRet (mC .none))))
theorem sc_first_going : FnScope ["rules", "monomial", "rule"] ["rules", "monomial"] (defScope s_first_going) := ⟨rfl, rfl, rfl, by decide +kernel, rfl, by decide +kernel, by decide +kernel⟩
section
variable {P : Program} {w : World} {K : Fr} {mg : Str → Option Value} {base : Heap}
noncomputable def fd_first_going (g : Gg K mg) : FuncData := Classical.choose (g.c.def_ 18 (d := d_first_going) rfl)
theorem F_first_going (g : Gg K mg) : FunD K "first_going" "first_going" (defArgs s_first_going) (defBody s_first_going) (defScope s_first_going) [] [] (He.ga K "first_going") (fd_first_going g) := Classical.choose_spec (g.c.def_ 18 (d := d_first_going) rfl)
theorem b_first_going (g : Gg K mg) : Binds K (fd_first_going g) ["rules", "monomial"] [] := (F_first_going g).bindsN fun _ _ _ _ _ _ us hl => match us, hl with | [_, _], _ => rfl
theorem t_first_going (g : Gg K mg) : FnG P w K mg base CX0 2 (He.ga K "first_going") (fd_first_going g) ["rules", "monomial"] (spD K m_first_going) := fn_d (F_first_going g) sc_first_going rfl fun cdv A outer s H E hr =>
    (pst_c
      (ps_for' PassesOwn.never rfl (pit_v (px_z (pv 0))) (tg_n 2 sc_first_going.nd) (pst_1 (ps_if' (pb_t (PX.po (px_call (t_goes_by_of g) defM_Len (hr.mono (by decide)) rfl (g.glo 11) (F_goes_by_of g).kp (b_goes_by_of g) (pa_c (PX.po (px_z (pv 2))) (pa_c (PX.po (px_z (pv 1))) pa_0))))) (pst_1 (ps_ret' (px_m (pv 2)))) pst_0)))
    (pst_1 (ps_ret' px_non)))
end
/-! ### end_by -/
def l_end_by_1 : MS := sWh (bV (mBin gIsN (oN 3) (oE (mC .none)))) (sSeq
    (sSet 2 (mCallD m_led_by [false, false] [] (aCons (oE (mZ 3)) (aCons (oE (mZ 2)) aNil))))
    (sSet 3 (mCallD m_first_going [false, false] [] (aCons (oE (mZ 0)) (aCons (oE (mZ 2)) aNil))))) 1000000
def m_end_by : MD := defM 4 [false, false] ((sSeq
    (sPar 2 3 (aCons (oE (mZ 1)) (aCons (oE (mCallD m_first_going [false, false] [] (aCons (oE (mZ 0)) (aCons (oE (mZ 1)) aNil)))) aNil)))
    (sSeq
    l_end_by_1
    (sRet (mM 2)))))
theorem sc_end_by : FnScope ["rules", "monomial", "here", "rule"] ["rules", "monomial"] (defScope s_end_by) := ⟨rfl, rfl, rfl, by decide +kernel, rfl, by decide +kernel, by decide +kernel⟩
section
variable {P : Program} {w : World} {K : Fr} {mg : Str → Option Value} {base : Heap}
noncomputable def fd_end_by (g : Gg K mg) : FuncData := Classical.choose (g.c.def_ 19 (d := d_end_by) rfl)
theorem F_end_by (g : Gg K mg) : FunD K "end_by" "end_by" (defArgs s_end_by) (defBody s_end_by) (defScope s_end_by) [] [] (He.ga K "end_by") (fd_end_by g) := Classical.choose_spec (g.c.def_ 19 (d := d_end_by) rfl)
theorem b_end_by (g : Gg K mg) : Binds K (fd_end_by g) ["rules", "monomial"] [] := (F_end_by g).bindsN fun _ _ _ _ _ _ us hl => match us, hl with | [_, _], _ => rfl
theorem t_end_by (g : Gg K mg) : FnG P w K mg base CX0 3 (He.ga K "end_by") (fd_end_by g) ["rules", "monomial"] (spD K m_end_by) := fn_d (F_end_by g) sc_end_by rfl fun cdv A outer s H E hr =>
    (pst_c
      (st_par 2 3 sc_end_by.nd (pa_c (PX.po (px_z (pv 1))) (pa_c (PX.po (px_call (t_first_going g) defM_Len (hr.mono (by decide)) rfl (g.glo 16) (F_first_going g).kp (b_first_going g) (pa_c (PX.po (px_z (pv 0))) (pa_c (PX.po (px_z (pv 1))) pa_0)))) pa_0)))
    (pst_c
      (ps_wh 1000000 PassesOwn.never (pb_cmp od_isn (po_n (pv 3)) (PX.po px_non) (nomark _)) (pst_c
      (st_set 2 sc_end_by.nd (px_call (t_led_by g) defM_Len (hr.mono (by decide)) rfl (g.glo 12) (F_led_by g).kp (b_led_by g) (pa_c (PX.po (px_z (pv 3))) (pa_c (PX.po (px_z (pv 2))) pa_0))))
    (pst_1 (st_set 3 sc_end_by.nd (px_call (t_first_going g) defM_Len (hr.mono (by decide)) rfl (g.glo 16) (F_first_going g).kp (b_first_going g) (pa_c (PX.po (px_z (pv 0))) (pa_c (PX.po (px_z (pv 2))) pa_0)))))))
    (pst_1 (ps_ret' (px_m (pv 2))))))
end
/-! ### path_by -/
def l_path_by_1 : MS := sWh (bV (mBin gIsN (oN 4) (oE (mC .none)))) (sSeq
    (sDrop (mCallD m_want_at_most [false, false, false] [] (aCons (oE (mC (.str "steps"))) (aCons (oE (mZ 2)) (aCons (oE (mCB gLen (aCons (oN 3) aNil))) aNil)))))
    (sSeq
    (sDrop (mBM 3 gAppend (aCons (oE (mF (mCallD m_led_by [false, false] [] (aCons (oE (mZ 4)) (aCons (oE (mBin gIx (oN 3) (oE (mUn gNeg (oE (mC (.int 1))))))) aNil))))) aNil)))
    (sSet 4 (mCallD m_first_going [false, false] [] (aCons (oE (mZ 0)) (aCons (oE (mBin gIx (oN 3) (oE (mUn gNeg (oE (mC (.int 1))))))) aNil)))))) 1000000
def m_path_by : MD := defM 5 [false, false, false] ((sSeq
    (sPar 3 4 (aCons (oE (mLst (aCons (oE (mZ 1)) aNil))) (aCons (oE (mCallD m_first_going [false, false] [] (aCons (oE (mZ 0)) (aCons (oE (mZ 1)) aNil)))) aNil)))
    (sSeq
    l_path_by_1
    (sRet (mM 3)))))
theorem sc_path_by : FnScope ["rules", "monomial", "most", "found", "rule"] ["rules", "monomial", "most"] (defScope s_path_by) := ⟨rfl, rfl, rfl, by decide +kernel, rfl, by decide +kernel, by decide +kernel⟩
section
variable {P : Program} {w : World} {K : Fr} {mg : Str → Option Value} {base : Heap}
noncomputable def fd_path_by (g : Gg K mg) : FuncData := Classical.choose (g.c.def_ 20 (d := d_path_by) rfl)
theorem F_path_by (g : Gg K mg) : FunD K "path_by" "path_by" (defArgs s_path_by) (defBody s_path_by) (defScope s_path_by) [] [] (He.ga K "path_by") (fd_path_by g) := Classical.choose_spec (g.c.def_ 20 (d := d_path_by) rfl)
theorem b_path_by (g : Gg K mg) : Binds K (fd_path_by g) ["rules", "monomial", "most"] [] := (F_path_by g).bindsN fun _ _ _ _ _ _ us hl => match us, hl with | [_, _, _], _ => rfl
theorem t_path_by (g : Gg K mg) : FnG P w K mg base CX0 3 (He.ga K "path_by") (fd_path_by g) ["rules", "monomial", "most"] (spD K m_path_by) := fn_d (F_path_by g) sc_path_by rfl fun cdv A outer s H E hr =>
    (pst_c
      (st_par 3 4 sc_path_by.nd (pa_c (PX.po (px_lst (pa_c (PX.po (px_z (pv 1))) pa_0))) (pa_c (PX.po (px_call (t_first_going g) defM_Len (hr.mono (by decide)) rfl (g.glo 16) (F_first_going g).kp (b_first_going g) (pa_c (PX.po (px_z (pv 0))) (pa_c (PX.po (px_z (pv 1))) pa_0)))) pa_0)))
    (pst_c
      (ps_wh 1000000 PassesOwn.never (pb_cmp od_isn (po_n (pv 4)) (PX.po px_non) (nomark _)) (pst_c
      (ps_ex (px_call (t_want_at_most g) defM_Len (hr.mono (by decide)) rfl (g.glo 2) (F_want_at_most g).kp (b_want_at_most g) (pa_c (PX.po px_str) (pa_c (PX.po (px_z (pv 2))) (pa_c (PX.po (px_cb cd_len rfl (g.free 50) (by decide +kernel) (pa_c (po_n (pv 3)) pa_0))) pa_0)))))
    (pst_c
      (ps_ex (px_bm md_append F.slot_list_append (by kernel_rfl) (pv 3) (pa_c (PX.po (px_f (px_call (t_led_by g) defM_Len (hr.mono (by decide)) rfl (g.glo 12) (F_led_by g).kp (b_led_by g) (pa_c (PX.po (px_z (pv 4))) (pa_c (PX.po (px_ix (po_n (pv 3)) (PX.po (px_un ud_neg (PX.po px_int))))) pa_0))))) pa_0)))
    (pst_1 (st_set 4 sc_path_by.nd (px_call (t_first_going g) defM_Len (hr.mono (by decide)) rfl (g.glo 16) (F_first_going g).kp (b_first_going g) (pa_c (PX.po (px_z (pv 0))) (pa_c (PX.po (px_ix (po_n (pv 3)) (PX.po (px_un ud_neg (PX.po px_int))))) pa_0))))))))
    (pst_1 (ps_ret' (px_m (pv 3))))))
end
/-! ### all_led -/
def l_all_led_1 : ME := mLC (iV (mZ 0)) (gN 2) (bT (oE (mCallD m_goes_by_of [false, false] [] (aCons (oE (mZ 2)) (aCons (oE (mZ 1)) aNil))))) (mF (mCallD m_led_by [false, false] [] (aCons (oE (mZ 2)) (aCons (oE (mZ 1)) aNil)))) [2]
def m_all_led : MD := defM 3 [false, false] ((sRet l_all_led_1))
theorem sc_all_led : FnScope ["rules", "monomial", "rule"] ["rules", "monomial"] (defScope s_all_led) := ⟨rfl, rfl, rfl, by decide +kernel, rfl, by decide +kernel, by decide +kernel⟩
section
variable {P : Program} {w : World} {K : Fr} {mg : Str → Option Value} {base : Heap}
noncomputable def fd_all_led (g : Gg K mg) : FuncData := Classical.choose (g.c.def_ 21 (d := d_all_led) rfl)
theorem F_all_led (g : Gg K mg) : FunD K "all_led" "all_led" (defArgs s_all_led) (defBody s_all_led) (defScope s_all_led) [] [] (He.ga K "all_led") (fd_all_led g) := Classical.choose_spec (g.c.def_ 21 (d := d_all_led) rfl)
theorem b_all_led (g : Gg K mg) : Binds K (fd_all_led g) ["rules", "monomial"] [] := (F_all_led g).bindsN fun _ _ _ _ _ _ us hl => match us, hl with | [_, _], _ => rfl
theorem t_all_led (g : Gg K mg) : FnG P w K mg base CX0 3 (He.ga K "all_led") (fd_all_led g) ["rules", "monomial"] (spD K m_all_led) := fn_d (F_all_led g) sc_all_led rfl fun cdv A outer s H E hr =>
    (pst_1 (ps_ret' (px_lc' [("rule", 2)] sc_all_led.nd (pit_v (px_z (pv 0))) (blkOk_by (by rfl)) (fun n s H C cl fp => (tg_n 2 sc_all_led.nd (oth (by rfl)))) (fun s H C cl fp => (pts_1 (pb_t (PX.po (px_call (t_goes_by_of g) defM_Len (hr.mono (by decide)) rfl (g.glo 11) (F_goes_by_of g).kp (b_goes_by_of g) (pa_c (PX.po (px_z (pv 2))) (pa_c (PX.po (px_z (pv 1))) pa_0))))))) (fun s H C cl fp => (px_f (px_call (t_led_by g) defM_Len (hr.mono (by decide)) rfl (g.glo 12) (F_led_by g).kp (b_led_by g) (pa_c (PX.po (px_z (pv 2))) (pa_c (PX.po (px_z (pv 1))) pa_0))))))))
end
/-! ### all_ends -/
def l_all_ends_1 : MS := sFor (iV (mZ 6)) (gN 7) (sIf (bV (mDR gNin gDNin (oN 7) (oN 2))) (sSeq
    (sAsg (mC (.bool true)) (gSD 2 (oN 7)))
    (sSeq
    (sDrop (mCallD m_want_at_most [false, false, false] [] (aCons (oE (mC (.str "monomials"))) (aCons (oE (mC (.int 2000))) (aCons (oE (mCD gLen gDLen (oN 2))) aNil)))))
    (sDrop (mBM 3 gAppend (aCons (oE (mZ 7)) aNil))))) sNx)
def l_all_ends_2 : MS := sWh (bT (oN 3)) (sSeq
    (sSet 5 (mBM 3 gPop aNil))
    (sSeq
    (sSet 6 (mCallD m_all_led [false, false] [] (aCons (oE (mZ 0)) (aCons (oE (mZ 5)) aNil))))
    (sSeq
    (sIf (bV (mBin gEq (oN 6) (oE (mLst aNil)))) (sDrop (mBM 4 gAppend (aCons (oE (mZ 5)) aNil))) sNx)
    l_all_ends_1))) 1000000
def m_all_ends : MD := defM 8 [false, false] ((sSeq
    (sPar3 2 3 4 (aCons (oE (mD1 (mZ 1) (mC (.bool true)))) (aCons (oE (mLst (aCons (oE (mZ 1)) aNil))) (aCons (oE (mLst aNil)) aNil))))
    (sSeq
    l_all_ends_2
    (sRet (mCB gSorted (aCons (oN 4) aNil))))))
theorem sc_all_ends : FnScope ["rules", "monomial", "met", "waiting", "found", "here", "some", "late"] ["rules", "monomial"] (defScope s_all_ends) := ⟨rfl, rfl, rfl, by decide +kernel, rfl, by decide +kernel, by decide +kernel⟩
section
variable {P : Program} {w : World} {K : Fr} {mg : Str → Option Value} {base : Heap}
noncomputable def fd_all_ends (g : Gg K mg) : FuncData := Classical.choose (g.c.def_ 22 (d := d_all_ends) rfl)
theorem F_all_ends (g : Gg K mg) : FunD K "all_ends" "all_ends" (defArgs s_all_ends) (defBody s_all_ends) (defScope s_all_ends) [] [] (He.ga K "all_ends") (fd_all_ends g) := Classical.choose_spec (g.c.def_ 22 (d := d_all_ends) rfl)
theorem b_all_ends (g : Gg K mg) : Binds K (fd_all_ends g) ["rules", "monomial"] [] := (F_all_ends g).bindsN fun _ _ _ _ _ _ us hl => match us, hl with | [_, _], _ => rfl
theorem t_all_ends (g : Gg K mg) : FnG P w K mg base CX0 4 (He.ga K "all_ends") (fd_all_ends g) ["rules", "monomial"] (spD K m_all_ends) := fn_d (F_all_ends g) sc_all_ends rfl fun cdv A outer s H E hr =>
    (pst_c
      (st_par3 2 3 4 sc_all_ends.nd (pa_c (PX.po (px_d1 hr.u (px_z (pv 1)) px_bl)) (pa_c (PX.po (px_lst (pa_c (PX.po (px_z (pv 1))) pa_0))) (pa_c (PX.po (px_lst pa_0)) pa_0))))
    (pst_c
      (ps_wh 1000000 PassesOwn.never (pb_t (po_n (pv 3))) (pst_c
      (st_set 5 sc_all_ends.nd (px_bm0 md_pop F.slot_list_pop (by kernel_rfl) (pv 3)))
    (pst_c
      (st_set 6 sc_all_ends.nd (px_call (t_all_led g) defM_Len (hr.mono (by decide)) rfl (g.glo 19) (F_all_led g).kp (b_all_led g) (pa_c (PX.po (px_z (pv 0))) (pa_c (PX.po (px_z (pv 5))) pa_0))))
    (pst_c
      (ps_if' (pb_cmp (od_eq hr.u') (po_n (pv 6)) (PX.po (px_lst pa_0)) (nomark _)) (pst_1 (ps_ex (px_bm md_append F.slot_list_append (by kernel_rfl) (pv 4) (pa_c (PX.po (px_z (pv 5))) pa_0)))) pst_0)
    (pst_1 (ps_for' PassesOwn.never rfl (pit_v (px_z (pv 6))) (tg_n 7 sc_all_ends.nd) (pst_1 (ps_if' (pb_dnin hr.u (po_n (pv 7)) (po_n (pv 2)) (by rfl)) (pst_c
      (ps_asgT px_bl (pth_sd hr.u (pv 2) (po_n (pv 7))))
    (pst_c
      (ps_ex (px_call (t_want_at_most g) defM_Len (hr.mono (by decide)) rfl (g.glo 2) (F_want_at_most g).kp (b_want_at_most g) (pa_c (PX.po px_str) (pa_c (PX.po (px_gint rfl (g.int 65))) (pa_c (PX.po (px_dlen rfl (g.free 50) (by decide +kernel) (po_n (pv 2)))) pa_0)))))
    (pst_1 (ps_ex (px_bm md_append F.slot_list_append (by kernel_rfl) (pv 3) (pa_c (PX.po (px_z (pv 7))) pa_0)))))) pst_0))))))))
    (pst_1 (ps_ret' (px_cb (cd_sorted hr.u) rfl (g.free 54) (by decide +kernel) (pa_c (po_n (pv 4)) pa_0))))))
end
/-! ### want_led -/
def m_want_led : MD := defM 3 [false, false, false] ((sSeq
    (sDrop (mCallD m_want_order [false] [] (aCons (oE (mZ 0)) aNil)))
    (sSeq
    (sDrop (mCallD m_want_rules [false, false] [] (aCons (oE (mZ 0)) (aCons (oE (mZ 1)) aNil))))
    (sDrop (mCallD m_want_monomial [false, false] [] (aCons (oE (mCB gLen (aCons (oE (mBin gIx (oN 0) (oE (mC (.int 1))))) aNil))) (aCons (oE (mZ 2)) aNil)))))))
theorem sc_want_led : FnScope ["order", "rules", "monomial"] ["order", "rules", "monomial"] (defScope s_want_led) := ⟨rfl, rfl, rfl, by decide +kernel, rfl, by decide +kernel, by decide +kernel⟩
section
variable {P : Program} {w : World} {K : Fr} {mg : Str → Option Value} {base : Heap}
noncomputable def fd_want_led (g : Gg K mg) : FuncData := Classical.choose (g.c.def_ 23 (d := d_want_led) rfl)
theorem F_want_led (g : Gg K mg) : FunD K "want_led" "want_led" (defArgs s_want_led) (defBody s_want_led) (defScope s_want_led) [] [] (He.ga K "want_led") (fd_want_led g) := Classical.choose_spec (g.c.def_ 23 (d := d_want_led) rfl)
theorem b_want_led (g : Gg K mg) : Binds K (fd_want_led g) ["order", "rules", "monomial"] [] := (F_want_led g).bindsN fun _ _ _ _ _ _ us hl => match us, hl with | [_, _, _], _ => rfl
theorem t_want_led (g : Gg K mg) : FnG P w K mg base CX0 8 (He.ga K "want_led") (fd_want_led g) ["order", "rules", "monomial"] (spD K m_want_led) := fn_d (F_want_led g) sc_want_led rfl fun cdv A outer s H E hr =>
    (pst_c
      (ps_ex (px_call (t_want_order g) defM_Len (hr.mono (by decide)) rfl (g.glo 6) (F_want_order g).kp (b_want_order g) (pa_c (PX.po (px_z (pv 0))) pa_0)))
    (pst_c
      (ps_ex (px_call (t_want_rules g) defM_Len (hr.mono (by decide)) rfl (g.glo 15) (F_want_rules g).kp (b_want_rules g) (pa_c (PX.po (px_z (pv 0))) (pa_c (PX.po (px_z (pv 1))) pa_0))))
    (pst_1 (ps_ex (px_call (t_want_monomial g) defM_Len (hr.mono (by decide)) rfl (g.glo 7) (F_want_monomial g).kp (b_want_monomial g) (pa_c (PX.po (px_cb cd_len rfl (g.free 50) (by decide +kernel) (pa_c (PX.po (px_ix (po_n (pv 0)) (PX.po px_int))) pa_0))) (pa_c (PX.po (px_z (pv 2))) pa_0)))))))
end
/-! ### end_of -/
def m_end_of : MD := defM 3 [false, false, false] ((sSeq
    (sDrop (mCallD m_want_led [false, false, false] [] (aCons (oE (mZ 0)) (aCons (oE (mZ 1)) (aCons (oE (mZ 2)) aNil)))))
    (sRet (mCallD m_end_by [false, false] [] (aCons (oE (mZ 1)) (aCons (oE (mZ 2)) aNil))))))
theorem sc_end_of : FnScope ["order", "rules", "monomial"] ["order", "rules", "monomial"] (defScope s_end_of) := ⟨rfl, rfl, rfl, by decide +kernel, rfl, by decide +kernel, by decide +kernel⟩
section
variable {P : Program} {w : World} {K : Fr} {mg : Str → Option Value} {base : Heap}
noncomputable def fd_end_of (g : Gg K mg) : FuncData := Classical.choose (g.c.def_ 24 (d := d_end_of) rfl)
theorem F_end_of (g : Gg K mg) : FunD K "end_of" "end_of" (defArgs s_end_of) (defBody s_end_of) (defScope s_end_of) [] [] (He.ga K "end_of") (fd_end_of g) := Classical.choose_spec (g.c.def_ 24 (d := d_end_of) rfl)
theorem b_end_of (g : Gg K mg) : Binds K (fd_end_of g) ["order", "rules", "monomial"] [] := (F_end_of g).bindsN fun _ _ _ _ _ _ us hl => match us, hl with | [_, _, _], _ => rfl
theorem kb_end_of_0 {K : Fr} {mg : Str → Option Value} (g : Gg K mg) : KBinds K (fd_end_of g) ["order", "rules", "monomial"] ["monomial", "rules", "order"] (gk 0 3 [2, 1, 0]) (gk 0 3 [2, 1, 0]) := kb_of (F_end_of g) 0 3 [2, 1, 0] (by decide) fun _ _ _ _ _ _ us ws h1 h2 => match us, ws, h1, h2 with | [], [_, _, _], _, _ => rfl
theorem t_end_of (g : Gg K mg) : FnG P w K mg base CX0 9 (He.ga K "end_of") (fd_end_of g) ["order", "rules", "monomial"] (spD K m_end_of) := fn_d (F_end_of g) sc_end_of rfl fun cdv A outer s H E hr =>
    (pst_c
      (ps_ex (px_call (t_want_led g) defM_Len (hr.mono (by decide)) rfl (g.glo 21) (F_want_led g).kp (b_want_led g) (pa_c (PX.po (px_z (pv 0))) (pa_c (PX.po (px_z (pv 1))) (pa_c (PX.po (px_z (pv 2))) pa_0)))))
    (pst_1 (ps_ret' (px_call (t_end_by g) defM_Len (hr.mono (by decide)) rfl (g.glo 17) (F_end_by g).kp (b_end_by g) (pa_c (PX.po (px_z (pv 1))) (pa_c (PX.po (px_z (pv 2))) pa_0))))))
end
/-! ### path_of -/
def m_path_of : MD := defM 3 [false, false, false] ((sSeq
    (sDrop (mCallD m_want_led [false, false, false] [] (aCons (oE (mZ 0)) (aCons (oE (mZ 1)) (aCons (oE (mZ 2)) aNil)))))
    (sRet (mCallD m_path_by [false, false, false] [] (aCons (oE (mZ 1)) (aCons (oE (mZ 2)) (aCons (oE (mC (.int 2000))) aNil)))))))
theorem sc_path_of : FnScope ["order", "rules", "monomial"] ["order", "rules", "monomial"] (defScope s_path_of) := ⟨rfl, rfl, rfl, by decide +kernel, rfl, by decide +kernel, by decide +kernel⟩
section
variable {P : Program} {w : World} {K : Fr} {mg : Str → Option Value} {base : Heap}
noncomputable def fd_path_of (g : Gg K mg) : FuncData := Classical.choose (g.c.def_ 25 (d := d_path_of) rfl)
theorem F_path_of (g : Gg K mg) : FunD K "path_of" "path_of" (defArgs s_path_of) (defBody s_path_of) (defScope s_path_of) [] [] (He.ga K "path_of") (fd_path_of g) := Classical.choose_spec (g.c.def_ 25 (d := d_path_of) rfl)
theorem b_path_of (g : Gg K mg) : Binds K (fd_path_of g) ["order", "rules", "monomial"] [] := (F_path_of g).bindsN fun _ _ _ _ _ _ us hl => match us, hl with | [_, _, _], _ => rfl
theorem kb_path_of_0 {K : Fr} {mg : Str → Option Value} (g : Gg K mg) : KBinds K (fd_path_of g) ["order", "rules", "monomial"] ["monomial", "rules", "order"] (gk 0 3 [2, 1, 0]) (gk 0 3 [2, 1, 0]) := kb_of (F_path_of g) 0 3 [2, 1, 0] (by decide) fun _ _ _ _ _ _ us ws h1 h2 => match us, ws, h1, h2 with | [], [_, _, _], _, _ => rfl
theorem t_path_of (g : Gg K mg) : FnG P w K mg base CX0 9 (He.ga K "path_of") (fd_path_of g) ["order", "rules", "monomial"] (spD K m_path_of) := fn_d (F_path_of g) sc_path_of rfl fun cdv A outer s H E hr =>
    (pst_c
      (ps_ex (px_call (t_want_led g) defM_Len (hr.mono (by decide)) rfl (g.glo 21) (F_want_led g).kp (b_want_led g) (pa_c (PX.po (px_z (pv 0))) (pa_c (PX.po (px_z (pv 1))) (pa_c (PX.po (px_z (pv 2))) pa_0)))))
    (pst_1 (ps_ret' (px_call (t_path_by g) defM_Len (hr.mono (by decide)) rfl (g.glo 18) (F_path_by g).kp (b_path_by g) (pa_c (PX.po (px_z (pv 1))) (pa_c (PX.po (px_z (pv 2))) (pa_c (PX.po (px_gint rfl (g.int 64))) pa_0)))))))
end
/-! ### have_one_end -/
def m_have_one_end : MD := defM 4 [false, false, false, false] ((sSeq
    (sDrop (mCallD m_want_led [false, false, false] [] (aCons (oE (mZ 0)) (aCons (oE (mZ 1)) (aCons (oE (mZ 2)) aNil)))))
    (sSeq
    (sDrop (mCallD m_want_monomial [false, false] [] (aCons (oE (mCB gLen (aCons (oE (mBin gIx (oN 0) (oE (mC (.int 1))))) aNil))) (aCons (oE (mZ 3)) aNil))))
    (sRet (mBin gEq (oE (mCallD m_end_by [false, false] [] (aCons (oE (mZ 1)) (aCons (oE (mZ 2)) aNil)))) (oE (mCallD m_end_by [false, false] [] (aCons (oE (mZ 1)) (aCons (oE (mZ 3)) aNil)))))))))
theorem sc_have_one_end : FnScope ["order", "rules", "one", "other"] ["order", "rules", "one", "other"] (defScope s_have_one_end) := ⟨rfl, rfl, rfl, by decide +kernel, rfl, by decide +kernel, by decide +kernel⟩
section
variable {P : Program} {w : World} {K : Fr} {mg : Str → Option Value} {base : Heap}
noncomputable def fd_have_one_end (g : Gg K mg) : FuncData := Classical.choose (g.c.def_ 26 (d := d_have_one_end) rfl)
theorem F_have_one_end (g : Gg K mg) : FunD K "have_one_end" "have_one_end" (defArgs s_have_one_end) (defBody s_have_one_end) (defScope s_have_one_end) [] [] (He.ga K "have_one_end") (fd_have_one_end g) := Classical.choose_spec (g.c.def_ 26 (d := d_have_one_end) rfl)
theorem b_have_one_end (g : Gg K mg) : Binds K (fd_have_one_end g) ["order", "rules", "one", "other"] [] := (F_have_one_end g).bindsN fun _ _ _ _ _ _ us hl => match us, hl with | [_, _, _, _], _ => rfl
theorem kb_have_one_end_0 {K : Fr} {mg : Str → Option Value} (g : Gg K mg) : KBinds K (fd_have_one_end g) ["order", "rules", "one", "other"] ["other", "one", "rules", "order"] (gk 0 4 [3, 2, 1, 0]) (gk 0 4 [3, 2, 1, 0]) := kb_of (F_have_one_end g) 0 4 [3, 2, 1, 0] (by decide) fun _ _ _ _ _ _ us ws h1 h2 => match us, ws, h1, h2 with | [], [_, _, _, _], _, _ => rfl
theorem t_have_one_end (g : Gg K mg) : FnG P w K mg base CX0 9 (He.ga K "have_one_end") (fd_have_one_end g) ["order", "rules", "one", "other"] (spD K m_have_one_end) := fn_d (F_have_one_end g) sc_have_one_end rfl fun cdv A outer s H E hr =>
    (pst_c
      (ps_ex (px_call (t_want_led g) defM_Len (hr.mono (by decide)) rfl (g.glo 21) (F_want_led g).kp (b_want_led g) (pa_c (PX.po (px_z (pv 0))) (pa_c (PX.po (px_z (pv 1))) (pa_c (PX.po (px_z (pv 2))) pa_0)))))
    (pst_c
      (ps_ex (px_call (t_want_monomial g) defM_Len (hr.mono (by decide)) rfl (g.glo 7) (F_want_monomial g).kp (b_want_monomial g) (pa_c (PX.po (px_cb cd_len rfl (g.free 50) (by decide +kernel) (pa_c (PX.po (px_ix (po_n (pv 0)) (PX.po px_int))) pa_0))) (pa_c (PX.po (px_z (pv 3))) pa_0))))
    (pst_1 (ps_ret' (px_cmp (od_eq hr.u') (PX.po (px_call (t_end_by g) defM_Len (hr.mono (by decide)) rfl (g.glo 17) (F_end_by g).kp (b_end_by g) (pa_c (PX.po (px_z (pv 1))) (pa_c (PX.po (px_z (pv 2))) pa_0)))) (PX.po (px_call (t_end_by g) defM_Len (hr.mono (by decide)) rfl (g.glo 17) (F_end_by g).kp (b_end_by g) (pa_c (PX.po (px_z (pv 1))) (pa_c (PX.po (px_z (pv 3))) pa_0)))) (nomark _))))))
end
/-! ### ends_in_some_way -/
def m_ends_in_some_way : MD := defM 3 [false, false, false] ((sSeq
    (sDrop (mCallD m_want_led [false, false, false] [] (aCons (oE (mZ 0)) (aCons (oE (mZ 1)) (aCons (oE (mZ 2)) aNil)))))
    (sRet (mCallD m_all_ends [false, false] [] (aCons (oE (mZ 1)) (aCons (oE (mZ 2)) aNil))))))
theorem sc_ends_in_some_way : FnScope ["order", "rules", "monomial"] ["order", "rules", "monomial"] (defScope s_ends_in_some_way) := ⟨rfl, rfl, rfl, by decide +kernel, rfl, by decide +kernel, by decide +kernel⟩
section
variable {P : Program} {w : World} {K : Fr} {mg : Str → Option Value} {base : Heap}
noncomputable def fd_ends_in_some_way (g : Gg K mg) : FuncData := Classical.choose (g.c.def_ 27 (d := d_ends_in_some_way) rfl)
theorem F_ends_in_some_way (g : Gg K mg) : FunD K "ends_in_some_way" "ends_in_some_way" (defArgs s_ends_in_some_way) (defBody s_ends_in_some_way) (defScope s_ends_in_some_way) [] [] (He.ga K "ends_in_some_way") (fd_ends_in_some_way g) := Classical.choose_spec (g.c.def_ 27 (d := d_ends_in_some_way) rfl)
theorem b_ends_in_some_way (g : Gg K mg) : Binds K (fd_ends_in_some_way g) ["order", "rules", "monomial"] [] := (F_ends_in_some_way g).bindsN fun _ _ _ _ _ _ us hl => match us, hl with | [_, _, _], _ => rfl
theorem kb_ends_in_some_way_0 {K : Fr} {mg : Str → Option Value} (g : Gg K mg) : KBinds K (fd_ends_in_some_way g) ["order", "rules", "monomial"] ["monomial", "rules", "order"] (gk 0 3 [2, 1, 0]) (gk 0 3 [2, 1, 0]) := kb_of (F_ends_in_some_way g) 0 3 [2, 1, 0] (by decide) fun _ _ _ _ _ _ us ws h1 h2 => match us, ws, h1, h2 with | [], [_, _, _], _, _ => rfl
theorem t_ends_in_some_way (g : Gg K mg) : FnG P w K mg base CX0 9 (He.ga K "ends_in_some_way") (fd_ends_in_some_way g) ["order", "rules", "monomial"] (spD K m_ends_in_some_way) := fn_d (F_ends_in_some_way g) sc_ends_in_some_way rfl fun cdv A outer s H E hr =>
    (pst_c
      (ps_ex (px_call (t_want_led g) defM_Len (hr.mono (by decide)) rfl (g.glo 21) (F_want_led g).kp (b_want_led g) (pa_c (PX.po (px_z (pv 0))) (pa_c (PX.po (px_z (pv 1))) (pa_c (PX.po (px_z (pv 2))) pa_0)))))
    (pst_1 (ps_ret' (px_call (t_all_ends g) defM_Len (hr.mono (by decide)) rfl (g.glo 20) (F_all_ends g).kp (b_all_ends g) (pa_c (PX.po (px_z (pv 1))) (pa_c (PX.po (px_z (pv 2))) pa_0))))))
end
/-! ### _law_pot -/
def m_L_pot : MD := defM 3 [false, false] ((sSeq
    (sSet 2 (mIf (bV (mBin gLt (oN 1) (oE (mCB gLen (aCons (oN 0) aNil))))) (mCB gAbs (aCons (oE (mBin gIx (oN 0) (oN 1))) aNil)) (mBin gAdd (oE (mBin gMul (oE (mC (.int 1301))) (oN 1))) (oE (mC (.int 1129))))))
    (sRet (mLst (aCons (oE (mCB gMax2 (aCons (oE (mC (.int 0))) (aCons (oE (mBin gSub (oN 2) (oE (mBin gPow (oE (mC (.int 10))) (oE (mC (.int 18))))))) aNil)))) (aCons (oE (mBin gAdd (oE (mBin gMod (oE (mCB gInt (aCons (oE (mBin gAdd (oE (mBin gAdd (oE (mBin gMul (oE (mBin gMod (oE (mCB gInt (aCons (oN 2) aNil))) (oE (mC (.int 2147483549))))) (oE (mC (.int 48271))))) (oE (mBin gMul (oE (mC (.int 28060))) (oN 1))))) (oE (mC (.int 1049))))) aNil))) (oE (mC (.int 2147483563))))) (oE (mC (.int 1))))) aNil))))))
theorem sc_L_pot : FnScope ["_law_script", "_law_k", "_law_cell"] ["_law_script", "_law_k"] (defScope s_L_pot) := ⟨rfl, rfl, rfl, by decide +kernel, rfl, by decide +kernel, by decide +kernel⟩
section
variable {P : Program} {w : World} {K : Fr} {mg : Str → Option Value} {base : Heap}
noncomputable def fd_L_pot (g : Gg K mg) : FuncData := Classical.choose (g.c.def_ 28 (d := d_L_pot) rfl)
theorem F_L_pot (g : Gg K mg) : FunD K "_law_pot" "_law_pot" (defArgs s_L_pot) (defBody s_L_pot) (defScope s_L_pot) [] [] (He.ga K "_law_pot") (fd_L_pot g) := Classical.choose_spec (g.c.def_ 28 (d := d_L_pot) rfl)
theorem b_L_pot (g : Gg K mg) : Binds K (fd_L_pot g) ["_law_script", "_law_k"] [] := (F_L_pot g).bindsN fun _ _ _ _ _ _ us hl => match us, hl with | [_, _], _ => rfl
theorem t_L_pot (g : Gg K mg) : FnG P w K mg base CX0 1 (He.ga K "_law_pot") (fd_L_pot g) ["_law_script", "_law_k"] (spD K m_L_pot) := fn_d (F_L_pot g) sc_L_pot rfl fun cdv A outer s H E hr =>
    (pst_c
      (st_set 2 sc_L_pot.nd (px_if (pb_cmp (od_lt hr.u) (po_n (pv 1)) (PX.po (px_cb cd_len rfl (g.free 50) (by decide +kernel) (pa_c (po_n (pv 0)) pa_0))) (nomark _)) (px_cb cd_abs rfl (g.free 44) (by decide +kernel) (pa_c (PX.po (px_ix (po_n (pv 0)) (po_n (pv 1)))) pa_0)) (px_op od_add (PX.po (px_op od_mul (PX.po px_int) (po_n (pv 1)))) (PX.po px_int))))
    (pst_1 (ps_ret' (px_lst (pa_c (PX.po (px_cb (cd_max2 rfl) rfl (g.free 51) (by decide +kernel) (pa_c (PX.po px_int) (pa_c (PX.po (px_op od_sub (po_n (pv 2)) (PX.po (px_op od_pow (PX.po px_int) (PX.po px_int))))) pa_0)))) (pa_c (PX.po (px_op od_add (PX.po (px_op od_mod (PX.po (px_ct cd_int rfl (g.free 48) (by decide +kernel) (pa_c (PX.po (px_op od_add (PX.po (px_op od_add (PX.po (px_op od_mul (PX.po (px_op od_mod (PX.po (px_ct cd_int rfl (g.free 48) (by decide +kernel) (pa_c (po_n (pv 2)) pa_0))) (PX.po px_int))) (PX.po px_int))) (PX.po (px_op od_mul (PX.po px_int) (po_n (pv 1)))))) (PX.po px_int))) pa_0))) (PX.po px_int))) (PX.po px_int))) pa_0))))))
end
/-! ### _law_draw -/
def m_L_draw : MD := defM 3 [true, false] ((sSeq
    (sIf (bV (mBin gGt (oE (mBin gIx (oN 0) (oE (mC (.int 0))))) (oE (mC (.int 0))))) (sSeq
    (sAsg (mCB gDivmod (aCons (oE (mBin gIx (oN 0) (oE (mC (.int 0))))) (aCons (oN 1) aNil))) (gT 2 (gsC (gS 0 (oE (mC (.int 0)))) (gsC (gN 2) gs0))))
    (sRet (mM 2))) sNx)
    (sSeq
    (sAsg (mBin gMod (oE (mCB gInt (aCons (oE (mBin gAdd (oE (mBin gMul (oE (mBin gIx (oN 0) (oE (mC (.int 1))))) (oE (mC (.int 39373))))) (oE (mC (.int 1049))))) aNil))) (oE (mC (.int 2147483587)))) (gS 0 (oE (mC (.int 1)))))
    (sRet (mBin gMod (oE (mCB gInt (aCons (oE (mBin gFdiv (oE (mBin gMod (oE (mCB gInt (aCons (oE (mBin gMul (oE (mBin gIx (oN 0) (oE (mC (.int 1))))) (oE (mBin gIx (oN 0) (oE (mC (.int 1))))))) aNil))) (oE (mC (.int 2147483563))))) (oE (mC (.int 17))))) aNil))) (oN 1))))))
theorem sc_L_draw : FnScope ["_law_pot_here", "_law_many", "_law_digit"] ["_law_pot_here", "_law_many"] (defScope s_L_draw) := ⟨rfl, rfl, rfl, by decide +kernel, rfl, by decide +kernel, by decide +kernel⟩
section
variable {P : Program} {w : World} {K : Fr} {mg : Str → Option Value} {base : Heap}
noncomputable def fd_L_draw (g : Gg K mg) : FuncData := Classical.choose (g.c.def_ 29 (d := d_L_draw) rfl)
theorem F_L_draw (g : Gg K mg) : FunD K "_law_draw" "_law_draw" (defArgs s_L_draw) (defBody s_L_draw) (defScope s_L_draw) [] [] (He.ga K "_law_draw") (fd_L_draw g) := Classical.choose_spec (g.c.def_ 29 (d := d_L_draw) rfl)
theorem b_L_draw (g : Gg K mg) : Binds K (fd_L_draw g) ["_law_pot_here", "_law_many"] [] := (F_L_draw g).bindsN fun _ _ _ _ _ _ us hl => match us, hl with | [_, _], _ => rfl
theorem t_L_draw (g : Gg K mg) : FnG P w K mg base CX0 1 (He.ga K "_law_draw") (fd_L_draw g) ["_law_pot_here", "_law_many"] (spD K m_L_draw) := fn_d (F_L_draw g) sc_L_draw rfl fun cdv A outer s H E hr =>
    (pst_c
      (ps_if' (pb_cmp (od_gt hr.u) (PX.po (px_ix (po_n (pv 0)) (PX.po px_int))) (PX.po px_int) (nomark _)) (pst_c
      (ps_asgT (px_cb cd_divmod rfl (g.free 47) (by decide +kernel) (pa_c (PX.po (px_ix (po_n (pv 0)) (PX.po px_int))) (pa_c (po_n (pv 1)) pa_0))) (pth_t (n := 2) rfl (pths_c (pth_s (pv 0) (PX.po px_int)) (pths_c (th_n 2 sc_L_draw.nd) pths_0))))
    (pst_1 (ps_ret' (px_m (pv 2))))) pst_0)
    (pst_c
      (ps_asgT (px_op od_mod (PX.po (px_ct cd_int rfl (g.free 48) (by decide +kernel) (pa_c (PX.po (px_op od_add (PX.po (px_op od_mul (PX.po (px_ix (po_n (pv 0)) (PX.po px_int))) (PX.po px_int))) (PX.po px_int))) pa_0))) (PX.po px_int)) (pth_s (pv 0) (PX.po px_int)))
    (pst_1 (ps_ret' (px_op od_mod (PX.po (px_ct cd_int rfl (g.free 48) (by decide +kernel) (pa_c (PX.po (px_op od_fdiv (PX.po (px_op od_mod (PX.po (px_ct cd_int rfl (g.free 48) (by decide +kernel) (pa_c (PX.po (px_op od_mul (PX.po (px_ix (po_n (pv 0)) (PX.po px_int))) (PX.po (px_ix (po_n (pv 0)) (PX.po px_int))))) pa_0))) (PX.po px_int))) (PX.po px_int))) pa_0))) (po_n (pv 1)))))))
end
/-! ### _law_key -/
def l_L_key_1 : ME := mLC (iV (mF (mRev (oN 1)))) (gN 4) bYes (mUn gNeg (oN 4)) [4]
def l_L_key_2 : ME := mLC (iZ zip2D (aCons (oE (mZ 0)) (aCons (oE (mZ 1)) aNil))) (gT 2 (gsC (gN 3) (gsC (gN 4) gs0))) bYes (mF (mBin gMul (oN 3) (oN 4))) [3, 4]
def m_L_key : MD := defM 5 [false, false] ((sSeq
    (sSet 2 (mCB gSum (aCons (oE l_L_key_2) aNil)))
    (sRet (mBin gAdd (oE (mTup (aCons (oE (mZ 2)) (aCons (oE (mCB gSum (aCons (oN 1) aNil))) aNil)))) (oE (mCB gTup (aCons (oE l_L_key_1) aNil)))))))
theorem sc_L_key : FnScope ["_law_weights_here", "_law_monomial_here", "_law_weighed", "_law_weight", "_law_count"] ["_law_weights_here", "_law_monomial_here"] (defScope s_L_key) := ⟨rfl, rfl, rfl, by decide +kernel, rfl, by decide +kernel, by decide +kernel⟩
section
variable {P : Program} {w : World} {K : Fr} {mg : Str → Option Value} {base : Heap}
noncomputable def fd_L_key (g : Gg K mg) : FuncData := Classical.choose (g.c.def_ 30 (d := d_L_key) rfl)
theorem F_L_key (g : Gg K mg) : FunD K "_law_key" "_law_key" (defArgs s_L_key) (defBody s_L_key) (defScope s_L_key) [] [] (He.ga K "_law_key") (fd_L_key g) := Classical.choose_spec (g.c.def_ 30 (d := d_L_key) rfl)
theorem b_L_key (g : Gg K mg) : Binds K (fd_L_key g) ["_law_weights_here", "_law_monomial_here"] [] := (F_L_key g).bindsN fun _ _ _ _ _ _ us hl => match us, hl with | [_, _], _ => rfl
theorem t_L_key (g : Gg K mg) : FnG P w K mg base CX0 1 (He.ga K "_law_key") (fd_L_key g) ["_law_weights_here", "_law_monomial_here"] (spD K m_L_key) := fn_d (F_L_key g) sc_L_key rfl fun cdv A outer s H E hr =>
    (pst_c
      (st_set 2 sc_L_key.nd (px_cb (cd_sum rfl) rfl (g.free 56) (by decide +kernel) (pa_c (PX.po (px_lc' [("_law_weight", 3), ("_law_count", 4)] sc_L_key.nd (pit_zip2 rfl (g.free 58) (pa_c (PX.po (px_z (pv 0))) (pa_c (PX.po (px_z (pv 1))) pa_0))) (blkOk_by (by rfl)) (fun n s H C cl fp => (ptg_t (n := 2) rfl (ptgs_c (tg_n 3 sc_L_key.nd (oth (by rfl))) (ptgs_c (tg_n 4 sc_L_key.nd (oth (by rfl))) ptgs_0)))) (fun s H C cl fp => pts_0) (fun s H C cl fp => (px_f (px_op od_mul (po_n (pv 3)) (po_n (pv 4))))))) pa_0)))
    (pst_1 (ps_ret' (px_op od_add (PX.po (px_tup (pa_c (PX.po (px_z (pv 2))) (pa_c (PX.po (px_cb (cd_sum rfl) rfl (g.free 56) (by decide +kernel) (pa_c (po_n (pv 1)) pa_0))) pa_0)))) (PX.po (px_ct cd_tup rfl (g.free 57) (by decide +kernel) (pa_c (PX.po (px_lc' [("_law_count", 4)] sc_L_key.nd (pit_v (px_f (px_rev (po_n (pv 1))))) (blkOk_by (by rfl)) (fun n s H C cl fp => (tg_n 4 sc_L_key.nd (oth (by rfl)))) (fun s H C cl fp => pts_0) (fun s H C cl fp => (px_un ud_neg (po_n (pv 4)))))) pa_0)))))))
end
/-! ### _law_compared -/
def m_L_compared : MD := defM 5 [false, false, false] ((sSeq
    (sPar 3 4 (aCons (oE (mCallD m_L_key [false, false] [] (aCons (oE (mZ 0)) (aCons (oE (mZ 1)) aNil)))) (aCons (oE (mCallD m_L_key [false, false] [] (aCons (oE (mZ 0)) (aCons (oE (mZ 2)) aNil)))) aNil)))
    (sRet (mBin gSub (oE (mBin gGt (oN 3) (oN 4))) (oE (mBin gLt (oN 3) (oN 4)))))))
theorem sc_L_compared : FnScope ["_law_weights_here", "_law_one", "_law_other", "_law_near", "_law_far"] ["_law_weights_here", "_law_one", "_law_other"] (defScope s_L_compared) := ⟨rfl, rfl, rfl, by decide +kernel, rfl, by decide +kernel, by decide +kernel⟩
section
variable {P : Program} {w : World} {K : Fr} {mg : Str → Option Value} {base : Heap}
noncomputable def fd_L_compared (g : Gg K mg) : FuncData := Classical.choose (g.c.def_ 31 (d := d_L_compared) rfl)
theorem F_L_compared (g : Gg K mg) : FunD K "_law_compared" "_law_compared" (defArgs s_L_compared) (defBody s_L_compared) (defScope s_L_compared) [] [] (He.ga K "_law_compared") (fd_L_compared g) := Classical.choose_spec (g.c.def_ 31 (d := d_L_compared) rfl)
theorem b_L_compared (g : Gg K mg) : Binds K (fd_L_compared g) ["_law_weights_here", "_law_one", "_law_other"] [] := (F_L_compared g).bindsN fun _ _ _ _ _ _ us hl => match us, hl with | [_, _, _], _ => rfl
theorem t_L_compared (g : Gg K mg) : FnG P w K mg base CX0 2 (He.ga K "_law_compared") (fd_L_compared g) ["_law_weights_here", "_law_one", "_law_other"] (spD K m_L_compared) := fn_d (F_L_compared g) sc_L_compared rfl fun cdv A outer s H E hr =>
    (pst_c
      (st_par 3 4 sc_L_compared.nd (pa_c (PX.po (px_call (t_L_key g) defM_Len (hr.mono (by decide)) rfl (g.glo 28) (F_L_key g).kp (b_L_key g) (pa_c (PX.po (px_z (pv 0))) (pa_c (PX.po (px_z (pv 1))) pa_0)))) (pa_c (PX.po (px_call (t_L_key g) defM_Len (hr.mono (by decide)) rfl (g.glo 28) (F_L_key g).kp (b_L_key g) (pa_c (PX.po (px_z (pv 0))) (pa_c (PX.po (px_z (pv 2))) pa_0)))) pa_0)))
    (pst_1 (ps_ret' (px_op od_sub (PX.po (px_cmp (od_gt hr.u) (po_n (pv 3)) (po_n (pv 4)) (nomark _))) (PX.po (px_cmp (od_lt hr.u) (po_n (pv 3)) (po_n (pv 4)) (nomark _)))))))
end
/-! ### _law_rule -/
def m_L_rule : MD := defM 4 [false, false, false] ((sSeq
    (sSet 3 (mCallD m_L_compared [false, false, false] [] (aCons (oE (mZ 0)) (aCons (oE (mZ 1)) (aCons (oE (mZ 2)) aNil)))))
    (sRet (mIf (bV (mBin gEq (oN 3) (oE (mC (.int 0))))) (mC .none) (mIf (bV (mBin gGt (oN 3) (oE (mC (.int 0))))) (mTup (aCons (oE (mZ 1)) (aCons (oE (mZ 2)) aNil))) (mTup (aCons (oE (mZ 2)) (aCons (oE (mZ 1)) aNil))))))))
theorem sc_L_rule : FnScope ["_law_weights_here", "_law_one", "_law_other", "_law_sign"] ["_law_weights_here", "_law_one", "_law_other"] (defScope s_L_rule) := ⟨rfl, rfl, rfl, by decide +kernel, rfl, by decide +kernel, by decide +kernel⟩
section
variable {P : Program} {w : World} {K : Fr} {mg : Str → Option Value} {base : Heap}
noncomputable def fd_L_rule (g : Gg K mg) : FuncData := Classical.choose (g.c.def_ 32 (d := d_L_rule) rfl)
theorem F_L_rule (g : Gg K mg) : FunD K "_law_rule" "_law_rule" (defArgs s_L_rule) (defBody s_L_rule) (defScope s_L_rule) [] [] (He.ga K "_law_rule") (fd_L_rule g) := Classical.choose_spec (g.c.def_ 32 (d := d_L_rule) rfl)
theorem b_L_rule (g : Gg K mg) : Binds K (fd_L_rule g) ["_law_weights_here", "_law_one", "_law_other"] [] := (F_L_rule g).bindsN fun _ _ _ _ _ _ us hl => match us, hl with | [_, _, _], _ => rfl
theorem t_L_rule (g : Gg K mg) : FnG P w K mg base CX0 3 (He.ga K "_law_rule") (fd_L_rule g) ["_law_weights_here", "_law_one", "_law_other"] (spD K m_L_rule) := fn_d (F_L_rule g) sc_L_rule rfl fun cdv A outer s H E hr =>
    (pst_c
      (st_set 3 sc_L_rule.nd (px_call (t_L_compared g) defM_Len (hr.mono (by decide)) rfl (g.glo 29) (F_L_compared g).kp (b_L_compared g) (pa_c (PX.po (px_z (pv 0))) (pa_c (PX.po (px_z (pv 1))) (pa_c (PX.po (px_z (pv 2))) pa_0)))))
    (pst_1 (ps_ret' (px_if (pb_cmp (od_eq hr.u') (po_n (pv 3)) (PX.po px_int) (nomark _)) px_non (px_if (pb_cmp (od_gt hr.u) (po_n (pv 3)) (PX.po px_int) (nomark _)) (px_tup (pa_c (PX.po (px_z (pv 1))) (pa_c (PX.po (px_z (pv 2))) pa_0))) (px_tup (pa_c (PX.po (px_z (pv 2))) (pa_c (PX.po (px_z (pv 1))) pa_0))))))))
end
/-! ### _law_monomial -/
def l_L_monomial_1 : ME := mLC (iR rangeD1 (aCons (oN 1) aNil)) (gN 3) bYes (mF (mCallD m_L_draw [true, false] [] (aCons (oN 0) (aCons (oE (mF (mBin gAdd (oN 2) (oE (mC (.int 1)))))) aNil)))) [3]
def m_L_monomial : MD := defM 4 [true, false, false] ((sRet (mCB gTup (aCons (oE l_L_monomial_1) aNil))))
theorem sc_L_monomial : FnScope ["_law_pot_here", "_law_many", "_law_most", "_law_letter"] ["_law_pot_here", "_law_many", "_law_most"] (defScope s_L_monomial) := ⟨rfl, rfl, rfl, by decide +kernel, rfl, by decide +kernel, by decide +kernel⟩
section
variable {P : Program} {w : World} {K : Fr} {mg : Str → Option Value} {base : Heap}
noncomputable def fd_L_monomial (g : Gg K mg) : FuncData := Classical.choose (g.c.def_ 33 (d := d_L_monomial) rfl)
theorem F_L_monomial (g : Gg K mg) : FunD K "_law_monomial" "_law_monomial" (defArgs s_L_monomial) (defBody s_L_monomial) (defScope s_L_monomial) [] [] (He.ga K "_law_monomial") (fd_L_monomial g) := Classical.choose_spec (g.c.def_ 33 (d := d_L_monomial) rfl)
theorem b_L_monomial (g : Gg K mg) : Binds K (fd_L_monomial g) ["_law_pot_here", "_law_many", "_law_most"] [] := (F_L_monomial g).bindsN fun _ _ _ _ _ _ us hl => match us, hl with | [_, _, _], _ => rfl
theorem t_L_monomial (g : Gg K mg) : FnG P w K mg base CX0 2 (He.ga K "_law_monomial") (fd_L_monomial g) ["_law_pot_here", "_law_many", "_law_most"] (spD K m_L_monomial) := fn_d (F_L_monomial g) sc_L_monomial rfl fun cdv A outer s H E hr =>
    (pst_1 (ps_ret' (px_ct cd_tup rfl (g.free 57) (by decide +kernel) (pa_c (PX.po (px_lc' [("_law_letter", 3)] sc_L_monomial.nd (pit_r1 rfl (g.free 52) (pa_c (po_n (pv 1)) pa_0)) (blkOk_by (by rfl)) (fun n s H C cl fp => (tg_n 3 sc_L_monomial.nd (oth (by rfl)))) (fun s H C cl fp => pts_0) (fun s H C cl fp => (px_f (px_call (t_L_draw g) defM_Len (hr.mono (by decide)) rfl (g.glo 27) (F_L_draw g).kp (b_L_draw g) (pa_c (po_n (pv 0)) (pa_c (PX.po (px_f (px_op od_add (po_n (pv 2)) (PX.po px_int)))) pa_0))))))) pa_0))))
end
/-! ### _law_weights -/
def l_L_weights_1 : ME := mLC (iR rangeD1 (aCons (oN 1) aNil)) (gN 3) bYes (mF (mCallD m_L_draw [true, false] [] (aCons (oN 0) (aCons (oE (mIf (bV (mBin gLt (oN 2) (oE (mC (.int 3))))) (mC (.int 3)) (mC (.int 100)))) aNil)))) [3]
def m_L_weights : MD := defM 4 [true, false] ((sSeq
    (sSet 2 (mCallD m_L_draw [true, false] [] (aCons (oN 0) (aCons (oE (mC (.int 4))) aNil))))
    (sSeq
    (sIf (bV (mBin gEq (oN 2) (oE (mC (.int 0))))) (sRet (mBin gMul (oE (mTup (aCons (oE (mC (.int 0))) aNil))) (oN 1))) sNx)
    (sRet (mCB gTup (aCons (oE l_L_weights_1) aNil))))))
theorem sc_L_weights : FnScope ["_law_pot_here", "_law_many", "_law_way", "_law_letter"] ["_law_pot_here", "_law_many"] (defScope s_L_weights) := ⟨rfl, rfl, rfl, by decide +kernel, rfl, by decide +kernel, by decide +kernel⟩
section
variable {P : Program} {w : World} {K : Fr} {mg : Str → Option Value} {base : Heap}
noncomputable def fd_L_weights (g : Gg K mg) : FuncData := Classical.choose (g.c.def_ 34 (d := d_L_weights) rfl)
theorem F_L_weights (g : Gg K mg) : FunD K "_law_weights" "_law_weights" (defArgs s_L_weights) (defBody s_L_weights) (defScope s_L_weights) [] [] (He.ga K "_law_weights") (fd_L_weights g) := Classical.choose_spec (g.c.def_ 34 (d := d_L_weights) rfl)
theorem b_L_weights (g : Gg K mg) : Binds K (fd_L_weights g) ["_law_pot_here", "_law_many"] [] := (F_L_weights g).bindsN fun _ _ _ _ _ _ us hl => match us, hl with | [_, _], _ => rfl
theorem t_L_weights (g : Gg K mg) : FnG P w K mg base CX0 2 (He.ga K "_law_weights") (fd_L_weights g) ["_law_pot_here", "_law_many"] (spD K m_L_weights) := fn_d (F_L_weights g) sc_L_weights rfl fun cdv A outer s H E hr =>
    (pst_c
      (st_set 2 sc_L_weights.nd (px_call (t_L_draw g) defM_Len (hr.mono (by decide)) rfl (g.glo 27) (F_L_draw g).kp (b_L_draw g) (pa_c (po_n (pv 0)) (pa_c (PX.po px_int) pa_0))))
    (pst_c
      (ps_if' (pb_cmp (od_eq hr.u') (po_n (pv 2)) (PX.po px_int) (nomark _)) (pst_1 (ps_ret' (px_op od_mul (PX.po (px_tup (pa_c (PX.po px_int) pa_0))) (po_n (pv 1))))) pst_0)
    (pst_1 (ps_ret' (px_ct cd_tup rfl (g.free 57) (by decide +kernel) (pa_c (PX.po (px_lc' [("_law_letter", 3)] sc_L_weights.nd (pit_r1 rfl (g.free 52) (pa_c (po_n (pv 1)) pa_0)) (blkOk_by (by rfl)) (fun n s H C cl fp => (tg_n 3 sc_L_weights.nd (oth (by rfl)))) (fun s H C cl fp => pts_0) (fun s H C cl fp => (px_f (px_call (t_L_draw g) defM_Len (hr.mono (by decide)) rfl (g.glo 27) (F_L_draw g).kp (b_L_draw g) (pa_c (po_n (pv 0)) (pa_c (PX.po (px_if (pb_cmp (od_lt hr.u) (po_n (pv 2)) (PX.po px_int) (nomark _)) px_int px_int)) pa_0))))))) pa_0))))))
end
/-! ### _law_goes -/
def l_L_goes_1 : ME := mLC (iZ zip2D (aCons (oE (mBin gIx (oN 0) (oE (mC (.int 0))))) (aCons (oE (mZ 1)) aNil))) (gT 2 (gsC (gN 2) (gsC (gN 3) gs0))) bYes (mBin gLe (oN 2) (oN 3)) [2, 3]
def m_L_goes : MD := defM 4 [false, false] ((sRet (mCB gAll (aCons (oE l_L_goes_1) aNil))))
theorem sc_L_goes : FnScope ["_law_rule_here", "_law_monomial_here", "_law_near", "_law_far"] ["_law_rule_here", "_law_monomial_here"] (defScope s_L_goes) := ⟨rfl, rfl, rfl, by decide +kernel, rfl, by decide +kernel, by decide +kernel⟩
section
variable {P : Program} {w : World} {K : Fr} {mg : Str → Option Value} {base : Heap}
noncomputable def fd_L_goes (g : Gg K mg) : FuncData := Classical.choose (g.c.def_ 35 (d := d_L_goes) rfl)
theorem F_L_goes (g : Gg K mg) : FunD K "_law_goes" "_law_goes" (defArgs s_L_goes) (defBody s_L_goes) (defScope s_L_goes) [] [] (He.ga K "_law_goes") (fd_L_goes g) := Classical.choose_spec (g.c.def_ 35 (d := d_L_goes) rfl)
theorem b_L_goes (g : Gg K mg) : Binds K (fd_L_goes g) ["_law_rule_here", "_law_monomial_here"] [] := (F_L_goes g).bindsN fun _ _ _ _ _ _ us hl => match us, hl with | [_, _], _ => rfl
theorem t_L_goes (g : Gg K mg) : FnG P w K mg base CX0 1 (He.ga K "_law_goes") (fd_L_goes g) ["_law_rule_here", "_law_monomial_here"] (spD K m_L_goes) := fn_d (F_L_goes g) sc_L_goes rfl fun cdv A outer s H E hr =>
    (pst_1 (ps_ret' (px_cb (cd_all rfl) rfl (g.free 45) (by decide +kernel) (pa_c (PX.po (px_lc' [("_law_near", 2), ("_law_far", 3)] sc_L_goes.nd (pit_zip2 rfl (g.free 58) (pa_c (PX.po (px_ix (po_n (pv 0)) (PX.po px_int))) (pa_c (PX.po (px_z (pv 1))) pa_0))) (blkOk_by (by rfl)) (fun n s H C cl fp => (ptg_t (n := 2) rfl (ptgs_c (tg_n 2 sc_L_goes.nd (oth (by rfl))) (ptgs_c (tg_n 3 sc_L_goes.nd (oth (by rfl))) ptgs_0)))) (fun s H C cl fp => pts_0) (fun s H C cl fp => (px_cmp od_le (po_n (pv 2)) (po_n (pv 3)) (nomark _))))) pa_0))))
end
/-! ### _law_led -/
def l_L_led_1 : ME := mLC (iZ zip3D (aCons (oE (mZ 1)) (aCons (oE (mBin gIx (oN 0) (oE (mC (.int 0))))) (aCons (oE (mBin gIx (oN 0) (oE (mC (.int 1))))) aNil)))) (gT 3 (gsC (gN 2) (gsC (gN 3) (gsC (gN 4) gs0)))) bYes (mF (mBin gAdd (oE (mBin gSub (oN 2) (oN 3))) (oN 4))) [2, 3, 4]
def m_L_led : MD := defM 5 [false, false] ((sRet (mCB gTup (aCons (oE l_L_led_1) aNil))))
theorem sc_L_led : FnScope ["_law_rule_here", "_law_monomial_here", "_law_count", "_law_near", "_law_far"] ["_law_rule_here", "_law_monomial_here"] (defScope s_L_led) := ⟨rfl, rfl, rfl, by decide +kernel, rfl, by decide +kernel, by decide +kernel⟩
section
variable {P : Program} {w : World} {K : Fr} {mg : Str → Option Value} {base : Heap}
noncomputable def fd_L_led (g : Gg K mg) : FuncData := Classical.choose (g.c.def_ 36 (d := d_L_led) rfl)
theorem F_L_led (g : Gg K mg) : FunD K "_law_led" "_law_led" (defArgs s_L_led) (defBody s_L_led) (defScope s_L_led) [] [] (He.ga K "_law_led") (fd_L_led g) := Classical.choose_spec (g.c.def_ 36 (d := d_L_led) rfl)
theorem b_L_led (g : Gg K mg) : Binds K (fd_L_led g) ["_law_rule_here", "_law_monomial_here"] [] := (F_L_led g).bindsN fun _ _ _ _ _ _ us hl => match us, hl with | [_, _], _ => rfl
theorem t_L_led (g : Gg K mg) : FnG P w K mg base CX0 1 (He.ga K "_law_led") (fd_L_led g) ["_law_rule_here", "_law_monomial_here"] (spD K m_L_led) := fn_d (F_L_led g) sc_L_led rfl fun cdv A outer s H E hr =>
    (pst_1 (ps_ret' (px_ct cd_tup rfl (g.free 57) (by decide +kernel) (pa_c (PX.po (px_lc' [("_law_count", 2), ("_law_near", 3), ("_law_far", 4)] sc_L_led.nd (pit_zip3 rfl (g.free 58) (pa_c (PX.po (px_z (pv 1))) (pa_c (PX.po (px_ix (po_n (pv 0)) (PX.po px_int))) (pa_c (PX.po (px_ix (po_n (pv 0)) (PX.po px_int))) pa_0)))) (blkOk_by (by rfl)) (fun n s H C cl fp => (ptg_t (n := 3) rfl (ptgs_c (tg_n 2 sc_L_led.nd (oth (by rfl))) (ptgs_c (tg_n 3 sc_L_led.nd (oth (by rfl))) (ptgs_c (tg_n 4 sc_L_led.nd (oth (by rfl))) ptgs_0))))) (fun s H C cl fp => pts_0) (fun s H C cl fp => (px_f (px_op od_add (PX.po (px_op od_sub (po_n (pv 2)) (po_n (pv 3)))) (po_n (pv 4))))))) pa_0))))
end
/-! ### _law_reached -/
def l_L_reached_1 : ME := mLCN 0 (gN 6) (bT (oE (mCallD m_L_goes [false, false] [] (aCons (oE (mZ 6)) (aCons (oE (mZ 5)) aNil))))) (mF (mCallD m_L_led [false, false] [] (aCons (oE (mZ 6)) (aCons (oE (mZ 5)) aNil)))) [6]
def l_L_reached_2 : MS := sWh (bV (mBin gNe (oN 4) (oE (mLst aNil)))) (sSeq
    (sSet 5 (mBM 4 gPop aNil))
    (sSeq
    (sIf (bV (mDR gNin gDNin (oN 5) (oN 3))) (sSeq
    (sAsg (mF l_L_reached_1) (gSD 3 (oN 5)))
    (sDrop (mExt 4 (mDL gIx gDIx (oN 3) (oN 5))))) sNx)
    (sIf (bV (mBin gGt (oE (mCD gLen gDLen (oN 3))) (oN 2))) (sRet (mC .none)) sNx))) 1000000
def m_L_reached : MD := defM 7 [true, false, false] ((sSeq
    (sPar 3 4 (aCons (oE mD0) (aCons (oE (mLst (aCons (oE (mZ 1)) aNil))) aNil)))
    (sSeq
    l_L_reached_2
    (sRet (mM 3)))))
theorem sc_L_reached : FnScope ["_law_rules_here", "_law_monomial_here", "_law_most", "_law_found", "_law_waiting", "_law_here", "_law_rule_here"] ["_law_rules_here", "_law_monomial_here", "_law_most"] (defScope s_L_reached) := ⟨rfl, rfl, rfl, by decide +kernel, rfl, by decide +kernel, by decide +kernel⟩
section
variable {P : Program} {w : World} {K : Fr} {mg : Str → Option Value} {base : Heap}
noncomputable def fd_L_reached (g : Gg K mg) : FuncData := Classical.choose (g.c.def_ 37 (d := d_L_reached) rfl)
theorem F_L_reached (g : Gg K mg) : FunD K "_law_reached" "_law_reached" (defArgs s_L_reached) (defBody s_L_reached) (defScope s_L_reached) [] [] (He.ga K "_law_reached") (fd_L_reached g) := Classical.choose_spec (g.c.def_ 37 (d := d_L_reached) rfl)
theorem b_L_reached (g : Gg K mg) : Binds K (fd_L_reached g) ["_law_rules_here", "_law_monomial_here", "_law_most"] [] := (F_L_reached g).bindsN fun _ _ _ _ _ _ us hl => match us, hl with | [_, _, _], _ => rfl
theorem t_L_reached (g : Gg K mg) : FnG P w K mg base CX0 2 (He.ga K "_law_reached") (fd_L_reached g) ["_law_rules_here", "_law_monomial_here", "_law_most"] (spD K m_L_reached) := fn_d (F_L_reached g) sc_L_reached rfl fun cdv A outer s H E hr =>
    (pst_c
      (st_par 3 4 sc_L_reached.nd (pa_c (PX.po px_d0) (pa_c (PX.po (px_lst (pa_c (PX.po (px_z (pv 1))) pa_0))) pa_0)))
    (pst_c
      (ps_wh 1000000 PassesOwn.never (pb_cmp (od_ne hr.u') (po_n (pv 4)) (PX.po (px_lst pa_0)) (nomark _)) (pst_c
      (st_set 5 sc_L_reached.nd (px_bm0 md_pop F.slot_list_pop (by kernel_rfl) (pv 4)))
    (pst_c
      (ps_if' (pb_dnin hr.u (po_n (pv 5)) (po_n (pv 3)) (by rfl)) (pst_c
      (ps_asgT (px_f (px_lcN [("_law_rule_here", 6)] sc_L_reached.nd (pv 0) (blkOk_by (by rfl)) (fun n s H C cl fp => (tg_n 6 sc_L_reached.nd (oth (by rfl)))) (fun s H C cl fp => (pts_1 (pb_t (PX.po (px_call (t_L_goes g) defM_Len (hr.mono (by decide)) rfl (g.glo 33) (F_L_goes g).kp (b_L_goes g) (pa_c (PX.po (px_z (pv 6))) (pa_c (PX.po (px_z (pv 5))) pa_0))))))) (fun s H C cl fp => (px_f (px_call (t_L_led g) defM_Len (hr.mono (by decide)) rfl (g.glo 34) (F_L_led g).kp (b_L_led g) (pa_c (PX.po (px_z (pv 6))) (pa_c (PX.po (px_z (pv 5))) pa_0))))))) (pth_sd hr.u (pv 3) (po_n (pv 5))))
    (pst_1 (ps_ex (px_ext (pv 4) (px_dix hr.u (po_n (pv 3)) (po_n (pv 5))))))) pst_0)
    (pst_1 (ps_if' (pb_cmp (od_gt hr.u) (PX.po (px_dlen rfl (g.free 50) (by decide +kernel) (po_n (pv 3)))) (po_n (pv 2)) (nomark _)) (pst_1 (ps_ret' px_non)) pst_0)))))
    (pst_1 (ps_ret' (px_m (pv 3))))))
end
/-! ### _law_rules -/
def k_L_rules_1 : MS := (sSet 4 (mLst aNil))
def l_L_rules_1 : MS := sFor (iR rangeD1 (aCons (oN 3) aNil)) (gN 5) (sSeq
    (sSet 6 (mCallD m_L_rule [false, false, false] [] (aCons (oE (mZ 1)) (aCons (oE (mF (mCallD m_L_monomial [true, false, false] [] (aCons (oN 0) (aCons (oE (mCB gLen (aCons (oN 1) aNil))) (aCons (oE (mC (.int 2))) aNil)))))) (aCons (oE (mF (mCallD m_L_monomial [true, false, false] [] (aCons (oN 0) (aCons (oE (mCB gLen (aCons (oN 1) aNil))) (aCons (oE (mC (.int 2))) aNil)))))) aNil)))))
    (sIf (bAnd (bV (mBin gIsN (oN 6) (oE (mC .none)))) (bV (mBin gNin (oN 6) (oN 4)))) (sDrop (mBM 4 gAppend (aCons (oE (mZ 6)) aNil))) sNx))
def l_L_rules_2 : MS := sWh (bV (mDL gIs gDIs (oE (mCallD m_L_reached [true, false, false] [] (aCons (oN 4) (aCons (oE (mZ 2)) (aCons (oE (mC (.int 40))) aNil))))) (oE (mC .none)))) (sDrop (mBM 4 gPop aNil)) 1000000
def k_L_rules_4 : MS := (sRet (mCB gTup (aCons (oE (mCB gSorted (aCons (oN 4) aNil))) aNil)))
def m_L_rules : MD := defM 7 [true, false, false, false] ((sSeq k_L_rules_1 (sSeq l_L_rules_1 (sSeq l_L_rules_2 k_L_rules_4))))
theorem sc_L_rules : FnScope ["_law_pot_here", "_law_weights_here", "_law_monomial_here", "_law_many", "_law_found", "_law_turn", "_law_rule_here"] ["_law_pot_here", "_law_weights_here", "_law_monomial_here", "_law_many"] (defScope s_L_rules) := ⟨rfl, rfl, rfl, by decide +kernel, rfl, by decide +kernel, by decide +kernel⟩
section
variable {P : Program} {w : World} {K : Fr} {mg : Str → Option Value} {base : Heap}
noncomputable def fd_L_rules (g : Gg K mg) : FuncData := Classical.choose (g.c.def_ 38 (d := d_L_rules) rfl)
theorem F_L_rules (g : Gg K mg) : FunD K "_law_rules" "_law_rules" (defArgs s_L_rules) (defBody s_L_rules) (defScope s_L_rules) [] [] (He.ga K "_law_rules") (fd_L_rules g) := Classical.choose_spec (g.c.def_ 38 (d := d_L_rules) rfl)
theorem b_L_rules (g : Gg K mg) : Binds K (fd_L_rules g) ["_law_pot_here", "_law_weights_here", "_law_monomial_here", "_law_many"] [] := (F_L_rules g).bindsN fun _ _ _ _ _ _ us hl => match us, hl with | [_, _, _, _], _ => rfl
theorem t_L_rules (g : Gg K mg) : FnG P w K mg base CX0 4 (He.ga K "_law_rules") (fd_L_rules g) ["_law_pot_here", "_law_weights_here", "_law_monomial_here", "_law_many"] (spD K m_L_rules) := fn_d (F_L_rules g) sc_L_rules rfl fun cdv A outer s H E hr =>
    (pst_c
      (st_set 4 sc_L_rules.nd (px_lst pa_0))
    (pst_c
      (ps_for' PassesOwn.never rfl (pit_r1 rfl (g.free 52) (pa_c (po_n (pv 3)) pa_0)) (tg_n 5 sc_L_rules.nd) (pst_c
      (st_set 6 sc_L_rules.nd (px_call (t_L_rule g) defM_Len (hr.mono (by decide)) rfl (g.glo 30) (F_L_rule g).kp (b_L_rule g) (pa_c (PX.po (px_z (pv 1))) (pa_c (PX.po (px_f (px_call (t_L_monomial g) defM_Len (hr.mono (by decide)) rfl (g.glo 31) (F_L_monomial g).kp (b_L_monomial g) (pa_c (po_n (pv 0)) (pa_c (PX.po (px_cb cd_len rfl (g.free 50) (by decide +kernel) (pa_c (po_n (pv 1)) pa_0))) (pa_c (PX.po px_int) pa_0)))))) (pa_c (PX.po (px_f (px_call (t_L_monomial g) defM_Len (hr.mono (by decide)) rfl (g.glo 31) (F_L_monomial g).kp (b_L_monomial g) (pa_c (po_n (pv 0)) (pa_c (PX.po (px_cb cd_len rfl (g.free 50) (by decide +kernel) (pa_c (po_n (pv 1)) pa_0))) (pa_c (PX.po px_int) pa_0)))))) pa_0)))))
    (pst_1 (ps_if' (PBw.pb (pbw_and (pb_cmp od_isn (po_n (pv 6)) (PX.po px_non) (nomark _)) (pbw_and1 (pb_cmp (od_nin hr.u) (po_n (pv 6)) (po_n (pv 4)) (by rfl))))) (pst_1 (ps_ex (px_bm md_append F.slot_list_append (by kernel_rfl) (pv 4) (pa_c (PX.po (px_z (pv 6))) pa_0)))) pst_0))))
    (pst_c
      (ps_wh 1000000 PassesOwn.never (pb_dis (PX.po (px_call (t_L_reached g) defM_Len (hr.mono (by decide)) rfl (g.glo 35) (F_L_reached g).kp (b_L_reached g) (pa_c (po_n (pv 4)) (pa_c (PX.po (px_z (pv 2))) (pa_c (PX.po px_int) pa_0))))) (PX.po px_non) (nomark _)) (pst_1 (ps_ex (px_bm0 md_pop F.slot_list_pop (by kernel_rfl) (pv 4)))))
    (pst_1 (ps_ret' (px_ct cd_tup rfl (g.free 57) (by decide +kernel) (pa_c (PX.po (px_cb (cd_sorted hr.u) rfl (g.free 54) (by decide +kernel) (pa_c (po_n (pv 4)) pa_0))) pa_0)))))))
end
/-! ### _law_path -/
def l_L_path_1 : ME := mLC (iV (mZ 0)) (gN 4) (bT (oE (mCallD m_L_goes [false, false] [] (aCons (oE (mZ 4)) (aCons (oE (mBin gIx (oN 2) (oE (mUn gNeg (oE (mC (.int 1))))))) aNil))))) (mZ 4) [4]
def l_L_path_2 : MS := sWh (bV (mBin gNe (oN 3) (oE (mLst aNil)))) (sSeq
    (sSet 3 l_L_path_1)
    (sIf (bV (mBin gNe (oN 3) (oE (mLst aNil)))) (sDrop (mBM 2 gAppend (aCons (oE (mF (mCallD m_L_led [false, false] [] (aCons (oE (mBin gIx (oN 3) (oE (mC (.int 0))))) (aCons (oE (mBin gIx (oN 2) (oE (mUn gNeg (oE (mC (.int 1))))))) aNil))))) aNil))) sNx)) 1000000
def m_L_path : MD := defM 5 [false, false] ((sSeq
    (sPar 2 3 (aCons (oE (mLst (aCons (oE (mZ 1)) aNil))) (aCons (oE (mLst (aCons (oE (mC (.int 0))) aNil))) aNil)))
    (sSeq
    l_L_path_2
    (sRet (mM 2)))))
theorem sc_L_path : FnScope ["_law_rules_here", "_law_monomial_here", "_law_found", "_law_going", "_law_rule_here"] ["_law_rules_here", "_law_monomial_here"] (defScope s_L_path) := ⟨rfl, rfl, rfl, by decide +kernel, rfl, by decide +kernel, by decide +kernel⟩
section
variable {P : Program} {w : World} {K : Fr} {mg : Str → Option Value} {base : Heap}
noncomputable def fd_L_path (g : Gg K mg) : FuncData := Classical.choose (g.c.def_ 39 (d := d_L_path) rfl)
theorem F_L_path (g : Gg K mg) : FunD K "_law_path" "_law_path" (defArgs s_L_path) (defBody s_L_path) (defScope s_L_path) [] [] (He.ga K "_law_path") (fd_L_path g) := Classical.choose_spec (g.c.def_ 39 (d := d_L_path) rfl)
theorem b_L_path (g : Gg K mg) : Binds K (fd_L_path g) ["_law_rules_here", "_law_monomial_here"] [] := (F_L_path g).bindsN fun _ _ _ _ _ _ us hl => match us, hl with | [_, _], _ => rfl
theorem t_L_path (g : Gg K mg) : FnG P w K mg base CX0 2 (He.ga K "_law_path") (fd_L_path g) ["_law_rules_here", "_law_monomial_here"] (spD K m_L_path) := fn_d (F_L_path g) sc_L_path rfl fun cdv A outer s H E hr =>
    (pst_c
      (st_parT 2 3 sc_L_path.nd (pa_c (PX.po (px_lst (pa_c (PX.po (px_z (pv 1))) pa_0))) (pa_c (PX.po (px_lst (pa_c (PX.po px_int) pa_0))) pa_0)))
    (pst_c
      (ps_wh 1000000 PassesOwn.never (pb_cmp (od_ne hr.u') (po_n (pv 3)) (PX.po (px_lst pa_0)) (nomark _)) (pst_c
      (st_lc [("_law_rule_here", 4)] 3 sc_L_path.nd (pit_v (px_z (pv 0))) (blkOk_by (by rfl)) (fun n s H C cl fp => (tg_n 4 sc_L_path.nd (oth (by rfl)))) (fun s H C cl fp => (pts_1 (pb_t (PX.po (px_call (t_L_goes g) defM_Len (hr.mono (by decide)) rfl (g.glo 33) (F_L_goes g).kp (b_L_goes g) (pa_c (PX.po (px_z (pv 4))) (pa_c (PX.po (px_ix (po_n (pv 2)) (PX.po (px_un ud_neg (PX.po px_int))))) pa_0))))))) (fun s H C cl fp => (px_z (pv 4))))
    (pst_1 (ps_if' (pb_cmp (od_ne hr.u') (po_n (pv 3)) (PX.po (px_lst pa_0)) (nomark _)) (pst_1 (ps_ex (px_bm md_append F.slot_list_append (by kernel_rfl) (pv 2) (pa_c (PX.po (px_f (px_call (t_L_led g) defM_Len (hr.mono (by decide)) rfl (g.glo 34) (F_L_led g).kp (b_L_led g) (pa_c (PX.po (px_ix (po_n (pv 3)) (PX.po px_int))) (pa_c (PX.po (px_ix (po_n (pv 2)) (PX.po (px_un ud_neg (PX.po px_int))))) pa_0))))) pa_0)))) pst_0))))
    (pst_1 (ps_ret' (px_m (pv 2))))))
end
/-! ### _law_all_ends -/
def l_L_all_ends_1 : ME := mLC (iFD (mFD 2)) (gN 3) (bV (mBin gEq (oE (mDL gIx gDIx (oN 2) (oN 3))) (oE (mLst aNil)))) (mZ 3) [3]
def m_L_all_ends : MD := defM 4 [true, false] ((sSeq
    (sSet 2 (mCallD m_L_reached [true, false, false] [] (aCons (oN 0) (aCons (oE (mZ 1)) (aCons (oE (mC (.int 40))) aNil)))))
    (sRet (mCB gSorted (aCons (oE l_L_all_ends_1) aNil)))))
theorem sc_L_all_ends : FnScope ["_law_rules_here", "_law_monomial_here", "_law_reached_here", "_law_one"] ["_law_rules_here", "_law_monomial_here"] (defScope s_L_all_ends) := ⟨rfl, rfl, rfl, by decide +kernel, rfl, by decide +kernel, by decide +kernel⟩
section
variable {P : Program} {w : World} {K : Fr} {mg : Str → Option Value} {base : Heap}
noncomputable def fd_L_all_ends (g : Gg K mg) : FuncData := Classical.choose (g.c.def_ 40 (d := d_L_all_ends) rfl)
theorem F_L_all_ends (g : Gg K mg) : FunD K "_law_all_ends" "_law_all_ends" (defArgs s_L_all_ends) (defBody s_L_all_ends) (defScope s_L_all_ends) [] [] (He.ga K "_law_all_ends") (fd_L_all_ends g) := Classical.choose_spec (g.c.def_ 40 (d := d_L_all_ends) rfl)
theorem b_L_all_ends (g : Gg K mg) : Binds K (fd_L_all_ends g) ["_law_rules_here", "_law_monomial_here"] [] := (F_L_all_ends g).bindsN fun _ _ _ _ _ _ us hl => match us, hl with | [_, _], _ => rfl
theorem t_L_all_ends (g : Gg K mg) : FnG P w K mg base CX0 3 (He.ga K "_law_all_ends") (fd_L_all_ends g) ["_law_rules_here", "_law_monomial_here"] (spD K m_L_all_ends) := fn_d (F_L_all_ends g) sc_L_all_ends rfl fun cdv A outer s H E hr =>
    (pst_c
      (st_set 2 sc_L_all_ends.nd (px_call (t_L_reached g) defM_Len (hr.mono (by decide)) rfl (g.glo 35) (F_L_reached g).kp (b_L_reached g) (pa_c (po_n (pv 0)) (pa_c (PX.po (px_z (pv 1))) (pa_c (PX.po px_int) pa_0)))))
    (pst_1 (ps_ret' (px_cb (cd_sorted hr.u) rfl (g.free 54) (by decide +kernel) (pa_c (PX.po (px_lc' [("_law_one", 3)] sc_L_all_ends.nd (pit_dc (px_fd (pv 2))) (blkOk_by (by rfl)) (fun n s H C cl fp => (tg_n 3 sc_L_all_ends.nd (oth (by rfl)))) (fun s H C cl fp => (pts_1 (pb_cmp (od_eq hr.u') (PX.po (px_dix hr.u (po_n (pv 2)) (po_n (pv 3)))) (PX.po (px_lst pa_0)) (nomark _)))) (fun s H C cl fp => (px_z (pv 3))))) pa_0)))))
end
/-! ### _law_one_right -/
def k_L_one_right_1 : MS := (sSet 4 (mCallD m_L_path [false, false] [] (aCons (oE (mZ 2)) (aCons (oE (mZ 3)) aNil))))
def k_L_one_right_2 : MS := (sSet 5 (mIf (bV (mBin gEq (oE (mCallD m_L_draw [true, false] [] (aCons (oN 0) (aCons (oE (mC (.int 2))) aNil)))) (oE (mC (.int 0))))) (mCallD m_path_of [false, false, false] [] (aCons (oE (mZ 1)) (aCons (oE (mZ 2)) (aCons (oE (mZ 3)) aNil)))) (mCallK m_path_of [false, false, false] (gk 0 3 [2, 1, 0]) aNil (aCons (oE (mZ 3)) (aCons (oE (mZ 2)) (aCons (oE (mZ 1)) aNil))))))
def k_L_one_right_3 : MS := (sIf (bV (mBin gNe (oE (mCB gRepr (aCons (oN 5) aNil))) (oE (mCB gRepr (aCons (oN 4) aNil))))) (sRet (mC (.bool false))) sNx)
def k_L_one_right_4 : MS := (sDrop (mBM 5 gAppend (aCons (oE (mC .none)) aNil)))
def k_L_one_right_5 : MS := (sIf (bV (mBin gNe (oE (mCallD m_path_of [false, false, false] [] (aCons (oE (mZ 1)) (aCons (oE (mZ 2)) (aCons (oE (mZ 3)) aNil))))) (oN 4))) (sRet (mC (.bool false))) sNx)
def l_L_one_right_1 : ME := mLC (iZ zip2D (aCons (oE (mZ 4)) (aCons (oE (mF (mSl (oN 4) (some (oE (mC (.int 1)))) none))) aNil))) (gT 2 (gsC (gN 7) (gsC (gN 8) gs0))) bYes (mBin gEq (oE (mCallD m_greater [false, false, false] [] (aCons (oE (mZ 1)) (aCons (oE (mZ 7)) (aCons (oE (mZ 8)) aNil))))) (oE (mC (.int 1)))) [7, 8]
def k_L_one_right_6 : MS := (sIf (bNot (bT (oE (mCB gAll (aCons (oE l_L_one_right_1) aNil))))) (sRet (mC (.bool false))) sNx)
def k_L_one_right_7 : MS := (sIf (bOr (bV (mBin gNe (oE (mCallD m_end_of [false, false, false] [] (aCons (oE (mZ 1)) (aCons (oE (mZ 2)) (aCons (oE (mZ 3)) aNil))))) (oE (mBin gIx (oN 4) (oE (mUn gNeg (oE (mC (.int 1))))))))) (bV (mBin gNe (oE (mCallD m_path_of [false, false, false] [] (aCons (oE (mZ 1)) (aCons (oE (mZ 2)) (aCons (oE (mBin gIx (oN 4) (oE (mUn gNeg (oE (mC (.int 1))))))) aNil))))) (oE (mSl (oN 4) (some (oE (mUn gNeg (oE (mC (.int 1)))))) none))))) (sRet (mC (.bool false))) sNx)
def k_L_one_right_8 : MS := (sPar 5 6 (aCons (oE (mCallD m_ends_in_some_way [false, false, false] [] (aCons (oE (mZ 1)) (aCons (oE (mZ 2)) (aCons (oE (mZ 3)) aNil))))) (aCons (oE (mCallD m_L_all_ends [true, false] [] (aCons (oN 2) (aCons (oE (mZ 3)) aNil)))) aNil)))
def k_L_one_right_9 : MS := (sRet (mAnd (mBin gEq (oE (mCB gRepr (aCons (oN 5) aNil))) (oE (mCB gRepr (aCons (oN 6) aNil)))) (mBin gIn (oE (mBin gIx (oN 4) (oE (mUn gNeg (oE (mC (.int 1))))))) (oN 5))))
def m_L_one_right : MD := defM 9 [true, false, true, false] ((sSeq k_L_one_right_1 (sSeq k_L_one_right_2 (sSeq k_L_one_right_3 (sSeq k_L_one_right_4 (sSeq k_L_one_right_5 (sSeq k_L_one_right_6 (sSeq k_L_one_right_7 (sSeq k_L_one_right_8 k_L_one_right_9)))))))))
theorem sc_L_one_right : FnScope ["_law_pot_here", "_law_order", "_law_rules_here", "_law_monomial_here", "_law_due", "_law_told", "_law_ends", "_law_one", "_law_other"] ["_law_pot_here", "_law_order", "_law_rules_here", "_law_monomial_here"] (defScope s_L_one_right) := ⟨rfl, rfl, rfl, by decide +kernel, rfl, by decide +kernel, by decide +kernel⟩
section
variable {P : Program} {w : World} {K : Fr} {mg : Str → Option Value} {base : Heap}
noncomputable def fd_L_one_right (g : Gg K mg) : FuncData := Classical.choose (g.c.def_ 41 (d := d_L_one_right) rfl)
theorem F_L_one_right (g : Gg K mg) : FunD K "_law_one_right" "_law_one_right" (defArgs s_L_one_right) (defBody s_L_one_right) (defScope s_L_one_right) [] [] (He.ga K "_law_one_right") (fd_L_one_right g) := Classical.choose_spec (g.c.def_ 41 (d := d_L_one_right) rfl)
theorem b_L_one_right (g : Gg K mg) : Binds K (fd_L_one_right g) ["_law_pot_here", "_law_order", "_law_rules_here", "_law_monomial_here"] [] := (F_L_one_right g).bindsN fun _ _ _ _ _ _ us hl => match us, hl with | [_, _, _, _], _ => rfl
theorem t_L_one_right (g : Gg K mg) : FnG P w K mg base CX0 10 (He.ga K "_law_one_right") (fd_L_one_right g) ["_law_pot_here", "_law_order", "_law_rules_here", "_law_monomial_here"] (spD K m_L_one_right) := fn_d (F_L_one_right g) sc_L_one_right rfl fun cdv A outer s H E hr =>
    (pst_c
      (st_set 4 sc_L_one_right.nd (px_call (t_L_path g) defM_Len (hr.mono (by decide)) rfl (g.glo 37) (F_L_path g).kp (b_L_path g) (pa_c (PX.po (px_z (pv 2))) (pa_c (PX.po (px_z (pv 3))) pa_0))))
    (pst_c
      (st_set 5 sc_L_one_right.nd (px_if (pb_cmp (od_eq hr.u') (PX.po (px_call (t_L_draw g) defM_Len (hr.mono (by decide)) rfl (g.glo 27) (F_L_draw g).kp (b_L_draw g) (pa_c (po_n (pv 0)) (pa_c (PX.po px_int) pa_0)))) (PX.po px_int) (nomark _)) (px_call (t_path_of g) defM_Len (hr.mono (by decide)) rfl (g.glo 23) (F_path_of g).kp (b_path_of g) (pa_c (PX.po (px_z (pv 1))) (pa_c (PX.po (px_z (pv 2))) (pa_c (PX.po (px_z (pv 3))) pa_0)))) (px_callK0 (t_path_of g) defM_Len (hr.mono (by decide)) rfl (g.glo 23) (F_path_of g).kp (kb_path_of_0 g) gk_fz (pkr_c (PX.po (px_z (pv 3))) (pkr_c (PX.po (px_z (pv 2))) (pkr_c (PX.po (px_z (pv 1))) pkr_0))))))
    (pst_c
      (ps_if' (pb_cmp (od_ne hr.u') (PX.po (px_cb (cd_repr hr.gd hr.u) rfl (g.free 53) (by decide +kernel) (pa_c (po_n (pv 5)) pa_0))) (PX.po (px_cb (cd_repr hr.gd hr.u) rfl (g.free 53) (by decide +kernel) (pa_c (po_n (pv 4)) pa_0))) (nomark _)) (pst_1 (ps_ret' px_bl)) pst_0)
    (pst_c
      (ps_ex (px_bm md_append F.slot_list_append (by kernel_rfl) (pv 5) (pa_c (PX.po px_non) pa_0)))
    (pst_c
      (ps_if' (pb_cmp (od_ne hr.u') (PX.po (px_call (t_path_of g) defM_Len (hr.mono (by decide)) rfl (g.glo 23) (F_path_of g).kp (b_path_of g) (pa_c (PX.po (px_z (pv 1))) (pa_c (PX.po (px_z (pv 2))) (pa_c (PX.po (px_z (pv 3))) pa_0))))) (po_n (pv 4)) (nomark _)) (pst_1 (ps_ret' px_bl)) pst_0)
    (pst_c
      (ps_if' (pb_not (pb_t (PX.po (px_cb (cd_all rfl) rfl (g.free 45) (by decide +kernel) (pa_c (PX.po (px_lc' [("_law_one", 7), ("_law_other", 8)] sc_L_one_right.nd (pit_zip2 rfl (g.free 58) (pa_c (PX.po (px_z (pv 4))) (pa_c (PX.po (px_f (px_sl (po_n (pv 4)) (ppt_1 (PX.po px_int)) ppt_0))) pa_0))) (blkOk_by (by rfl)) (fun n s H C cl fp => (ptg_t (n := 2) rfl (ptgs_c (tg_n 7 sc_L_one_right.nd (oth (by rfl))) (ptgs_c (tg_n 8 sc_L_one_right.nd (oth (by rfl))) ptgs_0)))) (fun s H C cl fp => pts_0) (fun s H C cl fp => (px_cmp (od_eq hr.u') (PX.po (px_call (t_greater g) defM_Len (hr.mono (by decide)) rfl (g.glo 10) (F_greater g).kp (b_greater g) (pa_c (PX.po (px_z (pv 1))) (pa_c (PX.po (px_z (pv 7))) (pa_c (PX.po (px_z (pv 8))) pa_0))))) (PX.po px_int) (nomark _))))) pa_0))))) (pst_1 (ps_ret' px_bl)) pst_0)
    (pst_c
      (ps_if' (PBw.pb (pbw_or (pb_cmp (od_ne hr.u') (PX.po (px_call (t_end_of g) defM_Len (hr.mono (by decide)) rfl (g.glo 22) (F_end_of g).kp (b_end_of g) (pa_c (PX.po (px_z (pv 1))) (pa_c (PX.po (px_z (pv 2))) (pa_c (PX.po (px_z (pv 3))) pa_0))))) (PX.po (px_ix (po_n (pv 4)) (PX.po (px_un ud_neg (PX.po px_int))))) (nomark _)) (pbw_or1 (pb_cmp (od_ne hr.u') (PX.po (px_call (t_path_of g) defM_Len (hr.mono (by decide)) rfl (g.glo 23) (F_path_of g).kp (b_path_of g) (pa_c (PX.po (px_z (pv 1))) (pa_c (PX.po (px_z (pv 2))) (pa_c (PX.po (px_ix (po_n (pv 4)) (PX.po (px_un ud_neg (PX.po px_int))))) pa_0))))) (PX.po (px_sl (po_n (pv 4)) (ppt_1 (PX.po (px_un ud_neg (PX.po px_int)))) ppt_0)) (nomark _))))) (pst_1 (ps_ret' px_bl)) pst_0)
    (pst_c
      (st_par 5 6 sc_L_one_right.nd (pa_c (PX.po (px_call (t_ends_in_some_way g) defM_Len (hr.mono (by decide)) rfl (g.glo 25) (F_ends_in_some_way g).kp (b_ends_in_some_way g) (pa_c (PX.po (px_z (pv 1))) (pa_c (PX.po (px_z (pv 2))) (pa_c (PX.po (px_z (pv 3))) pa_0))))) (pa_c (PX.po (px_call (t_L_all_ends g) defM_Len (hr.mono (by decide)) rfl (g.glo 38) (F_L_all_ends g).kp (b_L_all_ends g) (pa_c (po_n (pv 2)) (pa_c (PX.po (px_z (pv 3))) pa_0)))) pa_0)))
    (pst_1 (ps_ret' (px_and (px_cmp (od_eq hr.u') (PX.po (px_cb (cd_repr hr.gd hr.u) rfl (g.free 53) (by decide +kernel) (pa_c (po_n (pv 5)) pa_0))) (PX.po (px_cb (cd_repr hr.gd hr.u) rfl (g.free 53) (by decide +kernel) (pa_c (po_n (pv 6)) pa_0))) (nomark _)) (px_one (px_cmp (od_in hr.u) (PX.po (px_ix (po_n (pv 4)) (PX.po (px_un ud_neg (PX.po px_int))))) (po_n (pv 5)) (by rfl))))))))))))))
end
/-! ### _law_right -/
def k_L_right_1 : MS := (sSet 1 (mBin gAdd (oE (mC (.int 2))) (oE (mCallD m_L_draw [true, false] [] (aCons (oN 0) (aCons (oE (mC (.int 3))) aNil))))))
def k_L_right_2 : MS := (sSet 2 (mCallD m_L_weights [true, false] [] (aCons (oN 0) (aCons (oE (mZ 1)) aNil))))
def k_L_right_3 : MS := (sPar 3 4 (aCons (oE (mTup (aCons (oE (mC (.str "order"))) (aCons (oE (mZ 2)) aNil)))) (aCons (oE (mCallD m_L_monomial [true, false, false] [] (aCons (oN 0) (aCons (oE (mZ 1)) (aCons (oE (mC (.int 3))) aNil))))) aNil)))
def k_L_right_4 : MS := (sSet 5 (mCallD m_L_rules [true, false, false, false] [] (aCons (oN 0) (aCons (oE (mZ 2)) (aCons (oE (mZ 4)) (aCons (oE (mF (mBin gAdd (oE (mC (.int 1))) (oE (mCallD m_L_draw [true, false] [] (aCons (oN 0) (aCons (oE (mC (.int 5))) aNil))))))) aNil))))))
def k_L_right_5 : MS := (sIf (bNot (bT (oE (mCallD m_L_one_right [true, false, true, false] [] (aCons (oN 0) (aCons (oE (mZ 3)) (aCons (oN 5) (aCons (oE (mZ 4)) aNil)))))))) (sRet (mC (.bool false))) sNx)
def k_L_right_6 : MS := (sSet 6 (mCD gSorted gDSorted (oE (mCallD m_L_reached [true, false, false] [] (aCons (oN 5) (aCons (oE (mZ 4)) (aCons (oE (mC (.int 40))) aNil)))))))
def k_L_right_7 : MS := (sSet 7 (mBin gIx (oN 6) (oE (mBin gMod (oE (mCallD m_L_draw [true, false] [] (aCons (oN 0) (aCons (oE (mC (.int 5040))) aNil)))) (oE (mCB gLen (aCons (oN 6) aNil)))))))
def k_L_right_8 : MS := (sSet 8 (mBin gEq (oE (mBin gIx (oE (mCallD m_L_path [false, false] [] (aCons (oE (mZ 5)) (aCons (oE (mZ 4)) aNil)))) (oE (mUn gNeg (oE (mC (.int 1))))))) (oE (mBin gIx (oE (mCallD m_L_path [false, false] [] (aCons (oE (mZ 5)) (aCons (oE (mZ 7)) aNil)))) (oE (mUn gNeg (oE (mC (.int 1)))))))))
def k_L_right_9 : MS := (sIf (bV (mBin gNe (oE (mCB gRepr (aCons (oE (mCallD m_have_one_end [false, false, false, false] [] (aCons (oE (mZ 3)) (aCons (oE (mZ 5)) (aCons (oE (mZ 4)) (aCons (oE (mZ 7)) aNil)))))) aNil))) (oE (mCB gRepr (aCons (oN 8) aNil))))) (sRet (mC (.bool false))) sNx)
def k_L_right_10 : MS := (sSet 9 (mCallK m_have_one_end [false, false, false, false] (gk 0 4 [3, 2, 1, 0]) aNil (aCons (oE (mZ 4)) (aCons (oE (mZ 7)) (aCons (oE (mZ 5)) (aCons (oE (mZ 3)) aNil))))))
def k_L_right_11 : MS := (sIf (bV (mBin gNe (oE (mCB gRepr (aCons (oN 9) aNil))) (oE (mCB gRepr (aCons (oN 8) aNil))))) (sRet (mC (.bool false))) sNx)
def k_L_right_12 : MS := (sIf (bV (mBin gNe (oE (mCallK m_end_of [false, false, false] (gk 0 3 [2, 1, 0]) aNil (aCons (oE (mZ 7)) (aCons (oE (mZ 5)) (aCons (oE (mZ 3)) aNil))))) (oE (mBin gIx (oE (mCallD m_L_path [false, false] [] (aCons (oE (mZ 5)) (aCons (oE (mZ 7)) aNil)))) (oE (mUn gNeg (oE (mC (.int 1))))))))) (sRet (mC (.bool false))) sNx)
def k_L_right_13 : MS := (sRet (mBin gEq (oE (mLst (aCons (oE (mF (mCallD m_end_of [false, false, false] [] (aCons (oE (mZ 3)) (aCons (oE (mTup aNil)) (aCons (oE (mZ 7)) aNil)))))) (aCons (oE (mF (mCallK m_ends_in_some_way [false, false, false] (gk 0 3 [2, 1, 0]) aNil (aCons (oE (mZ 7)) (aCons (oE (mTup aNil)) (aCons (oE (mZ 3)) aNil)))))) aNil)))) (oE (mLst (aCons (oE (mZ 7)) (aCons (oE (mF (mLst (aCons (oE (mZ 7)) aNil)))) aNil))))))
def m_L_right : MD := defM 10 [true] ((sSeq k_L_right_1 (sSeq k_L_right_2 (sSeq k_L_right_3 (sSeq k_L_right_4 (sSeq k_L_right_5 (sSeq k_L_right_6 (sSeq k_L_right_7 (sSeq k_L_right_8 (sSeq k_L_right_9 (sSeq k_L_right_10 (sSeq k_L_right_11 (sSeq k_L_right_12 k_L_right_13)))))))))))))
theorem sc_L_right : FnScope ["_law_pot_here", "_law_many", "_law_weights_here", "_law_order", "_law_monomial_here", "_law_rules_here", "_law_reached_here", "_law_other", "_law_due", "_law_told"] ["_law_pot_here"] (defScope s_L_right) := ⟨rfl, rfl, rfl, by decide +kernel, rfl, by decide +kernel, by decide +kernel⟩
section
variable {P : Program} {w : World} {K : Fr} {mg : Str → Option Value} {base : Heap}
noncomputable def fd_L_right (g : Gg K mg) : FuncData := Classical.choose (g.c.def_ 42 (d := d_L_right) rfl)
theorem F_L_right (g : Gg K mg) : FunD K "_law_right" "_law_right" (defArgs s_L_right) (defBody s_L_right) (defScope s_L_right) [] [] (He.ga K "_law_right") (fd_L_right g) := Classical.choose_spec (g.c.def_ 42 (d := d_L_right) rfl)
theorem b_L_right (g : Gg K mg) : Binds K (fd_L_right g) ["_law_pot_here"] [] := (F_L_right g).bindsN fun _ _ _ _ _ _ us hl => match us, hl with | [_], _ => rfl
theorem t_L_right (g : Gg K mg) : FnG P w K mg base CX0 11 (He.ga K "_law_right") (fd_L_right g) ["_law_pot_here"] (spD K m_L_right) := fn_d (F_L_right g) sc_L_right rfl fun cdv A outer s H E hr =>
    (pst_c
      (st_set 1 sc_L_right.nd (px_op od_add (PX.po px_int) (PX.po (px_call (t_L_draw g) defM_Len (hr.mono (by decide)) rfl (g.glo 27) (F_L_draw g).kp (b_L_draw g) (pa_c (po_n (pv 0)) (pa_c (PX.po px_int) pa_0))))))
    (pst_c
      (st_set 2 sc_L_right.nd (px_call (t_L_weights g) defM_Len (hr.mono (by decide)) rfl (g.glo 32) (F_L_weights g).kp (b_L_weights g) (pa_c (po_n (pv 0)) (pa_c (PX.po (px_z (pv 1))) pa_0))))
    (pst_c
      (st_par 3 4 sc_L_right.nd (pa_c (PX.po (px_tup (pa_c (PX.po px_str) (pa_c (PX.po (px_z (pv 2))) pa_0)))) (pa_c (PX.po (px_call (t_L_monomial g) defM_Len (hr.mono (by decide)) rfl (g.glo 31) (F_L_monomial g).kp (b_L_monomial g) (pa_c (po_n (pv 0)) (pa_c (PX.po (px_z (pv 1))) (pa_c (PX.po px_int) pa_0))))) pa_0)))
    (pst_c
      (st_set 5 sc_L_right.nd (px_call (t_L_rules g) defM_Len (hr.mono (by decide)) rfl (g.glo 36) (F_L_rules g).kp (b_L_rules g) (pa_c (po_n (pv 0)) (pa_c (PX.po (px_z (pv 2))) (pa_c (PX.po (px_z (pv 4))) (pa_c (PX.po (px_f (px_op od_add (PX.po px_int) (PX.po (px_call (t_L_draw g) defM_Len (hr.mono (by decide)) rfl (g.glo 27) (F_L_draw g).kp (b_L_draw g) (pa_c (po_n (pv 0)) (pa_c (PX.po px_int) pa_0))))))) pa_0))))))
    (pst_c
      (ps_if' (pb_not (pb_t (PX.po (px_call (t_L_one_right g) defM_Len (hr.mono (by decide)) rfl (g.glo 39) (F_L_one_right g).kp (b_L_one_right g) (pa_c (po_n (pv 0)) (pa_c (PX.po (px_z (pv 3))) (pa_c (po_n (pv 5)) (pa_c (PX.po (px_z (pv 4))) pa_0)))))))) (pst_1 (ps_ret' px_bl)) pst_0)
    (pst_c
      (st_set 6 sc_L_right.nd (px_dsorted rfl hr.u rfl (g.free 54) (by decide +kernel) (PX.po (px_call (t_L_reached g) defM_Len (hr.mono (by decide)) rfl (g.glo 35) (F_L_reached g).kp (b_L_reached g) (pa_c (po_n (pv 5)) (pa_c (PX.po (px_z (pv 4))) (pa_c (PX.po px_int) pa_0)))))))
    (pst_c
      (st_set 7 sc_L_right.nd (px_ix (po_n (pv 6)) (PX.po (px_op od_mod (PX.po (px_call (t_L_draw g) defM_Len (hr.mono (by decide)) rfl (g.glo 27) (F_L_draw g).kp (b_L_draw g) (pa_c (po_n (pv 0)) (pa_c (PX.po px_int) pa_0)))) (PX.po (px_cb cd_len rfl (g.free 50) (by decide +kernel) (pa_c (po_n (pv 6)) pa_0)))))))
    (pst_c
      (st_set 8 sc_L_right.nd (px_cmp (od_eq hr.u') (PX.po (px_ix (PX.po (px_call (t_L_path g) defM_Len (hr.mono (by decide)) rfl (g.glo 37) (F_L_path g).kp (b_L_path g) (pa_c (PX.po (px_z (pv 5))) (pa_c (PX.po (px_z (pv 4))) pa_0)))) (PX.po (px_un ud_neg (PX.po px_int))))) (PX.po (px_ix (PX.po (px_call (t_L_path g) defM_Len (hr.mono (by decide)) rfl (g.glo 37) (F_L_path g).kp (b_L_path g) (pa_c (PX.po (px_z (pv 5))) (pa_c (PX.po (px_z (pv 7))) pa_0)))) (PX.po (px_un ud_neg (PX.po px_int))))) (nomark _)))
    (pst_c
      (ps_if' (pb_cmp (od_ne hr.u') (PX.po (px_cb (cd_repr hr.gd hr.u) rfl (g.free 53) (by decide +kernel) (pa_c (PX.po (px_call (t_have_one_end g) defM_Len (hr.mono (by decide)) rfl (g.glo 24) (F_have_one_end g).kp (b_have_one_end g) (pa_c (PX.po (px_z (pv 3))) (pa_c (PX.po (px_z (pv 5))) (pa_c (PX.po (px_z (pv 4))) (pa_c (PX.po (px_z (pv 7))) pa_0)))))) pa_0))) (PX.po (px_cb (cd_repr hr.gd hr.u) rfl (g.free 53) (by decide +kernel) (pa_c (po_n (pv 8)) pa_0))) (nomark _)) (pst_1 (ps_ret' px_bl)) pst_0)
    (pst_c
      (st_set 9 sc_L_right.nd (px_callK0 (t_have_one_end g) defM_Len (hr.mono (by decide)) rfl (g.glo 24) (F_have_one_end g).kp (kb_have_one_end_0 g) gk_fz (pkr_c (PX.po (px_z (pv 4))) (pkr_c (PX.po (px_z (pv 7))) (pkr_c (PX.po (px_z (pv 5))) (pkr_c (PX.po (px_z (pv 3))) pkr_0))))))
    (pst_c
      (ps_if' (pb_cmp (od_ne hr.u') (PX.po (px_cb (cd_repr hr.gd hr.u) rfl (g.free 53) (by decide +kernel) (pa_c (po_n (pv 9)) pa_0))) (PX.po (px_cb (cd_repr hr.gd hr.u) rfl (g.free 53) (by decide +kernel) (pa_c (po_n (pv 8)) pa_0))) (nomark _)) (pst_1 (ps_ret' px_bl)) pst_0)
    (pst_c
      (ps_if' (pb_cmp (od_ne hr.u') (PX.po (px_callK0 (t_end_of g) defM_Len (hr.mono (by decide)) rfl (g.glo 22) (F_end_of g).kp (kb_end_of_0 g) gk_fz (pkr_c (PX.po (px_z (pv 7))) (pkr_c (PX.po (px_z (pv 5))) (pkr_c (PX.po (px_z (pv 3))) pkr_0))))) (PX.po (px_ix (PX.po (px_call (t_L_path g) defM_Len (hr.mono (by decide)) rfl (g.glo 37) (F_L_path g).kp (b_L_path g) (pa_c (PX.po (px_z (pv 5))) (pa_c (PX.po (px_z (pv 7))) pa_0)))) (PX.po (px_un ud_neg (PX.po px_int))))) (nomark _)) (pst_1 (ps_ret' px_bl)) pst_0)
    (pst_1 (ps_ret' (px_cmp (od_eq hr.u') (PX.po (px_lst (pa_c (PX.po (px_f (px_call (t_end_of g) defM_Len (hr.mono (by decide)) rfl (g.glo 22) (F_end_of g).kp (b_end_of g) (pa_c (PX.po (px_z (pv 3))) (pa_c (PX.po (px_tup pa_0)) (pa_c (PX.po (px_z (pv 7))) pa_0)))))) (pa_c (PX.po (px_f (px_callK0 (t_ends_in_some_way g) defM_Len (hr.mono (by decide)) rfl (g.glo 25) (F_ends_in_some_way g).kp (kb_ends_in_some_way_0 g) gk_fz (pkr_c (PX.po (px_z (pv 7))) (pkr_c (PX.po (px_tup pa_0)) (pkr_c (PX.po (px_z (pv 3))) pkr_0)))))) pa_0)))) (PX.po (px_lst (pa_c (PX.po (px_z (pv 7))) (pa_c (PX.po (px_f (px_lst (pa_c (PX.po (px_z (pv 7))) pa_0)))) pa_0)))) (nomark _))))))))))))))))
end
/-! ### law -/
def m_law : MD := defM 1 [false] ((sRet (mCallD m_L_right [true] [] (aCons (oE (mCallD m_L_pot [false, false] [] (aCons (oE (mZ 0)) (aCons (oE (mC (.int 0))) aNil)))) aNil))))
theorem sc_law : FnScope ["_law_script"] ["_law_script"] (defScope s_law) := ⟨rfl, rfl, rfl, by decide +kernel, rfl, by decide +kernel, by decide +kernel⟩
section
variable {P : Program} {w : World} {K : Fr} {mg : Str → Option Value} {base : Heap}
noncomputable def fd_law (g : Gg K mg) : FuncData := Classical.choose (g.c.def_ 43 (d := d_law) rfl)
theorem F_law (g : Gg K mg) : FunD K "law" "law" (defArgs s_law) (defBody s_law) (defScope s_law) [] [] (He.ga K "law") (fd_law g) := Classical.choose_spec (g.c.def_ 43 (d := d_law) rfl)
theorem b_law (g : Gg K mg) : Binds K (fd_law g) ["_law_script"] [] := (F_law g).bindsN fun _ _ _ _ _ _ us hl => match us, hl with | [_], _ => rfl
theorem t_law (g : Gg K mg) : FnG P w K mg base CX0 12 (He.ga K "law") (fd_law g) ["_law_script"] (spD K m_law) := fn_d (F_law g) sc_law rfl fun cdv A outer s H E hr =>
    (pst_1 (ps_ret' (px_call (t_L_right g) defM_Len (hr.mono (by decide)) rfl (g.glo 40) (F_L_right g).kp (b_L_right g) (pa_c (PX.po (px_call (t_L_pot g) defM_Len (hr.mono (by decide)) rfl (g.glo 26) (F_L_pot g).kp (b_L_pot g) (pa_c (PX.po (px_z (pv 0))) (pa_c (PX.po px_int) pa_0)))) pa_0))))
end
end My

set_option Elab.async false
set_option maxRecDepth 100000
set_option linter.all false
set_option maxHeartbeats 1000000
namespace My
open PySem VL
abbrev rz (r : List Int) : Option T := some (.z (rowD r))
theorem all_map_id {α : Type} (f : α → Bool) (l : List α) : (l.map f).all id = l.all f := by simp
/-! ### monomials, orders -/
theorem e_is_integer (n : Int) : m_is_integer [.z (.int n)] = some (.z (.bool true), [iz n]) := by rfl
theorem e_is_count (n : Int) : m_is_count [.z (.int n)] = some (.z (.bool (decide (0 ≤ n))), [iz n]) := by
  simp [m_is_count, defM, startE, backs, sSeq, sSet, setSl, sRet, sRetN, sNx, sBk, sCt, sNo, sIf, sDrop, sPar, sPar3, sAsg, sFor, bV, bT, bAnd, bOr, bNot, truth, mAnd, mOr, mNot, mIf, mC, mZ, mM, mF, mTup, mLst, mCB, mBin, mUn, mChain, mIsi, mIsi2, mSl, mPt, mLC, mBM, mCallD, mCallK, callM, takeT, putT, slotsOf, nodupB, valsZ, gk, oN, oE, aNil, aCons, slotT, Arg.get, gets, zs, T.data, gN, gsC, gs0, gT, gS, iV, iZ, iR, seqOf, wipeE, restE, gAdd, gSub, gMul, gFdiv, gMod, gPow, gNeg, gLt, gGt, gLe, gGe, gEq, gNe, gIs, gIsN, isNon, gIx, L2.atI, L2.ixN, gLen, gTup, gLst, gSum, gAll, gAny, gAbs, gMax2, gMin2, gDivmod, gInt, gGcd, isT, gAppend, gInsert, gPop, zip2D, zip3D, enumD, gSl, mRev, gRev, mSS, gSS, gMax, gMin, gMaxS, gMinS, gIn, gNin, mExt, mDR, mDL, mCD, gDLen, gDLst, mD0, mD1, gSD, Arg.raw, mFD, mTD, iFD, sForN, mLCN, iNm, e_is_integer]
def cnt (most n : Int) : Bool := decide (0 ≤ n) && decide (n ≤ most)
theorem e_counts_1 (most : Int) (r : List Int) : l_are_counts_to_1 [iz most, rz r, none] = some (.l ((r.map fun n => cnt most n).map .bool), [iz most, rz r, none]) := by
  rw [l_are_counts_to_1, mLC_map (α := Int) (g := .int) (f := fun n => .bool (cnt most n)) (as := r) (ρ1 := [iz most, rz r, none])]
  · simp [defM, startE, backs, sSeq, sSet, setSl, sRet, sRetN, sNx, sBk, sCt, sNo, sIf, sDrop, sPar, sPar3, sAsg, sFor, bV, bT, bAnd, bOr, bNot, truth, mAnd, mOr, mNot, mIf, mC, mZ, mM, mF, mTup, mLst, mCB, mBin, mUn, mChain, mIsi, mIsi2, mSl, mPt, mLC, mBM, mCallD, mCallK, callM, takeT, putT, slotsOf, nodupB, valsZ, gk, oN, oE, aNil, aCons, slotT, Arg.get, gets, zs, T.data, gN, gsC, gs0, gT, gS, iV, iZ, iR, seqOf, wipeE, restE, gAdd, gSub, gMul, gFdiv, gMod, gPow, gNeg, gLt, gGt, gLe, gGe, gEq, gNe, gIs, gIsN, isNon, gIx, L2.atI, L2.ixN, gLen, gTup, gLst, gSum, gAll, gAny, gAbs, gMax2, gMin2, gDivmod, gInt, gGcd, isT, gAppend, gInsert, gPop, zip2D, zip3D, enumD, gSl, mRev, gRev, mSS, gSS, gMax, gMin, gMaxS, gMinS, gIn, gNin, mExt, mDR, mDL, mCD, gDLen, gDLst, mD0, mD1, gSD, Arg.raw, mFD, mTD, iFD, sForN, mLCN, iNm]
  · simp [defM, startE, backs, sSeq, sSet, setSl, sRet, sRetN, sNx, sBk, sCt, sNo, sIf, sDrop, sPar, sPar3, sAsg, sFor, bV, bT, bAnd, bOr, bNot, truth, mAnd, mOr, mNot, mIf, mC, mZ, mM, mF, mTup, mLst, mCB, mBin, mUn, mChain, mIsi, mIsi2, mSl, mPt, mLC, mBM, mCallD, mCallK, callM, takeT, putT, slotsOf, nodupB, valsZ, gk, oN, oE, aNil, aCons, slotT, Arg.get, gets, zs, T.data, gN, gsC, gs0, gT, gS, iV, iZ, iR, seqOf, wipeE, restE, gAdd, gSub, gMul, gFdiv, gMod, gPow, gNeg, gLt, gGt, gLe, gGe, gEq, gNe, gIs, gIsN, isNon, gIx, L2.atI, L2.ixN, gLen, gTup, gLst, gSum, gAll, gAny, gAbs, gMax2, gMin2, gDivmod, gInt, gGcd, isT, gAppend, gInsert, gPop, zip2D, zip3D, enumD, gSl, mRev, gRev, mSS, gSS, gMax, gMin, gMaxS, gMinS, gIn, gNin, mExt, mDR, mDL, mCD, gDLen, gDLst, mD0, mD1, gSD, Arg.raw, mFD, mTD, iFD, sForN, mLCN, iNm]
  · intro a _
    by_cases h : 0 ≤ a <;> simp [defM, startE, backs, sSeq, sSet, setSl, sRet, sRetN, sNx, sBk, sCt, sNo, sIf, sDrop, sPar, sPar3, sAsg, sFor, bV, bT, bAnd, bOr, bNot, truth, mAnd, mOr, mNot, mIf, mC, mZ, mM, mF, mTup, mLst, mCB, mBin, mUn, mChain, mIsi, mIsi2, mSl, mPt, mLC, mBM, mCallD, mCallK, callM, takeT, putT, slotsOf, nodupB, valsZ, gk, oN, oE, aNil, aCons, slotT, Arg.get, gets, zs, T.data, gN, gsC, gs0, gT, gS, iV, iZ, iR, seqOf, wipeE, restE, gAdd, gSub, gMul, gFdiv, gMod, gPow, gNeg, gLt, gGt, gLe, gGe, gEq, gNe, gIs, gIsN, isNon, gIx, L2.atI, L2.ixN, gLen, gTup, gLst, gSum, gAll, gAny, gAbs, gMax2, gMin2, gDivmod, gInt, gGcd, isT, gAppend, gInsert, gPop, zip2D, zip3D, enumD, gSl, mRev, gRev, mSS, gSS, gMax, gMin, gMaxS, gMinS, gIn, gNin, mExt, mDR, mDL, mCD, gDLen, gDLst, mD0, mD1, gSD, Arg.raw, mFD, mTD, iFD, sForN, mLCN, iNm, e_is_count, cnt, h]
theorem e_counts (most : Int) (r : List Int) : m_are_counts_to [.z (.int most), .z (rowD r)] = some (.z (.bool (r.all (cnt most))), [iz most, rz r]) := by
  have e := e_counts_1 most r
  simp only [List.map_map] at e
  simp [m_are_counts_to, defM, startE, backs, sSeq, sSet, setSl, sRet, sRetN, sNx, sBk, sCt, sNo, sIf, sDrop, sPar, sPar3, sAsg, sFor, bV, bT, bAnd, bOr, bNot, truth, mAnd, mOr, mNot, mIf, mC, mZ, mM, mF, mTup, mLst, mCB, mBin, mUn, mChain, mIsi, mIsi2, mSl, mPt, mLC, mBM, mCallD, mCallK, callM, takeT, putT, slotsOf, nodupB, valsZ, gk, oN, oE, aNil, aCons, slotT, Arg.get, gets, zs, T.data, gN, gsC, gs0, gT, gS, iV, iZ, iR, seqOf, wipeE, restE, gAdd, gSub, gMul, gFdiv, gMod, gPow, gNeg, gLt, gGt, gLe, gGe, gEq, gNe, gIs, gIsN, isNon, gIx, L2.atI, L2.ixN, gLen, gTup, gLst, gSum, gAll, gAny, gAbs, gMax2, gMin2, gDivmod, gInt, gGcd, isT, gAppend, gInsert, gPop, zip2D, zip3D, enumD, gSl, mRev, gRev, mSS, gSS, gMax, gMin, gMaxS, gMinS, gIn, gNin, mExt, mDR, mDL, mCD, gDLen, gDLst, mD0, mD1, gSD, Arg.raw, mFD, mTD, iFD, sForN, mLCN, iNm, e, bools?_map, Function.comp_def]
def okM (many : Nat) (r : List Int) : Bool := r.all (cnt 20000) && decide (r.length = many)
theorem e_monomial_of (many : Nat) (r : List Int) : m_is_monomial_of [.z (.int (many : Nat)), .z (rowD r)] = some (.z (.bool (okM many r)), [iz many, rz r]) := by
  have q : ((r.length : Int) = (many : Int)) ↔ r.length = many := by omega
  cases h : r.all (cnt 20000) with
  | false => simp [m_is_monomial_of, defM, startE, backs, sSeq, sSet, setSl, sRet, sRetN, sNx, sBk, sCt, sNo, sIf, sDrop, sPar, sPar3, sAsg, sFor, bV, bT, bAnd, bOr, bNot, truth, mAnd, mOr, mNot, mIf, mC, mZ, mM, mF, mTup, mLst, mCB, mBin, mUn, mChain, mIsi, mIsi2, mSl, mPt, mLC, mBM, mCallD, mCallK, callM, takeT, putT, slotsOf, nodupB, valsZ, gk, oN, oE, aNil, aCons, slotT, Arg.get, gets, zs, T.data, gN, gsC, gs0, gT, gS, iV, iZ, iR, seqOf, wipeE, restE, gAdd, gSub, gMul, gFdiv, gMod, gPow, gNeg, gLt, gGt, gLe, gGe, gEq, gNe, gIs, gIsN, isNon, gIx, L2.atI, L2.ixN, gLen, gTup, gLst, gSum, gAll, gAny, gAbs, gMax2, gMin2, gDivmod, gInt, gGcd, isT, gAppend, gInsert, gPop, zip2D, zip3D, enumD, gSl, mRev, gRev, mSS, gSS, gMax, gMin, gMaxS, gMinS, gIn, gNin, mExt, mDR, mDL, mCD, gDLen, gDLst, mD0, mD1, gSD, Arg.raw, mFD, mTD, iFD, sForN, mLCN, iNm, e_counts, okM, h]
  | true => simp [m_is_monomial_of, defM, startE, backs, sSeq, sSet, setSl, sRet, sRetN, sNx, sBk, sCt, sNo, sIf, sDrop, sPar, sPar3, sAsg, sFor, bV, bT, bAnd, bOr, bNot, truth, mAnd, mOr, mNot, mIf, mC, mZ, mM, mF, mTup, mLst, mCB, mBin, mUn, mChain, mIsi, mIsi2, mSl, mPt, mLC, mBM, mCallD, mCallK, callM, takeT, putT, slotsOf, nodupB, valsZ, gk, oN, oE, aNil, aCons, slotT, Arg.get, gets, zs, T.data, gN, gsC, gs0, gT, gS, iV, iZ, iR, seqOf, wipeE, restE, gAdd, gSub, gMul, gFdiv, gMod, gPow, gNeg, gLt, gGt, gLe, gGe, gEq, gNe, gIs, gIsN, isNon, gIx, L2.atI, L2.ixN, gLen, gTup, gLst, gSum, gAll, gAny, gAbs, gMax2, gMin2, gDivmod, gInt, gGcd, isT, gAppend, gInsert, gPop, zip2D, zip3D, enumD, gSl, mRev, gRev, mSS, gSS, gMax, gMin, gMaxS, gMinS, gIn, gNin, mExt, mDR, mDL, mCD, gDLen, gDLst, mD0, mD1, gSD, Arg.raw, mFD, mTD, iFD, sForN, mLCN, iNm, e_counts, okM, h, q]
def Gw (w : List Int) : Prop := w.all (cnt 99) = true ∧ 1 ≤ w.length ∧ w.length ≤ 40
abbrev ordD (w : List Int) : D := .tuple [.str "order", rowD w]
theorem e_order_value (w : List Int) (h : Gw w) : m_is_order_value [.z (ordD w)] = some (.z (.bool true), [some (.z (ordD w))]) := by
  have h1 : (1 : Int) ≤ (w.length : Int) := by have := h.2.1; omega
  have h2 : (w.length : Int) ≤ 40 := by have := h.2.2; omega
  simp [m_is_order_value, defM, startE, backs, sSeq, sSet, setSl, sRet, sRetN, sNx, sBk, sCt, sNo, sIf, sDrop, sPar, sPar3, sAsg, sFor, bV, bT, bAnd, bOr, bNot, truth, mAnd, mOr, mNot, mIf, mC, mZ, mM, mF, mTup, mLst, mCB, mBin, mUn, mChain, mIsi, mIsi2, mSl, mPt, mLC, mBM, mCallD, mCallK, callM, takeT, putT, slotsOf, nodupB, valsZ, gk, oN, oE, aNil, aCons, slotT, Arg.get, gets, zs, T.data, gN, gsC, gs0, gT, gS, iV, iZ, iR, seqOf, wipeE, restE, gAdd, gSub, gMul, gFdiv, gMod, gPow, gNeg, gLt, gGt, gLe, gGe, gEq, gNe, gIs, gIsN, isNon, gIx, L2.atI, L2.ixN, gLen, gTup, gLst, gSum, gAll, gAny, gAbs, gMax2, gMin2, gDivmod, gInt, gGcd, isT, gAppend, gInsert, gPop, zip2D, zip3D, enumD, gSl, mRev, gRev, mSS, gSS, gMax, gMin, gMaxS, gMinS, gIn, gNin, mExt, mDR, mDL, mCD, gDLen, gDLst, mD0, mD1, gSD, Arg.raw, mFD, mTD, iFD, sForN, mLCN, iNm, e_counts, h.1, h1, h2, str_beq]
theorem e_want_order (w : List Int) (h : Gw w) : m_want_order [.z (ordD w)] = some (.z (ordD w), [some (.z (ordD w))]) := by
  simp [m_want_order, defM, startE, backs, sSeq, sSet, setSl, sRet, sRetN, sNx, sBk, sCt, sNo, sIf, sDrop, sPar, sPar3, sAsg, sFor, bV, bT, bAnd, bOr, bNot, truth, mAnd, mOr, mNot, mIf, mC, mZ, mM, mF, mTup, mLst, mCB, mBin, mUn, mChain, mIsi, mIsi2, mSl, mPt, mLC, mBM, mCallD, mCallK, callM, takeT, putT, slotsOf, nodupB, valsZ, gk, oN, oE, aNil, aCons, slotT, Arg.get, gets, zs, T.data, gN, gsC, gs0, gT, gS, iV, iZ, iR, seqOf, wipeE, restE, gAdd, gSub, gMul, gFdiv, gMod, gPow, gNeg, gLt, gGt, gLe, gGe, gEq, gNe, gIs, gIsN, isNon, gIx, L2.atI, L2.ixN, gLen, gTup, gLst, gSum, gAll, gAny, gAbs, gMax2, gMin2, gDivmod, gInt, gGcd, isT, gAppend, gInsert, gPop, zip2D, zip3D, enumD, gSl, mRev, gRev, mSS, gSS, gMax, gMin, gMaxS, gMinS, gIn, gNin, mExt, mDR, mDL, mCD, gDLen, gDLst, mD0, mD1, gSD, Arg.raw, mFD, mTD, iFD, sForN, mLCN, iNm, e_order_value w h]
theorem e_want_monomial (many : Nat) (r : List Int) (h : okM many r = true) : m_want_monomial [.z (.int (many : Nat)), .z (rowD r)] = some (.z (rowD r), [iz many, rz r]) := by
  simp [m_want_monomial, defM, startE, backs, sSeq, sSet, setSl, sRet, sRetN, sNx, sBk, sCt, sNo, sIf, sDrop, sPar, sPar3, sAsg, sFor, bV, bT, bAnd, bOr, bNot, truth, mAnd, mOr, mNot, mIf, mC, mZ, mM, mF, mTup, mLst, mCB, mBin, mUn, mChain, mIsi, mIsi2, mSl, mPt, mLC, mBM, mCallD, mCallK, callM, takeT, putT, slotsOf, nodupB, valsZ, gk, oN, oE, aNil, aCons, slotT, Arg.get, gets, zs, T.data, gN, gsC, gs0, gT, gS, iV, iZ, iR, seqOf, wipeE, restE, gAdd, gSub, gMul, gFdiv, gMod, gPow, gNeg, gLt, gGt, gLe, gGe, gEq, gNe, gIs, gIsN, isNon, gIx, L2.atI, L2.ixN, gLen, gTup, gLst, gSum, gAll, gAny, gAbs, gMax2, gMin2, gDivmod, gInt, gGcd, isT, gAppend, gInsert, gPop, zip2D, zip3D, enumD, gSl, mRev, gRev, mSS, gSS, gMax, gMin, gMaxS, gMinS, gIn, gNin, mExt, mDR, mDL, mCD, gDLen, gDLst, mD0, mD1, gSD, Arg.raw, mFD, mTD, iFD, sForN, mLCN, iNm, e_monomial_of, h]
/-! ### keys -/
def dot (x y : List Int) : Int := ((x.zip y).map fun p => p.1 * p.2).sum
def Sm (x : List Int) : Prop := ∀ a ∈ x, a.natAbs < 2 ^ 64
theorem e_key_2 (w r : List Int) (h : Sm w) : l_order_key_2 [rz w, rz r, none, none, none] = some (.l (((w.zip r).map fun p => p.1 * p.2).map .int), [rz w, rz r, none, none, none]) := by
  rw [l_order_key_2, mLC_map (α := Int × Int) (g := fun p => .tuple [.int p.1, .int p.2]) (f := fun p => .int (p.1 * p.2)) (as := w.zip r) (ρ1 := [rz w, rz r, none, none, none])]
  · simp [defM, startE, backs, sSeq, sSet, setSl, sRet, sRetN, sNx, sBk, sCt, sNo, sIf, sDrop, sPar, sPar3, sAsg, sFor, bV, bT, bAnd, bOr, bNot, truth, mAnd, mOr, mNot, mIf, mC, mZ, mM, mF, mTup, mLst, mCB, mBin, mUn, mChain, mIsi, mIsi2, mSl, mPt, mLC, mBM, mCallD, mCallK, callM, takeT, putT, slotsOf, nodupB, valsZ, gk, oN, oE, aNil, aCons, slotT, Arg.get, gets, zs, T.data, gN, gsC, gs0, gT, gS, iV, iZ, iR, seqOf, wipeE, restE, gAdd, gSub, gMul, gFdiv, gMod, gPow, gNeg, gLt, gGt, gLe, gGe, gEq, gNe, gIs, gIsN, isNon, gIx, L2.atI, L2.ixN, gLen, gTup, gLst, gSum, gAll, gAny, gAbs, gMax2, gMin2, gDivmod, gInt, gGcd, isT, gAppend, gInsert, gPop, zip2D, zip3D, enumD, gSl, mRev, gRev, mSS, gSS, gMax, gMin, gMaxS, gMinS, gIn, gNin, mExt, mDR, mDL, mCD, gDLen, gDLst, mD0, mD1, gSD, Arg.raw, mFD, mTD, iFD, sForN, mLCN, iNm]
  · simp [defM, startE, backs, sSeq, sSet, setSl, sRet, sRetN, sNx, sBk, sCt, sNo, sIf, sDrop, sPar, sPar3, sAsg, sFor, bV, bT, bAnd, bOr, bNot, truth, mAnd, mOr, mNot, mIf, mC, mZ, mM, mF, mTup, mLst, mCB, mBin, mUn, mChain, mIsi, mIsi2, mSl, mPt, mLC, mBM, mCallD, mCallK, callM, takeT, putT, slotsOf, nodupB, valsZ, gk, oN, oE, aNil, aCons, slotT, Arg.get, gets, zs, T.data, gN, gsC, gs0, gT, gS, iV, iZ, iR, seqOf, wipeE, restE, gAdd, gSub, gMul, gFdiv, gMod, gPow, gNeg, gLt, gGt, gLe, gGe, gEq, gNe, gIs, gIsN, isNon, gIx, L2.atI, L2.ixN, gLen, gTup, gLst, gSum, gAll, gAny, gAbs, gMax2, gMin2, gDivmod, gInt, gGcd, isT, gAppend, gInsert, gPop, zip2D, zip3D, enumD, gSl, mRev, gRev, mSS, gSS, gMax, gMin, gMaxS, gMinS, gIn, gNin, mExt, mDR, mDL, mCD, gDLen, gDLst, mD0, mD1, gSD, Arg.raw, mFD, mTD, iFD, sForN, mLCN, iNm, zipW_map, List.zip_map, Function.comp_def]
  · intro a ha
    have hk' : a.1.natAbs < 18446744073709551616 := h _ (List.of_mem_zip (show (a.1, a.2) ∈ w.zip r from ha)).1
    simp [defM, startE, backs, sSeq, sSet, setSl, sRet, sRetN, sNx, sBk, sCt, sNo, sIf, sDrop, sPar, sPar3, sAsg, sFor, bV, bT, bAnd, bOr, bNot, truth, mAnd, mOr, mNot, mIf, mC, mZ, mM, mF, mTup, mLst, mCB, mBin, mUn, mChain, mIsi, mIsi2, mSl, mPt, mLC, mBM, mCallD, mCallK, callM, takeT, putT, slotsOf, nodupB, valsZ, gk, oN, oE, aNil, aCons, slotT, Arg.get, gets, zs, T.data, gN, gsC, gs0, gT, gS, iV, iZ, iR, seqOf, wipeE, restE, gAdd, gSub, gMul, gFdiv, gMod, gPow, gNeg, gLt, gGt, gLe, gGe, gEq, gNe, gIs, gIsN, isNon, gIx, L2.atI, L2.ixN, gLen, gTup, gLst, gSum, gAll, gAny, gAbs, gMax2, gMin2, gDivmod, gInt, gGcd, isT, gAppend, gInsert, gPop, zip2D, zip3D, enumD, gSl, mRev, gRev, mSS, gSS, gMax, gMin, gMaxS, gMinS, gIn, gNin, mExt, mDR, mDL, mCD, gDLen, gDLst, mD0, mD1, gSD, Arg.raw, mFD, mTD, iFD, sForN, mLCN, iNm, hk']
theorem e_key_1 (w r : List Int) (c : Option T) : l_order_key_1 [rz w, rz r, c, none, none] = some (.l ((r.reverse.map fun n => -n).map .int), [rz w, rz r, c, none, none]) := by
  rw [l_order_key_1, mLC_map (α := Int) (g := .int) (f := fun n => .int (-n)) (as := r.reverse) (ρ1 := [rz w, rz r, c, none, none])]
  · simp [defM, startE, backs, sSeq, sSet, setSl, sRet, sRetN, sNx, sBk, sCt, sNo, sIf, sDrop, sPar, sPar3, sAsg, sFor, bV, bT, bAnd, bOr, bNot, truth, mAnd, mOr, mNot, mIf, mC, mZ, mM, mF, mTup, mLst, mCB, mBin, mUn, mChain, mIsi, mIsi2, mSl, mPt, mLC, mBM, mCallD, mCallK, callM, takeT, putT, slotsOf, nodupB, valsZ, gk, oN, oE, aNil, aCons, slotT, Arg.get, gets, zs, T.data, gN, gsC, gs0, gT, gS, iV, iZ, iR, seqOf, wipeE, restE, gAdd, gSub, gMul, gFdiv, gMod, gPow, gNeg, gLt, gGt, gLe, gGe, gEq, gNe, gIs, gIsN, isNon, gIx, L2.atI, L2.ixN, gLen, gTup, gLst, gSum, gAll, gAny, gAbs, gMax2, gMin2, gDivmod, gInt, gGcd, isT, gAppend, gInsert, gPop, zip2D, zip3D, enumD, gSl, mRev, gRev, mSS, gSS, gMax, gMin, gMaxS, gMinS, gIn, gNin, mExt, mDR, mDL, mCD, gDLen, gDLst, mD0, mD1, gSD, Arg.raw, mFD, mTD, iFD, sForN, mLCN, iNm]
  · simp [defM, startE, backs, sSeq, sSet, setSl, sRet, sRetN, sNx, sBk, sCt, sNo, sIf, sDrop, sPar, sPar3, sAsg, sFor, bV, bT, bAnd, bOr, bNot, truth, mAnd, mOr, mNot, mIf, mC, mZ, mM, mF, mTup, mLst, mCB, mBin, mUn, mChain, mIsi, mIsi2, mSl, mPt, mLC, mBM, mCallD, mCallK, callM, takeT, putT, slotsOf, nodupB, valsZ, gk, oN, oE, aNil, aCons, slotT, Arg.get, gets, zs, T.data, gN, gsC, gs0, gT, gS, iV, iZ, iR, seqOf, wipeE, restE, gAdd, gSub, gMul, gFdiv, gMod, gPow, gNeg, gLt, gGt, gLe, gGe, gEq, gNe, gIs, gIsN, isNon, gIx, L2.atI, L2.ixN, gLen, gTup, gLst, gSum, gAll, gAny, gAbs, gMax2, gMin2, gDivmod, gInt, gGcd, isT, gAppend, gInsert, gPop, zip2D, zip3D, enumD, gSl, mRev, gRev, mSS, gSS, gMax, gMin, gMaxS, gMinS, gIn, gNin, mExt, mDR, mDL, mCD, gDLen, gDLst, mD0, mD1, gSD, Arg.raw, mFD, mTD, iFD, sForN, mLCN, iNm]
  · intro a _; rfl
/-- the key, flat -/
def fk (w r : List Int) : List Int := dot w r :: r.sum :: r.reverse.map fun n => -n
abbrev keyD (w r : List Int) : D := .tuple [.int (dot w r), .int r.sum, rowD (r.reverse.map fun n => -n)]
theorem e_order_key (w r : List Int) (h : Sm w) : m_order_key [.z (rowD w), .z (rowD r)] = some (.z (keyD w r), [rz w, rz r]) := by
  have e2 := e_key_2 w r h
  have e1 := e_key_1 w r (iz (dot w r))
  simp only [List.map_map, Function.comp_def, dot] at e1 e2
  simp [m_order_key, defM, startE, backs, sSeq, sSet, setSl, sRet, sRetN, sNx, sBk, sCt, sNo, sIf, sDrop, sPar, sPar3, sAsg, sFor, bV, bT, bAnd, bOr, bNot, truth, mAnd, mOr, mNot, mIf, mC, mZ, mM, mF, mTup, mLst, mCB, mBin, mUn, mChain, mIsi, mIsi2, mSl, mPt, mLC, mBM, mCallD, mCallK, callM, takeT, putT, slotsOf, nodupB, valsZ, gk, oN, oE, aNil, aCons, slotT, Arg.get, gets, zs, T.data, gN, gsC, gs0, gT, gS, iV, iZ, iR, seqOf, wipeE, restE, gAdd, gSub, gMul, gFdiv, gMod, gPow, gNeg, gLt, gGt, gLe, gGe, gEq, gNe, gIs, gIsN, isNon, gIx, L2.atI, L2.ixN, gLen, gTup, gLst, gSum, gAll, gAny, gAbs, gMax2, gMin2, gDivmod, gInt, gGcd, isT, gAppend, gInsert, gPop, zip2D, zip3D, enumD, gSl, mRev, gRev, mSS, gSS, gMax, gMin, gMaxS, gMinS, gIn, gNin, mExt, mDR, mDL, mCD, gDLen, gDLst, mD0, mD1, gSD, Arg.raw, mFD, mTD, iFD, sForN, mLCN, iNm, e1, e2, ints?_map, ints?_ints, Function.comp_def, dot, keyD]
theorem lt_key (w a b : List Int) : PySem.W.dataLt (keyD w a) (keyD w b) = ltI (fk w a) (fk w b) := by
  unfold fk
  rw [PySem.W.dataLt_tuple, lt_cons_int, lt_cons_int, lt_cons_row]
  simp only [ltI]
  by_cases h1 : dot w a = dot w b
  · by_cases h2 : a.sum = b.sum
    · rw [if_pos h1, if_pos h2, if_pos h1, if_pos h2]
      by_cases h3 : (a.reverse.map fun n => -n) = (b.reverse.map fun n => -n)
      · rw [if_pos h3, h3, ltI_irr]; rfl
      · rw [if_neg h3]
    · rw [if_pos h1, if_neg h2, if_pos h1, if_neg h2]
  · rw [if_neg h1, if_neg h1]
theorem alike_key (w a b : List Int) : PySem.W.alike (keyD w a) (keyD w b) = true := by
  unfold PySem.W.alike
  have h := alikeAll_ints (a.reverse.map fun n => -n) (b.reverse.map fun n => -n)
  simp only [PySem.W.alikeAll, h, Bool.and_true]
  rfl
theorem depth_key (w a : List Int) : PyData.depth (keyD w a) = 2 := by
  show PyData.depthAll [.int (dot w a), .int a.sum, rowD _] + 1 = 2
  simp only [PyData.depthAll, PyData.depth, depth_ints0]
  rfl
theorem gt_key (w a b : List Int) : gGt (keyD w a) (keyD w b) = bo (ltI (fk w b) (fk w a)) := by
  have c : PySem.W.alike (keyD w a) (keyD w b) = true ∧ isNon (keyD w a) = false ∧ min (PyData.depth (keyD w a)) (PyData.depth (keyD w b)) ≤ 60 := ⟨alike_key w a b, rfl, by rw [depth_key, depth_key]; decide⟩
  show (if PySem.W.alike (keyD w a) (keyD w b) = true ∧ isNon (keyD w a) = false ∧ min (PyData.depth (keyD w a)) (PyData.depth (keyD w b)) ≤ 60 then bo (PySem.W.dataLt (keyD w b) (keyD w a)) else none) = _
  rw [if_pos c, lt_key]
theorem e_is_greater (w a b : List Int) (h : Sm w) : m_is_greater [.z (rowD w), .z (rowD a), .z (rowD b)] = some (.z (.bool (ltI (fk w b) (fk w a))), [rz w, rz a, rz b]) := by
  have ea := e_order_key w a h
  have eb := e_order_key w b h
  have g := gt_key w a b
  generalize keyD w a = A at *
  generalize keyD w b = B at *
  simp [m_is_greater, defM, startE, backs, sRet, mBin, oE, mCallD, callM, takeT, putT, slotsOf, nodupB, aCons, aNil, mZ, slotT, Arg.get, T.data, ea, eb, g]
/-! ### greater, rules -/
theorem e_greater (w a b : List Int) (hw : Gw w) (h : Sm w) (ha : okM w.length a = true) (hb : okM w.length b = true) (hne : a ≠ b) : m_greater [.z (ordD w), .z (rowD a), .z (rowD b)] = some (.z (.int (if ltI (fk w b) (fk w a) = true then 1 else -1)), [some (.z (ordD w)), rz a, rz b]) := by
  have eq := eq_row a b
  rw [decide_eq_false hne] at eq
  have e1 := e_want_order w hw
  have e2 := e_want_monomial w.length a ha
  have e3 := e_want_monomial w.length b hb
  have eg := e_is_greater w a b h
  cases hg : ltI (fk w b) (fk w a) <;> simp only [hg] at eg <;>
  simp [m_greater, k_greater_1, k_greater_2, k_greater_3, k_greater_4, k_greater_5, defM, startE, backs, sSeq, sSet, setSl, sRet, sRetN, sNx, sBk, sCt, sNo, sIf, sDrop, sPar, sPar3, sAsg, sFor, bV, bT, bAnd, bOr, bNot, truth, mAnd, mOr, mNot, mIf, mC, mZ, mM, mF, mTup, mLst, mCB, mBin, mUn, mChain, mIsi, mIsi2, mSl, mPt, mLC, mBM, mCallD, mCallK, callM, takeT, putT, slotsOf, nodupB, valsZ, gk, oN, oE, aNil, aCons, slotT, Arg.get, gets, zs, T.data, gN, gsC, gs0, gT, gS, iV, iZ, iR, seqOf, wipeE, restE, gAdd, gSub, gMul, gFdiv, gMod, gPow, gNeg, gLt, gGt, gLe, gGe, gEq, gNe, gIs, gIsN, isNon, gIx, L2.atI, L2.ixN, gLen, gTup, gLst, gSum, gAll, gAny, gAbs, gMax2, gMin2, gDivmod, gInt, gGcd, isT, gAppend, gInsert, gPop, zip2D, zip3D, enumD, gSl, mRev, gRev, mSS, gSS, gMax, gMin, gMaxS, gMinS, gIn, gNin, mExt, mDR, mDL, mCD, gDLen, gDLst, mD0, mD1, gSD, Arg.raw, mFD, mTD, iFD, sForN, mLCN, iNm, e1, e2, e3, eg, shaped_row, eqv_row, hne]
def rl (w a b : List Int) : List Int × List Int := if ltI (fk w b) (fk w a) = true then (a, b) else (b, a)
/-! ### the law's own key and rule -/
theorem e_Lk_2 (w r : List Int) (h : Sm w) : l_L_key_2 [rz w, rz r, none, none, none] = some (.l (((w.zip r).map fun p => p.1 * p.2).map .int), [rz w, rz r, none, none, none]) := by
  rw [l_L_key_2, mLC_map (α := Int × Int) (g := fun p => .tuple [.int p.1, .int p.2]) (f := fun p => .int (p.1 * p.2)) (as := w.zip r) (ρ1 := [rz w, rz r, none, none, none])]
  · simp [defM, startE, backs, sSeq, sSet, setSl, sRet, sRetN, sNx, sBk, sCt, sNo, sIf, sDrop, sPar, sPar3, sAsg, sFor, bV, bT, bAnd, bOr, bNot, truth, mAnd, mOr, mNot, mIf, mC, mZ, mM, mF, mTup, mLst, mCB, mBin, mUn, mChain, mIsi, mIsi2, mSl, mPt, mLC, mBM, mCallD, mCallK, callM, takeT, putT, slotsOf, nodupB, valsZ, gk, oN, oE, aNil, aCons, slotT, Arg.get, gets, zs, T.data, gN, gsC, gs0, gT, gS, iV, iZ, iR, seqOf, wipeE, restE, gAdd, gSub, gMul, gFdiv, gMod, gPow, gNeg, gLt, gGt, gLe, gGe, gEq, gNe, gIs, gIsN, isNon, gIx, L2.atI, L2.ixN, gLen, gTup, gLst, gSum, gAll, gAny, gAbs, gMax2, gMin2, gDivmod, gInt, gGcd, isT, gAppend, gInsert, gPop, zip2D, zip3D, enumD, gSl, mRev, gRev, mSS, gSS, gMax, gMin, gMaxS, gMinS, gIn, gNin, mExt, mDR, mDL, mCD, gDLen, gDLst, mD0, mD1, gSD, Arg.raw, mFD, mTD, iFD, sForN, mLCN, iNm]
  · simp [defM, startE, backs, sSeq, sSet, setSl, sRet, sRetN, sNx, sBk, sCt, sNo, sIf, sDrop, sPar, sPar3, sAsg, sFor, bV, bT, bAnd, bOr, bNot, truth, mAnd, mOr, mNot, mIf, mC, mZ, mM, mF, mTup, mLst, mCB, mBin, mUn, mChain, mIsi, mIsi2, mSl, mPt, mLC, mBM, mCallD, mCallK, callM, takeT, putT, slotsOf, nodupB, valsZ, gk, oN, oE, aNil, aCons, slotT, Arg.get, gets, zs, T.data, gN, gsC, gs0, gT, gS, iV, iZ, iR, seqOf, wipeE, restE, gAdd, gSub, gMul, gFdiv, gMod, gPow, gNeg, gLt, gGt, gLe, gGe, gEq, gNe, gIs, gIsN, isNon, gIx, L2.atI, L2.ixN, gLen, gTup, gLst, gSum, gAll, gAny, gAbs, gMax2, gMin2, gDivmod, gInt, gGcd, isT, gAppend, gInsert, gPop, zip2D, zip3D, enumD, gSl, mRev, gRev, mSS, gSS, gMax, gMin, gMaxS, gMinS, gIn, gNin, mExt, mDR, mDL, mCD, gDLen, gDLst, mD0, mD1, gSD, Arg.raw, mFD, mTD, iFD, sForN, mLCN, iNm, zipW_map, List.zip_map, Function.comp_def]
  · intro a ha
    have hk' : a.1.natAbs < 18446744073709551616 := h _ (List.of_mem_zip (show (a.1, a.2) ∈ w.zip r from ha)).1
    simp [defM, startE, backs, sSeq, sSet, setSl, sRet, sRetN, sNx, sBk, sCt, sNo, sIf, sDrop, sPar, sPar3, sAsg, sFor, bV, bT, bAnd, bOr, bNot, truth, mAnd, mOr, mNot, mIf, mC, mZ, mM, mF, mTup, mLst, mCB, mBin, mUn, mChain, mIsi, mIsi2, mSl, mPt, mLC, mBM, mCallD, mCallK, callM, takeT, putT, slotsOf, nodupB, valsZ, gk, oN, oE, aNil, aCons, slotT, Arg.get, gets, zs, T.data, gN, gsC, gs0, gT, gS, iV, iZ, iR, seqOf, wipeE, restE, gAdd, gSub, gMul, gFdiv, gMod, gPow, gNeg, gLt, gGt, gLe, gGe, gEq, gNe, gIs, gIsN, isNon, gIx, L2.atI, L2.ixN, gLen, gTup, gLst, gSum, gAll, gAny, gAbs, gMax2, gMin2, gDivmod, gInt, gGcd, isT, gAppend, gInsert, gPop, zip2D, zip3D, enumD, gSl, mRev, gRev, mSS, gSS, gMax, gMin, gMaxS, gMinS, gIn, gNin, mExt, mDR, mDL, mCD, gDLen, gDLst, mD0, mD1, gSD, Arg.raw, mFD, mTD, iFD, sForN, mLCN, iNm, hk']
theorem e_Lk_1 (w r : List Int) (c : Option T) : l_L_key_1 [rz w, rz r, c, none, none] = some (.l ((r.reverse.map fun n => -n).map .int), [rz w, rz r, c, none, none]) := by
  rw [l_L_key_1, mLC_map (α := Int) (g := .int) (f := fun n => .int (-n)) (as := r.reverse) (ρ1 := [rz w, rz r, c, none, none])]
  · simp [defM, startE, backs, sSeq, sSet, setSl, sRet, sRetN, sNx, sBk, sCt, sNo, sIf, sDrop, sPar, sPar3, sAsg, sFor, bV, bT, bAnd, bOr, bNot, truth, mAnd, mOr, mNot, mIf, mC, mZ, mM, mF, mTup, mLst, mCB, mBin, mUn, mChain, mIsi, mIsi2, mSl, mPt, mLC, mBM, mCallD, mCallK, callM, takeT, putT, slotsOf, nodupB, valsZ, gk, oN, oE, aNil, aCons, slotT, Arg.get, gets, zs, T.data, gN, gsC, gs0, gT, gS, iV, iZ, iR, seqOf, wipeE, restE, gAdd, gSub, gMul, gFdiv, gMod, gPow, gNeg, gLt, gGt, gLe, gGe, gEq, gNe, gIs, gIsN, isNon, gIx, L2.atI, L2.ixN, gLen, gTup, gLst, gSum, gAll, gAny, gAbs, gMax2, gMin2, gDivmod, gInt, gGcd, isT, gAppend, gInsert, gPop, zip2D, zip3D, enumD, gSl, mRev, gRev, mSS, gSS, gMax, gMin, gMaxS, gMinS, gIn, gNin, mExt, mDR, mDL, mCD, gDLen, gDLst, mD0, mD1, gSD, Arg.raw, mFD, mTD, iFD, sForN, mLCN, iNm]
  · simp [defM, startE, backs, sSeq, sSet, setSl, sRet, sRetN, sNx, sBk, sCt, sNo, sIf, sDrop, sPar, sPar3, sAsg, sFor, bV, bT, bAnd, bOr, bNot, truth, mAnd, mOr, mNot, mIf, mC, mZ, mM, mF, mTup, mLst, mCB, mBin, mUn, mChain, mIsi, mIsi2, mSl, mPt, mLC, mBM, mCallD, mCallK, callM, takeT, putT, slotsOf, nodupB, valsZ, gk, oN, oE, aNil, aCons, slotT, Arg.get, gets, zs, T.data, gN, gsC, gs0, gT, gS, iV, iZ, iR, seqOf, wipeE, restE, gAdd, gSub, gMul, gFdiv, gMod, gPow, gNeg, gLt, gGt, gLe, gGe, gEq, gNe, gIs, gIsN, isNon, gIx, L2.atI, L2.ixN, gLen, gTup, gLst, gSum, gAll, gAny, gAbs, gMax2, gMin2, gDivmod, gInt, gGcd, isT, gAppend, gInsert, gPop, zip2D, zip3D, enumD, gSl, mRev, gRev, mSS, gSS, gMax, gMin, gMaxS, gMinS, gIn, gNin, mExt, mDR, mDL, mCD, gDLen, gDLst, mD0, mD1, gSD, Arg.raw, mFD, mTD, iFD, sForN, mLCN, iNm]
  · intro a _; rfl
theorem e_L_key (w r : List Int) (h : Sm w) (hr : r.length ≤ 1000) : m_L_key [.z (rowD w), .z (rowD r)] = some (.z (rowD (fk w r)), [rz w, rz r]) := by
  have e2 := e_Lk_2 w r h
  have e1 := e_Lk_1 w r (iz (dot w r))
  simp only [List.map_map, Function.comp_def, dot] at e1 e2
  simp [m_L_key, defM, startE, backs, sSeq, sSet, setSl, sRet, sRetN, sNx, sBk, sCt, sNo, sIf, sDrop, sPar, sPar3, sAsg, sFor, bV, bT, bAnd, bOr, bNot, truth, mAnd, mOr, mNot, mIf, mC, mZ, mM, mF, mTup, mLst, mCB, mBin, mUn, mChain, mIsi, mIsi2, mSl, mPt, mLC, mBM, mCallD, mCallK, callM, takeT, putT, slotsOf, nodupB, valsZ, gk, oN, oE, aNil, aCons, slotT, Arg.get, gets, zs, T.data, gN, gsC, gs0, gT, gS, iV, iZ, iR, seqOf, wipeE, restE, gAdd, gSub, gMul, gFdiv, gMod, gPow, gNeg, gLt, gGt, gLe, gGe, gEq, gNe, gIs, gIsN, isNon, gIx, L2.atI, L2.ixN, gLen, gTup, gLst, gSum, gAll, gAny, gAbs, gMax2, gMin2, gDivmod, gInt, gGcd, isT, gAppend, gInsert, gPop, zip2D, zip3D, enumD, gSl, mRev, gRev, mSS, gSS, gMax, gMin, gMaxS, gMinS, gIn, gNin, mExt, mDR, mDL, mCD, gDLen, gDLst, mD0, mD1, gSD, Arg.raw, mFD, mTD, iFD, sForN, mLCN, iNm, e1, e2, ints?_map, ints?_ints, Function.comp_def, dot, fk, show 2 + r.length ≤ 100000 by omega]
theorem ltI_asym {a b : List Int} (h : ltI a b = true) : ltI b a = false := by
  cases g : ltI b a with
  | false => rfl
  | true => have := ltI_trans _ _ _ h g; rw [ltI_irr] at this; cases this
theorem e_L_compared (w a b : List Int) (h : Sm w) (ha : a.length ≤ 1000) (hb : b.length ≤ 1000) : m_L_compared [.z (rowD w), .z (rowD a), .z (rowD b)] = some (.z (.int ((if ltI (fk w b) (fk w a) then 1 else 0) - (if ltI (fk w a) (fk w b) then 1 else 0))), [rz w, rz a, rz b]) := by
  have ea := e_L_key w a h ha
  have eb := e_L_key w b h hb
  have g := gt_row (fk w a) (fk w b)
  have l := lt_row (fk w a) (fk w b)
  generalize fk w a = A at *
  generalize fk w b = B at *
  cases h1 : ltI A B <;> cases h2 : ltI B A <;> simp only [h1, h2] at g l <;>
  simp [m_L_compared, defM, startE, backs, sRet, sSeq, sPar, setSl, mBin, oE, oN, mCallD, callM, takeT, putT, slotsOf, nodupB, aCons, aNil, mZ, slotT, Arg.get, T.data, ea, eb, g, l, gSub]
theorem fk_inj {w a b : List Int} (h : fk w a = fk w b) : a = b := by
  simp only [fk, List.cons.injEq] at h
  have := List.map_inj_right (f := fun n : Int => -n) (by intro x y h; omega) |>.1 h.2.2
  exact List.reverse_inj.1 this
theorem rl_gt {w a b : List Int} (h : a ≠ b) : ltI (fk w (rl w a b).2) (fk w (rl w a b).1) = true := by
  unfold rl
  by_cases g : ltI (fk w b) (fk w a) = true
  · rw [if_pos g]; exact g
  · rw [if_neg g]
    cases g2 : ltI (fk w a) (fk w b) with
    | true => rfl
    | false => exact absurd (fk_inj (ltI_tri _ _ g2 (by simpa using g))) h
theorem e_L_rule (w a b : List Int) (h : Sm w) (ha : a.length ≤ 1000) (hb : b.length ≤ 1000) : m_L_rule [.z (rowD w), .z (rowD a), .z (rowD b)] = some (.z (if a = b then .none else prD (rl w a b)), [rz w, rz a, rz b]) := by
  have e := e_L_compared w a b h ha hb
  by_cases hab : a = b
  · subst hab
    simp only [ltI_irr] at e
    simp [m_L_rule, defM, startE, backs, sSeq, sSet, setSl, sRet, sRetN, sNx, sBk, sCt, sNo, sIf, sDrop, sPar, sPar3, sAsg, sFor, bV, bT, bAnd, bOr, bNot, truth, mAnd, mOr, mNot, mIf, mC, mZ, mM, mF, mTup, mLst, mCB, mBin, mUn, mChain, mIsi, mIsi2, mSl, mPt, mLC, mBM, mCallD, mCallK, callM, takeT, putT, slotsOf, nodupB, valsZ, gk, oN, oE, aNil, aCons, slotT, Arg.get, gets, zs, T.data, gN, gsC, gs0, gT, gS, iV, iZ, iR, seqOf, wipeE, restE, gAdd, gSub, gMul, gFdiv, gMod, gPow, gNeg, gLt, gGt, gLe, gGe, gEq, gNe, gIs, gIsN, isNon, gIx, L2.atI, L2.ixN, gLen, gTup, gLst, gSum, gAll, gAny, gAbs, gMax2, gMin2, gDivmod, gInt, gGcd, isT, gAppend, gInsert, gPop, zip2D, zip3D, enumD, gSl, mRev, gRev, mSS, gSS, gMax, gMin, gMaxS, gMinS, gIn, gNin, mExt, mDR, mDL, mCD, gDLen, gDLst, mD0, mD1, gSD, Arg.raw, mFD, mTD, iFD, sForN, mLCN, iNm, e]
  · cases h1 : ltI (fk w b) (fk w a) with
    | true =>
      have h2 := ltI_asym h1
      simp only [h1, h2] at e
      simp [m_L_rule, defM, startE, backs, sSeq, sSet, setSl, sRet, sRetN, sNx, sBk, sCt, sNo, sIf, sDrop, sPar, sPar3, sAsg, sFor, bV, bT, bAnd, bOr, bNot, truth, mAnd, mOr, mNot, mIf, mC, mZ, mM, mF, mTup, mLst, mCB, mBin, mUn, mChain, mIsi, mIsi2, mSl, mPt, mLC, mBM, mCallD, mCallK, callM, takeT, putT, slotsOf, nodupB, valsZ, gk, oN, oE, aNil, aCons, slotT, Arg.get, gets, zs, T.data, gN, gsC, gs0, gT, gS, iV, iZ, iR, seqOf, wipeE, restE, gAdd, gSub, gMul, gFdiv, gMod, gPow, gNeg, gLt, gGt, gLe, gGe, gEq, gNe, gIs, gIsN, isNon, gIx, L2.atI, L2.ixN, gLen, gTup, gLst, gSum, gAll, gAny, gAbs, gMax2, gMin2, gDivmod, gInt, gGcd, isT, gAppend, gInsert, gPop, zip2D, zip3D, enumD, gSl, mRev, gRev, mSS, gSS, gMax, gMin, gMaxS, gMinS, gIn, gNin, mExt, mDR, mDL, mCD, gDLen, gDLst, mD0, mD1, gSD, Arg.raw, mFD, mTD, iFD, sForN, mLCN, iNm, e, hab, rl, h1, prD]
    | false =>
      have h2 : ltI (fk w a) (fk w b) = true := by
        cases g2 : ltI (fk w a) (fk w b) with
        | true => rfl
        | false => exact absurd (fk_inj (ltI_tri _ _ g2 h1)) hab
      simp only [h1, h2] at e
      simp [m_L_rule, defM, startE, backs, sSeq, sSet, setSl, sRet, sRetN, sNx, sBk, sCt, sNo, sIf, sDrop, sPar, sPar3, sAsg, sFor, bV, bT, bAnd, bOr, bNot, truth, mAnd, mOr, mNot, mIf, mC, mZ, mM, mF, mTup, mLst, mCB, mBin, mUn, mChain, mIsi, mIsi2, mSl, mPt, mLC, mBM, mCallD, mCallK, callM, takeT, putT, slotsOf, nodupB, valsZ, gk, oN, oE, aNil, aCons, slotT, Arg.get, gets, zs, T.data, gN, gsC, gs0, gT, gS, iV, iZ, iR, seqOf, wipeE, restE, gAdd, gSub, gMul, gFdiv, gMod, gPow, gNeg, gLt, gGt, gLe, gGe, gEq, gNe, gIs, gIsN, isNon, gIx, L2.atI, L2.ixN, gLen, gTup, gLst, gSum, gAll, gAny, gAbs, gMax2, gMin2, gDivmod, gInt, gGcd, isT, gAppend, gInsert, gPop, zip2D, zip3D, enumD, gSl, mRev, gRev, mSS, gSS, gMax, gMin, gMaxS, gMinS, gIn, gNin, mExt, mDR, mDL, mCD, gDLen, gDLst, mD0, mD1, gSD, Arg.raw, mFD, mTD, iFD, sForN, mLCN, iNm, e, hab, rl, h1, prD]
/-! ### a move's two ends -/
def pos (m : List Int) : List Int := m.map fun n => max n 0
def neg (m : List Int) : List Int := m.map fun n => max (-n) 0
/-- the rule of a move -/
abbrev mr (w m : List Int) : List Int × List Int := rl w (pos m) (neg m)
abbrev Pr := List Int × List Int
def srt (ps : List Pr) : List Pr := ps.mergeSort leP
theorem sorted_prs (ps : List Pr) (hn : ps.length ≤ 100000) : gSorted [.list (ps.map prD)] = some (.l ((srt ps).map prD)) := by
  have c : canSort (ps.map prD) = true := by
    unfold canSort
    simp only [Bool.and_eq_true, Bool.or_eq_true, List.all_eq_true, List.mem_map, decide_eq_true_eq, List.length_map]
    refine ⟨⟨⟨?_, .inl ?_⟩, ?_⟩, hn⟩
    · rintro _ ⟨p, _, rfl⟩ _ ⟨q, _, rfl⟩; exact alike_prs p q
    · rintro _ ⟨p, _, rfl⟩; rfl
    · rintro _ ⟨p, _, rfl⟩; rw [depth_pr]; decide
  show (if canSort (ps.map prD) = true then some (T.l ((ps.map prD).mergeSort leD)) else none) = _
  rw [if_pos c, srt, List.map_mergeSort (s := leD) (fun a _ b _ => (leD_prs a b).symm)]
theorem srt_len (ps : List Pr) : (srt ps).length = ps.length := (List.mergeSort_perm ps leP).length_eq
theorem mem_srt {ps : List Pr} {p : Pr} : p ∈ srt ps ↔ p ∈ ps := (List.mergeSort_perm ps leP).mem_iff
theorem srt_lt {ps : List Pr} (h : ps.Nodup) : (srt ps).Pairwise fun a b => ltP a b = true := by
  have pw : (srt ps).Pairwise fun a b => leP a b = true := List.pairwise_mergeSort leP_trans (fun a b => Bool.or_eq_true_iff.mpr (leP_total a b)) ps
  have nd : (srt ps).Nodup := (List.mergeSort_perm ps leP).nodup_iff.mpr h
  refine (pw.and nd).imp ?_
  rintro a b ⟨h1, h2⟩
  cases g : ltP a b with
  | true => rfl
  | false => exact absurd (ltP_tri a b g (by simpa [leP] using h1)) h2
theorem zip_tail_all {α : Type} {R : α → α → Prop} : ∀ {l : List α}, l.Pairwise R → ∀ q ∈ l.zip (l.drop 1), R q.1 q.2
  | [], _, q, h => by cases h
  | [a], _, q, h => by cases h
  | a :: b :: l, pw, q, h => by
    rcases List.mem_cons.mp (show q ∈ (a, b) :: (b :: l).zip l from h) with e | e
    · subst e; exact List.rel_of_pairwise_cons pw (List.mem_cons_self ..)
    · exact zip_tail_all (l := b :: l) (List.Pairwise.of_cons pw) q e
theorem cutD_1 (xs : List D) : cutD xs (some 1) none = xs.drop 1 := by
  cases xs with
  | nil => rfl
  | cons x l =>
    have e1 : HT.sIx (x :: l).length 0 (some 1) = 1 := by
      unfold HT.sIx
      simp
      try omega
    have e2 : HT.sIx (x :: l).length (x :: l).length none = (x :: l).length := rfl
    unfold cutD
    rw [e1, e2]
    simp
/-! ### rules -/
theorem e_is_rule_of_1 (w : List Int) (a b : List Int) : l_is_rule_of_1 [some (.z (ordD w)), some (.z (prD (a, b))), rz w, none] = some (.l [.bool (okM w.length a), .bool (okM w.length b)], [some (.z (ordD w)), some (.z (prD (a, b))), rz w, none]) := by
  rw [l_is_rule_of_1, mLC_map (α := List Int) (g := rowD) (f := fun r => .bool (okM w.length r)) (as := [a, b]) (ρ1 := [some (.z (ordD w)), some (.z (prD (a, b))), rz w, none])]
  · simp [defM, startE, backs, sSeq, sSet, setSl, sRet, sRetN, sNx, sBk, sCt, sNo, sIf, sDrop, sPar, sPar3, sAsg, sFor, bV, bT, bAnd, bOr, bNot, truth, mAnd, mOr, mNot, mIf, mC, mZ, mM, mF, mTup, mLst, mCB, mBin, mUn, mChain, mIsi, mIsi2, mSl, mPt, mLC, mBM, mCallD, mCallK, callM, takeT, putT, slotsOf, nodupB, valsZ, gk, oN, oE, aNil, aCons, slotT, Arg.get, gets, zs, T.data, gN, gsC, gs0, gT, gS, iV, iZ, iR, seqOf, wipeE, restE, gAdd, gSub, gMul, gFdiv, gMod, gPow, gNeg, gLt, gGt, gLe, gGe, gEq, gNe, gIs, gIsN, isNon, gIx, L2.atI, L2.ixN, gLen, gTup, gLst, gSum, gAll, gAny, gAbs, gMax2, gMin2, gDivmod, gInt, gGcd, isT, gAppend, gInsert, gPop, zip2D, zip3D, enumD, gSl, mRev, gRev, mSS, gSS, gMax, gMin, gMaxS, gMinS, gIn, gNin, mExt, mDR, mDL, mCD, gDLen, gDLst, mD0, mD1, gSD, Arg.raw, mFD, mTD, iFD, sForN, mLCN, iNm]
  · simp [defM, startE, backs, sSeq, sSet, setSl, sRet, sRetN, sNx, sBk, sCt, sNo, sIf, sDrop, sPar, sPar3, sAsg, sFor, bV, bT, bAnd, bOr, bNot, truth, mAnd, mOr, mNot, mIf, mC, mZ, mM, mF, mTup, mLst, mCB, mBin, mUn, mChain, mIsi, mIsi2, mSl, mPt, mLC, mBM, mCallD, mCallK, callM, takeT, putT, slotsOf, nodupB, valsZ, gk, oN, oE, aNil, aCons, slotT, Arg.get, gets, zs, T.data, gN, gsC, gs0, gT, gS, iV, iZ, iR, seqOf, wipeE, restE, gAdd, gSub, gMul, gFdiv, gMod, gPow, gNeg, gLt, gGt, gLe, gGe, gEq, gNe, gIs, gIsN, isNon, gIx, L2.atI, L2.ixN, gLen, gTup, gLst, gSum, gAll, gAny, gAbs, gMax2, gMin2, gDivmod, gInt, gGcd, isT, gAppend, gInsert, gPop, zip2D, zip3D, enumD, gSl, mRev, gRev, mSS, gSS, gMax, gMin, gMaxS, gMinS, gIn, gNin, mExt, mDR, mDL, mCD, gDLen, gDLst, mD0, mD1, gSD, Arg.raw, mFD, mTD, iFD, sForN, mLCN, iNm]
  · intro r _
    have e := e_monomial_of w.length r
    simp [defM, startE, backs, sSeq, sSet, setSl, sRet, sRetN, sNx, sBk, sCt, sNo, sIf, sDrop, sPar, sPar3, sAsg, sFor, bV, bT, bAnd, bOr, bNot, truth, mAnd, mOr, mNot, mIf, mC, mZ, mM, mF, mTup, mLst, mCB, mBin, mUn, mChain, mIsi, mIsi2, mSl, mPt, mLC, mBM, mCallD, mCallK, callM, takeT, putT, slotsOf, nodupB, valsZ, gk, oN, oE, aNil, aCons, slotT, Arg.get, gets, zs, T.data, gN, gsC, gs0, gT, gS, iV, iZ, iR, seqOf, wipeE, restE, gAdd, gSub, gMul, gFdiv, gMod, gPow, gNeg, gLt, gGt, gLe, gGe, gEq, gNe, gIs, gIsN, isNon, gIx, L2.atI, L2.ixN, gLen, gTup, gLst, gSum, gAll, gAny, gAbs, gMax2, gMin2, gDivmod, gInt, gGcd, isT, gAppend, gInsert, gPop, zip2D, zip3D, enumD, gSl, mRev, gRev, mSS, gSS, gMax, gMin, gMaxS, gMinS, gIn, gNin, mExt, mDR, mDL, mCD, gDLen, gDLst, mD0, mD1, gSD, Arg.raw, mFD, mTD, iFD, sForN, mLCN, iNm, e]
def isR (w a b : List Int) : Bool := okM w.length a && okM w.length b && ltI (fk w b) (fk w a)
theorem e_is_rule_of (w a b : List Int) (h : Sm w) : m_is_rule_of [.z (ordD w), .z (prD (a, b))] = some (.z (.bool (isR w a b)), [some (.z (ordD w)), some (.z (prD (a, b)))]) := by
  have e1 := e_is_rule_of_1 w a b
  have e2 := e_is_greater w a b h
  unfold isR
  cases ha : okM w.length a <;> cases hb : okM w.length b <;> simp only [ha, hb] at e1 <;>
  simp [m_is_rule_of, k_is_rule_of_1, k_is_rule_of_2, k_is_rule_of_3, k_is_rule_of_4, defM, startE, backs, sSeq, sSet, setSl, sRet, sRetN, sNx, sBk, sCt, sNo, sIf, sDrop, sPar, sPar3, sAsg, sFor, bV, bT, bAnd, bOr, bNot, truth, mAnd, mOr, mNot, mIf, mC, mZ, mM, mF, mTup, mLst, mCB, mBin, mUn, mChain, mIsi, mIsi2, mSl, mPt, mLC, mBM, mCallD, mCallK, callM, takeT, putT, slotsOf, nodupB, valsZ, gk, oN, oE, aNil, aCons, slotT, Arg.get, gets, zs, T.data, gN, gsC, gs0, gT, gS, iV, iZ, iR, seqOf, wipeE, restE, gAdd, gSub, gMul, gFdiv, gMod, gPow, gNeg, gLt, gGt, gLe, gGe, gEq, gNe, gIs, gIsN, isNon, gIx, L2.atI, L2.ixN, gLen, gTup, gLst, gSum, gAll, gAny, gAbs, gMax2, gMin2, gDivmod, gInt, gGcd, isT, gAppend, gInsert, gPop, zip2D, zip3D, enumD, gSl, mRev, gRev, mSS, gSS, gMax, gMin, gMaxS, gMinS, gIn, gNin, mExt, mDR, mDL, mCD, gDLen, gDLst, mD0, mD1, gSD, Arg.raw, mFD, mTD, iFD, sForN, mLCN, iNm, e1, e2, bools?]
theorem e_are_rules_2 (w : List Int) (h : Sm w) (ps : List Pr) : l_are_rules_2 [some (.z (ordD w)), some (.z (.tuple (ps.map prD))), none, none] = some (.l ((ps.map fun p => isR w p.1 p.2).map .bool), [some (.z (ordD w)), some (.z (.tuple (ps.map prD))), none, none]) := by
  rw [l_are_rules_2, mLC_map (α := Pr) (g := prD) (f := fun p => .bool (isR w p.1 p.2)) (as := ps) (ρ1 := [some (.z (ordD w)), some (.z (.tuple (ps.map prD))), none, none])]
  · simp [defM, startE, backs, sSeq, sSet, setSl, sRet, sRetN, sNx, sBk, sCt, sNo, sIf, sDrop, sPar, sPar3, sAsg, sFor, bV, bT, bAnd, bOr, bNot, truth, mAnd, mOr, mNot, mIf, mC, mZ, mM, mF, mTup, mLst, mCB, mBin, mUn, mChain, mIsi, mIsi2, mSl, mPt, mLC, mBM, mCallD, mCallK, callM, takeT, putT, slotsOf, nodupB, valsZ, gk, oN, oE, aNil, aCons, slotT, Arg.get, gets, zs, T.data, gN, gsC, gs0, gT, gS, iV, iZ, iR, seqOf, wipeE, restE, gAdd, gSub, gMul, gFdiv, gMod, gPow, gNeg, gLt, gGt, gLe, gGe, gEq, gNe, gIs, gIsN, isNon, gIx, L2.atI, L2.ixN, gLen, gTup, gLst, gSum, gAll, gAny, gAbs, gMax2, gMin2, gDivmod, gInt, gGcd, isT, gAppend, gInsert, gPop, zip2D, zip3D, enumD, gSl, mRev, gRev, mSS, gSS, gMax, gMin, gMaxS, gMinS, gIn, gNin, mExt, mDR, mDL, mCD, gDLen, gDLst, mD0, mD1, gSD, Arg.raw, mFD, mTD, iFD, sForN, mLCN, iNm]
  · simp [defM, startE, backs, sSeq, sSet, setSl, sRet, sRetN, sNx, sBk, sCt, sNo, sIf, sDrop, sPar, sPar3, sAsg, sFor, bV, bT, bAnd, bOr, bNot, truth, mAnd, mOr, mNot, mIf, mC, mZ, mM, mF, mTup, mLst, mCB, mBin, mUn, mChain, mIsi, mIsi2, mSl, mPt, mLC, mBM, mCallD, mCallK, callM, takeT, putT, slotsOf, nodupB, valsZ, gk, oN, oE, aNil, aCons, slotT, Arg.get, gets, zs, T.data, gN, gsC, gs0, gT, gS, iV, iZ, iR, seqOf, wipeE, restE, gAdd, gSub, gMul, gFdiv, gMod, gPow, gNeg, gLt, gGt, gLe, gGe, gEq, gNe, gIs, gIsN, isNon, gIx, L2.atI, L2.ixN, gLen, gTup, gLst, gSum, gAll, gAny, gAbs, gMax2, gMin2, gDivmod, gInt, gGcd, isT, gAppend, gInsert, gPop, zip2D, zip3D, enumD, gSl, mRev, gRev, mSS, gSS, gMax, gMin, gMaxS, gMinS, gIn, gNin, mExt, mDR, mDL, mCD, gDLen, gDLst, mD0, mD1, gSD, Arg.raw, mFD, mTD, iFD, sForN, mLCN, iNm]
  · rintro ⟨a, b⟩ _
    have e := e_is_rule_of w a b h
    simp [defM, startE, backs, sSeq, sSet, setSl, sRet, sRetN, sNx, sBk, sCt, sNo, sIf, sDrop, sPar, sPar3, sAsg, sFor, bV, bT, bAnd, bOr, bNot, truth, mAnd, mOr, mNot, mIf, mC, mZ, mM, mF, mTup, mLst, mCB, mBin, mUn, mChain, mIsi, mIsi2, mSl, mPt, mLC, mBM, mCallD, mCallK, callM, takeT, putT, slotsOf, nodupB, valsZ, gk, oN, oE, aNil, aCons, slotT, Arg.get, gets, zs, T.data, gN, gsC, gs0, gT, gS, iV, iZ, iR, seqOf, wipeE, restE, gAdd, gSub, gMul, gFdiv, gMod, gPow, gNeg, gLt, gGt, gLe, gGe, gEq, gNe, gIs, gIsN, isNon, gIx, L2.atI, L2.ixN, gLen, gTup, gLst, gSum, gAll, gAny, gAbs, gMax2, gMin2, gDivmod, gInt, gGcd, isT, gAppend, gInsert, gPop, zip2D, zip3D, enumD, gSl, mRev, gRev, mSS, gSS, gMax, gMin, gMaxS, gMinS, gIn, gNin, mExt, mDR, mDL, mCD, gDLen, gDLst, mD0, mD1, gSD, Arg.raw, mFD, mTD, iFD, sForN, mLCN, iNm, e]
theorem e_are_rules_1 (w : List Int) (ps : List Pr) : l_are_rules_1 [some (.z (ordD w)), some (.z (.tuple (ps.map prD))), none, none] = some (.l (((ps.zip (ps.drop 1)).map fun q => ltP q.1 q.2).map .bool), [some (.z (ordD w)), some (.z (.tuple (ps.map prD))), none, none]) := by
  rw [l_are_rules_1, mLC_map (α := Pr × Pr) (g := fun q => .tuple [prD q.1, prD q.2]) (f := fun q => .bool (ltP q.1 q.2)) (as := ps.zip (ps.drop 1)) (ρ1 := [some (.z (ordD w)), some (.z (.tuple (ps.map prD))), none, none])]
  · simp [defM, startE, backs, sSeq, sSet, setSl, sRet, sRetN, sNx, sBk, sCt, sNo, sIf, sDrop, sPar, sPar3, sAsg, sFor, bV, bT, bAnd, bOr, bNot, truth, mAnd, mOr, mNot, mIf, mC, mZ, mM, mF, mTup, mLst, mCB, mBin, mUn, mChain, mIsi, mIsi2, mSl, mPt, mLC, mBM, mCallD, mCallK, callM, takeT, putT, slotsOf, nodupB, valsZ, gk, oN, oE, aNil, aCons, slotT, Arg.get, gets, zs, T.data, gN, gsC, gs0, gT, gS, iV, iZ, iR, seqOf, wipeE, restE, gAdd, gSub, gMul, gFdiv, gMod, gPow, gNeg, gLt, gGt, gLe, gGe, gEq, gNe, gIs, gIsN, isNon, gIx, L2.atI, L2.ixN, gLen, gTup, gLst, gSum, gAll, gAny, gAbs, gMax2, gMin2, gDivmod, gInt, gGcd, isT, gAppend, gInsert, gPop, zip2D, zip3D, enumD, gSl, mRev, gRev, mSS, gSS, gMax, gMin, gMaxS, gMinS, gIn, gNin, mExt, mDR, mDL, mCD, gDLen, gDLst, mD0, mD1, gSD, Arg.raw, mFD, mTD, iFD, sForN, mLCN, iNm]
  · simp [defM, startE, backs, sSeq, sSet, setSl, sRet, sRetN, sNx, sBk, sCt, sNo, sIf, sDrop, sPar, sPar3, sAsg, sFor, bV, bT, bAnd, bOr, bNot, truth, mAnd, mOr, mNot, mIf, mC, mZ, mM, mF, mTup, mLst, mCB, mBin, mUn, mChain, mIsi, mIsi2, mSl, mPt, mLC, mBM, mCallD, mCallK, callM, takeT, putT, slotsOf, nodupB, valsZ, gk, oN, oE, aNil, aCons, slotT, Arg.get, gets, zs, T.data, gN, gsC, gs0, gT, gS, iV, iZ, iR, seqOf, wipeE, restE, gAdd, gSub, gMul, gFdiv, gMod, gPow, gNeg, gLt, gGt, gLe, gGe, gEq, gNe, gIs, gIsN, isNon, gIx, L2.atI, L2.ixN, gLen, gTup, gLst, gSum, gAll, gAny, gAbs, gMax2, gMin2, gDivmod, gInt, gGcd, isT, gAppend, gInsert, gPop, zip2D, zip3D, enumD, gSl, mRev, gRev, mSS, gSS, gMax, gMin, gMaxS, gMinS, gIn, gNin, mExt, mDR, mDL, mCD, gDLen, gDLst, mD0, mD1, gSD, Arg.raw, mFD, mTD, iFD, sForN, mLCN, iNm, zipW_map, cutD_1]
    rw [← List.map_tail, List.zip_map, List.map_map]
    rfl
  · rintro ⟨p, q⟩ _
    have l := lt_pr p q
    generalize prD p = A at *
    generalize prD q = B at *
    simp [mF, mBin, gT, gsC, gN, gs0, setSl, bYes, oN, oE, l, Arg.get, slotT, T.data, gets, bo, wipeE]
theorem e_are_rules (w : List Int) (h : Sm w) (ps : List Pr) (hn : ps.length ≤ 200) (h1 : ∀ p ∈ ps, isR w p.1 p.2 = true) (h2 : ps.Pairwise fun a b => ltP a b = true) : m_are_rules [.z (ordD w), .z (.tuple (ps.map prD))] = some (.z (.bool true), [some (.z (ordD w)), some (.z (.tuple (ps.map prD)))]) := by
  have e1 := e_are_rules_1 w ps
  have e2 := e_are_rules_2 w h ps
  have t1 : (List.map (fun q : Pr × Pr => ltP q.1 q.2) (ps.zip (ps.drop 1))).all id = true := by
    simp only [List.all_map, List.all_eq_true]; exact zip_tail_all h2
  have t2 : (List.map (fun p : Pr => isR w p.1 p.2) ps).all id = true := by
    simp only [List.all_map, List.all_eq_true]; exact h1
  have hn' : ¬ ((ps.length : Int) > 200) := by omega
  generalize hL : (List.map (fun q : Pr × Pr => ltP q.1 q.2) (ps.zip (ps.drop 1))) = M1 at e1 t1
  generalize hL : (List.map (fun p : Pr => isR w p.1 p.2) ps) = M2 at e2 t2
  simp [m_are_rules, defM, startE, backs, sSeq, sSet, setSl, sRet, sRetN, sNx, sBk, sCt, sNo, sIf, sDrop, sPar, sPar3, sAsg, sFor, bV, bT, bAnd, bOr, bNot, truth, mAnd, mOr, mNot, mIf, mC, mZ, mM, mF, mTup, mLst, mCB, mBin, mUn, mChain, mIsi, mIsi2, mSl, mPt, mLC, mBM, mCallD, mCallK, callM, takeT, putT, slotsOf, nodupB, valsZ, gk, oN, oE, aNil, aCons, slotT, Arg.get, gets, zs, T.data, gN, gsC, gs0, gT, gS, iV, iZ, iR, seqOf, wipeE, restE, gAdd, gSub, gMul, gFdiv, gMod, gPow, gNeg, gLt, gGt, gLe, gGe, gEq, gNe, gIs, gIsN, isNon, gIx, L2.atI, L2.ixN, gLen, gTup, gLst, gSum, gAll, gAny, gAbs, gMax2, gMin2, gDivmod, gInt, gGcd, isT, gAppend, gInsert, gPop, zip2D, zip3D, enumD, gSl, mRev, gRev, mSS, gSS, gMax, gMin, gMaxS, gMinS, gIn, gNin, mExt, mDR, mDL, mCD, gDLen, gDLst, mD0, mD1, gSD, Arg.raw, mFD, mTD, iFD, sForN, mLCN, iNm, e1, e2, bools?_bools, t1, t2, hn']

end My

set_option Elab.async false
set_option maxRecDepth 100000
set_option linter.all false
set_option maxHeartbeats 1000000
namespace My
open PySem VL
/-! ### a rule at work -/
/-- a plain rule of so many -/
structure Pl (many : Nat) (a b : List Int) : Prop where
  ca : okM many a = true
  cb : okM many b = true
  ne : a ≠ b
  l1 : 1 ≤ many
  l2 : many ≤ 40
theorem okM_len {many : Nat} {r : List Int} (h : okM many r = true) : r.length = many := by
  unfold okM at h
  simp only [Bool.and_eq_true, decide_eq_true_eq] at h
  exact h.2
def goes (a r : List Int) : Bool := (a.zip r).all fun p => decide (p.1 ≤ p.2)
theorem e_goes_1 (a b r : List Int) : l_goes_by_of_1 [some (.z (prD (a, b))), rz r, none, none] = some (.l (((a.zip r).map fun p => decide (p.1 ≤ p.2)).map .bool), [some (.z (prD (a, b))), rz r, none, none]) := by
  rw [l_goes_by_of_1, mLC_map (α := Int × Int) (g := fun p => .tuple [.int p.1, .int p.2]) (f := fun p => .bool (decide (p.1 ≤ p.2))) (as := a.zip r) (ρ1 := [some (.z (prD (a, b))), rz r, none, none])]
  · simp [defM, startE, backs, sSeq, sSet, setSl, sRet, sRetN, sNx, sBk, sCt, sNo, sIf, sDrop, sPar, sPar3, sAsg, sFor, bV, bT, bAnd, bOr, bNot, truth, mAnd, mOr, mNot, mIf, mC, mZ, mM, mF, mTup, mLst, mCB, mBin, mUn, mChain, mIsi, mIsi2, mSl, mPt, mLC, mBM, mCallD, mCallK, callM, takeT, putT, slotsOf, nodupB, valsZ, gk, oN, oE, aNil, aCons, slotT, Arg.get, gets, zs, T.data, gN, gsC, gs0, gT, gS, iV, iZ, iR, seqOf, wipeE, restE, gAdd, gSub, gMul, gFdiv, gMod, gPow, gNeg, gLt, gGt, gLe, gGe, gEq, gNe, gIs, gIsN, isNon, gIx, L2.atI, L2.ixN, gLen, gTup, gLst, gSum, gAll, gAny, gAbs, gMax2, gMin2, gDivmod, gInt, gGcd, isT, gAppend, gInsert, gPop, zip2D, zip3D, enumD, gSl, mRev, gRev, mSS, gSS, gMax, gMin, gMaxS, gMinS, gIn, gNin, mExt, mDR, mDL, mCD, gDLen, gDLst, mD0, mD1, gSD, Arg.raw, mFD, mTD, iFD, sForN, mLCN, iNm]
  · simp [defM, startE, backs, sSeq, sSet, setSl, sRet, sRetN, sNx, sBk, sCt, sNo, sIf, sDrop, sPar, sPar3, sAsg, sFor, bV, bT, bAnd, bOr, bNot, truth, mAnd, mOr, mNot, mIf, mC, mZ, mM, mF, mTup, mLst, mCB, mBin, mUn, mChain, mIsi, mIsi2, mSl, mPt, mLC, mBM, mCallD, mCallK, callM, takeT, putT, slotsOf, nodupB, valsZ, gk, oN, oE, aNil, aCons, slotT, Arg.get, gets, zs, T.data, gN, gsC, gs0, gT, gS, iV, iZ, iR, seqOf, wipeE, restE, gAdd, gSub, gMul, gFdiv, gMod, gPow, gNeg, gLt, gGt, gLe, gGe, gEq, gNe, gIs, gIsN, isNon, gIx, L2.atI, L2.ixN, gLen, gTup, gLst, gSum, gAll, gAny, gAbs, gMax2, gMin2, gDivmod, gInt, gGcd, isT, gAppend, gInsert, gPop, zip2D, zip3D, enumD, gSl, mRev, gRev, mSS, gSS, gMax, gMin, gMaxS, gMinS, gIn, gNin, mExt, mDR, mDL, mCD, gDLen, gDLst, mD0, mD1, gSD, Arg.raw, mFD, mTD, iFD, sForN, mLCN, iNm, zipW_map, List.zip_map, Function.comp_def]
  · intro p _; simp [defM, startE, backs, sSeq, sSet, setSl, sRet, sRetN, sNx, sBk, sCt, sNo, sIf, sDrop, sPar, sPar3, sAsg, sFor, bV, bT, bAnd, bOr, bNot, truth, mAnd, mOr, mNot, mIf, mC, mZ, mM, mF, mTup, mLst, mCB, mBin, mUn, mChain, mIsi, mIsi2, mSl, mPt, mLC, mBM, mCallD, mCallK, callM, takeT, putT, slotsOf, nodupB, valsZ, gk, oN, oE, aNil, aCons, slotT, Arg.get, gets, zs, T.data, gN, gsC, gs0, gT, gS, iV, iZ, iR, seqOf, wipeE, restE, gAdd, gSub, gMul, gFdiv, gMod, gPow, gNeg, gLt, gGt, gLe, gGe, gEq, gNe, gIs, gIsN, isNon, gIx, L2.atI, L2.ixN, gLen, gTup, gLst, gSum, gAll, gAny, gAbs, gMax2, gMin2, gDivmod, gInt, gGcd, isT, gAppend, gInsert, gPop, zip2D, zip3D, enumD, gSl, mRev, gRev, mSS, gSS, gMax, gMin, gMaxS, gMinS, gIn, gNin, mExt, mDR, mDL, mCD, gDLen, gDLst, mD0, mD1, gSD, Arg.raw, mFD, mTD, iFD, sForN, mLCN, iNm]
theorem e_Lgoes_1 (a b r : List Int) : l_L_goes_1 [some (.z (prD (a, b))), rz r, none, none] = some (.l (((a.zip r).map fun p => decide (p.1 ≤ p.2)).map .bool), [some (.z (prD (a, b))), rz r, none, none]) := by
  rw [l_L_goes_1, mLC_map (α := Int × Int) (g := fun p => .tuple [.int p.1, .int p.2]) (f := fun p => .bool (decide (p.1 ≤ p.2))) (as := a.zip r) (ρ1 := [some (.z (prD (a, b))), rz r, none, none])]
  · simp [defM, startE, backs, sSeq, sSet, setSl, sRet, sRetN, sNx, sBk, sCt, sNo, sIf, sDrop, sPar, sPar3, sAsg, sFor, bV, bT, bAnd, bOr, bNot, truth, mAnd, mOr, mNot, mIf, mC, mZ, mM, mF, mTup, mLst, mCB, mBin, mUn, mChain, mIsi, mIsi2, mSl, mPt, mLC, mBM, mCallD, mCallK, callM, takeT, putT, slotsOf, nodupB, valsZ, gk, oN, oE, aNil, aCons, slotT, Arg.get, gets, zs, T.data, gN, gsC, gs0, gT, gS, iV, iZ, iR, seqOf, wipeE, restE, gAdd, gSub, gMul, gFdiv, gMod, gPow, gNeg, gLt, gGt, gLe, gGe, gEq, gNe, gIs, gIsN, isNon, gIx, L2.atI, L2.ixN, gLen, gTup, gLst, gSum, gAll, gAny, gAbs, gMax2, gMin2, gDivmod, gInt, gGcd, isT, gAppend, gInsert, gPop, zip2D, zip3D, enumD, gSl, mRev, gRev, mSS, gSS, gMax, gMin, gMaxS, gMinS, gIn, gNin, mExt, mDR, mDL, mCD, gDLen, gDLst, mD0, mD1, gSD, Arg.raw, mFD, mTD, iFD, sForN, mLCN, iNm]
  · simp [defM, startE, backs, sSeq, sSet, setSl, sRet, sRetN, sNx, sBk, sCt, sNo, sIf, sDrop, sPar, sPar3, sAsg, sFor, bV, bT, bAnd, bOr, bNot, truth, mAnd, mOr, mNot, mIf, mC, mZ, mM, mF, mTup, mLst, mCB, mBin, mUn, mChain, mIsi, mIsi2, mSl, mPt, mLC, mBM, mCallD, mCallK, callM, takeT, putT, slotsOf, nodupB, valsZ, gk, oN, oE, aNil, aCons, slotT, Arg.get, gets, zs, T.data, gN, gsC, gs0, gT, gS, iV, iZ, iR, seqOf, wipeE, restE, gAdd, gSub, gMul, gFdiv, gMod, gPow, gNeg, gLt, gGt, gLe, gGe, gEq, gNe, gIs, gIsN, isNon, gIx, L2.atI, L2.ixN, gLen, gTup, gLst, gSum, gAll, gAny, gAbs, gMax2, gMin2, gDivmod, gInt, gGcd, isT, gAppend, gInsert, gPop, zip2D, zip3D, enumD, gSl, mRev, gRev, mSS, gSS, gMax, gMin, gMaxS, gMinS, gIn, gNin, mExt, mDR, mDL, mCD, gDLen, gDLst, mD0, mD1, gSD, Arg.raw, mFD, mTD, iFD, sForN, mLCN, iNm, zipW_map, List.zip_map, Function.comp_def]
  · intro p _; simp [defM, startE, backs, sSeq, sSet, setSl, sRet, sRetN, sNx, sBk, sCt, sNo, sIf, sDrop, sPar, sPar3, sAsg, sFor, bV, bT, bAnd, bOr, bNot, truth, mAnd, mOr, mNot, mIf, mC, mZ, mM, mF, mTup, mLst, mCB, mBin, mUn, mChain, mIsi, mIsi2, mSl, mPt, mLC, mBM, mCallD, mCallK, callM, takeT, putT, slotsOf, nodupB, valsZ, gk, oN, oE, aNil, aCons, slotT, Arg.get, gets, zs, T.data, gN, gsC, gs0, gT, gS, iV, iZ, iR, seqOf, wipeE, restE, gAdd, gSub, gMul, gFdiv, gMod, gPow, gNeg, gLt, gGt, gLe, gGe, gEq, gNe, gIs, gIsN, isNon, gIx, L2.atI, L2.ixN, gLen, gTup, gLst, gSum, gAll, gAny, gAbs, gMax2, gMin2, gDivmod, gInt, gGcd, isT, gAppend, gInsert, gPop, zip2D, zip3D, enumD, gSl, mRev, gRev, mSS, gSS, gMax, gMin, gMaxS, gMinS, gIn, gNin, mExt, mDR, mDL, mCD, gDLen, gDLst, mD0, mD1, gSD, Arg.raw, mFD, mTD, iFD, sForN, mLCN, iNm]
theorem e_goes_by_of (a b r : List Int) : m_goes_by_of [.z (prD (a, b)), .z (rowD r)] = some (.z (.bool (goes a r)), [some (.z (prD (a, b))), rz r]) := by
  have e1 := e_goes_1 a b r
  have t : goes a r = ((a.zip r).map fun p => decide (p.1 ≤ p.2)).all id := by simp [goes]
  rw [t]
  generalize ((a.zip r).map fun p => decide (p.1 ≤ p.2)) = M at *
  simp [m_goes_by_of, defM, startE, backs, sSeq, sSet, setSl, sRet, sRetN, sNx, sBk, sCt, sNo, sIf, sDrop, sPar, sPar3, sAsg, sFor, bV, bT, bAnd, bOr, bNot, truth, mAnd, mOr, mNot, mIf, mC, mZ, mM, mF, mTup, mLst, mCB, mBin, mUn, mChain, mIsi, mIsi2, mSl, mPt, mLC, mBM, mCallD, mCallK, callM, takeT, putT, slotsOf, nodupB, valsZ, gk, oN, oE, aNil, aCons, slotT, Arg.get, gets, zs, T.data, gN, gsC, gs0, gT, gS, iV, iZ, iR, seqOf, wipeE, restE, gAdd, gSub, gMul, gFdiv, gMod, gPow, gNeg, gLt, gGt, gLe, gGe, gEq, gNe, gIs, gIsN, isNon, gIx, L2.atI, L2.ixN, gLen, gTup, gLst, gSum, gAll, gAny, gAbs, gMax2, gMin2, gDivmod, gInt, gGcd, isT, gAppend, gInsert, gPop, zip2D, zip3D, enumD, gSl, mRev, gRev, mSS, gSS, gMax, gMin, gMaxS, gMinS, gIn, gNin, mExt, mDR, mDL, mCD, gDLen, gDLst, mD0, mD1, gSD, Arg.raw, mFD, mTD, iFD, sForN, mLCN, iNm, e1, bools?_bools]
theorem e_L_goes (a b r : List Int) : m_L_goes [.z (prD (a, b)), .z (rowD r)] = some (.z (.bool (goes a r)), [some (.z (prD (a, b))), rz r]) := by
  have e1 := e_Lgoes_1 a b r
  have t : goes a r = ((a.zip r).map fun p => decide (p.1 ≤ p.2)).all id := by simp [goes]
  rw [t]
  generalize ((a.zip r).map fun p => decide (p.1 ≤ p.2)) = M at *
  simp [m_L_goes, defM, startE, backs, sSeq, sSet, setSl, sRet, sRetN, sNx, sBk, sCt, sNo, sIf, sDrop, sPar, sPar3, sAsg, sFor, bV, bT, bAnd, bOr, bNot, truth, mAnd, mOr, mNot, mIf, mC, mZ, mM, mF, mTup, mLst, mCB, mBin, mUn, mChain, mIsi, mIsi2, mSl, mPt, mLC, mBM, mCallD, mCallK, callM, takeT, putT, slotsOf, nodupB, valsZ, gk, oN, oE, aNil, aCons, slotT, Arg.get, gets, zs, T.data, gN, gsC, gs0, gT, gS, iV, iZ, iR, seqOf, wipeE, restE, gAdd, gSub, gMul, gFdiv, gMod, gPow, gNeg, gLt, gGt, gLe, gGe, gEq, gNe, gIs, gIsN, isNon, gIx, L2.atI, L2.ixN, gLen, gTup, gLst, gSum, gAll, gAny, gAbs, gMax2, gMin2, gDivmod, gInt, gGcd, isT, gAppend, gInsert, gPop, zip2D, zip3D, enumD, gSl, mRev, gRev, mSS, gSS, gMax, gMin, gMaxS, gMinS, gIn, gNin, mExt, mDR, mDL, mCD, gDLen, gDLst, mD0, mD1, gSD, Arg.raw, mFD, mTD, iFD, sForN, mLCN, iNm, e1, bools?_bools]
/-- one step -/
def led (a b r : List Int) : List Int := (r.zip (a.zip b)).map fun p => p.1 - p.2.1 + p.2.2
theorem e_led_1 (a b r : List Int) : l_led_by_1 [some (.z (prD (a, b))), rz r, rz a, rz b, none, none, none, none] = some (.l ((led a b r).map .int), [some (.z (prD (a, b))), rz r, rz a, rz b, none, none, none, none]) := by
  rw [l_led_by_1, mLC_map (α := Int × Int × Int) (g := fun p => .tuple [.int p.1, .int p.2.1, .int p.2.2]) (f := fun p => .int (p.1 - p.2.1 + p.2.2)) (as := r.zip (a.zip b)) (ρ1 := [some (.z (prD (a, b))), rz r, rz a, rz b, none, none, none, none])]
  · simp [defM, startE, backs, sSeq, sSet, setSl, sRet, sRetN, sNx, sBk, sCt, sNo, sIf, sDrop, sPar, sPar3, sAsg, sFor, bV, bT, bAnd, bOr, bNot, truth, mAnd, mOr, mNot, mIf, mC, mZ, mM, mF, mTup, mLst, mCB, mBin, mUn, mChain, mIsi, mIsi2, mSl, mPt, mLC, mBM, mCallD, mCallK, callM, takeT, putT, slotsOf, nodupB, valsZ, gk, oN, oE, aNil, aCons, slotT, Arg.get, gets, zs, T.data, gN, gsC, gs0, gT, gS, iV, iZ, iR, seqOf, wipeE, restE, gAdd, gSub, gMul, gFdiv, gMod, gPow, gNeg, gLt, gGt, gLe, gGe, gEq, gNe, gIs, gIsN, isNon, gIx, L2.atI, L2.ixN, gLen, gTup, gLst, gSum, gAll, gAny, gAbs, gMax2, gMin2, gDivmod, gInt, gGcd, isT, gAppend, gInsert, gPop, zip2D, zip3D, enumD, gSl, mRev, gRev, mSS, gSS, gMax, gMin, gMaxS, gMinS, gIn, gNin, mExt, mDR, mDL, mCD, gDLen, gDLst, mD0, mD1, gSD, Arg.raw, mFD, mTD, iFD, sForN, mLCN, iNm, led]
  · simp [defM, startE, backs, sSeq, sSet, setSl, sRet, sRetN, sNx, sBk, sCt, sNo, sIf, sDrop, sPar, sPar3, sAsg, sFor, bV, bT, bAnd, bOr, bNot, truth, mAnd, mOr, mNot, mIf, mC, mZ, mM, mF, mTup, mLst, mCB, mBin, mUn, mChain, mIsi, mIsi2, mSl, mPt, mLC, mBM, mCallD, mCallK, callM, takeT, putT, slotsOf, nodupB, valsZ, gk, oN, oE, aNil, aCons, slotT, Arg.get, gets, zs, T.data, gN, gsC, gs0, gT, gS, iV, iZ, iR, seqOf, wipeE, restE, gAdd, gSub, gMul, gFdiv, gMod, gPow, gNeg, gLt, gGt, gLe, gGe, gEq, gNe, gIs, gIsN, isNon, gIx, L2.atI, L2.ixN, gLen, gTup, gLst, gSum, gAll, gAny, gAbs, gMax2, gMin2, gDivmod, gInt, gGcd, isT, gAppend, gInsert, gPop, zip2D, zip3D, enumD, gSl, mRev, gRev, mSS, gSS, gMax, gMin, gMaxS, gMinS, gIn, gNin, mExt, mDR, mDL, mCD, gDLen, gDLst, mD0, mD1, gSD, Arg.raw, mFD, mTD, iFD, sForN, mLCN, iNm, zipW_map, List.zip_map, Function.comp_def]
  · intro p _; simp [defM, startE, backs, sSeq, sSet, setSl, sRet, sRetN, sNx, sBk, sCt, sNo, sIf, sDrop, sPar, sPar3, sAsg, sFor, bV, bT, bAnd, bOr, bNot, truth, mAnd, mOr, mNot, mIf, mC, mZ, mM, mF, mTup, mLst, mCB, mBin, mUn, mChain, mIsi, mIsi2, mSl, mPt, mLC, mBM, mCallD, mCallK, callM, takeT, putT, slotsOf, nodupB, valsZ, gk, oN, oE, aNil, aCons, slotT, Arg.get, gets, zs, T.data, gN, gsC, gs0, gT, gS, iV, iZ, iR, seqOf, wipeE, restE, gAdd, gSub, gMul, gFdiv, gMod, gPow, gNeg, gLt, gGt, gLe, gGe, gEq, gNe, gIs, gIsN, isNon, gIx, L2.atI, L2.ixN, gLen, gTup, gLst, gSum, gAll, gAny, gAbs, gMax2, gMin2, gDivmod, gInt, gGcd, isT, gAppend, gInsert, gPop, zip2D, zip3D, enumD, gSl, mRev, gRev, mSS, gSS, gMax, gMin, gMaxS, gMinS, gIn, gNin, mExt, mDR, mDL, mCD, gDLen, gDLst, mD0, mD1, gSD, Arg.raw, mFD, mTD, iFD, sForN, mLCN, iNm]
theorem e_Lled_1 (a b r : List Int) : l_L_led_1 [some (.z (prD (a, b))), rz r, none, none, none] = some (.l ((led a b r).map .int), [some (.z (prD (a, b))), rz r, none, none, none]) := by
  rw [l_L_led_1, mLC_map (α := Int × Int × Int) (g := fun p => .tuple [.int p.1, .int p.2.1, .int p.2.2]) (f := fun p => .int (p.1 - p.2.1 + p.2.2)) (as := r.zip (a.zip b)) (ρ1 := [some (.z (prD (a, b))), rz r, none, none, none])]
  · simp [defM, startE, backs, sSeq, sSet, setSl, sRet, sRetN, sNx, sBk, sCt, sNo, sIf, sDrop, sPar, sPar3, sAsg, sFor, bV, bT, bAnd, bOr, bNot, truth, mAnd, mOr, mNot, mIf, mC, mZ, mM, mF, mTup, mLst, mCB, mBin, mUn, mChain, mIsi, mIsi2, mSl, mPt, mLC, mBM, mCallD, mCallK, callM, takeT, putT, slotsOf, nodupB, valsZ, gk, oN, oE, aNil, aCons, slotT, Arg.get, gets, zs, T.data, gN, gsC, gs0, gT, gS, iV, iZ, iR, seqOf, wipeE, restE, gAdd, gSub, gMul, gFdiv, gMod, gPow, gNeg, gLt, gGt, gLe, gGe, gEq, gNe, gIs, gIsN, isNon, gIx, L2.atI, L2.ixN, gLen, gTup, gLst, gSum, gAll, gAny, gAbs, gMax2, gMin2, gDivmod, gInt, gGcd, isT, gAppend, gInsert, gPop, zip2D, zip3D, enumD, gSl, mRev, gRev, mSS, gSS, gMax, gMin, gMaxS, gMinS, gIn, gNin, mExt, mDR, mDL, mCD, gDLen, gDLst, mD0, mD1, gSD, Arg.raw, mFD, mTD, iFD, sForN, mLCN, iNm, led]
  · simp [defM, startE, backs, sSeq, sSet, setSl, sRet, sRetN, sNx, sBk, sCt, sNo, sIf, sDrop, sPar, sPar3, sAsg, sFor, bV, bT, bAnd, bOr, bNot, truth, mAnd, mOr, mNot, mIf, mC, mZ, mM, mF, mTup, mLst, mCB, mBin, mUn, mChain, mIsi, mIsi2, mSl, mPt, mLC, mBM, mCallD, mCallK, callM, takeT, putT, slotsOf, nodupB, valsZ, gk, oN, oE, aNil, aCons, slotT, Arg.get, gets, zs, T.data, gN, gsC, gs0, gT, gS, iV, iZ, iR, seqOf, wipeE, restE, gAdd, gSub, gMul, gFdiv, gMod, gPow, gNeg, gLt, gGt, gLe, gGe, gEq, gNe, gIs, gIsN, isNon, gIx, L2.atI, L2.ixN, gLen, gTup, gLst, gSum, gAll, gAny, gAbs, gMax2, gMin2, gDivmod, gInt, gGcd, isT, gAppend, gInsert, gPop, zip2D, zip3D, enumD, gSl, mRev, gRev, mSS, gSS, gMax, gMin, gMaxS, gMinS, gIn, gNin, mExt, mDR, mDL, mCD, gDLen, gDLst, mD0, mD1, gSD, Arg.raw, mFD, mTD, iFD, sForN, mLCN, iNm, zipW_map, List.zip_map, Function.comp_def]
  · intro p _; simp [defM, startE, backs, sSeq, sSet, setSl, sRet, sRetN, sNx, sBk, sCt, sNo, sIf, sDrop, sPar, sPar3, sAsg, sFor, bV, bT, bAnd, bOr, bNot, truth, mAnd, mOr, mNot, mIf, mC, mZ, mM, mF, mTup, mLst, mCB, mBin, mUn, mChain, mIsi, mIsi2, mSl, mPt, mLC, mBM, mCallD, mCallK, callM, takeT, putT, slotsOf, nodupB, valsZ, gk, oN, oE, aNil, aCons, slotT, Arg.get, gets, zs, T.data, gN, gsC, gs0, gT, gS, iV, iZ, iR, seqOf, wipeE, restE, gAdd, gSub, gMul, gFdiv, gMod, gPow, gNeg, gLt, gGt, gLe, gGe, gEq, gNe, gIs, gIsN, isNon, gIx, L2.atI, L2.ixN, gLen, gTup, gLst, gSum, gAll, gAny, gAbs, gMax2, gMin2, gDivmod, gInt, gGcd, isT, gAppend, gInsert, gPop, zip2D, zip3D, enumD, gSl, mRev, gRev, mSS, gSS, gMax, gMin, gMaxS, gMinS, gIn, gNin, mExt, mDR, mDL, mCD, gDLen, gDLst, mD0, mD1, gSD, Arg.raw, mFD, mTD, iFD, sForN, mLCN, iNm]
theorem e_L_led (a b r : List Int) : m_L_led [.z (prD (a, b)), .z (rowD r)] = some (.z (rowD (led a b r)), [some (.z (prD (a, b))), rz r]) := by
  have e1 := e_Lled_1 a b r
  simp [m_L_led, defM, startE, backs, sSeq, sSet, setSl, sRet, sRetN, sNx, sBk, sCt, sNo, sIf, sDrop, sPar, sPar3, sAsg, sFor, bV, bT, bAnd, bOr, bNot, truth, mAnd, mOr, mNot, mIf, mC, mZ, mM, mF, mTup, mLst, mCB, mBin, mUn, mChain, mIsi, mIsi2, mSl, mPt, mLC, mBM, mCallD, mCallK, callM, takeT, putT, slotsOf, nodupB, valsZ, gk, oN, oE, aNil, aCons, slotT, Arg.get, gets, zs, T.data, gN, gsC, gs0, gT, gS, iV, iZ, iR, seqOf, wipeE, restE, gAdd, gSub, gMul, gFdiv, gMod, gPow, gNeg, gLt, gGt, gLe, gGe, gEq, gNe, gIs, gIsN, isNon, gIx, L2.atI, L2.ixN, gLen, gTup, gLst, gSum, gAll, gAny, gAbs, gMax2, gMin2, gDivmod, gInt, gGcd, isT, gAppend, gInsert, gPop, zip2D, zip3D, enumD, gSl, mRev, gRev, mSS, gSS, gMax, gMin, gMaxS, gMinS, gIn, gNin, mExt, mDR, mDL, mCD, gDLen, gDLst, mD0, mD1, gSD, Arg.raw, mFD, mTD, iFD, sForN, mLCN, iNm, e1]

/-! ### one step goes down -/
theorem led_cons (x y z : Int) (a b r : List Int) : led (x :: a) (y :: b) (z :: r) = (z - x + y) :: led a b r := rfl
theorem led_len {a b r : List Int} (h1 : a.length = r.length) (h2 : b.length = r.length) : (led a b r).length = r.length := by
  simp only [led, List.length_map, List.length_zip]; omega
theorem lt_led : ∀ a b r : List Int, a.length = r.length → b.length = r.length → ltI (led a b r) r = ltI b a
  | [], [], [], _, _ => rfl
  | x :: a, y :: b, z :: r, h1, h2 => by
    have ih := lt_led a b r (by simpa using h1) (by simpa using h2)
    rw [led_cons]
    simp only [ltI]
    by_cases h : y = x
    · rw [if_pos h, if_pos (by omega), ih]
    · rw [if_neg h, if_neg (by omega)]
      exact decide_eq_decide.mpr (by omega)
  | [], _, _ :: _, h1, _ => by cases h1
  | _ :: _, _, [], h1, _ => by cases h1
  | _, [], _ :: _, _, h2 => by cases h2
  | _, _ :: _, [], _, h2 => by cases h2
theorem dot_led : ∀ w a b r : List Int, a.length = r.length → b.length = r.length → w.length = r.length → dot w (led a b r) = dot w r - dot w a + dot w b
  | [], [], [], [], _, _, _ => rfl
  | v :: w, x :: a, y :: b, z :: r, h1, h2, h3 => by
    have ih := dot_led w a b r (by simpa using h1) (by simpa using h2) (by simpa using h3)
    rw [led_cons]
    simp only [dot, List.zip_cons_cons, List.map_cons, List.sum_cons] at *
    rw [ih, Int.mul_add, Int.mul_sub]
    omega
  | _, [], _, _ :: _, h1, _, _ => by cases h1
  | _, _ :: _, _, [], h1, _, _ => by cases h1
  | _, _, [], _ :: _, _, h2, _ => by cases h2
  | _, _, _ :: _, [], _, h2, _ => by cases h2
  | [], _, _, _ :: _, _, _, h3 => by cases h3
  | _ :: _, _, _, [], _, _, h3 => by cases h3
theorem sum_led : ∀ a b r : List Int, a.length = r.length → b.length = r.length → (led a b r).sum = r.sum - a.sum + b.sum
  | [], [], [], _, _ => rfl
  | x :: a, y :: b, z :: r, h1, h2 => by
    have ih := sum_led a b r (by simpa using h1) (by simpa using h2)
    rw [led_cons]
    simp only [List.sum_cons, ih]
    omega
  | [], _, _ :: _, h1, _ => by cases h1
  | _ :: _, _, [], h1, _ => by cases h1
  | _, [], _ :: _, _, h2 => by cases h2
  | _, _ :: _, [], _, h2 => by cases h2
theorem led_snoc {a b r : List Int} (x y z : Int) (h1 : a.length = r.length) (h2 : b.length = r.length) : led (a ++ [x]) (b ++ [y]) (r ++ [z]) = led a b r ++ [z - x + y] := by
  unfold led
  rw [List.zip_append (h1.trans h2.symm), List.zip_append (by rw [List.length_zip]; omega), List.map_append]
  rfl
theorem led_rev : ∀ a b r : List Int, a.length = r.length → b.length = r.length → ((led a b r).reverse.map fun n => -n) = led (a.reverse.map fun n => -n) (b.reverse.map fun n => -n) (r.reverse.map fun n => -n)
  | [], [], [], _, _ => rfl
  | x :: a, y :: b, z :: r, h1, h2 => by
    have h1' : a.length = r.length := by simpa using h1
    have h2' : b.length = r.length := by simpa using h2
    have ih := led_rev a b r h1' h2'
    rw [led_cons]
    simp only [List.reverse_cons, List.map_append, List.map_cons, List.map_nil]
    rw [led_snoc _ _ _ (by simp [h1']) (by simp [h2']), ih]
    congr 2
    omega
  | [], _, _ :: _, h1, _ => by cases h1
  | _ :: _, _, [], h1, _ => by cases h1
  | _, [], _ :: _, _, h2 => by cases h2
  | _, _ :: _, [], _, h2 => by cases h2
theorem fk_led {w a b r : List Int} (h1 : a.length = r.length) (h2 : b.length = r.length) (h3 : w.length = r.length) : fk w (led a b r) = led (fk w a) (fk w b) (fk w r) := by
  unfold fk
  rw [led_cons, led_cons, dot_led w a b r h1 h2 h3, sum_led a b r h1 h2, led_rev a b r h1 h2]
theorem lt_fk_led {w a b r : List Int} (h1 : a.length = r.length) (h2 : b.length = r.length) (h3 : w.length = r.length) : ltI (fk w (led a b r)) (fk w r) = ltI (fk w b) (fk w a) := by
  rw [fk_led h1 h2 h3, lt_led _ _ _ (by simp [fk, h1]) (by simp [fk, h2])]
theorem led_ok {many : Nat} {a b r : List Int} (h1 : a.length = many) (h2 : b.length = many) (h3 : r.length = many) (g : goes a r = true) (hb : ∀ n ∈ b, 0 ≤ n ∧ n ≤ 10000) (hr : ∀ n ∈ r, 0 ≤ n ∧ n ≤ 10000) (ha : ∀ n ∈ a, 0 ≤ n) : ∀ n ∈ led a b r, 0 ≤ n ∧ n ≤ 20000 := by
  induction r generalizing many a b with
  | nil => intro n hn; cases hn
  | cons z r ih =>
    cases a with
    | nil => intro n hn; cases hn
    | cons x a =>
      cases b with
      | nil => intro n hn; cases hn
      | cons y b =>
        have g' : decide (x ≤ z) = true ∧ goes a r = true := by
          simpa only [goes, List.zip_cons_cons, List.all_cons, Bool.and_eq_true] using g
        have g1 := of_decide_eq_true g'.1
        have i := ih (many := r.length) (a := a) (b := b) (by simp only [List.length_cons] at h1 h3; omega) (by simp only [List.length_cons] at h2 h3; omega) rfl g'.2 (fun n hn => hb n (List.mem_cons_of_mem _ hn)) (fun n hn => hr n (List.mem_cons_of_mem _ hn)) (fun n hn => ha n (List.mem_cons_of_mem _ hn))
        intro n hn
        rw [led_cons] at hn
        have p1 := hb y (List.mem_cons_self ..)
        have p2 := hr z (List.mem_cons_self ..)
        have p3 := ha x (List.mem_cons_self ..)
        rcases List.mem_cons.mp hn with rfl | hn
        · omega
        · exact i n hn
theorem foldl_max_le (l : List Int) (x k : Int) (hx : x ≤ k) (h : ∀ n ∈ l, n ≤ k) : l.foldl max x ≤ k := by
  induction l generalizing x with
  | nil => exact hx
  | cons y l ih =>
    exact ih (max x y) (Int.max_le.mpr ⟨hx, h y (List.mem_cons_self ..)⟩) (fun n hn => h n (List.mem_cons_of_mem _ hn))
theorem e_led_by (a b r : List Int) (h0 : led a b r ≠ []) (h : ∀ n ∈ led a b r, n ≤ 20000) : m_led_by [.z (prD (a, b)), .z (rowD r)] = some (.z (rowD (led a b r)), [some (.z (prD (a, b))), rz r]) := by
  have e1 := e_led_1 a b r
  generalize led a b r = L at *
  cases L with
  | nil => exact absurd rfl h0
  | cons x l =>
    have m : ¬ (l.foldl max x > 20000) := by
      have := foldl_max_le l x 20000 (h x (List.mem_cons_self ..)) fun n hn => h n (List.mem_cons_of_mem _ hn)
      omega
    have i : ints? (PyData.int x :: l.map .int) = some (x :: l) := ints?_ints (x :: l)
    simp [m_led_by, k_led_by_1, k_led_by_2, k_led_by_3, k_led_by_4, defM, startE, backs, sSeq, sSet, setSl, sRet, sRetN, sNx, sBk, sCt, sNo, sIf, sDrop, sPar, sPar3, sAsg, sFor, bV, bT, bAnd, bOr, bNot, truth, mAnd, mOr, mNot, mIf, mC, mZ, mM, mF, mTup, mLst, mCB, mBin, mUn, mChain, mIsi, mIsi2, mSl, mPt, mLC, mBM, mCallD, mCallK, callM, takeT, putT, slotsOf, nodupB, valsZ, gk, oN, oE, aNil, aCons, slotT, Arg.get, gets, zs, T.data, gN, gsC, gs0, gT, gS, iV, iZ, iR, seqOf, wipeE, restE, gAdd, gSub, gMul, gFdiv, gMod, gPow, gNeg, gLt, gGt, gLe, gGe, gEq, gNe, gIs, gIsN, isNon, gIx, L2.atI, L2.ixN, gLen, gTup, gLst, gSum, gAll, gAny, gAbs, gMax2, gMin2, gDivmod, gInt, gGcd, isT, gAppend, gInsert, gPop, zip2D, zip3D, enumD, gSl, mRev, gRev, mSS, gSS, gMax, gMin, gMaxS, gMinS, gIn, gNin, mExt, mDR, mDL, mCD, gDLen, gDLst, mD0, mD1, gSD, Arg.raw, mFD, mTD, iFD, sForN, mLCN, iNm, e1, i, m_want_at_most, m]
/-! ### draws -/
abbrev pot (a b : Int) : T := .l [.int a, .int b]
abbrev po (a b : Int) : Option T := some (.l [.int a, .int b])
theorem e_draw0 (a b : Int) (m : Int) (h : 0 < a) (hm : 0 < m ∧ m < 1073741824) : m_L_draw [.l [.int a, .int b], .z (.int m)] = some (.z (.int (a % m)), [some (.l [.int (a / m), .int b]), iz m]) := by
  simp [m_L_draw, defM, startE, backs, sSeq, sSet, setSl, sRet, sRetN, sNx, sBk, sCt, sNo, sIf, sDrop, sPar, sPar3, sAsg, sFor, bV, bT, bAnd, bOr, bNot, truth, mAnd, mOr, mNot, mIf, mC, mZ, mM, mF, mTup, mLst, mCB, mBin, mUn, mChain, mIsi, mIsi2, mSl, mPt, mLC, mBM, mCallD, mCallK, callM, takeT, putT, slotsOf, nodupB, valsZ, gk, oN, oE, aNil, aCons, slotT, Arg.get, gets, zs, T.data, gN, gsC, gs0, gT, gS, iV, iZ, iR, seqOf, wipeE, restE, gAdd, gSub, gMul, gFdiv, gMod, gPow, gNeg, gLt, gGt, gLe, gGe, gEq, gNe, gIs, gIsN, isNon, gIx, L2.atI, L2.ixN, gLen, gTup, gLst, gSum, gAll, gAny, gAbs, gMax2, gMin2, gDivmod, gInt, gGcd, isT, gAppend, gInsert, gPop, zip2D, zip3D, enumD, gSl, mRev, gRev, mSS, gSS, gMax, gMin, gMaxS, gMinS, gIn, gNin, mExt, mDR, mDL, mCD, gDLen, gDLst, mD0, mD1, gSD, Arg.raw, mFD, mTD, iFD, sForN, mLCN, iNm, h, hm]
theorem e_draw (a b : Int) (m : Int) (hm : 0 < m ∧ m < 1073741824) : ∃ d a' b', 0 ≤ d ∧ d < m ∧ m_L_draw [.l [.int a, .int b], .z (.int m)] = some (.z (.int d), [some (.l [.int a', .int b']), iz m]) := by
  by_cases h : 0 < a
  · exact ⟨_, _, _, Int.emod_nonneg _ (by omega), Int.emod_lt_of_pos _ hm.1, e_draw0 a b m h hm⟩
  · have h0 : m ≠ 0 := by omega
    obtain ⟨q, hq⟩ : ∃ q, q = (b * 39373 + 1049).fmod 2147483587 := ⟨_, rfl⟩
    have q0 : 0 ≤ q := by rw [hq]; exact Int.fmod_nonneg_of_pos _ (by decide)
    have q1 : q < 2147483587 := by rw [hq]; exact Int.fmod_lt_of_pos _ (by decide)
    have q2 : q.natAbs < 18446744073709551616 := by omega
    refine ⟨(((q * q).fmod 2147483563).fdiv 17).fmod m, a, q, Int.fmod_nonneg_of_pos _ hm.1, Int.fmod_lt_of_pos _ hm.1, ?_⟩
    simp [m_L_draw, defM, startE, backs, sSeq, sSet, setSl, sRet, sRetN, sNx, sBk, sCt, sNo, sIf, sDrop, sPar, sPar3, sAsg, sFor, bV, bT, bAnd, bOr, bNot, truth, mAnd, mOr, mNot, mIf, mC, mZ, mM, mF, mTup, mLst, mCB, mBin, mUn, mChain, mIsi, mIsi2, mSl, mPt, mLC, mBM, mCallD, mCallK, callM, takeT, putT, slotsOf, nodupB, valsZ, gk, oN, oE, aNil, aCons, slotT, Arg.get, gets, zs, T.data, gN, gsC, gs0, gT, gS, iV, iZ, iR, seqOf, wipeE, restE, gAdd, gSub, gMul, gFdiv, gMod, gPow, gNeg, gLt, gGt, gLe, gGe, gEq, gNe, gIs, gIsN, isNon, gIx, L2.atI, L2.ixN, gLen, gTup, gLst, gSum, gAll, gAny, gAbs, gMax2, gMin2, gDivmod, gInt, gGcd, isT, gAppend, gInsert, gPop, zip2D, zip3D, enumD, gSl, mRev, gRev, mSS, gSS, gMax, gMin, gMaxS, gMinS, gIn, gNin, mExt, mDR, mDL, mCD, gDLen, gDLst, mD0, mD1, gSD, Arg.raw, mFD, mTD, iFD, sForN, mLCN, iNm, h, hm, h0, ← hq, q2]
theorem ints_of {Q : Int → Prop} : ∀ (ds ys : List D), ys.length = ds.length → (∀ p ∈ ds.zip ys, ∃ v, p.2 = .int v ∧ Q v) → ∃ r : List Int, ys = r.map .int ∧ r.length = ds.length ∧ ∀ x ∈ r, Q x
  | [], [], _, _ => ⟨[], rfl, rfl, by simp⟩
  | d :: ds, y :: ys, l, h => by
    obtain ⟨r, e, l2, q⟩ := ints_of ds ys (by simpa using l) fun p hp => h p (List.mem_cons_of_mem _ hp)
    obtain ⟨v, rfl, hv⟩ := h (d, y) (List.mem_cons_self ..)
    exact ⟨v :: r, by rw [e]; rfl, by simp [l2], by
      intro x hx
      rcases List.mem_cons.mp hx with rfl | hx
      · exact hv
      · exact q x hx⟩
  | [], _ :: _, l, _ => by cases l
  | _ :: _, [], l, _ => by cases l
theorem e_mono_1 (a b : Int) (n : Nat) (k : Int) (hn : n ≤ 1000) (hk : 0 ≤ k ∧ k ≤ 1000) : ∃ (r : List Int) (a' b' : Int), r.length = n ∧ (∀ x ∈ r, 0 ≤ x ∧ x ≤ k) ∧ l_L_monomial_1 [po a b, iz n, iz k, none] = some (.l (r.map .int), [po a' b', iz n, iz k, none]) := by
  have hb : -big ≤ (n : Int) ∧ (n : Int) ≤ 1000000 := by unfold big; omega
  obtain ⟨ys, ρ', e, ⟨a', b', rfl⟩, l, g⟩ := mLC_rel (ds := rangeL 0 n) (ρ1 := [po a b, iz n, iz k, none]) (mi := (iR rangeD1 (aCons (oN 1) aNil))) (mg := (gN 3)) (me := (mF (mCallD m_L_draw [true, false] [] (aCons (oN 0) (aCons (oE (mF (mBin gAdd (oN 2) (oE (mC (.int 1)))))) aNil))))) (vs := [3]) (ρ := [po a b, iz n, iz k, none])
    (fun ρ => ∃ a b, ρ = [po a b, iz n, iz k, none]) (fun d y => ∃ v, y = .int v ∧ (0 ≤ v ∧ v ≤ k)) (by simp [defM, startE, backs, sSeq, sSet, setSl, sRet, sRetN, sNx, sBk, sCt, sNo, sIf, sDrop, sPar, sPar3, sAsg, sFor, bV, bT, bAnd, bOr, bNot, truth, mAnd, mOr, mNot, mIf, mC, mZ, mM, mF, mTup, mLst, mCB, mBin, mUn, mChain, mIsi, mIsi2, mSl, mPt, mLC, mBM, mCallD, mCallK, callM, takeT, putT, slotsOf, nodupB, valsZ, gk, oN, oE, aNil, aCons, slotT, Arg.get, gets, zs, T.data, gN, gsC, gs0, gT, gS, iV, iZ, iR, seqOf, wipeE, restE, gAdd, gSub, gMul, gFdiv, gMod, gPow, gNeg, gLt, gGt, gLe, gGe, gEq, gNe, gIs, gIsN, isNon, gIx, L2.atI, L2.ixN, gLen, gTup, gLst, gSum, gAll, gAny, gAbs, gMax2, gMin2, gDivmod, gInt, gGcd, isT, gAppend, gInsert, gPop, zip2D, zip3D, enumD, gSl, mRev, gRev, mSS, gSS, gMax, gMin, gMaxS, gMinS, gIn, gNin, mExt, mDR, mDL, mCD, gDLen, gDLst, mD0, mD1, gSD, Arg.raw, mFD, mTD, iFD, sForN, mLCN, iNm, rangeD1, hb]) ⟨a, b, by rfl⟩
    (by
      rintro d _ ρ ⟨a, b, rfl⟩
      obtain ⟨v, a2, b2, h1, h2, e2⟩ := e_draw a b (k + 1) (by omega)
      exact ⟨.int v, [po a2 b2, iz n, iz k, some (.z d)], by simp [defM, startE, backs, sSeq, sSet, setSl, sRet, sRetN, sNx, sBk, sCt, sNo, sIf, sDrop, sPar, sPar3, sAsg, sFor, bV, bT, bAnd, bOr, bNot, truth, mAnd, mOr, mNot, mIf, mC, mZ, mM, mF, mTup, mLst, mCB, mBin, mUn, mChain, mIsi, mIsi2, mSl, mPt, mLC, mBM, mCallD, mCallK, callM, takeT, putT, slotsOf, nodupB, valsZ, gk, oN, oE, aNil, aCons, slotT, Arg.get, gets, zs, T.data, gN, gsC, gs0, gT, gS, iV, iZ, iR, seqOf, wipeE, restE, gAdd, gSub, gMul, gFdiv, gMod, gPow, gNeg, gLt, gGt, gLe, gGe, gEq, gNe, gIs, gIsN, isNon, gIx, L2.atI, L2.ixN, gLen, gTup, gLst, gSum, gAll, gAny, gAbs, gMax2, gMin2, gDivmod, gInt, gGcd, isT, gAppend, gInsert, gPop, zip2D, zip3D, enumD, gSl, mRev, gRev, mSS, gSS, gMax, gMin, gMaxS, gMinS, gIn, gNin, mExt, mDR, mDL, mCD, gDLen, gDLst, mD0, mD1, gSD, Arg.raw, mFD, mTD, iFD, sForN, mLCN, iNm, e2], ⟨v, rfl, h1, by omega⟩, a2, b2, by rfl⟩)
  obtain ⟨r, rfl, l2, q⟩ := ints_of _ _ l g
  exact ⟨r, a', b', by simpa [rangeL] using l2, q, e⟩
theorem e_L_monomial (a b : Int) (n : Nat) (k : Int) (hn : n ≤ 1000) (hk : 0 ≤ k ∧ k ≤ 1000) : ∃ (r : List Int) (a' b' : Int), r.length = n ∧ (∀ x ∈ r, 0 ≤ x ∧ x ≤ k) ∧ m_L_monomial [pot a b, .z (.int n), .z (.int k)] = some (.z (rowD r), [po a' b', iz n, iz k]) := by
  obtain ⟨r, a', b', h1, h2, e⟩ := e_mono_1 a b n k hn hk
  exact ⟨r, a', b', h1, h2, by simp [m_L_monomial, defM, startE, backs, sSeq, sSet, setSl, sRet, sRetN, sNx, sBk, sCt, sNo, sIf, sDrop, sPar, sPar3, sAsg, sFor, bV, bT, bAnd, bOr, bNot, truth, mAnd, mOr, mNot, mIf, mC, mZ, mM, mF, mTup, mLst, mCB, mBin, mUn, mChain, mIsi, mIsi2, mSl, mPt, mLC, mBM, mCallD, mCallK, callM, takeT, putT, slotsOf, nodupB, valsZ, gk, oN, oE, aNil, aCons, slotT, Arg.get, gets, zs, T.data, gN, gsC, gs0, gT, gS, iV, iZ, iR, seqOf, wipeE, restE, gAdd, gSub, gMul, gFdiv, gMod, gPow, gNeg, gLt, gGt, gLe, gGe, gEq, gNe, gIs, gIsN, isNon, gIx, L2.atI, L2.ixN, gLen, gTup, gLst, gSum, gAll, gAny, gAbs, gMax2, gMin2, gDivmod, gInt, gGcd, isT, gAppend, gInsert, gPop, zip2D, zip3D, enumD, gSl, mRev, gRev, mSS, gSS, gMax, gMin, gMaxS, gMinS, gIn, gNin, mExt, mDR, mDL, mCD, gDLen, gDLst, mD0, mD1, gSD, Arg.raw, mFD, mTD, iFD, sForN, mLCN, iNm, e]⟩
theorem e_L_pot (ns : List Int) : ∃ a b, m_L_pot [.z (.list (ns.map .int)), .z (.int 0)] = some (.l [.int a, .int b], [some (.z (.list (ns.map .int))), iz 0]) := by
  cases ns with
  | nil => exact ⟨_, _, by simp [m_L_pot, defM, startE, backs, sSeq, sSet, setSl, sRet, sRetN, sNx, sBk, sCt, sNo, sIf, sDrop, sPar, sPar3, sAsg, sFor, bV, bT, bAnd, bOr, bNot, truth, mAnd, mOr, mNot, mIf, mC, mZ, mM, mF, mTup, mLst, mCB, mBin, mUn, mChain, mIsi, mIsi2, mSl, mPt, mLC, mBM, mCallD, mCallK, callM, takeT, putT, slotsOf, nodupB, valsZ, gk, oN, oE, aNil, aCons, slotT, Arg.get, gets, zs, T.data, gN, gsC, gs0, gT, gS, iV, iZ, iR, seqOf, wipeE, restE, gAdd, gSub, gMul, gFdiv, gMod, gPow, gNeg, gLt, gGt, gLe, gGe, gEq, gNe, gIs, gIsN, isNon, gIx, L2.atI, L2.ixN, gLen, gTup, gLst, gSum, gAll, gAny, gAbs, gMax2, gMin2, gDivmod, gInt, gGcd, isT, gAppend, gInsert, gPop, zip2D, zip3D, enumD, gSl, mRev, gRev, mSS, gSS, gMax, gMin, gMaxS, gMinS, gIn, gNin, mExt, mDR, mDL, mCD, gDLen, gDLst, mD0, mD1, gSD, Arg.raw, mFD, mTD, iFD, sForN, mLCN, iNm]; exact ⟨rfl, rfl⟩⟩
  | cons x y =>
    have h1 : (0 : Int) < (y.length : Int) + 1 := by omega
    refine ⟨_, _, by simp [m_L_pot, defM, startE, backs, sSeq, sSet, setSl, sRet, sRetN, sNx, sBk, sCt, sNo, sIf, sDrop, sPar, sPar3, sAsg, sFor, bV, bT, bAnd, bOr, bNot, truth, mAnd, mOr, mNot, mIf, mC, mZ, mM, mF, mTup, mLst, mCB, mBin, mUn, mChain, mIsi, mIsi2, mSl, mPt, mLC, mBM, mCallD, mCallK, callM, takeT, putT, slotsOf, nodupB, valsZ, gk, oN, oE, aNil, aCons, slotT, Arg.get, gets, zs, T.data, gN, gsC, gs0, gT, gS, iV, iZ, iR, seqOf, wipeE, restE, gAdd, gSub, gMul, gFdiv, gMod, gPow, gNeg, gLt, gGt, gLe, gGe, gEq, gNe, gIs, gIsN, isNon, gIx, L2.atI, L2.ixN, gLen, gTup, gLst, gSum, gAll, gAny, gAbs, gMax2, gMin2, gDivmod, gInt, gGcd, isT, gAppend, gInsert, gPop, zip2D, zip3D, enumD, gSl, mRev, gRev, mSS, gSS, gMax, gMin, gMaxS, gMinS, gIn, gNin, mExt, mDR, mDL, mCD, gDLen, gDLst, mD0, mD1, gSD, Arg.raw, mFD, mTD, iFD, sForN, mLCN, iNm, h1]; exact ⟨rfl, rfl⟩⟩

theorem e_wt_1 (a b : Int) (n : Nat) (t : Int) (hn : n ≤ 1000) : ∃ (r : List Int) (a' b' : Int), r.length = n ∧ (∀ x ∈ r, 0 ≤ x ∧ x ≤ 99) ∧ l_L_weights_1 [po a b, iz n, iz t, none] = some (.l (r.map .int), [po a' b', iz n, iz t, none]) := by
  have hb : -big ≤ (n : Int) ∧ (n : Int) ≤ 1000000 := by unfold big; omega
  obtain ⟨ys, ρ', e, ⟨a', b', rfl⟩, l, g⟩ := mLC_rel (ds := rangeL 0 n) (ρ1 := [po a b, iz n, iz t, none]) (mi := (iR rangeD1 (aCons (oN 1) aNil))) (mg := (gN 3)) (me := (mF (mCallD m_L_draw [true, false] [] (aCons (oN 0) (aCons (oE (mIf (bV (mBin gLt (oN 2) (oE (mC (.int 3))))) (mC (.int 3)) (mC (.int 100)))) aNil))))) (vs := [3]) (ρ := [po a b, iz n, iz t, none])
    (fun ρ => ∃ a b, ρ = [po a b, iz n, iz t, none]) (fun d y => ∃ v, y = .int v ∧ (0 ≤ v ∧ v ≤ 99)) (by simp [defM, startE, backs, sSeq, sSet, setSl, sRet, sRetN, sNx, sBk, sCt, sNo, sIf, sDrop, sPar, sPar3, sAsg, sFor, bV, bT, bAnd, bOr, bNot, truth, mAnd, mOr, mNot, mIf, mC, mZ, mM, mF, mTup, mLst, mCB, mBin, mUn, mChain, mIsi, mIsi2, mSl, mPt, mLC, mBM, mCallD, mCallK, callM, takeT, putT, slotsOf, nodupB, valsZ, gk, oN, oE, aNil, aCons, slotT, Arg.get, gets, zs, T.data, gN, gsC, gs0, gT, gS, iV, iZ, iR, seqOf, wipeE, restE, gAdd, gSub, gMul, gFdiv, gMod, gPow, gNeg, gLt, gGt, gLe, gGe, gEq, gNe, gIs, gIsN, isNon, gIx, L2.atI, L2.ixN, gLen, gTup, gLst, gSum, gAll, gAny, gAbs, gMax2, gMin2, gDivmod, gInt, gGcd, isT, gAppend, gInsert, gPop, zip2D, zip3D, enumD, gSl, mRev, gRev, mSS, gSS, gMax, gMin, gMaxS, gMinS, gIn, gNin, mExt, mDR, mDL, mCD, gDLen, gDLst, mD0, mD1, gSD, Arg.raw, mFD, mTD, iFD, sForN, mLCN, iNm, rangeD1, hb]) ⟨a, b, by rfl⟩
    (by
      rintro d _ ρ ⟨a, b, rfl⟩
      by_cases ht : t < 3
      · obtain ⟨v, a2, b2, h1, h2, e2⟩ := e_draw a b 3 (by omega)
        exact ⟨.int v, [po a2 b2, iz n, iz t, some (.z d)], by simp [defM, startE, backs, sSeq, sSet, setSl, sRet, sRetN, sNx, sBk, sCt, sNo, sIf, sDrop, sPar, sPar3, sAsg, sFor, bV, bT, bAnd, bOr, bNot, truth, mAnd, mOr, mNot, mIf, mC, mZ, mM, mF, mTup, mLst, mCB, mBin, mUn, mChain, mIsi, mIsi2, mSl, mPt, mLC, mBM, mCallD, mCallK, callM, takeT, putT, slotsOf, nodupB, valsZ, gk, oN, oE, aNil, aCons, slotT, Arg.get, gets, zs, T.data, gN, gsC, gs0, gT, gS, iV, iZ, iR, seqOf, wipeE, restE, gAdd, gSub, gMul, gFdiv, gMod, gPow, gNeg, gLt, gGt, gLe, gGe, gEq, gNe, gIs, gIsN, isNon, gIx, L2.atI, L2.ixN, gLen, gTup, gLst, gSum, gAll, gAny, gAbs, gMax2, gMin2, gDivmod, gInt, gGcd, isT, gAppend, gInsert, gPop, zip2D, zip3D, enumD, gSl, mRev, gRev, mSS, gSS, gMax, gMin, gMaxS, gMinS, gIn, gNin, mExt, mDR, mDL, mCD, gDLen, gDLst, mD0, mD1, gSD, Arg.raw, mFD, mTD, iFD, sForN, mLCN, iNm, e2, ht], ⟨v, rfl, h1, by omega⟩, a2, b2, by rfl⟩
      · obtain ⟨v, a2, b2, h1, h2, e2⟩ := e_draw a b 100 (by omega)
        exact ⟨.int v, [po a2 b2, iz n, iz t, some (.z d)], by simp [defM, startE, backs, sSeq, sSet, setSl, sRet, sRetN, sNx, sBk, sCt, sNo, sIf, sDrop, sPar, sPar3, sAsg, sFor, bV, bT, bAnd, bOr, bNot, truth, mAnd, mOr, mNot, mIf, mC, mZ, mM, mF, mTup, mLst, mCB, mBin, mUn, mChain, mIsi, mIsi2, mSl, mPt, mLC, mBM, mCallD, mCallK, callM, takeT, putT, slotsOf, nodupB, valsZ, gk, oN, oE, aNil, aCons, slotT, Arg.get, gets, zs, T.data, gN, gsC, gs0, gT, gS, iV, iZ, iR, seqOf, wipeE, restE, gAdd, gSub, gMul, gFdiv, gMod, gPow, gNeg, gLt, gGt, gLe, gGe, gEq, gNe, gIs, gIsN, isNon, gIx, L2.atI, L2.ixN, gLen, gTup, gLst, gSum, gAll, gAny, gAbs, gMax2, gMin2, gDivmod, gInt, gGcd, isT, gAppend, gInsert, gPop, zip2D, zip3D, enumD, gSl, mRev, gRev, mSS, gSS, gMax, gMin, gMaxS, gMinS, gIn, gNin, mExt, mDR, mDL, mCD, gDLen, gDLst, mD0, mD1, gSD, Arg.raw, mFD, mTD, iFD, sForN, mLCN, iNm, e2, ht], ⟨v, rfl, h1, by omega⟩, a2, b2, by rfl⟩)
  obtain ⟨r, rfl, l2, q⟩ := ints_of _ _ l g
  exact ⟨r, a', b', by simpa [rangeL] using l2, q, e⟩
theorem e_L_weights (a b : Int) (n : Nat) (h1 : 1 ≤ n) (hn : n ≤ 1000) : ∃ (r : List Int) (a' b' : Int), r.length = n ∧ (∀ x ∈ r, 0 ≤ x ∧ x ≤ 99) ∧ m_L_weights [pot a b, .z (.int n)] = some (.z (rowD r), [po a' b', iz n]) := by
  obtain ⟨t, a1, b1, t0, t1, e1⟩ := e_draw a b 4 (by decide)
  by_cases ht : t = 0
  · have p1 : (1 : Int) ≤ (n : Int) := by omega
    have p2 : (n : Int) ≤ 1000 := by omega
    refine ⟨List.replicate n 0, a1, b1, by simp, ?_, ?_⟩
    · intro x hx
      have := List.eq_of_mem_replicate hx
      omega
    · simp [m_L_weights, defM, startE, backs, sSeq, sSet, setSl, sRet, sRetN, sNx, sBk, sCt, sNo, sIf, sDrop, sPar, sPar3, sAsg, sFor, bV, bT, bAnd, bOr, bNot, truth, mAnd, mOr, mNot, mIf, mC, mZ, mM, mF, mTup, mLst, mCB, mBin, mUn, mChain, mIsi, mIsi2, mSl, mPt, mLC, mBM, mCallD, mCallK, callM, takeT, putT, slotsOf, nodupB, valsZ, gk, oN, oE, aNil, aCons, slotT, Arg.get, gets, zs, T.data, gN, gsC, gs0, gT, gS, iV, iZ, iR, seqOf, wipeE, restE, gAdd, gSub, gMul, gFdiv, gMod, gPow, gNeg, gLt, gGt, gLe, gGe, gEq, gNe, gIs, gIsN, isNon, gIx, L2.atI, L2.ixN, gLen, gTup, gLst, gSum, gAll, gAny, gAbs, gMax2, gMin2, gDivmod, gInt, gGcd, isT, gAppend, gInsert, gPop, zip2D, zip3D, enumD, gSl, mRev, gRev, mSS, gSS, gMax, gMin, gMaxS, gMinS, gIn, gNin, mExt, mDR, mDL, mCD, gDLen, gDLst, mD0, mD1, gSD, Arg.raw, mFD, mTD, iFD, sForN, mLCN, iNm, e1, ht, p1, p2, hn, h1]
  · obtain ⟨r, a', b', q1, q2, e⟩ := e_wt_1 a1 b1 n t hn
    exact ⟨r, a', b', q1, q2, by simp [m_L_weights, defM, startE, backs, sSeq, sSet, setSl, sRet, sRetN, sNx, sBk, sCt, sNo, sIf, sDrop, sPar, sPar3, sAsg, sFor, bV, bT, bAnd, bOr, bNot, truth, mAnd, mOr, mNot, mIf, mC, mZ, mM, mF, mTup, mLst, mCB, mBin, mUn, mChain, mIsi, mIsi2, mSl, mPt, mLC, mBM, mCallD, mCallK, callM, takeT, putT, slotsOf, nodupB, valsZ, gk, oN, oE, aNil, aCons, slotT, Arg.get, gets, zs, T.data, gN, gsC, gs0, gT, gS, iV, iZ, iR, seqOf, wipeE, restE, gAdd, gSub, gMul, gFdiv, gMod, gPow, gNeg, gLt, gGt, gLe, gGe, gEq, gNe, gIs, gIsN, isNon, gIx, L2.atI, L2.ixN, gLen, gTup, gLst, gSum, gAll, gAny, gAbs, gMax2, gMin2, gDivmod, gInt, gGcd, isT, gAppend, gInsert, gPop, zip2D, zip3D, enumD, gSl, mRev, gRev, mSS, gSS, gMax, gMin, gMaxS, gMinS, gIn, gNin, mExt, mDR, mDL, mCD, gDLen, gDLst, mD0, mD1, gSD, Arg.raw, mFD, mTD, iFD, sForN, mLCN, iNm, e1, ht, e]⟩
end My

set_option Elab.async false
set_option maxRecDepth 100000
set_option linter.all false
set_option maxHeartbeats 1000000
namespace My
open PySem VL
/-! ### a comprehension over an owned list -/
theorem lcL_filter {i : Nat} {mg : MG} {mt : MB} {me : ME} {vs : List Nat} {α : Type} (g f : α → D) (p : α → Bool) {ρ : VL.Env} {as : List α} (hs : slotT ρ i = some (.l (as.map g)))
    (h : ∀ a ∈ as, ((mg (g a) ρ).bind fun ρ2 => (mt ρ2).bind fun b => match b.1 with
      | false => some (none, wipeE b.2 vs)
      | true => (me b.2).map fun q => (some q.1, wipeE q.2 vs)) = some (if p a then some (.z (f a)) else none, ρ)) :
    ∀ (r k n : Nat) (acc : List D), r + k = as.length → r < n → acc.length + r ≤ 100000 → lcLGo i mg mt me vs n k ρ acc = some (acc ++ ((as.drop k).filter p).map f, ρ)
  | 0, k, n, acc, hk, hn, _ => by
    obtain ⟨n, rfl⟩ : ∃ m, n = m + 1 := ⟨n - 1, by omega⟩
    have : (as.map g)[k]? = none := by simp; omega
    rw [lcLGo, hs]
    simp only [this]
    rw [List.drop_eq_nil_of_le (by omega)]
    simp
  | r + 1, k, n, acc, hk, hn, hl => by
    obtain ⟨n, rfl⟩ : ∃ m, n = m + 1 := ⟨n - 1, by omega⟩
    have hk' : k < as.length := by omega
    have e0 : (as.map g)[k]? = some (g as[k]) := by simp [hk']
    have e1 := h as[k] (List.getElem_mem hk')
    have ih := lcL_filter g f p hs h r (k + 1) n
    have ed : as.drop k = as[k] :: as.drop (k + 1) := List.drop_eq_getElem_cons hk'
    generalize as[k] = a at *
    rw [lcLGo, hs]
    simp only [e0]
    obtain ⟨ρ2, e2, e3⟩ := Option.bind_eq_some_iff.mp e1
    obtain ⟨⟨b, ρ3⟩, e4, e5⟩ := Option.bind_eq_some_iff.mp e3
    rw [e2]
    show (mt ρ2).bind _ = _
    rw [e4]
    cases b with
    | false =>
      show lcLGo i mg mt me vs n (k + 1) (wipeE ρ3 vs) acc = _
      have e6 : wipeE ρ3 vs = ρ := congrArg Prod.snd (Option.some.inj e5)
      have e7 : p a = false := by
        cases q : p a with
        | false => rfl
        | true => rw [q] at e5; have := congrArg Prod.fst (Option.some.inj e5); cases this
      rw [e6, ih acc (by omega) (by omega) (by omega), ed, List.filter_cons, e7]
      simp
    | true =>
      obtain ⟨⟨t, ρ4⟩, e8, e9⟩ := Option.map_eq_some_iff.mp (show (me ρ3).map _ = _ from e5)
      have e7 : p a = true := by
        cases q : p a with
        | true => rfl
        | false => rw [q] at e9; have := congrArg Prod.fst e9; cases this
      rw [e7] at e9
      have e10 : some t = some (T.z (f a)) := congrArg Prod.fst e9
      have e11 : wipeE ρ4 vs = ρ := congrArg Prod.snd e9
      cases e10
      show (me ρ3).bind _ = _
      rw [e8]
      show (if acc.length < 100000 then lcLGo i mg mt me vs n (k + 1) (wipeE ρ4 vs) (acc ++ [f a]) else none) = _
      rw [if_pos (by omega), e11, ih (acc ++ [f a]) (by omega) (by omega) (by simp; omega), ed, List.filter_cons, e7]
      simp
theorem mLCN_filter {i : Nat} {mg : MG} {mt : MB} {me : ME} {vs : List Nat} {α : Type} {g f : α → D} {p : α → Bool} {ρ : VL.Env} {as : List α} (h0 : slotT ρ i = some (.l (as.map g))) (hs : slotT (wipeE ρ vs) i = some (.l (as.map g))) (hl : as.length ≤ 100000)
    (h : ∀ a ∈ as, ((mg (g a) (wipeE ρ vs)).bind fun ρ2 => (mt ρ2).bind fun b => match b.1 with
      | false => some (none, wipeE b.2 vs)
      | true => (me b.2).map fun q => (some q.1, wipeE q.2 vs)) = some (if p a then some (.z (f a)) else none, wipeE ρ vs)) :
    mLCN i mg mt me vs ρ = some (.l ((as.filter p).map f), restE ρ (wipeE ρ vs) vs) := by
  have e := lcL_filter g f p hs h as.length 0 1000000 [] (by omega) (by omega) (by simpa using hl)
  unfold mLCN
  rw [h0]
  show (lcLGo i mg mt me vs 1000000 0 (wipeE ρ vs) []).map _ = _
  rw [e]
  simp
theorem mLCN_z {i : Nat} {mg : MG} {mt : MB} {me : ME} {vs : List Nat} {ρ : VL.Env} {d : D} (h0 : slotT ρ i = some (.z d)) : mLCN i mg mt me vs ρ = mLC (iNm i) mg mt me vs ρ := by
  unfold mLCN
  rw [h0]
/-! ### all that is one step away -/
def nxt (ps : List Pr) (r : List Int) : List (List Int) := (ps.filter fun p => goes p.1 r).map fun p => led p.1 p.2 r
def Rs (t : T) (ps : List Pr) : Prop := t = .l (ps.map prD) ∨ t = .z (.tuple (ps.map prD))
theorem e_Lr_1 (t : T) (ps : List Pr) (m mo dc wt : Option T) (r : List Int) (h : Rs t ps) (hl : ps.length ≤ 1000) :
    l_L_reached_1 [some t, m, mo, dc, wt, rz r, none] = some (.l ((nxt ps r).map rowD), [some t, m, mo, dc, wt, rz r, none]) := by
  have en : (nxt ps r).map rowD = (ps.filter fun p => goes p.1 r).map fun p => rowD (led p.1 p.2 r) := by simp [nxt]
  rw [en]
  have turn : ∀ a ∈ ps, (((gN 6) (prD a) (wipeE [some t, m, mo, dc, wt, rz r, none] [6])).bind fun ρ2 => ((bT (oE (mCallD m_L_goes [false, false] [] (aCons (oE (mZ 6)) (aCons (oE (mZ 5)) aNil))))) ρ2).bind fun b => match b.1 with
      | false => some (none, wipeE b.2 [6])
      | true => ((mF (mCallD m_L_led [false, false] [] (aCons (oE (mZ 6)) (aCons (oE (mZ 5)) aNil)))) b.2).map fun q => (some q.1, wipeE q.2 [6])) = some (if goes a.1 r then some (.z (rowD (led a.1 a.2 r))) else none, wipeE [some t, m, mo, dc, wt, rz r, none] [6]) := by
    rintro ⟨a, b⟩ _
    have e1 := e_L_goes a b r
    have e2 := e_L_led a b r
    cases q : goes a r <;> simp only [q] at e1 <;> simp [defM, startE, backs, sSeq, sSet, setSl, sRet, sRetN, sNx, sBk, sCt, sNo, sIf, sDrop, sPar, sPar3, sAsg, sFor, bV, bT, bAnd, bOr, bNot, truth, mAnd, mOr, mNot, mIf, mC, mZ, mM, mF, mTup, mLst, mCB, mBin, mUn, mChain, mIsi, mIsi2, mSl, mPt, mLC, mBM, mCallD, mCallK, callM, takeT, putT, slotsOf, nodupB, valsZ, gk, oN, oE, aNil, aCons, slotT, Arg.get, gets, zs, T.data, gN, gsC, gs0, gT, gS, iV, iZ, iR, seqOf, wipeE, restE, gAdd, gSub, gMul, gFdiv, gMod, gPow, gNeg, gLt, gGt, gLe, gGe, gEq, gNe, gIs, gIsN, isNon, gIx, L2.atI, L2.ixN, gLen, gTup, gLst, gSum, gAll, gAny, gAbs, gMax2, gMin2, gDivmod, gInt, gGcd, isT, gAppend, gInsert, gPop, zip2D, zip3D, enumD, gSl, mRev, gRev, mSS, gSS, gMax, gMin, gMaxS, gMinS, gIn, gNin, mExt, mDR, mDL, mCD, gDLen, gDLst, mD0, mD1, gSD, Arg.raw, mFD, mTD, iFD, sForN, mLCN, iNm, e1, e2, q]
  rcases h with rfl | rfl
  · rw [l_L_reached_1, mLCN_filter (α := Pr) (g := prD) (f := fun p => rowD (led p.1 p.2 r)) (p := fun p => goes p.1 r) (as := ps) (by rfl) (by rfl) (by omega) turn]
    simp [defM, startE, backs, sSeq, sSet, setSl, sRet, sRetN, sNx, sBk, sCt, sNo, sIf, sDrop, sPar, sPar3, sAsg, sFor, bV, bT, bAnd, bOr, bNot, truth, mAnd, mOr, mNot, mIf, mC, mZ, mM, mF, mTup, mLst, mCB, mBin, mUn, mChain, mIsi, mIsi2, mSl, mPt, mLC, mBM, mCallD, mCallK, callM, takeT, putT, slotsOf, nodupB, valsZ, gk, oN, oE, aNil, aCons, slotT, Arg.get, gets, zs, T.data, gN, gsC, gs0, gT, gS, iV, iZ, iR, seqOf, wipeE, restE, gAdd, gSub, gMul, gFdiv, gMod, gPow, gNeg, gLt, gGt, gLe, gGe, gEq, gNe, gIs, gIsN, isNon, gIx, L2.atI, L2.ixN, gLen, gTup, gLst, gSum, gAll, gAny, gAbs, gMax2, gMin2, gDivmod, gInt, gGcd, isT, gAppend, gInsert, gPop, zip2D, zip3D, enumD, gSl, mRev, gRev, mSS, gSS, gMax, gMin, gMaxS, gMinS, gIn, gNin, mExt, mDR, mDL, mCD, gDLen, gDLst, mD0, mD1, gSD, Arg.raw, mFD, mTD, iFD, sForN, mLCN, iNm]
  · rw [l_L_reached_1, mLCN_z (by rfl), mLC_filter (α := Pr) (g := prD) (f := fun p => rowD (led p.1 p.2 r)) (p := fun p => goes p.1 r) (as := ps) (ρ1 := [some (.z (.tuple (ps.map prD))), m, mo, dc, wt, rz r, none]) (by rfl) turn]
    simp [defM, startE, backs, sSeq, sSet, setSl, sRet, sRetN, sNx, sBk, sCt, sNo, sIf, sDrop, sPar, sPar3, sAsg, sFor, bV, bT, bAnd, bOr, bNot, truth, mAnd, mOr, mNot, mIf, mC, mZ, mM, mF, mTup, mLst, mCB, mBin, mUn, mChain, mIsi, mIsi2, mSl, mPt, mLC, mBM, mCallD, mCallK, callM, takeT, putT, slotsOf, nodupB, valsZ, gk, oN, oE, aNil, aCons, slotT, Arg.get, gets, zs, T.data, gN, gsC, gs0, gT, gS, iV, iZ, iR, seqOf, wipeE, restE, gAdd, gSub, gMul, gFdiv, gMod, gPow, gNeg, gLt, gGt, gLe, gGe, gEq, gNe, gIs, gIsN, isNon, gIx, L2.atI, L2.ixN, gLen, gTup, gLst, gSum, gAll, gAny, gAbs, gMax2, gMin2, gDivmod, gInt, gGcd, isT, gAppend, gInsert, gPop, zip2D, zip3D, enumD, gSl, mRev, gRev, mSS, gSS, gMax, gMin, gMaxS, gMinS, gIn, gNin, mExt, mDR, mDL, mCD, gDLen, gDLst, mD0, mD1, gSD, Arg.raw, mFD, mTD, iFD, sForN, mLCN, iNm]
theorem gNe_rows_nil (l : List (List Int)) : gNe (.list (l.map rowD)) (.list []) = bo (!decide (l = [])) := by
  have e := gEq_rows l []
  show (if SeqAt.shaped (.list (l.map rowD)) = true ∧ SeqAt.shaped (.list []) = true then bo (!PyData.eqv (.list (l.map rowD)) (.list [])) else none) = _
  have e' : (if SeqAt.shaped (.list (l.map rowD)) = true ∧ SeqAt.shaped (.list []) = true then bo (PyData.eqv (.list (l.map rowD)) (.list [])) else none) = bo (decide (l = [])) := e
  by_cases c : SeqAt.shaped (.list (l.map rowD)) = true ∧ SeqAt.shaped (.list []) = true
  · rw [if_pos c] at e' ⊢
    have : PyData.eqv (.list (l.map rowD)) (.list []) = decide (l = []) := by
      injection e' with e'
      injection e' with e'
      injection e' with e'
    rw [this]
  · rw [if_neg c] at e'; cases e'
/-! ### one turn -/
def rBody : MS := (sSeq
    (sSet 5 (mBM 4 gPop aNil))
    (sSeq
    (sIf (bV (mDR gNin gDNin (oN 5) (oN 3))) (sSeq
    (sAsg (mF l_L_reached_1) (gSD 3 (oN 5)))
    (sDrop (mExt 4 (mDL gIx gDIx (oN 3) (oN 5))))) sNx)
    (sIf (bV (mBin gGt (oE (mCD gLen gDLen (oN 3))) (oN 2))) (sRet (mC .none)) sNx)))
abbrev vw (ps : List Pr) (f : List (List Int)) : List (List Int × D) := f.map fun s => (s, .list ((nxt ps s).map rowD))
theorem vw_keys (ps : List Pr) (f : List (List Int)) : (vw ps f).map (·.1) = f := by simp [vw, Function.comp_def]
theorem aget_vw_some (ps : List Pr) (f : List (List Int)) (x : List Int) : (aget (vw ps f) x).isSome = decide (x ∈ f) := by
  have := aget_mem (k := x) (l := vw ps f)
  rw [vw_keys] at this
  cases q : (aget (vw ps f) x).isSome with
  | true => rw [q] at this; exact (decide_eq_true (this.mp rfl)).symm
  | false => exact (decide_eq_false (fun z => by rw [this.mpr z] at q; cases q)).symm
theorem gPop_last (w : List D) (x : D) : gPop (w ++ [x]) [] = some (x, w) := by
  simp [gPop]
theorem e_rt_old (t : T) (m : Option T) (most : Int) (kv : List (D × D)) (w : List D) (x : List Int) (c5 : Option T) (n : Nat) (h1 : gDNin kv (rowD x) = some (.z (.bool false))) (h2 : gDLen kv = some (.z (.int (n : Nat)))) (hn : (n : Int) ≤ most) :
    rBody [some t, m, iz most, some (.dc kv), some (.l (w ++ [rowD x])), c5, none] = some (.nx, [some t, m, iz most, some (.dc kv), some (.l w), rz x, none]) := by
  have hp := gPop_last w (rowD x)
  have hn' : ¬ most < (n : Int) := by omega
  generalize w ++ [rowD x] = W at *
  simp [rBody, defM, startE, backs, sSeq, sSet, setSl, sRet, sRetN, sNx, sBk, sCt, sNo, sIf, sDrop, sPar, sPar3, sAsg, sFor, bV, bT, bAnd, bOr, bNot, truth, mAnd, mOr, mNot, mIf, mC, mZ, mM, mF, mTup, mLst, mCB, mBin, mUn, mChain, mIsi, mIsi2, mSl, mPt, mLC, mBM, mCallD, mCallK, callM, takeT, putT, slotsOf, nodupB, valsZ, gk, oN, oE, aNil, aCons, slotT, Arg.get, gets, zs, T.data, gN, gsC, gs0, gT, gS, iV, iZ, iR, seqOf, wipeE, restE, gAdd, gSub, gMul, gFdiv, gMod, gPow, gNeg, gLt, gGt, gLe, gGe, gEq, gIs, gIsN, isNon, L2.atI, L2.ixN, gLen, gTup, gLst, gSum, gAll, gAny, gAbs, gMax2, gMin2, gDivmod, gInt, gGcd, isT, gAppend, gInsert, zip2D, zip3D, enumD, gSl, mRev, gRev, mSS, gSS, gMax, gMin, gMaxS, gMinS, mExt, mDR, mDL, mCD, gDLst, mD0, mD1, gSD, Arg.raw, mFD, mTD, iFD, sForN, mLCN, iNm, hp, h1, h2, hn']
theorem e_rt_new (t : T) (m : Option T) (most : Int) (kv kv' : List (D × D)) (w : List D) (x : List Int) (L : List D) (c5 : Option T) (n : Nat) (ps : List Pr) (h : Rs t ps) (hl : ps.length ≤ 1000) (hL : (nxt ps x).map rowD = L) (h1 : gDNin kv (rowD x) = some (.z (.bool true))) (h3 : gDSet kv (rowD x) (.list L) = some kv') (h4 : gDIx kv' (rowD x) = some (.z (.list L))) (hw : w.length + L.length ≤ 100000) (h2 : gDLen kv' = some (.z (.int (n : Nat)))) :
    rBody [some t, m, iz most, some (.dc kv), some (.l (w ++ [rowD x])), c5, none] = if (n : Int) ≤ most then some (.nx, [some t, m, iz most, some (.dc kv'), some (.l (w ++ L)), rz x, none]) else some (.ret (.z .none), [some t, m, iz most, some (.dc kv'), some (.l (w ++ L)), rz x, none]) := by
  have hp := gPop_last w (rowD x)
  generalize w ++ [rowD x] = W at *
  have e := e_Lr_1 t ps m (iz most) (some (.dc kv)) (some (.l w)) x h hl
  rw [hL] at e
  by_cases hn : (n : Int) ≤ most
  · have hn' : ¬ most < (n : Int) := by omega
    rw [if_pos hn]
    simp [rBody, defM, startE, backs, sSeq, sSet, setSl, sRet, sRetN, sNx, sBk, sCt, sNo, sIf, sDrop, sPar, sPar3, sAsg, sFor, bV, bT, bAnd, bOr, bNot, truth, mAnd, mOr, mNot, mIf, mC, mZ, mM, mF, mTup, mLst, mCB, mBin, mUn, mChain, mIsi, mIsi2, mSl, mPt, mLC, mBM, mCallD, mCallK, callM, takeT, putT, slotsOf, nodupB, valsZ, gk, oN, oE, aNil, aCons, slotT, Arg.get, gets, zs, T.data, gN, gsC, gs0, gT, gS, iV, iZ, iR, seqOf, wipeE, restE, gAdd, gSub, gMul, gFdiv, gMod, gPow, gNeg, gLt, gGt, gLe, gGe, gEq, gIs, gIsN, isNon, L2.atI, L2.ixN, gLen, gTup, gLst, gSum, gAll, gAny, gAbs, gMax2, gMin2, gDivmod, gInt, gGcd, isT, gAppend, gInsert, zip2D, zip3D, enumD, gSl, mRev, gRev, mSS, gSS, gMax, gMin, gMaxS, gMinS, mExt, mDR, mDL, mCD, gDLst, mD0, mD1, gSD, Arg.raw, mFD, mTD, iFD, sForN, mLCN, iNm, hp, h1, h2, h3, h4, hn', e, hw]
  · have hn' : most < (n : Int) := by omega
    rw [if_neg hn]
    simp [rBody, defM, startE, backs, sSeq, sSet, setSl, sRet, sRetN, sNx, sBk, sCt, sNo, sIf, sDrop, sPar, sPar3, sAsg, sFor, bV, bT, bAnd, bOr, bNot, truth, mAnd, mOr, mNot, mIf, mC, mZ, mM, mF, mTup, mLst, mCB, mBin, mUn, mChain, mIsi, mIsi2, mSl, mPt, mLC, mBM, mCallD, mCallK, callM, takeT, putT, slotsOf, nodupB, valsZ, gk, oN, oE, aNil, aCons, slotT, Arg.get, gets, zs, T.data, gN, gsC, gs0, gT, gS, iV, iZ, iR, seqOf, wipeE, restE, gAdd, gSub, gMul, gFdiv, gMod, gPow, gNeg, gLt, gGt, gLe, gGe, gEq, gIs, gIsN, isNon, L2.atI, L2.ixN, gLen, gTup, gLst, gSum, gAll, gAny, gAbs, gMax2, gMin2, gDivmod, gInt, gGcd, isT, gAppend, gInsert, zip2D, zip3D, enumD, gSl, mRev, gRev, mSS, gSS, gMax, gMin, gMaxS, gMinS, mExt, mDR, mDL, mCD, gDLst, mD0, mD1, gSD, Arg.raw, mFD, mTD, iFD, sForN, mLCN, iNm, hp, h1, h2, h3, h4, hn', e, hw]
end My

set_option Elab.async false
set_option maxRecDepth 100000
set_option linter.all false
set_option maxHeartbeats 1000000
namespace My
open PySem VL
/-! ### all that is reached -/
structure Bd (k : Int) (n : Nat) (r : List Int) : Prop where
  len : r.length = n
  bnd : ∀ x ∈ r, 0 ≤ x ∧ x ≤ k
/-- a rule of the law -/
structure Rl (w : List Int) (p : Pr) : Prop where
  a : Bd 2 w.length p.1
  b : Bd 2 w.length p.2
  lt : ltI (fk w p.2) (fk w p.1) = true
theorem led_bnd {k : Int} : ∀ a b r : List Int, a.length = r.length → b.length = r.length → goes a r = true → (∀ n ∈ a, 0 ≤ n) → (∀ n ∈ b, 0 ≤ n ∧ n ≤ 2) → (∀ n ∈ r, n ≤ k) → ∀ n ∈ led a b r, 0 ≤ n ∧ n ≤ k + 2
  | [], [], [], _, _, _, _, _, _ => fun n hn => by cases hn
  | x :: a, y :: b, z :: r, h1, h2, g, ha, hb, hr => by
    have g' : decide (x ≤ z) = true ∧ goes a r = true := by
      simpa only [goes, List.zip_cons_cons, List.all_cons, Bool.and_eq_true] using g
    have g1 := of_decide_eq_true g'.1
    have ih := led_bnd (k := k) a b r (by simpa using h1) (by simpa using h2) g'.2 (fun n hn => ha n (List.mem_cons_of_mem _ hn)) (fun n hn => hb n (List.mem_cons_of_mem _ hn)) (fun n hn => hr n (List.mem_cons_of_mem _ hn))
    intro n hn
    rw [led_cons] at hn
    have p1 := hb y (List.mem_cons_self ..)
    have p2 := hr z (List.mem_cons_self ..)
    have p3 := ha x (List.mem_cons_self ..)
    rcases List.mem_cons.mp hn with rfl | hn
    · omega
    · exact ih n hn
  | [], _, _ :: _, h1, _, _, _, _, _ => by cases h1
  | _ :: _, _, [], h1, _, _, _, _, _ => by cases h1
  | _, [], _ :: _, _, h2, _, _, _, _ => by cases h2
  | _, _ :: _, [], _, h2, _, _, _, _ => by cases h2
theorem mem_nxt {ps : List Pr} {r y : List Int} : y ∈ nxt ps r ↔ ∃ p ∈ ps, goes p.1 r = true ∧ led p.1 p.2 r = y := by
  unfold nxt
  rw [List.mem_map]
  constructor
  · rintro ⟨p, hp, rfl⟩
    exact ⟨p, (List.mem_filter.mp hp).1, (List.mem_filter.mp hp).2, rfl⟩
  · rintro ⟨p, hp, g, rfl⟩
    exact ⟨p, List.mem_filter.mpr ⟨hp, g⟩, rfl⟩
theorem nxt_bd {k : Int} {w : List Int} {ps : List Pr} (h : ∀ p ∈ ps, Rl w p) {r y : List Int} (hr : Bd k w.length r) (hy : y ∈ nxt ps r) : Bd (k + 2) w.length y := by
  obtain ⟨p, hp, g, rfl⟩ := mem_nxt.mp hy
  have q := h p hp
  have l1 : p.1.length = r.length := by rw [q.a.len, hr.len]
  have l2 : p.2.length = r.length := by rw [q.b.len, hr.len]
  exact ⟨by rw [led_len l1 l2, hr.len], led_bnd _ _ _ l1 l2 g (fun n hn => (q.a.bnd n hn).1) q.b.bnd fun n hn => (hr.bnd n hn).2⟩
theorem nxt_lt {k : Int} {w : List Int} {ps : List Pr} (h : ∀ p ∈ ps, Rl w p) {r y : List Int} (hr : Bd k w.length r) (hy : y ∈ nxt ps r) : ltI (fk w y) (fk w r) = true := by
  obtain ⟨p, hp, g, rfl⟩ := mem_nxt.mp hy
  have q := h p hp
  rw [lt_fk_led (by rw [q.a.len, hr.len]) (by rw [q.b.len, hr.len]) hr.len.symm]
  exact q.lt
theorem nxt_len (ps : List Pr) (r : List Int) : (nxt ps r).length ≤ ps.length := by
  unfold nxt
  rw [List.length_map]
  exact List.length_filter_le ..
def Closed (ps : List Pr) (m : List Int) (C : List Int → Prop) : Prop := C m ∧ ∀ x, C x → ∀ y ∈ nxt ps x, C y
structure Reach (ps : List Pr) (n : Nat) (m : List Int) (S : List (List Int)) : Prop where
  nd : S.Nodup
  len : S.length ≤ 40
  bd : ∀ x ∈ S, Bd 83 n x
  cl : Closed ps m (· ∈ S)
  mn : ∀ C, Closed ps m C → ∀ x ∈ S, C x
structure Far (ps : List Pr) (m : List Int) (F : List (List Int)) : Prop where
  nd : F.Nodup
  len : F.length = 41
  mn : ∀ C, Closed ps m C → ∀ x ∈ F, C x
structure RInv (ps : List Pr) (n : Nat) (m : List Int) (f wt : List (List Int)) : Prop where
  nd : f.Nodup
  len : f.length ≤ 40
  bd : ∀ x, x ∈ f ∨ x ∈ wt → Bd (3 + 2 * f.length) n x
  hm : m ∈ f ∨ m ∈ wt
  cl : ∀ x ∈ f, ∀ y ∈ nxt ps x, y ∈ f ∨ y ∈ wt
  mn : ∀ C, Closed ps m C → ∀ x, x ∈ f ∨ x ∈ wt → C x
theorem Bd.mono {k k' : Int} {n : Nat} {r : List Int} (h : Bd k n r) (q : k ≤ k') : Bd k' n r := ⟨h.len, fun x hx => ⟨(h.bnd x hx).1, by have := (h.bnd x hx).2; omega⟩⟩
theorem RInv.old {ps : List Pr} {n : Nat} {m x : List Int} {f wt : List (List Int)} (I : RInv ps n m f (wt ++ [x])) (h : x ∈ f) : RInv ps n m f wt := by
  have e : ∀ y, (y ∈ f ∨ y ∈ wt ++ [x]) ↔ (y ∈ f ∨ y ∈ wt) := fun y => by
    rw [List.mem_append, List.mem_singleton]
    exact ⟨fun z => by rcases z with z | z | rfl; exact .inl z; exact .inr z; exact .inl h, fun z => z.elim .inl fun q => .inr (.inl q)⟩
  exact ⟨I.nd, I.len, fun y hy => I.bd y ((e y).mpr hy), (e m).mp I.hm, fun a ha y hy => (e y).mp (I.cl a ha y hy), fun C hC y hy => I.mn C hC y ((e y).mpr hy)⟩
theorem RInv.new' {ps : List Pr} {w m x : List Int} {f wt : List (List Int)} (hr : ∀ p ∈ ps, Rl w p) (I : RInv ps w.length m f (wt ++ [x])) (h : x ∉ f) :
    (f ++ [x]).Nodup ∧ (∀ y, y ∈ f ++ [x] ∨ y ∈ wt ++ nxt ps x → Bd (3 + 2 * (f ++ [x]).length) w.length y) ∧ (m ∈ f ++ [x] ∨ m ∈ wt ++ nxt ps x) ∧ (∀ z ∈ f ++ [x], ∀ y ∈ nxt ps z, y ∈ f ++ [x] ∨ y ∈ wt ++ nxt ps x) ∧ ∀ C, Closed ps m C → ∀ y, y ∈ f ++ [x] ∨ y ∈ wt ++ nxt ps x → C y := by
  have up : ∀ y, y ∈ f ∨ y ∈ wt ++ [x] → y ∈ f ++ [x] ∨ y ∈ wt ++ nxt ps x := fun y hy => by
    rcases hy with hy | hy
    · exact .inl (List.mem_append_left _ hy)
    · rcases List.mem_append.mp hy with hy | hy
      · exact .inr (List.mem_append_left _ hy)
      · exact .inl (List.mem_append_right _ hy)
  have dn : ∀ y, y ∈ f ++ [x] ∨ y ∈ wt ++ nxt ps x → (y ∈ f ∨ y ∈ wt ++ [x]) ∨ y ∈ nxt ps x := fun y hy => by
    rcases hy with hy | hy
    · rcases List.mem_append.mp hy with hy | hy
      · exact .inl (.inl hy)
      · exact .inl (.inr (List.mem_append_right _ hy))
    · rcases List.mem_append.mp hy with hy | hy
      · exact .inl (.inr (List.mem_append_left _ hy))
      · exact .inr hy
  have hx : x ∈ f ∨ x ∈ wt ++ [x] := .inr (List.mem_append_right _ (List.mem_singleton_self x))
  refine ⟨?_, fun y hy => ?_, up m I.hm, fun z hz y hy => ?_, fun C hC y hy => ?_⟩
  · rw [List.nodup_append]
    exact ⟨I.nd, by simp, fun a ha b hb e => h (by rw [List.mem_singleton] at hb; rw [← hb, ← e]; exact ha)⟩
  · have e : (f ++ [x]).length = f.length + 1 := by simp
    rw [e]
    rcases dn y hy with hy | hy
    · exact (I.bd y hy).mono (by omega)
    · exact (nxt_bd hr (I.bd x hx) hy).mono (by omega)
  · rcases List.mem_append.mp hz with hz | hz
    · exact up y (I.cl z hz y hy)
    · rw [List.mem_singleton] at hz
      subst hz
      exact .inr (List.mem_append_right _ hy)
  · rcases dn y hy with hy | hy
    · exact I.mn C hC y hy
    · exact hC.2 x (I.mn C hC x hx) y hy
theorem aget_vw (ps : List Pr) (f : List (List Int)) (x : List Int) (h : x ∈ f) : aget (vw ps f) x = some (.list ((nxt ps x).map rowD)) := aget_of (fun s => .list ((nxt ps s).map rowD)) h
theorem gDLen_vw (ps : List Pr) (f : List (List Int)) (h : f.length ≤ 100) : gDLen (aD rowD (vw ps f)) = some (.z (.int (f.length : Nat))) := by
  unfold gDLen
  rw [if_pos (by simp; omega)]
  simp
theorem e_reached_loop (t : T) (ps : List Pr) (w m : List Int) (h : Rs t ps) (hl : ps.length ≤ 5) (hr : ∀ p ∈ ps, Rl w p) (hm : Bd 3 w.length m) :
    ∃ f ρ', l_L_reached_2 [some t, rz m, iz 40, some (.dc []), some (.l [rowD m]), none, none] = some (f, ρ') ∧ ((f = .nx ∧ ∃ S c5, Reach ps w.length m S ∧ ρ' = [some t, rz m, iz 40, some (.dc (aD rowD (vw ps S))), some (.l []), c5, none]) ∨ (f = .ret (.z .none) ∧ ∃ F a b c, Far ps m F ∧ ρ' = [some t, rz m, iz 40, a, b, c, none])) := by
  refine wh_rel (n := bV (mBin gNe (oN 4) (oE (mLst aNil)))) (m := rBody)
    (fun k ρ => ∃ f wt c5, RInv ps w.length m f wt ∧ k = 6 * (41 - f.length) + wt.length ∧ wt.length ≤ 1 + 5 * f.length ∧ ρ = [some t, rz m, iz 40, some (.dc (aD rowD (vw ps f))), some (.l (wt.map rowD)), c5, none])
    (fun f ρ' => (f = .nx ∧ ∃ S c5, Reach ps w.length m S ∧ ρ' = [some t, rz m, iz 40, some (.dc (aD rowD (vw ps S))), some (.l []), c5, none]) ∨ (f = .ret (.z .none) ∧ ∃ F a b c, Far ps m F ∧ ρ' = [some t, rz m, iz 40, a, b, c, none]))
    ?_ 1000000 247 _ (by omega) ⟨[], [m], none, ⟨List.nodup_nil, by simp, fun x hx => by rcases hx with hx | hx; (cases hx); (rw [List.mem_singleton] at hx; subst hx; exact hm), .inr (List.mem_singleton_self m), fun x hx => by (cases hx), fun C hC x hx => by rcases hx with hx | hx; (cases hx); (rw [List.mem_singleton] at hx; subst hx; exact hC.1)⟩, rfl, by simp, rfl⟩
  rintro k ρ ⟨f, wt, c5, I, hk, hw, rfl⟩
  have tn := gNe_rows_nil wt
  have test : (bV (mBin gNe (oN 4) (oE (mLst aNil)))) [some t, rz m, iz 40, some (.dc (aD rowD (vw ps f))), some (.l (wt.map rowD)), c5, none] = some (!decide (wt = []), [some t, rz m, iz 40, some (.dc (aD rowD (vw ps f))), some (.l (wt.map rowD)), c5, none]) := by
    generalize wt.map rowD = W at *
    simp [bV, truth, mLst, mBin, oN, oE, aNil, slotT, Arg.get, zs, T.data, tn, bo]
  refine ⟨_, _, test, ?_⟩
  rcases List.eq_nil_or_concat wt with rfl | ⟨wt, x, rfl⟩
  · refine .inl ⟨rfl, f, c5, ⟨I.nd, I.len, fun x hx => (I.bd x (.inl hx)).mono (by have := I.len; omega), ⟨I.hm.resolve_right (by simp), fun x hx y hy => (I.cl x hx y hy).resolve_right (by simp)⟩, fun C hC x hx => I.mn C hC x (.inl hx)⟩, rfl⟩
  · have ne : (!decide (wt.concat x = [])) = true := by simp
    rw [ne]
    rw [List.concat_eq_append] at *
    have em : (wt ++ [x]).map rowD = wt.map rowD ++ [rowD x] := by simp
    have hl2 : (wt ++ [x]).length = wt.length + 1 := by simp
    have fl := I.len
    rw [em]
    have nin := rowKey.gNin x (vw ps f)
    rw [aget_vw_some] at nin
    show ∃ f_1 ρ2, rBody _ = _ ∧ _
    by_cases hx : x ∈ f
    · rw [decide_eq_true hx] at nin
      refine ⟨_, _, e_rt_old t _ 40 _ (wt.map rowD) x c5 f.length nin (gDLen_vw ps f (by omega)) (by omega), 6 * (41 - f.length) + wt.length, by omega, f, wt, _, I.old hx, rfl, by omega, rfl⟩
    · rw [decide_eq_false hx] at nin
      obtain ⟨j1, j2, j3, j4, j5⟩ := I.new' hr hx
      have fn : (f ++ [x]).length = f.length + 1 := by simp
      have set := rowKey.gSet x (.list ((nxt ps x).map rowD)) (vw ps f) (by simp; omega)
      rw [aput_new (aget_none.mpr (by rw [vw_keys]; exact hx))] at set
      have ve : vw ps f ++ [(x, .list ((nxt ps x).map rowD))] = vw ps (f ++ [x]) := by simp [vw]
      rw [ve] at set
      have gx := rowKey.gIx x (vw ps (f ++ [x]))
      rw [aget_vw ps _ x (List.mem_append_right _ (List.mem_singleton_self x))] at gx
      have nl := nxt_len ps x
      have e := e_rt_new t (rz m) 40 _ _ (wt.map rowD) x ((nxt ps x).map rowD) c5 (f ++ [x]).length ps h (by omega) rfl nin set gx (by simp; omega) (gDLen_vw ps _ (by omega))
      rw [e]
      by_cases c : ((f ++ [x]).length : Int) ≤ 40
      · rw [if_pos c]
        refine ⟨.nx, _, rfl, ?_⟩
        refine ⟨6 * (41 - (f ++ [x]).length) + (wt ++ nxt ps x).length, ?_, f ++ [x], wt ++ nxt ps x, rz x, ⟨j1, by omega, j2, j3, j4, j5⟩, rfl, ?_, ?_⟩
        · rw [List.length_append (as := wt)]; omega
        · rw [List.length_append (as := wt)]; omega
        · rw [List.map_append]
      · rw [if_neg c]
        exact ⟨_, _, rfl, .inr ⟨rfl, f ++ [x], _, _, _, ⟨j1, by omega, fun C hC y hy => j5 C hC y (.inl hy)⟩, rfl⟩⟩
theorem e_L_reached (t : T) (ps : List Pr) (w m : List Int) (h : Rs t ps) (hl : ps.length ≤ 5) (hr : ∀ p ∈ ps, Rl w p) (hm : Bd 3 w.length m) :
    (∃ S, Reach ps w.length m S ∧ m_L_reached [t, .z (rowD m), .z (.int 40)] = some (.dc (aD rowD (vw ps S)), [some t, rz m, iz 40])) ∨ (∃ F, Far ps m F ∧ m_L_reached [t, .z (rowD m), .z (.int 40)] = some (.z .none, [some t, rz m, iz 40])) := by
  obtain ⟨f, ρ', e, h⟩ := e_reached_loop t ps w m h hl hr hm
  rcases h with ⟨rfl, S, c5, q, rfl⟩ | ⟨rfl, F, a, b, c, q, rfl⟩
  · refine .inl ⟨S, q, ?_⟩
    generalize aD rowD (vw ps S) = U at *
    simp [m_L_reached, defM, startE, backs, sSeq, sSet, setSl, sRet, sRetN, sNx, sBk, sCt, sNo, sIf, sDrop, sPar, sPar3, sAsg, sFor, bV, bT, bAnd, bOr, bNot, truth, mAnd, mOr, mNot, mIf, mC, mZ, mM, mF, mTup, mLst, mCB, mBin, mUn, mChain, mIsi, mIsi2, mSl, mPt, mLC, mBM, mCallD, mCallK, callM, takeT, putT, slotsOf, nodupB, valsZ, gk, oN, oE, aNil, aCons, slotT, Arg.get, gets, zs, T.data, gN, gsC, gs0, gT, gS, iV, iZ, iR, seqOf, wipeE, restE, gAdd, gSub, gMul, gFdiv, gMod, gPow, gNeg, gLt, gGt, gLe, gGe, gEq, gNe, gIs, gIsN, isNon, gIx, L2.atI, L2.ixN, gLen, gTup, gLst, gSum, gAll, gAny, gAbs, gMax2, gMin2, gDivmod, gInt, gGcd, isT, gAppend, gInsert, gPop, zip2D, zip3D, enumD, gSl, mRev, gRev, mSS, gSS, gMax, gMin, gMaxS, gMinS, gIn, gNin, mExt, mDR, mDL, mCD, gDLen, gDLst, mD0, mD1, gSD, Arg.raw, mFD, mTD, iFD, sForN, mLCN, iNm, e]
  · refine .inr ⟨F, q, ?_⟩
    simp [m_L_reached, defM, startE, backs, sSeq, sSet, setSl, sRet, sRetN, sNx, sBk, sCt, sNo, sIf, sDrop, sPar, sPar3, sAsg, sFor, bV, bT, bAnd, bOr, bNot, truth, mAnd, mOr, mNot, mIf, mC, mZ, mM, mF, mTup, mLst, mCB, mBin, mUn, mChain, mIsi, mIsi2, mSl, mPt, mLC, mBM, mCallD, mCallK, callM, takeT, putT, slotsOf, nodupB, valsZ, gk, oN, oE, aNil, aCons, slotT, Arg.get, gets, zs, T.data, gN, gsC, gs0, gT, gS, iV, iZ, iR, seqOf, wipeE, restE, gAdd, gSub, gMul, gFdiv, gMod, gPow, gNeg, gLt, gGt, gLe, gGe, gEq, gNe, gIs, gIsN, isNon, gIx, L2.atI, L2.ixN, gLen, gTup, gLst, gSum, gAll, gAny, gAbs, gMax2, gMin2, gDivmod, gInt, gGcd, isT, gAppend, gInsert, gPop, zip2D, zip3D, enumD, gSl, mRev, gRev, mSS, gSS, gMax, gMin, gMaxS, gMinS, gIn, gNin, mExt, mDR, mDL, mCD, gDLen, gDLst, mD0, mD1, gSD, Arg.raw, mFD, mTD, iFD, sForN, mLCN, iNm, e]
theorem no_far {ps qs : List Pr} {n : Nat} {m : List Int} {S F : List (List Int)} (hq : ∀ p, p ∈ qs → p ∈ ps) (h : Reach ps n m S) (f : Far qs m F) (nodup_len : ∀ {l m : List (List Int)}, l.Nodup → (∀ x ∈ l, x ∈ m) → l.length ≤ m.length) : False := by
  have c : Closed qs m (· ∈ S) := ⟨h.cl.1, fun x hx y hy => h.cl.2 x hx y (by
    obtain ⟨p, hp, g, e⟩ := mem_nxt.mp hy
    exact mem_nxt.mpr ⟨p, hq p hp, g, e⟩)⟩
  have := nodup_len f.nd (f.mn _ c)
  have := f.len
  have := h.len
  omega
end My

set_option Elab.async false
set_option maxRecDepth 100000
set_option linter.all false
set_option maxHeartbeats 1000000
namespace My
open PySem VL
theorem nodup_len {α : Type} [DecidableEq α] : ∀ {l m : List α}, l.Nodup → (∀ x ∈ l, x ∈ m) → l.length ≤ m.length
  | [], m, _, _ => Nat.zero_le _
  | a :: l, m, h, k => by
    have hm := k a (List.mem_cons_self ..)
    have h' := List.nodup_cons.mp h
    have := nodup_len (l := l) (m := m.erase a) h'.2 fun x hx => by
      rw [List.mem_erase_of_ne (fun z => h'.1 (by rw [← z]; exact hx))]
      exact k x (List.mem_cons_of_mem _ hx)
    rw [List.length_erase_of_mem hm] at this
    have : 0 < m.length := List.length_pos_of_mem hm
    simp; omega
theorem eqv_pr (p q : Pr) : PyData.eqv (prD p) (prD q) = decide (p = q) := by
  obtain ⟨a, b⟩ := p
  obtain ⟨c, d⟩ := q
  show PyData.eqv (.tuple [rowD a, rowD b]) (.tuple [rowD c, rowD d]) = _
  rw [PyData.eqv]
  simp only [PyData.eqvAll, eqv_row, Bool.and_true]
  by_cases h1 : a = c <;> by_cases h2 : b = d <;> simp [h1, h2]
theorem shaped_pr (p : Pr) : SeqAt.shaped (prD p) = true := by
  have := (shaped_map (k := 1) rowD [p.1, p.2] (fun a _ => shaped_row a) (fun a _ => by rw [depth_rowD]; omega) (by decide)).2
  exact this
theorem gNin_prs (p : Pr) (ps : List Pr) : gNin (prD p) (.list (ps.map prD)) = bo (!decide (p ∈ ps)) := by
  have c1 : PyData.canLay0 (.list (ps.map prD)) = true := SeqAt.canLay_of_shaped (shaped_map (k := 2) prD ps (fun a _ => shaped_pr a) (fun a _ => by rw [depth_pr]; omega) (by decide)).1
  have c2 := SeqAt.canLay_of_shaped (shaped_pr p)
  have c3 : min (PyData.depthAll (ps.map prD)) (PyData.depth (prD p)) ≤ 60 := by rw [depth_pr]; omega
  show (if PyData.canLay0 (.list (ps.map prD)) = true ∧ PyData.canLay0 (prD p) = true ∧ min (PyData.depthAll (ps.map prD)) (PyData.depth (prD p)) ≤ 60 then bo (!(ps.map prD).any fun y => PyData.eqv y (prD p)) else none) = _
  rw [if_pos ⟨c1, c2, c3⟩]
  congr 2
  rw [List.any_map]
  by_cases h : p ∈ ps
  · rw [decide_eq_true h]
    exact List.any_eq_true.mpr ⟨p, h, by simp [eqv_pr]⟩
  · rw [decide_eq_false h]
    rw [← Bool.not_eq_true]
    intro q
    obtain ⟨x, hx, e⟩ := List.any_eq_true.mp q
    have : x = p := by simpa [eqv_pr] using e
    exact h (this ▸ hx)
theorem rl_Rl {w x y : List Int} (hx : Bd 2 w.length x) (hy : Bd 2 w.length y) (ne : x ≠ y) : Rl w (rl w x y) := by
  have g := rl_gt (w := w) ne
  unfold rl at *
  split
  · rename_i c; rw [if_pos c] at g; exact ⟨hx, hy, g⟩
  · rename_i c; rw [if_neg c] at g; exact ⟨hy, hx, g⟩
/-- the rules found so far -/
structure Ps (w : List Int) (ps : List Pr) : Prop where
  nd : ps.Nodup
  rl : ∀ p ∈ ps, Rl w p
  len : ps.length ≤ 5
def turnR : MS := (sSeq
    (sSet 6 (mCallD m_L_rule [false, false, false] [] (aCons (oE (mZ 1)) (aCons (oE (mF (mCallD m_L_monomial [true, false, false] [] (aCons (oN 0) (aCons (oE (mCB gLen (aCons (oN 1) aNil))) (aCons (oE (mC (.int 2))) aNil)))))) (aCons (oE (mF (mCallD m_L_monomial [true, false, false] [] (aCons (oN 0) (aCons (oE (mCB gLen (aCons (oN 1) aNil))) (aCons (oE (mC (.int 2))) aNil)))))) aNil)))))
    (sIf (bAnd (bV (mBin gIsN (oN 6) (oE (mC .none)))) (bV (mBin gNin (oN 6) (oN 4)))) (sDrop (mBM 4 gAppend (aCons (oE (mZ 6)) aNil))) sNx))
theorem e_turnR (a b : Int) (w : List Int) (m mn c5 c6 : Option T) (ps : List Pr) (d : D) (h : Sm w) (hw : w.length ≤ 1000) (hps : ∀ p ∈ ps, Rl w p) (nd : ps.Nodup) (hl : ps.length < 1000) :
    ∃ (a' b' : Int) (ps' : List Pr) (c6' : Option T), ((gN 5) d [po a b, rz w, m, mn, some (.l (ps.map prD)), c5, c6]).bind turnR = some (.nx, [po a' b', rz w, m, mn, some (.l (ps'.map prD)), some (.z d), c6']) ∧ ps'.Nodup ∧ (∀ p ∈ ps', Rl w p) ∧ ps'.length ≤ ps.length + 1 := by
  obtain ⟨x, a1, b1, lx, bx, e1⟩ := e_L_monomial a b w.length 2 (by omega) (by decide)
  obtain ⟨y, a2, b2, ly, hy, e2⟩ := e_L_monomial a1 b1 w.length 2 (by omega) (by decide)
  have e3 := e_L_rule w x y h (by omega) (by omega)
  have ln : gLen [rowD w] = some (.z (.int (w.length : Nat))) := by simp [gLen, rowD]
  by_cases q : x = y
  · rw [if_pos q] at e3
    refine ⟨a2, b2, ps, some (.z .none), ?_, nd, hps, by omega⟩
    generalize ps.map prD = L at *
    simp [turnR, defM, sSeq, sSet, setSl, sIf, sDrop, sNx, bV, bAnd, truth, mC, mZ, mF, mCB, mBin, mBM, mCallD, callM, takeT, putT, slotsOf, nodupB, oN, oE, aNil, aCons, slotT, Arg.get, gets, zs, T.data, gN, gIsN, isNon, bo, ln, e1, e2, e3]
  · rw [if_neg q] at e3
    have nin := gNin_prs (rl w x y) ps
    have g := rl_Rl ⟨lx, bx⟩ ⟨ly, hy⟩ q
    have nn : isNon (prD (rl w x y)) = false := rfl
    by_cases c : rl w x y ∈ ps
    · rw [decide_eq_true c] at nin
      refine ⟨a2, b2, ps, some (.z (prD (rl w x y))), ?_, nd, hps, by omega⟩
      generalize rl w x y = p at *
      generalize prD p = P at *
      generalize ps.map prD = L at *
      simp [turnR, defM, sSeq, sSet, setSl, sIf, sDrop, sNx, bV, bAnd, truth, mC, mZ, mF, mCB, mBin, mBM, mCallD, callM, takeT, putT, slotsOf, nodupB, oN, oE, aNil, aCons, slotT, Arg.get, gets, zs, T.data, gN, gIsN, nn, bo, gAppend, ln, e1, e2, e3, nin]
    · rw [decide_eq_false c] at nin
      refine ⟨a2, b2, ps ++ [rl w x y], some (.z (prD (rl w x y))), ?_, ?_, ?_, by simp⟩
      · rw [List.map_append]
        generalize rl w x y = p at *
        show _ = some (Flow.nx, [_, _, _, _, some (T.l (ps.map prD ++ [prD p])), _, _])
        have hl' : (ps.map prD).length < 1000 := by simpa using hl
        generalize prD p = P at *
        generalize ps.map prD = L at *
        simp [turnR, defM, sSeq, sSet, setSl, sIf, sDrop, sNx, bV, bAnd, truth, mC, mZ, mF, mCB, mBin, mBM, mCallD, callM, takeT, putT, slotsOf, nodupB, oN, oE, aNil, aCons, slotT, Arg.get, gets, zs, T.data, gN, gIsN, nn, bo, gAppend, ln, e1, e2, e3, nin, show L.length < 100000 by omega]
      · rw [List.nodup_append]
        exact ⟨nd, by simp, fun u hu v hv e => c (by rw [List.mem_singleton] at hv; rw [← hv, ← e]; exact hu)⟩
      · intro p hp
        rcases List.mem_append.mp hp with hp | hp
        · exact hps p hp
        · rw [List.mem_singleton] at hp; rw [hp]; exact g
end My

set_option Elab.async false
set_option maxRecDepth 100000
set_option linter.all false
set_option maxHeartbeats 1000000
namespace My
open PySem VL
theorem e_rules_1 (a b : Int) (w m : List Int) (mn : Nat) (c5 c6 : Option T) (h : Sm w) (hw : w.length ≤ 1000) (hn : mn ≤ 5) :
    ∃ (a' b' : Int) (ps : List Pr) (c5' c6' : Option T), l_L_rules_1 [po a b, rz w, rz m, iz mn, some (.l []), c5, c6] = some (.nx, [po a' b', rz w, rz m, iz mn, some (.l (ps.map prD)), c5', c6']) ∧ Ps w ps := by
  have hb : -big ≤ (mn : Int) ∧ (mn : Int) ≤ 1000000 := by unfold big; omega
  obtain ⟨f, ρ', e, rfl, a', b', ps, c5', c6', rfl, q⟩ := sFor_rel (mi := iR rangeD1 (aCons (oN 3) aNil)) (mg := gN 5) (mb := turnR) (ρ := [po a b, rz w, rz m, iz mn, some (.l []), c5, c6]) (ρ1 := [po a b, rz w, rz m, iz mn, some (.l []), c5, c6]) (ds := rangeL 0 mn)
    (fun ds ρ => ∃ (a b : Int) (ps : List Pr) (c5 c6 : Option T), ρ = [po a b, rz w, rz m, iz mn, some (.l (ps.map prD)), c5, c6] ∧ ps.Nodup ∧ (∀ p ∈ ps, Rl w p) ∧ ps.length + ds.length ≤ 5)
    (fun f ρ => f = .nx ∧ ∃ (a b : Int) (ps : List Pr) (c5 c6 : Option T), ρ = [po a b, rz w, rz m, iz mn, some (.l (ps.map prD)), c5, c6] ∧ Ps w ps)
    (by simp [defM, startE, backs, sSeq, sSet, setSl, sRet, sRetN, sNx, sBk, sCt, sNo, sIf, sDrop, sPar, sPar3, sAsg, sFor, bV, bT, bAnd, bOr, bNot, truth, mAnd, mOr, mNot, mIf, mC, mZ, mM, mF, mTup, mLst, mCB, mBin, mUn, mChain, mIsi, mIsi2, mSl, mPt, mLC, mBM, mCallD, mCallK, callM, takeT, putT, slotsOf, nodupB, valsZ, gk, oN, oE, aNil, aCons, slotT, Arg.get, gets, zs, T.data, gN, gsC, gs0, gT, gS, iV, iZ, iR, seqOf, wipeE, restE, gAdd, gSub, gMul, gFdiv, gMod, gPow, gNeg, gLt, gGt, gLe, gGe, gEq, gNe, gIs, gIsN, isNon, gIx, L2.atI, L2.ixN, gLen, gTup, gLst, gSum, gAll, gAny, gAbs, gMax2, gMin2, gDivmod, gInt, gGcd, isT, gAppend, gInsert, gPop, zip2D, zip3D, enumD, gSl, mRev, gRev, mSS, gSS, gMax, gMin, gMaxS, gMinS, gIn, gNin, mExt, mDR, mDL, mCD, gDLen, gDLst, mD0, mD1, gSD, Arg.raw, mFD, mTD, iFD, sForN, mLCN, iNm, rangeD1, hb])
    ⟨a, b, [], c5, c6, rfl, List.nodup_nil, by simp, by simpa [rangeL] using hn⟩
    (by
      rintro ρ ⟨a, b, ps, c5, c6, rfl, n1, n2, n3⟩
      exact ⟨rfl, a, b, ps, c5, c6, rfl, n1, n2, by simpa using n3⟩)
    (by
      rintro d ds ρ ⟨a, b, ps, c5, c6, rfl, n1, n2, n3⟩
      rw [List.length_cons] at n3
      obtain ⟨a', b', ps', c6', e, m1, m2, m3⟩ := e_turnR a b w (rz m) (iz mn) c5 c6 ps d h hw n2 n1 (by omega)
      exact ⟨_, _, e, a', b', ps', _, _, rfl, m1, m2, by omega⟩)
  exact ⟨a', b', ps, c5', c6', e, q⟩
theorem reach_nil {w m : List Int} (hm : Bd 3 w.length m) : Reach [] w.length m [m] :=
  ⟨by simp, by simp, fun x hx => by rw [List.mem_singleton] at hx; rw [hx]; exact hm.mono (by omega), ⟨List.mem_singleton_self m, fun x _ y hy => by (cases hy)⟩, fun C hC x hx => by rw [List.mem_singleton] at hx; rw [hx]; exact hC.1⟩
theorem e_rules_2 (a b : Int) (w m : List Int) (mn : Option T) (c5 c6 : Option T) (ps : List Pr) (hp : Ps w ps) (hm : Bd 3 w.length m) :
    ∃ (qs : List Pr), l_L_rules_2 [po a b, rz w, rz m, mn, some (.l (ps.map prD)), c5, c6] = some (.nx, [po a b, rz w, rz m, mn, some (.l (qs.map prD)), c5, c6]) ∧ Ps w qs ∧ ∃ S, Reach qs w.length m S := by
  obtain ⟨f, ρ', e, rfl, qs, rfl, q⟩ := wh_rel (n := bV (mDL gIs gDIs (oE (mCallD m_L_reached [true, false, false] [] (aCons (oN 4) (aCons (oE (mZ 2)) (aCons (oE (mC (.int 40))) aNil))))) (oE (mC .none)))) (m := sDrop (mBM 4 gPop aNil))
    (fun k ρ => ∃ (ps : List Pr), ρ = [po a b, rz w, rz m, mn, some (.l (ps.map prD)), c5, c6] ∧ Ps w ps ∧ k = ps.length)
    (fun f ρ => f = .nx ∧ ∃ (ps : List Pr), ρ = [po a b, rz w, rz m, mn, some (.l (ps.map prD)), c5, c6] ∧ Ps w ps ∧ ∃ S, Reach ps w.length m S)
    (by
      rintro k ρ ⟨ps, rfl, hp, rfl⟩
      rcases e_L_reached (.l (ps.map prD)) ps w m (.inl rfl) hp.len hp.rl hm with ⟨S, q, e⟩ | ⟨F, q, e⟩
      · refine ⟨false, [po a b, rz w, rz m, mn, some (.l (ps.map prD)), c5, c6], ?_, rfl, ps, rfl, hp, S, q⟩
        generalize aD rowD (vw ps S) = U at *
        generalize ps.map prD = L at *
        simp [defM, startE, backs, sSeq, sSet, setSl, sRet, sRetN, sNx, sBk, sCt, sNo, sIf, sDrop, sPar, sPar3, sAsg, sFor, bV, bT, bAnd, bOr, bNot, truth, mAnd, mOr, mNot, mIf, mC, mZ, mM, mF, mTup, mLst, mCB, mBin, mUn, mChain, mIsi, mIsi2, mSl, mPt, mLC, mBM, mCallD, mCallK, callM, takeT, putT, slotsOf, nodupB, valsZ, gk, oN, oE, aNil, aCons, slotT, Arg.get, gets, zs, T.data, gN, gsC, gs0, gT, gS, iV, iZ, iR, seqOf, wipeE, restE, gAdd, gSub, gMul, gFdiv, gMod, gPow, gNeg, gLt, gGt, gLe, gGe, gEq, gNe, gIs, gIsN, isNon, gIx, L2.atI, L2.ixN, gLen, gTup, gLst, gSum, gAll, gAny, gAbs, gMax2, gMin2, gDivmod, gInt, gGcd, isT, gAppend, gInsert, gPop, zip2D, zip3D, enumD, gSl, mRev, gRev, mSS, gSS, gMax, gMin, gMaxS, gMinS, gIn, gNin, mExt, mDR, mDL, mCD, gDLen, gDLst, mD0, mD1, gSD, Arg.raw, mFD, mTD, iFD, sForN, mLCN, iNm, e, gDIs]
      · refine ⟨true, [po a b, rz w, rz m, mn, some (.l (ps.map prD)), c5, c6], ?_, .nx, ?_⟩
        · generalize ps.map prD = L at *
          simp [defM, startE, backs, sSeq, sSet, setSl, sRet, sRetN, sNx, sBk, sCt, sNo, sIf, sDrop, sPar, sPar3, sAsg, sFor, bV, bT, bAnd, bOr, bNot, truth, mAnd, mOr, mNot, mIf, mC, mZ, mM, mF, mTup, mLst, mCB, mBin, mUn, mChain, mIsi, mIsi2, mSl, mPt, mLC, mBM, mCallD, mCallK, callM, takeT, putT, slotsOf, nodupB, valsZ, gk, oN, oE, aNil, aCons, slotT, Arg.get, gets, zs, T.data, gN, gsC, gs0, gT, gS, iV, iZ, iR, seqOf, wipeE, restE, gAdd, gSub, gMul, gFdiv, gMod, gPow, gNeg, gLt, gGt, gLe, gGe, gEq, gNe, gIs, gIsN, isNon, gIx, L2.atI, L2.ixN, gLen, gTup, gLst, gSum, gAll, gAny, gAbs, gMax2, gMin2, gDivmod, gInt, gGcd, isT, gAppend, gInsert, gPop, zip2D, zip3D, enumD, gSl, mRev, gRev, mSS, gSS, gMax, gMin, gMaxS, gMinS, gIn, gNin, mExt, mDR, mDL, mCD, gDLen, gDLst, mD0, mD1, gSD, Arg.raw, mFD, mTD, iFD, sForN, mLCN, iNm, e, gDIs]
        · rcases List.eq_nil_or_concat ps with rfl | ⟨qs, x, rfl⟩
          · exact absurd (no_far (fun p hp => hp) (reach_nil hm) q nodup_len) id
          · rw [List.concat_eq_append] at *
            refine ⟨[po a b, rz w, rz m, mn, some (.l (qs.map prD)), c5, c6], ?_, qs.length, by simp, qs, rfl, ⟨?_, fun p h => hp.rl p (List.mem_append_left _ h), ?_⟩, rfl⟩
            · have e2 := gPop_last (qs.map prD) (prD x)
              rw [List.map_append]
              show (sDrop (mBM 4 gPop aNil)) [po a b, rz w, rz m, mn, some (.l (qs.map prD ++ [prD x])), c5, c6] = _
              generalize qs.map prD ++ [prD x] = L at *
              generalize qs.map prD = L' at *
              simp [sDrop, mBM, aNil, slotT, gets, zs, e2]
            · have := hp.nd; rw [List.nodup_append] at this; exact this.1
            · have := hp.len; simp at this; omega)
    1000000 ps.length _ (by have := hp.len; omega) ⟨ps, rfl, hp, rfl⟩
  exact ⟨qs, e, q⟩
/-- the law's rules -/
structure Gr (w m : List Int) (ps : List Pr) : Prop where
  rl : ∀ p ∈ ps, Rl w p
  len : ps.length ≤ 5
  pw : ps.Pairwise fun a b => ltP a b = true
  rc : ∃ S, Reach ps w.length m S
theorem e_L_rules (a b : Int) (w m : List Int) (mn : Nat) (h : Sm w) (hw : w.length ≤ 1000) (hn : mn ≤ 5) (hm : Bd 3 w.length m) :
    ∃ (a' b' : Int) (ps : List Pr), m_L_rules [pot a b, .z (rowD w), .z (rowD m), .z (.int mn)] = some (.z (.tuple (ps.map prD)), [po a' b', rz w, rz m, iz mn]) ∧ Gr w m ps := by
  obtain ⟨a1, b1, ps, c5, c6, e1, q1⟩ := e_rules_1 a b w m mn none none h hw hn
  obtain ⟨qs, e2, q2, S, hS⟩ := e_rules_2 a1 b1 w m (iz mn) c5 c6 ps q1 hm
  have e3 := sorted_prs qs (by have := q2.len; omega)
  refine ⟨a1, b1, srt qs, ?_, ⟨fun p hp => q2.rl p (mem_srt.mp hp), by rw [srt_len]; exact q2.len, srt_lt q2.nd, ?_⟩⟩
  · generalize (srt qs).map prD = R at *
    generalize qs.map prD = L at *
    generalize ps.map prD = L0 at *
    simp [m_L_rules, k_L_rules_1, k_L_rules_4, defM, startE, backs, sSeq, sSet, setSl, sRet, sRetN, sNx, sBk, sCt, sNo, sIf, sDrop, sPar, sPar3, sAsg, sFor, bV, bT, bAnd, bOr, bNot, truth, mAnd, mOr, mNot, mIf, mC, mZ, mM, mF, mTup, mLst, mCB, mBin, mUn, mChain, mIsi, mIsi2, mSl, mPt, mLC, mBM, mCallD, mCallK, callM, takeT, putT, slotsOf, nodupB, valsZ, gk, oN, oE, aNil, aCons, slotT, Arg.get, gets, zs, T.data, gN, gsC, gs0, gT, gS, iV, iZ, iR, seqOf, wipeE, restE, gAdd, gSub, gMul, gFdiv, gMod, gPow, gNeg, gLt, gGt, gLe, gGe, gEq, gNe, gIs, gIsN, isNon, gIx, L2.atI, L2.ixN, gLen, gTup, gLst, gSum, gAll, gAny, gAbs, gMax2, gMin2, gDivmod, gInt, gGcd, isT, gAppend, gInsert, gPop, zip2D, zip3D, enumD, gSl, mRev, gRev, mSS, gSS, gMax, gMin, gMaxS, gMinS, gIn, gNin, mExt, mDR, mDL, mCD, gDLen, gDLst, mD0, mD1, gSD, Arg.raw, mFD, mTD, iFD, sForN, mLCN, iNm, e1, e2, e3]
  · rcases e_L_reached (.l ((srt qs).map prD)) (srt qs) w m (.inl rfl) (by rw [srt_len]; exact q2.len) (fun p hp => q2.rl p (mem_srt.mp hp)) hm with ⟨S', q, _⟩ | ⟨F, q, _⟩
    · exact ⟨S', q⟩
    · exact absurd (no_far (fun p hp => mem_srt.mp hp) hS q nodup_len) id
/-- the law's rules reach only so far -/
theorem e_L_reach {w m : List Int} {ps : List Pr} (g : Gr w m ps) (hm : Bd 3 w.length m) (t : T) (h : Rs t ps) : ∃ S, Reach ps w.length m S ∧ m_L_reached [t, .z (rowD m), .z (.int 40)] = some (.dc (aD rowD (vw ps S)), [some t, rz m, iz 40]) := by
  rcases e_L_reached t ps w m h g.len g.rl hm with q | ⟨F, q, _⟩
  · exact q
  · obtain ⟨S, hS⟩ := g.rc
    exact absurd (no_far (fun p hp => hp) hS q nodup_len) id
end My

set_option Elab.async false
set_option maxRecDepth 100000
set_option linter.all false
set_option maxHeartbeats 1000000
namespace My
open PySem VL
/-! ### paths -/
def fst (ps : List Pr) (r : List Int) : Option Pr := ps.find? fun p => goes p.1 r
inductive Pt (ps : List Pr) (n : Nat) : List Int → List (List Int) → Prop
  | stop {r : List Int} (hb : Bd 83 n r) (h : fst ps r = none) : Pt ps n r [r]
  | go {r : List Int} {p : Pr} {l : List (List Int)} (hb : Bd 83 n r) (h : fst ps r = some p) (k : Pt ps n (led p.1 p.2 r) l) : Pt ps n r (r :: l)
theorem fst_some {ps : List Pr} {r : List Int} {p : Pr} (h : fst ps r = some p) : p ∈ ps ∧ goes p.1 r = true := by
  unfold fst at h
  have := List.find?_some h
  exact ⟨List.mem_of_find?_eq_some h, this⟩
theorem fst_nxt {ps : List Pr} {r : List Int} {p : Pr} (h : fst ps r = some p) : led p.1 p.2 r ∈ nxt ps r := mem_nxt.mpr ⟨p, (fst_some h).1, (fst_some h).2, rfl⟩
theorem fst_none {ps : List Pr} {r : List Int} : fst ps r = none ↔ nxt ps r = [] := by
  unfold fst nxt
  rw [List.find?_eq_none, List.map_eq_nil_iff, List.filter_eq_nil_iff]
def rank (w : List Int) (S : List (List Int)) (x : List Int) : Nat := (S.filter fun s => ltI (fk w s) (fk w x)).length
theorem rank_lt {w : List Int} {S : List (List Int)} {x y : List Int} (hy : y ∈ S) (h : ltI (fk w y) (fk w x) = true) : rank w S y < rank w S x := by
  unfold rank
  have e : S.filter (fun s => ltI (fk w s) (fk w y)) = (S.filter fun s => ltI (fk w s) (fk w x)).filter fun s => ltI (fk w s) (fk w y) := by
    rw [List.filter_filter]
    refine List.filter_congr fun s _ => ?_
    cases q : ltI (fk w s) (fk w y) with
    | false => rfl
    | true => rw [ltI_trans _ _ _ q h]; rfl
  rw [e]
  refine List.length_filter_lt_length_iff_exists.mpr ⟨y, List.mem_filter.mpr ⟨hy, h⟩, ?_⟩
  rw [ltI_irr]; simp
theorem rank_top {w : List Int} {S : List (List Int)} {x : List Int} (hx : x ∈ S) : rank w S x < S.length := by
  refine List.length_filter_lt_length_iff_exists.mpr ⟨x, hx, ?_⟩
  rw [ltI_irr]; simp
theorem pt_ex {w m : List Int} {ps : List Pr} {S : List (List Int)} (hr : ∀ p ∈ ps, Rl w p) (R : Reach ps w.length m S) : ∀ (k : Nat) (r : List Int), r ∈ S → rank w S r < k → ∃ l, Pt ps w.length r l ∧ l.length ≤ k ∧ (∀ x ∈ l, x ∈ S) ∧ (r :: l).Pairwise fun a b => a = b ∨ ltI (fk w b) (fk w a) = true
  | 0, r, _, h => absurd h (by omega)
  | k + 1, r, h, q => by
    have hb := R.bd r h
    cases f : fst ps r with
    | none => exact ⟨[r], .stop hb f, by simp, fun x hx => by rw [List.mem_singleton] at hx; rw [hx]; exact h, by simp⟩
    | some p =>
      have hn := fst_nxt f
      have hs := R.cl.2 r h _ hn
      have lt := nxt_lt hr hb hn
      obtain ⟨l, h1, h2, h3, h4⟩ := pt_ex hr R k _ hs (by have := rank_lt hs lt; omega)
      refine ⟨r :: l, .go hb f h1, by simp; omega, fun x hx => ?_, ?_⟩
      · rcases List.mem_cons.mp hx with rfl | hx
        · exact h
        · exact h3 x hx
      · have h5 : ∀ b ∈ l, ltI (fk w b) (fk w r) = true := fun b hb => by
          rcases (List.pairwise_cons.mp h4).1 b hb with e | e
          · rw [← e]; exact lt
          · exact ltI_trans _ _ _ e lt
        refine List.pairwise_cons.mpr ⟨fun b hb => ?_, List.pairwise_cons.mpr ⟨fun b hb => .inr (h5 b hb), (List.pairwise_cons.mp h4).2⟩⟩
        rcases List.mem_cons.mp hb with rfl | hb
        · exact .inl rfl
        · exact .inr (h5 b hb)
theorem Pt.last {ps : List Pr} {n : Nat} {r : List Int} {l : List (List Int)} (h : Pt ps n r l) : ∃ pre z, l = pre ++ [z] ∧ Bd 83 n z ∧ fst ps z = none := by
  induction h with
  | stop hb f => exact ⟨[], _, rfl, hb, f⟩
  | go hb f k ih =>
    obtain ⟨pre, z, e, h1, h2⟩ := ih
    exact ⟨_ :: pre, z, by rw [e]; rfl, h1, h2⟩
/-! ### the first rule that goes -/
def fgD (ps : List Pr) (r : List Int) : D := match fst ps r with
  | some p => prD p
  | none => .none
theorem e_fg_go (R : Option T) (r : List Int) : ∀ (qs : List Pr) (c : Option T), ∃ c', forGo (gN 2) (sIf (bT (oE (mCallD m_goes_by_of [false, false] [] (aCons (oE (mZ 2)) (aCons (oE (mZ 1)) aNil))))) (sRet (mM 2)) sNx) (qs.map prD) [R, rz r, c] = some ((match fst qs r with | some p => .ret (.z (prD p)) | none => .nx), [R, rz r, c'])
  | [], c => ⟨c, rfl⟩
  | (a, b) :: qs, c => by
    have e1 := e_goes_by_of a b r
    have e0 : (sIf (bT (oE (mCallD m_goes_by_of [false, false] [] (aCons (oE (mZ 2)) (aCons (oE (mZ 1)) aNil))))) (sRet (mM 2)) sNx) [R, rz r, some (.z (prD (a, b)))] = some ((if goes a r = true then .ret (.z (prD (a, b))) else .nx), [R, rz r, some (.z (prD (a, b)))]) := by
      cases q : goes a r <;> simp only [q] at e1 <;> simp [defM, startE, backs, sSeq, sSet, setSl, sRet, sRetN, sNx, sBk, sCt, sNo, sIf, sDrop, sPar, sPar3, sAsg, sFor, bV, bT, bAnd, bOr, bNot, truth, mAnd, mOr, mNot, mIf, mC, mZ, mM, mF, mTup, mLst, mCB, mBin, mUn, mChain, mIsi, mIsi2, mSl, mPt, mLC, mBM, mCallD, mCallK, callM, takeT, putT, slotsOf, nodupB, valsZ, gk, oN, oE, aNil, aCons, slotT, Arg.get, gets, zs, T.data, gN, gsC, gs0, gT, gS, iV, iZ, iR, seqOf, wipeE, restE, gAdd, gSub, gMul, gFdiv, gMod, gPow, gNeg, gLt, gGt, gLe, gGe, gEq, gNe, gIs, gIsN, isNon, gIx, L2.atI, L2.ixN, gLen, gTup, gLst, gSum, gAll, gAny, gAbs, gMax2, gMin2, gDivmod, gInt, gGcd, isT, gAppend, gInsert, gPop, zip2D, zip3D, enumD, gSl, mRev, gRev, mSS, gSS, gMax, gMin, gMaxS, gMinS, gIn, gNin, mExt, mDR, mDL, mCD, gDLen, gDLst, mD0, mD1, gSD, Arg.raw, mFD, mTD, iFD, sForN, mLCN, iNm, e1]
    show ∃ c', ((gN 2) (prD (a, b)) [R, rz r, c]).bind _ = _
    show ∃ c', ((sIf (bT (oE (mCallD m_goes_by_of [false, false] [] (aCons (oE (mZ 2)) (aCons (oE (mZ 1)) aNil))))) (sRet (mM 2)) sNx) [R, rz r, some (.z (prD (a, b)))]).bind _ = _
    rw [e0]
    cases q : goes a r with
    | true =>
      have : fst ((a, b) :: qs) r = some (a, b) := by unfold fst; rw [List.find?_cons, q]
      rw [this]
      exact ⟨_, rfl⟩
    | false =>
      have : fst ((a, b) :: qs) r = fst qs r := by unfold fst; rw [List.find?_cons, q]
      rw [this]
      exact e_fg_go R r qs _
theorem e_first_going (ps : List Pr) (r : List Int) : m_first_going [.z (.tuple (ps.map prD)), .z (rowD r)] = some (.z (fgD ps r), [some (.z (.tuple (ps.map prD))), rz r]) := by
  obtain ⟨c', e⟩ := e_fg_go (some (.z (.tuple (ps.map prD)))) r ps none
  have e1 : l_first_going_1 [some (.z (.tuple (ps.map prD))), rz r, none] = _ := e
  unfold fgD
  cases q : fst ps r with
  | none =>
    rw [q] at e1
    generalize ps.map prD = L at *
    simp [m_first_going, defM, startE, backs, sSeq, sSet, setSl, sRet, sRetN, sNx, sBk, sCt, sNo, sIf, sDrop, sPar, sPar3, sAsg, sFor, bV, bT, bAnd, bOr, bNot, truth, mAnd, mOr, mNot, mIf, mC, mZ, mM, mF, mTup, mLst, mCB, mBin, mUn, mChain, mIsi, mIsi2, mSl, mPt, mLC, mBM, mCallD, mCallK, callM, takeT, putT, slotsOf, nodupB, valsZ, gk, oN, oE, aNil, aCons, slotT, Arg.get, gets, zs, T.data, gN, gsC, gs0, gT, gS, iV, iZ, iR, seqOf, wipeE, restE, gAdd, gSub, gMul, gFdiv, gMod, gPow, gNeg, gLt, gGt, gLe, gGe, gEq, gNe, gIs, gIsN, isNon, gIx, L2.atI, L2.ixN, gLen, gTup, gLst, gSum, gAll, gAny, gAbs, gMax2, gMin2, gDivmod, gInt, gGcd, isT, gAppend, gInsert, gPop, zip2D, zip3D, enumD, gSl, mRev, gRev, mSS, gSS, gMax, gMin, gMaxS, gMinS, gIn, gNin, mExt, mDR, mDL, mCD, gDLen, gDLst, mD0, mD1, gSD, Arg.raw, mFD, mTD, iFD, sForN, mLCN, iNm, e1]
  | some p =>
    rw [q] at e1
    generalize ps.map prD = L at *
    simp [m_first_going, defM, startE, backs, sSeq, sSet, setSl, sRet, sRetN, sNx, sBk, sCt, sNo, sIf, sDrop, sPar, sPar3, sAsg, sFor, bV, bT, bAnd, bOr, bNot, truth, mAnd, mOr, mNot, mIf, mC, mZ, mM, mF, mTup, mLst, mCB, mBin, mUn, mChain, mIsi, mIsi2, mSl, mPt, mLC, mBM, mCallD, mCallK, callM, takeT, putT, slotsOf, nodupB, valsZ, gk, oN, oE, aNil, aCons, slotT, Arg.get, gets, zs, T.data, gN, gsC, gs0, gT, gS, iV, iZ, iR, seqOf, wipeE, restE, gAdd, gSub, gMul, gFdiv, gMod, gPow, gNeg, gLt, gGt, gLe, gGe, gEq, gNe, gIs, gIsN, isNon, gIx, L2.atI, L2.ixN, gLen, gTup, gLst, gSum, gAll, gAny, gAbs, gMax2, gMin2, gDivmod, gInt, gGcd, isT, gAppend, gInsert, gPop, zip2D, zip3D, enumD, gSl, mRev, gRev, mSS, gSS, gMax, gMin, gMaxS, gMinS, gIn, gNin, mExt, mDR, mDL, mCD, gDLen, gDLst, mD0, mD1, gSD, Arg.raw, mFD, mTD, iFD, sForN, mLCN, iNm, e1]
theorem e_led_by' {w : List Int} {ps : List Pr} {n : Nat} {r : List Int} {p : Pr} (hr : ∀ p ∈ ps, Rl w p) (hw : 1 ≤ w.length) (hb : Bd 83 w.length r) (f : fst ps r = some p) : m_led_by [.z (prD p), .z (rowD r)] = some (.z (rowD (led p.1 p.2 r)), [some (.z (prD p)), rz r]) := by
  have b := nxt_bd hr hb (fst_nxt f)
  refine e_led_by p.1 p.2 r (fun z => ?_) fun n hn => by have := b.bnd n hn; omega
  have := b.len
  rw [z] at this
  simp at this
  omega
theorem gIx_last (q : List (List Int)) (x : List Int) : gIx (.list ((q ++ [x]).map rowD)) (.int (-1)) = some (.z (rowD x)) := by
  show (L2.atI _ _).map T.z = _
  have h1 : (1 : Int) ≤ (q.length : Int) + 1 := by omega
  have h2 : (-1 + ((q.length : Int) + 1)).toNat = q.length := by omega
  simp [L2.atI, L2.ixN, h1, h2]
def pbBody : MS := (sSeq
    (sDrop (mCallD m_want_at_most [false, false, false] [] (aCons (oE (mC (.str "steps"))) (aCons (oE (mZ 2)) (aCons (oE (mCB gLen (aCons (oN 3) aNil))) aNil)))))
    (sSeq
    (sDrop (mBM 3 gAppend (aCons (oE (mF (mCallD m_led_by [false, false] [] (aCons (oE (mZ 4)) (aCons (oE (mBin gIx (oN 3) (oE (mUn gNeg (oE (mC (.int 1))))))) aNil))))) aNil)))
    (sSet 4 (mCallD m_first_going [false, false] [] (aCons (oE (mZ 0)) (aCons (oE (mBin gIx (oN 3) (oE (mUn gNeg (oE (mC (.int 1))))))) aNil))))))
theorem e_pbBody {w : List Int} {ps : List Pr} (hr : ∀ p ∈ ps, Rl w p) (hw : 1 ≤ w.length) (m : Option T) {r : List Int} {p : Pr} (hb : Bd 83 w.length r) (f : fst ps r = some p) (pre : List (List Int)) (h2 : pre.length < 2000) :
    pbBody [some (.z (.tuple (ps.map prD))), m, iz 2000, some (.l ((pre ++ [r]).map rowD)), some (.z (prD p))] = some (.nx, [some (.z (.tuple (ps.map prD))), m, iz 2000, some (.l (((pre ++ [r]) ++ [led p.1 p.2 r]).map rowD)), some (.z (fgD ps (led p.1 p.2 r)))]) := by
  have e1 := e_led_by' (n := 0) hr hw hb f
  have e2 := e_first_going ps (led p.1 p.2 r)
  have g1 := gIx_last pre r
  have g2 := gIx_last (pre ++ [r]) (led p.1 p.2 r)
  have ea : ((pre ++ [r]) ++ [led p.1 p.2 r]).map rowD = (pre ++ [r]).map rowD ++ [rowD (led p.1 p.2 r)] := by rw [List.map_append]; rfl
  have ln : gLen [.list ((pre ++ [r]).map rowD)] = some (.z (.int ((pre.length + 1 : Nat) : Int))) := by simp [gLen, io]
  have hm : ¬ (2000 : Int) < ((pre.length + 1 : Nat) : Int) := by omega
  have hl : ((pre ++ [r]).map rowD).length < 100000 := by simp; omega
  rw [ea] at g2 ⊢
  generalize (pre ++ [r]).map rowD = L at *
  generalize fgD ps (led p.1 p.2 r) = G at *
  generalize rowD (led p.1 p.2 r) = Y at *
  generalize prD p = Q at *
  generalize rowD r = X at *
  generalize ps.map prD = P at *
  generalize ((pre.length + 1 : Nat) : Int) = N at *
  simp [pbBody, m_want_at_most, defM, startE, backs, sSeq, sSet, setSl, sRet, sRetN, sNx, sIf, sDrop, bV, truth, mC, mZ, mF, mCB, mBin, mUn, mBM, mCallD, callM, takeT, putT, slotsOf, nodupB, valsZ, oN, oE, aNil, aCons, slotT, Arg.get, gets, zs, T.data, gNeg, io, gGt, bo, gAppend, ln, e1, e2, g1, g2, hm, hl]
theorem isN_some (Q : D) (h : isNon Q = false) (a b c d : Option T) : (bV (mBin gIsN (oN 4) (oE (mC .none)))) [a, b, c, d, some (.z Q)] = some (true, [a, b, c, d, some (.z Q)]) := by
  simp [bV, truth, mC, mBin, oN, oE, slotT, Arg.get, T.data, gIsN, h, bo]
theorem isN_none (a b c d : Option T) : (bV (mBin gIsN (oN 4) (oE (mC .none)))) [a, b, c, d, some (.z .none)] = some (false, [a, b, c, d, some (.z .none)]) := by
  simp [bV, truth, mC, mBin, oN, oE, slotT, Arg.get, T.data, gIsN, isNon, bo]
theorem e_pb {w : List Int} {ps : List Pr} (hr : ∀ p ∈ ps, Rl w p) (hw : 1 ≤ w.length) (m : Option T) {r : List Int} {l : List (List Int)} (h : Pt ps w.length r l) : ∀ (fuel : Nat) (pre : List (List Int)), l.length < fuel → pre.length + l.length ≤ 2000 →
    sWh (bV (mBin gIsN (oN 4) (oE (mC .none)))) pbBody fuel [some (.z (.tuple (ps.map prD))), m, iz 2000, some (.l ((pre ++ [r]).map rowD)), some (.z (fgD ps r))] = some (.nx, [some (.z (.tuple (ps.map prD))), m, iz 2000, some (.l ((pre ++ l).map rowD)), some (.z .none)]) := by
  induction h with
  | stop hb f =>
    intro fuel pre h1 h2
    obtain ⟨fuel, rfl⟩ : ∃ k, fuel = k + 1 := ⟨fuel - 1, by omega⟩
    unfold fgD
    rw [f]
    show ((bV (mBin gIsN (oN 4) (oE (mC .none)))) _).bind _ = _
    rw [isN_none]
    rfl
  | @go r p l hb f k ih =>
    intro fuel pre h1 h2
    obtain ⟨fuel, rfl⟩ : ∃ k, fuel = k + 1 := ⟨fuel - 1, by omega⟩
    have ih' := ih fuel (pre ++ [r]) (by simp at h1; omega) (by simp at h2 ⊢; omega)
    have e1 := e_pbBody hr hw m hb f pre (by simp at h2; omega)
    have hf : fgD ps r = prD p := by unfold fgD; rw [f]
    have e3 : pre ++ r :: l = (pre ++ [r]) ++ l := by simp
    rw [hf, e3]
    show ((bV (mBin gIsN (oN 4) (oE (mC .none)))) _).bind _ = _
    rw [isN_some _ rfl]
    show (pbBody _).bind _ = _
    rw [e1]
    exact ih'
theorem e_path_by {w : List Int} {ps : List Pr} (hr : ∀ p ∈ ps, Rl w p) (hw : 1 ≤ w.length) {r : List Int} {l : List (List Int)} (h : Pt ps w.length r l) (hl : l.length ≤ 40) : m_path_by [.z (.tuple (ps.map prD)), .z (rowD r), .z (.int 2000)] = some (.l (l.map rowD), [some (.z (.tuple (ps.map prD))), rz r, iz 2000]) := by
  have e1 := e_pb hr hw (rz r) h 1000000 [] (by omega) (by simp; omega)
  have e2 := e_first_going ps r
  have e3 : l_path_by_1 [some (.z (.tuple (ps.map prD))), rz r, iz 2000, some (.l [rowD r]), some (.z (fgD ps r))] = some (.nx, [some (.z (.tuple (ps.map prD))), rz r, iz 2000, some (.l (l.map rowD)), some (.z .none)]) := e1
  generalize l.map rowD = L at *
  generalize fgD ps r = G at *
  generalize ps.map prD = P at *
  simp [m_path_by, defM, startE, backs, sSeq, sSet, setSl, sRet, sRetN, sNx, sBk, sCt, sNo, sIf, sDrop, sPar, sPar3, sAsg, sFor, bV, bT, bAnd, bOr, bNot, truth, mAnd, mOr, mNot, mIf, mC, mZ, mM, mF, mTup, mLst, mCB, mBin, mUn, mChain, mIsi, mIsi2, mSl, mPt, mLC, mBM, mCallD, mCallK, callM, takeT, putT, slotsOf, nodupB, valsZ, gk, oN, oE, aNil, aCons, slotT, Arg.get, gets, zs, T.data, gN, gsC, gs0, gT, gS, iV, iZ, iR, seqOf, wipeE, restE, gAdd, gSub, gMul, gFdiv, gMod, gPow, gNeg, gLt, gGt, gLe, gGe, gEq, gNe, gIs, gIsN, isNon, gIx, L2.atI, L2.ixN, gLen, gTup, gLst, gSum, gAll, gAny, gAbs, gMax2, gMin2, gDivmod, gInt, gGcd, isT, gAppend, gInsert, gPop, zip2D, zip3D, enumD, gSl, mRev, gRev, mSS, gSS, gMax, gMin, gMaxS, gMinS, gIn, gNin, mExt, mDR, mDL, mCD, gDLen, gDLst, mD0, mD1, gSD, Arg.raw, mFD, mTD, iFD, sForN, mLCN, iNm, e2, e3]
end My

set_option Elab.async false
set_option maxRecDepth 100000
set_option linter.all false
set_option maxHeartbeats 1000000
namespace My
open PySem VL
theorem Pt.ne {ps : List Pr} {n : Nat} {r : List Int} {l : List (List Int)} (h : Pt ps n r l) : l ≠ [] := by cases h <;> simp
/-! ### the end -/
def ebBody : MS := (sSeq
    (sSet 2 (mCallD m_led_by [false, false] [] (aCons (oE (mZ 3)) (aCons (oE (mZ 2)) aNil))))
    (sSet 3 (mCallD m_first_going [false, false] [] (aCons (oE (mZ 0)) (aCons (oE (mZ 2)) aNil)))))
theorem e_ebBody {w : List Int} {ps : List Pr} (hr : ∀ p ∈ ps, Rl w p) (hw : 1 ≤ w.length) (m : Option T) {r : List Int} {p : Pr} (hb : Bd 83 w.length r) (f : fst ps r = some p) :
    ebBody [some (.z (.tuple (ps.map prD))), m, rz r, some (.z (prD p))] = some (.nx, [some (.z (.tuple (ps.map prD))), m, rz (led p.1 p.2 r), some (.z (fgD ps (led p.1 p.2 r)))]) := by
  have e1 := e_led_by' (n := 0) hr hw hb f
  have e2 := e_first_going ps (led p.1 p.2 r)
  generalize fgD ps (led p.1 p.2 r) = G at *
  generalize prD p = Q at *
  generalize ps.map prD = P at *
  simp [ebBody, defM, startE, backs, sSeq, sSet, setSl, sRet, sRetN, sNx, sBk, sCt, sNo, sIf, sDrop, sPar, sPar3, sAsg, sFor, bV, bT, bAnd, bOr, bNot, truth, mAnd, mOr, mNot, mIf, mC, mZ, mM, mF, mTup, mLst, mCB, mBin, mUn, mChain, mIsi, mIsi2, mSl, mPt, mLC, mBM, mCallD, mCallK, callM, takeT, putT, slotsOf, nodupB, valsZ, gk, oN, oE, aNil, aCons, slotT, Arg.get, gets, zs, T.data, gN, gsC, gs0, gT, gS, iV, iZ, iR, seqOf, wipeE, restE, gAdd, gSub, gMul, gFdiv, gMod, gPow, gNeg, gLt, gGt, gLe, gGe, gEq, gNe, gIs, gIsN, isNon, gIx, L2.atI, L2.ixN, gLen, gTup, gLst, gSum, gAll, gAny, gAbs, gMax2, gMin2, gDivmod, gInt, gGcd, isT, gAppend, gInsert, gPop, zip2D, zip3D, enumD, gSl, mRev, gRev, mSS, gSS, gMax, gMin, gMaxS, gMinS, gIn, gNin, mExt, mDR, mDL, mCD, gDLen, gDLst, mD0, mD1, gSD, Arg.raw, mFD, mTD, iFD, sForN, mLCN, iNm, e1, e2]
theorem isN3_some (Q : D) (h : isNon Q = false) (a b c : Option T) : (bV (mBin gIsN (oN 3) (oE (mC .none)))) [a, b, c, some (.z Q)] = some (true, [a, b, c, some (.z Q)]) := by
  simp [bV, truth, mC, mBin, oN, oE, slotT, Arg.get, T.data, gIsN, h, bo]
theorem isN3_none (a b c : Option T) : (bV (mBin gIsN (oN 3) (oE (mC .none)))) [a, b, c, some (.z .none)] = some (false, [a, b, c, some (.z .none)]) := by
  simp [bV, truth, mC, mBin, oN, oE, slotT, Arg.get, T.data, gIsN, isNon, bo]
theorem e_eb {w : List Int} {ps : List Pr} (hr : ∀ p ∈ ps, Rl w p) (hw : 1 ≤ w.length) (m : Option T) {r : List Int} {l : List (List Int)} (h : Pt ps w.length r l) : ∀ (fuel : Nat) (pre : List (List Int)) (z : List Int), l.length < fuel → l = pre ++ [z] →
    sWh (bV (mBin gIsN (oN 3) (oE (mC .none)))) ebBody fuel [some (.z (.tuple (ps.map prD))), m, rz r, some (.z (fgD ps r))] = some (.nx, [some (.z (.tuple (ps.map prD))), m, rz z, some (.z .none)]) := by
  induction h with
  | @stop r hb f =>
    intro fuel pre z h1 h2
    obtain ⟨fuel, rfl⟩ : ∃ k, fuel = k + 1 := ⟨fuel - 1, by omega⟩
    have : z = r := by
      cases pre with
      | nil => simp at h2; exact h2.symm
      | cons a t => simp at h2
    subst this
    unfold fgD
    rw [f]
    show ((bV (mBin gIsN (oN 3) (oE (mC .none)))) _).bind _ = _
    rw [isN3_none]
    rfl
  | @go r p l hb f k ih =>
    intro fuel pre z h1 h2
    obtain ⟨fuel, rfl⟩ : ∃ k, fuel = k + 1 := ⟨fuel - 1, by omega⟩
    obtain ⟨pre', e⟩ : ∃ pre', l = pre' ++ [z] := by
      cases pre with
      | nil => simp at h2; exact absurd h2.2 k.ne
      | cons a t => simp at h2; exact ⟨t, h2.2⟩
    have ih' := ih fuel pre' z (by simp at h1; omega) e
    have e1 := e_ebBody hr hw m hb f
    have hf : fgD ps r = prD p := by unfold fgD; rw [f]
    rw [hf]
    show ((bV (mBin gIsN (oN 3) (oE (mC .none)))) _).bind _ = _
    rw [isN3_some _ rfl]
    show (ebBody _).bind _ = _
    rw [e1]
    exact ih'
theorem e_end_by {w : List Int} {ps : List Pr} (hr : ∀ p ∈ ps, Rl w p) (hw : 1 ≤ w.length) {r z : List Int} {l pre : List (List Int)} (h : Pt ps w.length r l) (hl : l.length ≤ 40) (e : l = pre ++ [z]) : m_end_by [.z (.tuple (ps.map prD)), .z (rowD r)] = some (.z (rowD z), [some (.z (.tuple (ps.map prD))), rz r]) := by
  have e1 : l_end_by_1 [some (.z (.tuple (ps.map prD))), rz r, rz r, some (.z (fgD ps r))] = some (.nx, [some (.z (.tuple (ps.map prD))), rz r, rz z, some (.z .none)]) := e_eb hr hw (rz r) h 1000000 pre z (by omega) e
  have e2 := e_first_going ps r
  generalize fgD ps r = G at *
  generalize ps.map prD = P at *
  simp [m_end_by, defM, startE, backs, sSeq, sSet, setSl, sRet, sRetN, sNx, sBk, sCt, sNo, sIf, sDrop, sPar, sPar3, sAsg, sFor, bV, bT, bAnd, bOr, bNot, truth, mAnd, mOr, mNot, mIf, mC, mZ, mM, mF, mTup, mLst, mCB, mBin, mUn, mChain, mIsi, mIsi2, mSl, mPt, mLC, mBM, mCallD, mCallK, callM, takeT, putT, slotsOf, nodupB, valsZ, gk, oN, oE, aNil, aCons, slotT, Arg.get, gets, zs, T.data, gN, gsC, gs0, gT, gS, iV, iZ, iR, seqOf, wipeE, restE, gAdd, gSub, gMul, gFdiv, gMod, gPow, gNeg, gLt, gGt, gLe, gGe, gEq, gNe, gIs, gIsN, isNon, gIx, L2.atI, L2.ixN, gLen, gTup, gLst, gSum, gAll, gAny, gAbs, gMax2, gMin2, gDivmod, gInt, gGcd, isT, gAppend, gInsert, gPop, zip2D, zip3D, enumD, gSl, mRev, gRev, mSS, gSS, gMax, gMin, gMaxS, gMinS, gIn, gNin, mExt, mDR, mDL, mCD, gDLen, gDLst, mD0, mD1, gSD, Arg.raw, mFD, mTD, iFD, sForN, mLCN, iNm, e2, e1]
/-! ### the law's path -/
theorem gNe_nil (ds : List D) (h : SeqAt.shaped (.list ds) = true) : gNe (.list ds) (.list []) = bo (!ds.isEmpty) := by
  show (if SeqAt.shaped (.list ds) = true ∧ SeqAt.shaped (.list []) = true then bo (!PyData.eqv (.list ds) (.list [])) else none) = _
  rw [if_pos ⟨h, rfl⟩]
  have : PyData.eqv (.list ds) (.list []) = PyData.eqvAll ds [] := by rw [PyData.eqv]
  rw [this]
  cases ds <;> simp [PyData.eqvAll]
theorem shaped_prs (ps : List Pr) : SeqAt.shaped (.list (ps.map prD)) = true := (shaped_map (k := 2) prD ps (fun a _ => shaped_pr a) (fun a _ => by rw [depth_pr]; omega) (by decide)).1
theorem e_lp_1 (ps : List Pr) (m g : Option T) (pre : List (List Int)) (r : List Int) : l_L_path_1 [some (.z (.tuple (ps.map prD))), m, some (.l ((pre ++ [r]).map rowD)), g, none] = some (.l ((ps.filter fun p => goes p.1 r).map prD), [some (.z (.tuple (ps.map prD))), m, some (.l ((pre ++ [r]).map rowD)), g, none]) := by
  have g1 := gIx_last pre r
  rw [l_L_path_1, mLC_filter (α := Pr) (g := prD) (f := prD) (p := fun p => goes p.1 r) (as := ps) (ρ1 := [some (.z (.tuple (ps.map prD))), m, some (.l ((pre ++ [r]).map rowD)), g, none]) (by rfl)]
  · simp [restE, wipeE, slotT]
  · rintro ⟨a, b⟩ _
    have e1 := e_L_goes a b r
    generalize (pre ++ [r]).map rowD = L at *
    generalize ps.map prD = P at *
    cases q : goes a r <;> simp only [q] at e1 <;> simp [defM, startE, backs, bT, truth, mC, mZ, mF, mCB, mBin, mUn, mCallD, callM, takeT, putT, slotsOf, nodupB, valsZ, oN, oE, aNil, aCons, slotT, Arg.get, gets, zs, T.data, gN, gNeg, io, bo, wipeE, setSl, e1, g1, q]
def lpBody : MS := (sSeq
    (sSet 3 l_L_path_1)
    (sIf (bV (mBin gNe (oN 3) (oE (mLst aNil)))) (sDrop (mBM 2 gAppend (aCons (oE (mF (mCallD m_L_led [false, false] [] (aCons (oE (mBin gIx (oN 3) (oE (mC (.int 0))))) (aCons (oE (mBin gIx (oN 2) (oE (mUn gNeg (oE (mC (.int 1))))))) aNil))))) aNil))) sNx))
theorem e_lpBody_some {ps : List Pr} (m g : Option T) {r : List Int} {p : Pr} (f : fst ps r = some p) (pre : List (List Int)) (h2 : pre.length < 2000) :
    ∃ G : List Pr, G ≠ [] ∧ lpBody [some (.z (.tuple (ps.map prD))), m, some (.l ((pre ++ [r]).map rowD)), g, none] = some (.nx, [some (.z (.tuple (ps.map prD))), m, some (.l (((pre ++ [r]) ++ [led p.1 p.2 r]).map rowD)), some (.l (G.map prD)), none]) := by
  have hf : (ps.filter fun p => goes p.1 r).head? = some p := by rw [List.head?_filter]; exact f
  obtain ⟨G, hG⟩ : ∃ G, ps.filter (fun p => goes p.1 r) = p :: G := by
    cases q : ps.filter fun p => goes p.1 r with
    | nil => rw [q] at hf; cases hf
    | cons a t => rw [q] at hf; cases hf; exact ⟨t, rfl⟩
  have e1 := e_lp_1 ps m g pre r
  rw [hG] at e1
  have e2 := e_L_led p.1 p.2 r
  have g1 := gIx_last pre r
  have ne := gNe_nil _ (shaped_prs (p :: G))
  have g0 : gIx (.list ((p :: G).map prD)) (.int 0) = some (.z (prD p)) := by simp [gIx, L2.atI, L2.ixN]
  have ea : ((pre ++ [r]) ++ [led p.1 p.2 r]).map rowD = (pre ++ [r]).map rowD ++ [rowD (led p.1 p.2 r)] := by rw [List.map_append]; rfl
  have hl : ((pre ++ [r]).map rowD).length < 100000 := by simp; omega
  have em : (!((p :: G).map prD).isEmpty) = true := rfl
  rw [em] at ne
  refine ⟨p :: G, by simp, ?_⟩
  rw [ea]
  have e2' : m_L_led [.z (prD p), .z (rowD r)] = some (.z (rowD (led p.1 p.2 r)), [some (.z (prD p)), rz r]) := e2
  generalize (pre ++ [r]).map rowD = L at *
  generalize rowD (led p.1 p.2 r) = Y at *
  generalize (p :: G).map prD = Z at *
  generalize prD p = Q at *
  generalize rowD r = X at *
  generalize ps.map prD = P at *
  simp [lpBody, defM, startE, backs, sSeq, sSet, setSl, sNx, sIf, sDrop, bV, truth, mC, mZ, mF, mLst, mBin, mUn, mBM, mCallD, callM, takeT, putT, slotsOf, nodupB, valsZ, oN, oE, aNil, aCons, slotT, Arg.get, gets, zs, T.data, gNeg, io, bo, gAppend, e1, e2', g0, g1, ne, hl]
theorem e_lpBody_none {ps : List Pr} (m g : Option T) {r : List Int} (f : fst ps r = none) (pre : List (List Int)) :
    lpBody [some (.z (.tuple (ps.map prD))), m, some (.l ((pre ++ [r]).map rowD)), g, none] = some (.nx, [some (.z (.tuple (ps.map prD))), m, some (.l ((pre ++ [r]).map rowD)), some (.l []), none]) := by
  have hG : (ps.filter fun p => goes p.1 r) = [] := by
    rw [List.filter_eq_nil_iff]
    exact List.find?_eq_none.mp f
  have e1 := e_lp_1 ps m g pre r
  rw [hG] at e1
  have ne := gNe_nil [] rfl
  generalize (pre ++ [r]).map rowD = L at *
  generalize ps.map prD = P at *
  simp [lpBody, sSeq, sSet, setSl, sNx, sIf, bV, truth, mLst, mBin, oN, oE, aNil, slotT, Arg.get, zs, T.data, bo, e1, ne]
theorem tst3 (G : List D) (h : SeqAt.shaped (.list G) = true) (a b c : Option T) : (bV (mBin gNe (oN 3) (oE (mLst aNil)))) [a, b, c, some (.l G), none] = some (!G.isEmpty, [a, b, c, some (.l G), none]) := by
  have ne := gNe_nil G h
  simp [bV, truth, mLst, mBin, oN, oE, aNil, slotT, Arg.get, zs, T.data, bo, ne]
theorem e_lp {ps : List Pr} {n : Nat} (m : Option T) {r : List Int} {l : List (List Int)} (h : Pt ps n r l) : ∀ (fuel : Nat) (pre : List (List Int)) (G : List D), SeqAt.shaped (.list G) = true → G ≠ [] → l.length + 1 < fuel → pre.length + l.length ≤ 2000 →
    sWh (bV (mBin gNe (oN 3) (oE (mLst aNil)))) lpBody fuel [some (.z (.tuple (ps.map prD))), m, some (.l ((pre ++ [r]).map rowD)), some (.l G), none] = some (.nx, [some (.z (.tuple (ps.map prD))), m, some (.l ((pre ++ l).map rowD)), some (.l []), none]) := by
  induction h with
  | @stop r hb f =>
    intro fuel pre G hs hne h1 h2
    obtain ⟨fuel, rfl⟩ : ∃ k, fuel = k + 2 := ⟨fuel - 2, by simp at h1; omega⟩
    have em : (!G.isEmpty) = true := by cases G with | nil => exact absurd rfl hne | cons => rfl
    show ((bV (mBin gNe (oN 3) (oE (mLst aNil)))) _).bind _ = _
    rw [tst3 G hs, em]
    show (lpBody _).bind _ = _
    rw [e_lpBody_none m _ f pre]
    have e2 : sWh (bV (mBin gNe (oN 3) (oE (mLst aNil)))) lpBody (fuel + 1) [some (.z (.tuple (ps.map prD))), m, some (.l ((pre ++ [r]).map rowD)), some (.l []), none] = some (.nx, [some (.z (.tuple (ps.map prD))), m, some (.l ((pre ++ [r]).map rowD)), some (.l []), none]) := by
      show ((bV (mBin gNe (oN 3) (oE (mLst aNil)))) _).bind _ = _
      rw [tst3 [] rfl]
      rfl
    exact e2
  | @go r p l hb f k ih =>
    intro fuel pre G hs hne h1 h2
    obtain ⟨fuel, rfl⟩ : ∃ k, fuel = k + 1 := ⟨fuel - 1, by omega⟩
    obtain ⟨G', ne', e1⟩ := e_lpBody_some m (some (.l G)) f pre (by simp at h2; omega)
    have ih' := ih fuel (pre ++ [r]) (G'.map prD) (shaped_prs G') (by simpa using ne') (by simp at h1; omega) (by simp at h2 ⊢; omega)
    have e3 : pre ++ r :: l = (pre ++ [r]) ++ l := by simp
    have em : (!G.isEmpty) = true := by cases G with | nil => exact absurd rfl hne | cons => rfl
    rw [e3]
    show ((bV (mBin gNe (oN 3) (oE (mLst aNil)))) _).bind _ = _
    rw [tst3 G hs, em]
    show (lpBody _).bind _ = _
    rw [e1]
    exact ih'
theorem e_L_path {ps : List Pr} {n : Nat} {r : List Int} {l : List (List Int)} (h : Pt ps n r l) (hl : l.length ≤ 40) : m_L_path [.z (.tuple (ps.map prD)), .z (rowD r)] = some (.l (l.map rowD), [some (.z (.tuple (ps.map prD))), rz r]) := by
  have e1 : l_L_path_2 [some (.z (.tuple (ps.map prD))), rz r, some (.l [rowD r]), some (.l [.int 0]), none] = some (.nx, [some (.z (.tuple (ps.map prD))), rz r, some (.l (l.map rowD)), some (.l []), none]) := e_lp (rz r) h 1000000 [] [.int 0] (by decide) (by simp) (by omega) (by simp; omega)
  generalize l.map rowD = L at *
  generalize ps.map prD = P at *
  simp [m_L_path, defM, startE, backs, sSeq, sSet, setSl, sRet, sRetN, sNx, sBk, sCt, sNo, sIf, sDrop, sPar, sPar3, sAsg, sFor, bV, bT, bAnd, bOr, bNot, truth, mAnd, mOr, mNot, mIf, mC, mZ, mM, mF, mTup, mLst, mCB, mBin, mUn, mChain, mIsi, mIsi2, mSl, mPt, mLC, mBM, mCallD, mCallK, callM, takeT, putT, slotsOf, nodupB, valsZ, gk, oN, oE, aNil, aCons, slotT, Arg.get, gets, zs, T.data, gN, gsC, gs0, gT, gS, iV, iZ, iR, seqOf, wipeE, restE, gAdd, gSub, gMul, gFdiv, gMod, gPow, gNeg, gLt, gGt, gLe, gGe, gEq, gNe, gIs, gIsN, isNon, gIx, L2.atI, L2.ixN, gLen, gTup, gLst, gSum, gAll, gAny, gAbs, gMax2, gMin2, gDivmod, gInt, gGcd, isT, gAppend, gInsert, gPop, zip2D, zip3D, enumD, gSl, mRev, gRev, mSS, gSS, gMax, gMin, gMaxS, gMinS, gIn, gNin, mExt, mDR, mDL, mCD, gDLen, gDLst, mD0, mD1, gSD, Arg.raw, mFD, mTD, iFD, sForN, mLCN, iNm, e1]
end My

set_option Elab.async false
set_option maxRecDepth 100000
set_option linter.all false
set_option maxHeartbeats 1000000
namespace My
open PySem VL
theorem perm_of {α : Type} [DecidableEq α] {l m : List α} (h1 : l.Nodup) (h2 : m.Nodup) (h : ∀ x, x ∈ l ↔ x ∈ m) : l.Perm m := by
  rw [List.perm_iff_count]
  intro a
  rw [List.Nodup.count h1, List.Nodup.count h2]
  by_cases q : a ∈ l
  · rw [if_pos q, if_pos ((h a).mp q)]
  · rw [if_neg q, if_neg (fun z => q ((h a).mpr z))]
/-- a row that no rule touches -/
def irr (ps : List Pr) (s : List Int) : Bool := decide (nxt ps s = [])
theorem leD_row (a b : List Int) : leD (rowD a) (rowD b) = leI a b := by unfold leD leI; rw [lt_rows]
theorem canSort_rows (l : List (List Int)) (hx : ∀ r ∈ l, r ≠ []) (hn : l.length ≤ 100000) : canSort (l.map rowD) = true := by
  unfold canSort
  simp only [Bool.and_eq_true, Bool.or_eq_true, List.all_eq_true, List.mem_map, decide_eq_true_eq, List.length_map]
  refine ⟨⟨⟨?_, .inl ?_⟩, ?_⟩, hn⟩
  · rintro _ ⟨p, _, rfl⟩ _ ⟨q, _, rfl⟩; exact alikeAll_ints p q
  · rintro _ ⟨p, hp, rfl⟩
    cases p with
    | nil => exact absurd rfl (hx _ hp)
    | cons a b => rfl
  · rintro _ ⟨p, _, rfl⟩; rw [depth_rowD]; decide
theorem sort_rows (l : List (List Int)) : (l.map rowD).mergeSort leD = (sortI l).map rowD := by
  unfold sortI
  rw [List.map_mergeSort (s := leD) (fun a _ b _ => (leD_row a b).symm)]
theorem sorted_rows (l : List (List Int)) (hx : ∀ r ∈ l, r ≠ []) (hn : l.length ≤ 100000) : gSorted [.list (l.map rowD)] = some (.l ((sortI l).map rowD)) := by
  show (if canSort (l.map rowD) = true then some (T.l ((l.map rowD).mergeSort leD)) else none) = _
  rw [if_pos (canSort_rows l hx hn), sort_rows]
theorem mem_sortI {l : List (List Int)} {x : List Int} : x ∈ sortI l ↔ x ∈ l := (List.mergeSort_perm l leI).mem_iff
theorem sortI_len (l : List (List Int)) : (sortI l).length = l.length := (List.mergeSort_perm l leI).length_eq
theorem Bd.ne {k : Int} {n : Nat} {r : List Int} (h : Bd k n r) (hw : 1 ≤ n) : r ≠ [] := fun z => by
  have := h.len
  rw [z] at this
  simp at this
  omega
/-! ### the law's ends -/
theorem e_lae_1 (t m : Option T) (ps : List Pr) (S : List (List Int)) (hl : S.length ≤ 100) : l_L_all_ends_1 [t, m, some (.dc (aD rowD (vw ps S))), none] = some (.l ((S.filter (irr ps)).map rowD), [t, m, some (.fd (aD rowD (vw ps S))), none]) := by
  have ek : (aD rowD (vw ps S)).map (·.1) = S.map rowD := by simp [Function.comp_def]
  have hl2 : (aD rowD (vw ps S)).length ≤ 100000 := by simp; omega
  rw [l_L_all_ends_1, mLC_filter (α := List Int) (g := rowD) (f := rowD) (p := irr ps) (as := S) (ρ1 := [t, m, some (.fd (aD rowD (vw ps S))), none])]
  · simp [restE, wipeE, slotT]
  · show ((mFD 2) _).bind _ = _
    generalize aD rowD (vw ps S) = U at *
    simp [mFD, slotT, hl2, ek]
  · intro s hs
    have gx := rowKey.gIx s (vw ps S)
    rw [aget_vw ps S s hs] at gx
    have ge := gEq_rows (nxt ps s) []
    generalize aD rowD (vw ps S) = U at *
    have ge' : gEq (.list ((nxt ps s).map rowD)) (.list []) = some (.z (.bool (irr ps s))) := ge
    generalize (nxt ps s).map rowD = N at *
    generalize irr ps s = I at *
    cases I <;> simp [bV, truth, mC, mZ, mLst, mBin, mDL, oN, oE, aNil, slotT, Arg.get, Arg.raw, zs, T.data, gN, wipeE, setSl, gx, ge']
theorem e_L_all_ends {w m : List Int} {ps : List Pr} (g : Gr w m ps) (hw : 1 ≤ w.length) (hm : Bd 3 w.length m) (t : T) (h : Rs t ps) : ∃ S, Reach ps w.length m S ∧ m_L_all_ends [t, .z (rowD m)] = some (.l ((sortI (S.filter (irr ps))).map rowD), [some t, rz m]) := by
  obtain ⟨S, R, e⟩ := e_L_reach g hm t h
  refine ⟨S, R, ?_⟩
  have e1 := e_lae_1 (some t) (rz m) ps S (by have := R.len; omega)
  have e2 := sorted_rows (S.filter (irr ps)) (fun r hr => (R.bd r (List.mem_filter.mp hr).1).ne hw) (by have := R.len; have := List.length_filter_le (irr ps) S; omega)
  generalize (sortI (S.filter (irr ps))).map rowD = Z at *
  generalize (S.filter (irr ps)).map rowD = F at *
  generalize aD rowD (vw ps S) = U at *
  simp [m_L_all_ends, defM, startE, backs, sSeq, sSet, setSl, sRet, sRetN, sNx, sBk, sCt, sNo, sIf, sDrop, sPar, sPar3, sAsg, sFor, bV, bT, bAnd, bOr, bNot, truth, mAnd, mOr, mNot, mIf, mC, mZ, mM, mF, mTup, mLst, mCB, mBin, mUn, mChain, mIsi, mIsi2, mSl, mPt, mLC, mBM, mCallD, mCallK, callM, takeT, putT, slotsOf, nodupB, valsZ, gk, oN, oE, aNil, aCons, slotT, Arg.get, gets, zs, T.data, gN, gsC, gs0, gT, gS, iV, iZ, iR, seqOf, wipeE, restE, gAdd, gSub, gMul, gFdiv, gMod, gPow, gNeg, gLt, gGt, gLe, gGe, gEq, gNe, gIs, gIsN, isNon, gIx, L2.atI, L2.ixN, gLen, gTup, gLst, gSum, gAll, gAny, gAbs, gMax2, gMin2, gDivmod, gInt, gGcd, isT, gAppend, gInsert, gPop, zip2D, zip3D, enumD, gSl, mRev, gRev, mSS, gSS, gMax, gMin, gMaxS, gMinS, gIn, gNin, mExt, mDR, mDL, mCD, gDLen, gDLst, mD0, mD1, gSD, Arg.raw, mFD, mTD, iFD, sForN, mLCN, iNm, e, e1, e2]
end My

set_option Elab.async false
set_option maxRecDepth 100000
set_option linter.all false
set_option maxHeartbeats 1000000
namespace My
open PySem VL
/-! ### the package's ends -/
theorem e_al_1 {w : List Int} {ps : List Pr} (hr : ∀ p ∈ ps, Rl w p) (hw : 1 ≤ w.length) {r : List Int} (hb : Bd 83 w.length r) : l_all_led_1 [some (.z (.tuple (ps.map prD))), rz r, none] = some (.l ((nxt ps r).map rowD), [some (.z (.tuple (ps.map prD))), rz r, none]) := by
  have en : (nxt ps r).map rowD = (ps.filter fun p => goes p.1 r).map fun p => rowD (led p.1 p.2 r) := by simp [nxt]
  rw [en, l_all_led_1, mLC_filter (α := Pr) (g := prD) (f := fun p => rowD (led p.1 p.2 r)) (p := fun p => goes p.1 r) (as := ps) (ρ1 := [some (.z (.tuple (ps.map prD))), rz r, none]) (by rfl)]
  · simp [restE, wipeE, slotT]
  · rintro ⟨a, b⟩ hp
    have e1 := e_goes_by_of a b r
    cases q : goes a r with
    | false => simp only [q] at e1; simp [defM, startE, backs, sSeq, sSet, setSl, sRet, sRetN, sNx, sBk, sCt, sNo, sIf, sDrop, sPar, sPar3, sAsg, sFor, bV, bT, bAnd, bOr, bNot, truth, mAnd, mOr, mNot, mIf, mC, mZ, mM, mF, mTup, mLst, mCB, mBin, mUn, mChain, mIsi, mIsi2, mSl, mPt, mLC, mBM, mCallD, mCallK, callM, takeT, putT, slotsOf, nodupB, valsZ, gk, oN, oE, aNil, aCons, slotT, Arg.get, gets, zs, T.data, gN, gsC, gs0, gT, gS, iV, iZ, iR, seqOf, wipeE, restE, gAdd, gSub, gMul, gFdiv, gMod, gPow, gNeg, gLt, gGt, gLe, gGe, gEq, gNe, gIs, gIsN, isNon, gIx, L2.atI, L2.ixN, gLen, gTup, gLst, gSum, gAll, gAny, gAbs, gMax2, gMin2, gDivmod, gInt, gGcd, isT, gAppend, gInsert, gPop, zip2D, zip3D, enumD, gSl, mRev, gRev, mSS, gSS, gMax, gMin, gMaxS, gMinS, gIn, gNin, mExt, mDR, mDL, mCD, gDLen, gDLst, mD0, mD1, gSD, Arg.raw, mFD, mTD, iFD, sForN, mLCN, iNm, e1, q]
    | true =>
      have hy : led a b r ∈ nxt ps r := mem_nxt.mpr ⟨(a, b), hp, q, rfl⟩
      have bd := nxt_bd hr hb hy
      have e2 := e_led_by a b r (bd.ne hw) fun n hn => by have := bd.bnd n hn; omega
      simp only [q] at e1
      simp [defM, startE, backs, sSeq, sSet, setSl, sRet, sRetN, sNx, sBk, sCt, sNo, sIf, sDrop, sPar, sPar3, sAsg, sFor, bV, bT, bAnd, bOr, bNot, truth, mAnd, mOr, mNot, mIf, mC, mZ, mM, mF, mTup, mLst, mCB, mBin, mUn, mChain, mIsi, mIsi2, mSl, mPt, mLC, mBM, mCallD, mCallK, callM, takeT, putT, slotsOf, nodupB, valsZ, gk, oN, oE, aNil, aCons, slotT, Arg.get, gets, zs, T.data, gN, gsC, gs0, gT, gS, iV, iZ, iR, seqOf, wipeE, restE, gAdd, gSub, gMul, gFdiv, gMod, gPow, gNeg, gLt, gGt, gLe, gGe, gEq, gNe, gIs, gIsN, isNon, gIx, L2.atI, L2.ixN, gLen, gTup, gLst, gSum, gAll, gAny, gAbs, gMax2, gMin2, gDivmod, gInt, gGcd, isT, gAppend, gInsert, gPop, zip2D, zip3D, enumD, gSl, mRev, gRev, mSS, gSS, gMax, gMin, gMaxS, gMinS, gIn, gNin, mExt, mDR, mDL, mCD, gDLen, gDLst, mD0, mD1, gSD, Arg.raw, mFD, mTD, iFD, sForN, mLCN, iNm, e1, e2, q]
theorem e_all_led {w : List Int} {ps : List Pr} (hr : ∀ p ∈ ps, Rl w p) (hw : 1 ≤ w.length) {r : List Int} (hb : Bd 83 w.length r) : m_all_led [.z (.tuple (ps.map prD)), .z (rowD r)] = some (.l ((nxt ps r).map rowD), [some (.z (.tuple (ps.map prD))), rz r]) := by
  have e1 := e_al_1 hr hw hb
  generalize (nxt ps r).map rowD = N at *
  generalize ps.map prD = P at *
  simp [m_all_led, defM, startE, backs, sRet, e1]
abbrev mk (M : List (List Int)) : List (List Int × D) := M.map fun s => (s, .bool true)
theorem aget_mk (M : List (List Int)) (x : List Int) : (aget (mk M) x).isSome = decide (x ∈ M) := by
  have := aget_mem (k := x) (l := mk M)
  rw [show (mk M).map (·.1) = M by simp [mk, Function.comp_def]] at this
  cases q : (aget (mk M) x).isSome with
  | true => rw [q] at this; exact (decide_eq_true (this.mp rfl)).symm
  | false => exact (decide_eq_false (fun z => by rw [this.mpr z] at q; cases q)).symm
/-- what holds while the ends are sought -/
structure AInv (S : List (List Int)) (dn M W : List (List Int)) : Prop where
  nd : (dn ++ W).Nodup
  mm : ∀ x, x ∈ M ↔ x ∈ dn ∨ x ∈ W
  nm : M.Nodup
  ss : ∀ x ∈ M, x ∈ S
theorem AInv.add {S dn M W : List (List Int)} (I : AInv S dn M W) {y : List Int} (h : y ∉ M) (hy : y ∈ S) : AInv S dn (M ++ [y]) (W ++ [y]) := by
  refine ⟨?_, fun x => ?_, ?_, fun x hx => ?_⟩
  · rw [← List.append_assoc, List.nodup_append]
    refine ⟨I.nd, by simp, fun a ha b hb e => h ?_⟩
    rw [List.mem_singleton] at hb
    rw [I.mm, ← hb, ← e]
    exact List.mem_append.mp ha
  · rw [List.mem_append, List.mem_append, I.mm, or_assoc]
  · rw [List.nodup_append]
    exact ⟨I.nm, by simp, fun a ha b hb e => h (by rw [List.mem_singleton] at hb; rw [← hb, ← e]; exact ha)⟩
  · rcases List.mem_append.mp hx with hx | hx
    · exact I.ss x hx
    · rw [List.mem_singleton] at hx; rw [hx]; exact hy
def inB : MS := (sIf (bV (mDR gNin gDNin (oN 7) (oN 2))) (sSeq
    (sAsg (mC (.bool true)) (gSD 2 (oN 7)))
    (sSeq
    (sDrop (mCallD m_want_at_most [false, false, false] [] (aCons (oE (mC (.str "monomials"))) (aCons (oE (mC (.int 2000))) (aCons (oE (mCD gLen gDLen (oN 2))) aNil)))))
    (sDrop (mBM 3 gAppend (aCons (oE (mZ 7)) aNil))))) sNx)
theorem e_inB_old (P m c4 c5 c6 c7 : Option T) (M : List (List Int)) (W : List D) (y : List Int) (h : y ∈ M) : ((gN 7) (rowD y) [P, m, some (.dc (aD rowD (mk M))), some (.l W), c4, c5, c6, c7]).bind inB = some (.nx, [P, m, some (.dc (aD rowD (mk M))), some (.l W), c4, c5, c6, rz y]) := by
  have nin := rowKey.gNin y (mk M)
  rw [aget_mk, decide_eq_true h] at nin
  generalize aD rowD (mk M) = U at *
  simp [inB, sIf, sNx, bV, truth, mDR, oN, slotT, Arg.get, Arg.raw, T.data, gN, setSl, nin]
theorem e_inB_new (P m c4 c5 c6 c7 : Option T) (M : List (List Int)) (W : List D) (y : List Int) (h : y ∉ M) (hl : M.length ≤ 100) (hw : W.length ≤ 1000) : ((gN 7) (rowD y) [P, m, some (.dc (aD rowD (mk M))), some (.l W), c4, c5, c6, c7]).bind inB = some (.nx, [P, m, some (.dc (aD rowD (mk (M ++ [y])))), some (.l (W ++ [rowD y])), c4, c5, c6, rz y]) := by
  have nin := rowKey.gNin y (mk M)
  rw [aget_mk, decide_eq_false h] at nin
  have set := rowKey.gSet y (.bool true) (mk M) (by simp; omega)
  rw [aput_new (aget_none.mpr (by simpa [mk, Function.comp_def] using h))] at set
  have ve : mk M ++ [(y, .bool true)] = mk (M ++ [y]) := by simp [mk]
  rw [ve] at set
  have ln : gDLen (aD rowD (mk (M ++ [y]))) = some (.z (.int ((M.length + 1 : Nat) : Int))) := by
    unfold gDLen
    rw [if_pos (by simp; omega)]
    simp
  have hm : ¬ (2000 : Int) < ((M.length + 1 : Nat) : Int) := by omega
  generalize ((M.length + 1 : Nat) : Int) = N at *
  generalize aD rowD (mk (M ++ [y])) = U' at *
  generalize aD rowD (mk M) = U at *
  simp [inB, m_want_at_most, defM, startE, backs, sSeq, sSet, setSl, sRetN, sNx, sIf, sDrop, sAsg, bV, truth, mC, mZ, mF, mCB, mCD, mBin, mBM, mDR, mCallD, callM, takeT, putT, slotsOf, nodupB, oN, oE, aNil, aCons, slotT, Arg.get, Arg.raw, gets, zs, T.data, gN, gSD, gGt, bo, gAppend, nin, set, ln, hm, show W.length < 100000 by omega]
theorem e_in (P m c4 c5 : Option T) {S : List (List Int)} (hS : S.length ≤ 40) (dn M W ys : List (List Int)) (c7 : Option T) (I : AInv S dn M W) (hy : ∀ y ∈ ys, y ∈ S) :
    ∃ (M' W' : List (List Int)) (c7' : Option T), l_all_ends_1 [P, m, some (.dc (aD rowD (mk M))), some (.l (W.map rowD)), c4, c5, some (.z (.list (ys.map rowD))), c7] = some (.nx, [P, m, some (.dc (aD rowD (mk M'))), some (.l (W'.map rowD)), c4, c5, some (.z (.list (ys.map rowD))), c7']) ∧ AInv S dn M' W' ∧ (∀ y ∈ ys, y ∈ M') ∧ ∀ y ∈ M, y ∈ M' := by
  obtain ⟨f, ρ', e, rfl, M', W', c7', rfl, h1, h2, h3⟩ := sFor_rel (mi := iV (mZ 6)) (mg := gN 7) (mb := inB) (ρ := [P, m, some (.dc (aD rowD (mk M))), some (.l (W.map rowD)), c4, c5, some (.z (.list (ys.map rowD))), c7]) (ρ1 := [P, m, some (.dc (aD rowD (mk M))), some (.l (W.map rowD)), c4, c5, some (.z (.list (ys.map rowD))), c7]) (ds := ys.map rowD)
    (fun ds ρ => ∃ (M' W' : List (List Int)) (c7' : Option T) (zs : List (List Int)), ds = zs.map rowD ∧ ρ = [P, m, some (.dc (aD rowD (mk M'))), some (.l (W'.map rowD)), c4, c5, some (.z (.list (ys.map rowD))), c7'] ∧ AInv S dn M' W' ∧ (∀ y ∈ ys, y ∈ M' ∨ y ∈ zs) ∧ (∀ y ∈ M, y ∈ M') ∧ ∀ y ∈ zs, y ∈ S)
    (fun f ρ => f = .nx ∧ ∃ (M' W' : List (List Int)) (c7' : Option T), ρ = [P, m, some (.dc (aD rowD (mk M'))), some (.l (W'.map rowD)), c4, c5, some (.z (.list (ys.map rowD))), c7'] ∧ AInv S dn M' W' ∧ (∀ y ∈ ys, y ∈ M') ∧ ∀ y ∈ M, y ∈ M')
    (by rfl)
    ⟨M, W, c7, ys, rfl, rfl, I, fun y h => .inr h, fun y h => h, hy⟩
    (by
      rintro ρ ⟨M', W', c7', zs, e, rfl, h1, h2, h3, h4⟩
      have : zs = [] := by simpa using e.symm
      subst this
      exact ⟨rfl, M', W', c7', rfl, h1, fun y hy => (h2 y hy).resolve_right (by simp), h3⟩)
    (by
      rintro d ds ρ ⟨M', W', c7', zs, e, rfl, h1, h2, h3, h4⟩
      cases zs with
      | nil => cases e
      | cons z zs =>
        rw [List.map_cons] at e
        injection e with e1 e2
        subst e1 e2
        by_cases h : z ∈ M'
        · refine ⟨_, _, e_inB_old P m c4 c5 _ c7' M' (W'.map rowD) z h, M', W', _, zs, rfl, rfl, h1, fun y hy => ?_, h3, fun y hy => h4 y (List.mem_cons_of_mem _ hy)⟩
          rcases h2 y hy with q | q
          · exact .inl q
          · rcases List.mem_cons.mp q with rfl | q
            · exact .inl h
            · exact .inr q
        · have l1 : M'.length ≤ S.length := nodup_len h1.nm h1.ss
          have l2 : W'.length ≤ S.length := nodup_len (List.nodup_append.mp h1.nd).2.1 fun x hx => h1.ss x ((h1.mm x).mpr (.inr hx))
          have e := e_inB_new P m c4 c5 (some (.z (.list (ys.map rowD)))) c7' M' (W'.map rowD) z h (by omega) (by simp; omega)
          refine ⟨_, _, e, M' ++ [z], W' ++ [z], _, zs, rfl, by rw [List.map_append]; rfl, h1.add h (h4 z (List.mem_cons_self ..)), fun y hy => ?_, fun y hy => List.mem_append_left _ (h3 y hy), fun y hy => h4 y (List.mem_cons_of_mem _ hy)⟩
          rcases h2 y hy with q | q
          · exact .inl (List.mem_append_left _ q)
          · rcases List.mem_cons.mp q with rfl | q
            · exact .inl (List.mem_append_right _ (List.mem_singleton_self _))
            · exact .inr q)
  exact ⟨M', W', c7', e, h1, h2, h3⟩
end My

set_option Elab.async false
set_option maxRecDepth 100000
set_option linter.all false
set_option maxHeartbeats 1000000
namespace My
open PySem VL
def aeBody : MS := (sSeq
    (sSet 5 (mBM 3 gPop aNil))
    (sSeq
    (sSet 6 (mCallD m_all_led [false, false] [] (aCons (oE (mZ 0)) (aCons (oE (mZ 5)) aNil))))
    (sSeq
    (sIf (bV (mBin gEq (oN 6) (oE (mLst aNil)))) (sDrop (mBM 4 gAppend (aCons (oE (mZ 5)) aNil))) sNx)
    l_all_ends_1)))
theorem gEq_irr (ps : List Pr) (x : List Int) : gEq (.list ((nxt ps x).map rowD)) (.list []) = bo (irr ps x) := gEq_rows (nxt ps x) []
theorem e_thaw (P m c2 c3 c4 c5 c7 : Option T) (ds : List D) : l_all_ends_1 [P, m, c2, c3, c4, c5, some (.l ds), c7] = l_all_ends_1 [P, m, c2, c3, c4, c5, some (.z (.list ds)), c7] := by rfl
theorem e_aeBody {w : List Int} {ps : List Pr} (hr : ∀ p ∈ ps, Rl w p) (hw : 1 ≤ w.length) (m c5 c6 c7 : Option T) {S : List (List Int)} (hS : S.length ≤ 40) (hb : ∀ x ∈ S, Bd 83 w.length x) (hc : ∀ x ∈ S, ∀ y ∈ nxt ps x, y ∈ S) (dn M W : List (List Int)) (x : List Int) (I : AInv S dn M (W ++ [x])) :
    ∃ (M' W' : List (List Int)) (c5' c6' c7' : Option T), aeBody [some (.z (.tuple (ps.map prD))), m, some (.dc (aD rowD (mk M))), some (.l (W.map rowD ++ [rowD x])), some (.l ((dn.filter (irr ps)).map rowD)), c5, c6, c7] = some (.nx, [some (.z (.tuple (ps.map prD))), m, some (.dc (aD rowD (mk M'))), some (.l (W'.map rowD)), some (.l (((dn ++ [x]).filter (irr ps)).map rowD)), c5', c6', c7']) ∧ AInv S (dn ++ [x]) M' W' ∧ (∀ y ∈ nxt ps x, y ∈ M') ∧ ∀ y ∈ M, y ∈ M' := by
  have hx : x ∈ S := I.ss x ((I.mm x).mpr (.inr (List.mem_append_right _ (List.mem_singleton_self x))))
  have I' : AInv S (dn ++ [x]) M W := by
    refine ⟨?_, fun y => ?_, I.nm, I.ss⟩
    · have : (dn ++ [x] ++ W).Perm (dn ++ (W ++ [x])) := by
        rw [List.append_assoc]
        exact List.Perm.append_left _ List.perm_append_comm
      exact this.nodup_iff.mpr I.nd
    · rw [I.mm, List.mem_append, List.mem_append, or_assoc, or_comm (a := y ∈ W)]
  obtain ⟨M', W', c7', e1, h1, h2, h3⟩ := e_in (some (.z (.tuple (ps.map prD)))) m (some (.l (((dn ++ [x]).filter (irr ps)).map rowD))) (rz x) hS (dn ++ [x]) M W (nxt ps x) c7 I' (hc x hx)
  refine ⟨M', W', rz x, some (.z (.list ((nxt ps x).map rowD))), c7', ?_, h1, h2, h3⟩
  have e2 := e_all_led hr hw (hb x hx)
  have e3 := gEq_irr ps x
  have e4 := gPop_last (W.map rowD) (rowD x)
  have dl : dn.length ≤ S.length := nodup_len (List.nodup_append.mp I.nd).1 fun y hy => I.ss y ((I.mm y).mpr (.inl hy))
  have fl : ((dn.filter (irr ps)).map rowD).length < 100000 := by
    rw [List.length_map]
    have := List.length_filter_le (irr ps) dn
    omega
  cases q : irr ps x with
  | true =>
    have ef : ((dn ++ [x]).filter (irr ps)).map rowD = (dn.filter (irr ps)).map rowD ++ [rowD x] := by simp [List.filter_append, q]
    rw [q] at e3
    rw [ef] at e1 ⊢
    generalize W.map rowD ++ [rowD x] = WW at *
    generalize aD rowD (mk M') = U' at *
    generalize aD rowD (mk M) = U at *
    generalize W'.map rowD = V' at *
    generalize W.map rowD = V at *
    generalize (dn.filter (irr ps)).map rowD = F at *
    generalize (nxt ps x).map rowD = N at *
    generalize ps.map prD = P at *
    simp [aeBody, defM, startE, backs, sSeq, sSet, setSl, sRetN, sNx, sIf, sDrop, bV, truth, mC, mZ, mF, mCB, mBin, mBM, mLst, mCallD, callM, takeT, putT, slotsOf, nodupB, oN, oE, aNil, aCons, slotT, Arg.get, Arg.raw, gets, zs, T.data, bo, gAppend, e2, e3, e4, fl, e_thaw, e1]
  | false =>
    have ef : ((dn ++ [x]).filter (irr ps)).map rowD = (dn.filter (irr ps)).map rowD := by simp [List.filter_append, q]
    rw [q] at e3
    rw [ef] at e1 ⊢
    generalize W.map rowD ++ [rowD x] = WW at *
    generalize aD rowD (mk M') = U' at *
    generalize aD rowD (mk M) = U at *
    generalize W'.map rowD = V' at *
    generalize W.map rowD = V at *
    generalize (dn.filter (irr ps)).map rowD = F at *
    generalize (nxt ps x).map rowD = N at *
    generalize ps.map prD = P at *
    simp [aeBody, defM, startE, backs, sSeq, sSet, setSl, sRetN, sNx, sIf, sDrop, bV, truth, mC, mZ, mF, mCB, mBin, mBM, mLst, mCallD, callM, takeT, putT, slotsOf, nodupB, oN, oE, aNil, aCons, slotT, Arg.get, Arg.raw, gets, zs, T.data, bo, gAppend, e2, e3, e4, fl, e_thaw, e1]
theorem e_ae_loop {w m : List Int} {ps : List Pr} (hr : ∀ p ∈ ps, Rl w p) (hw : 1 ≤ w.length) {S : List (List Int)} (R : Reach ps w.length m S) :
    ∃ (dn : List (List Int)) (M c5 c6 c7 : Option T), l_all_ends_2 [some (.z (.tuple (ps.map prD))), rz m, some (.dc (aD rowD (mk [m]))), some (.l [rowD m]), some (.l []), none, none, none] = some (.nx, [some (.z (.tuple (ps.map prD))), rz m, M, some (.l []), some (.l ((dn.filter (irr ps)).map rowD)), c5, c6, c7]) ∧ dn.Perm S := by
  have test : ∀ (P m M : Option T) (W : List D) (F c5 c6 c7 : Option T), (bT (oN 3)) [P, m, M, some (.l W), F, c5, c6, c7] = some (!W.isEmpty, [P, m, M, some (.l W), F, c5, c6, c7]) := by
    intro P m M W F c5 c6 c7
    cases W <;> simp [bT, oN, slotT, Arg.get, isT, truth, T.data]
  obtain ⟨f, ρ', e, rfl, dn, M, c5, c6, c7, rfl, hp⟩ := wh_rel (n := bT (oN 3)) (m := aeBody)
    (fun k ρ => ∃ (dn M W : List (List Int)) (c5 c6 c7 : Option T), AInv S dn M W ∧ m ∈ M ∧ (∀ x ∈ dn, ∀ y ∈ nxt ps x, y ∈ M) ∧ k + dn.length = 41 ∧ ρ = [some (.z (.tuple (ps.map prD))), rz m, some (.dc (aD rowD (mk M))), some (.l (W.map rowD)), some (.l ((dn.filter (irr ps)).map rowD)), c5, c6, c7])
    (fun f ρ => f = .nx ∧ ∃ (dn : List (List Int)) (M c5 c6 c7 : Option T), ρ = [some (.z (.tuple (ps.map prD))), rz m, M, some (.l []), some (.l ((dn.filter (irr ps)).map rowD)), c5, c6, c7] ∧ dn.Perm S)
    (by
      rintro k ρ ⟨dn, M, W, c5, c6, c7, I, hm, hc, hk, rfl⟩
      refine ⟨_, _, test _ _ _ _ _ _ _ _, ?_⟩
      rcases List.eq_nil_or_concat W with rfl | ⟨W, x, rfl⟩
      · refine ⟨rfl, dn, _, c5, c6, c7, rfl, perm_of (by have := I.nd; simpa using this) R.nd fun x => ⟨fun h => I.ss x ((I.mm x).mpr (.inl h)), fun h => R.mn (· ∈ dn) ⟨?_, fun x hx y hy => ?_⟩ x h⟩⟩
        · exact ((I.mm m).mp hm).resolve_right (by simp)
        · exact ((I.mm y).mp (hc x hx y hy)).resolve_right (by simp)
      · rw [List.concat_eq_append] at *
        have ne : (!((W ++ [x]).map rowD).isEmpty) = true := by simp
        have em : (W ++ [x]).map rowD = W.map rowD ++ [rowD x] := by simp
        rw [ne, em]
        obtain ⟨M', W', c5', c6', c7', e, I', h2, h3⟩ := e_aeBody hr hw (rz m) c5 c6 c7 R.len R.bd (fun x hx y hy => R.cl.2 x hx y hy) dn M W x I
        have dl : (dn ++ [x]).length ≤ S.length := nodup_len (List.nodup_append.mp I'.nd).1 fun y hy => I'.ss y ((I'.mm y).mpr (.inl hy))
        have sl := R.len
        have d1 : (dn ++ [x]).length = dn.length + 1 := by simp
        refine ⟨_, _, e, k - 1, by omega, dn ++ [x], M', W', c5', c6', c7', I', h3 m hm, fun z hz y hy => ?_, by omega, rfl⟩
        rcases List.mem_append.mp hz with hz | hz
        · exact h3 y (hc z hz y hy)
        · rw [List.mem_singleton] at hz; subst hz; exact h2 y hy)
    1000000 41 _ (by omega) ⟨[], [m], [m], none, none, none, ⟨by simp, fun x => by simp, by simp, fun x hx => by rw [List.mem_singleton] at hx; rw [hx]; exact R.cl.1⟩, List.mem_singleton_self m, fun x hx => by (cases hx), rfl, rfl⟩
  exact ⟨dn, M, c5, c6, c7, e, hp⟩
theorem e_all_ends {w m : List Int} {ps : List Pr} (hr : ∀ p ∈ ps, Rl w p) (hw : 1 ≤ w.length) {S : List (List Int)} (R : Reach ps w.length m S) :
    m_all_ends [.z (.tuple (ps.map prD)), .z (rowD m)] = some (.l ((sortI (S.filter (irr ps))).map rowD), [some (.z (.tuple (ps.map prD))), rz m]) := by
  obtain ⟨dn, M, c5, c6, c7, e, hp⟩ := e_ae_loop hr hw R
  have kc : kcls (rowD m) = some true := rowKey.cls m
  have e0 : l_all_ends_2 [some (.z (.tuple (ps.map prD))), rz m, some (.dc [(rowD m, .bool true)]), some (.l [rowD m]), some (.l []), none, none, none] = _ := e
  have fl := List.length_filter_le (irr ps) dn
  have hl := R.len
  have pl := hp.length_eq
  have e2 := sorted_rows (dn.filter (irr ps)) (fun r hr => (R.bd r (hp.mem_iff.mp (List.mem_filter.mp hr).1)).ne hw) (by omega)
  rw [sortI_perm (hp.filter (irr ps))] at e2
  generalize (sortI (S.filter (irr ps))).map rowD = Z at *
  generalize (dn.filter (irr ps)).map rowD = F at *
  generalize ps.map prD = P at *
  have e0' : l_all_ends_2 [some (.z (.tuple P)), rz m, some (.dc [(rowD m, .bool true)]), some (.l [rowD m]), some (.l []), none, none, none] = some (.nx, [some (.z (.tuple P)), rz m, M, some (.l []), some (.l F), c5, c6, c7]) := e0
  clear e0 e
  simp [m_all_ends, defM, startE, backs, sSeq, sSet, setSl, sRet, sRetN, sNx, sBk, sCt, sNo, sIf, sDrop, sPar, sPar3, sAsg, sFor, bV, bT, bAnd, bOr, bNot, truth, mAnd, mOr, mNot, mIf, mC, mZ, mM, mF, mTup, mLst, mCB, mBin, mUn, mChain, mIsi, mIsi2, mSl, mPt, mLC, mBM, mCallD, mCallK, callM, takeT, putT, slotsOf, nodupB, valsZ, gk, oN, oE, aNil, aCons, slotT, Arg.get, gets, zs, T.data, gN, gsC, gs0, gT, gS, iV, iZ, iR, seqOf, wipeE, restE, gAdd, gSub, gMul, gFdiv, gMod, gPow, gNeg, gLt, gGt, gLe, gGe, gEq, gNe, gIs, gIsN, isNon, gIx, L2.atI, L2.ixN, gLen, gTup, gLst, gSum, gAll, gAny, gAbs, gMax2, gMin2, gDivmod, gInt, gGcd, isT, gAppend, gInsert, gPop, zip2D, zip3D, enumD, gSl, mRev, gRev, mSS, gSS, gMax, gMin, gMaxS, gMinS, gIn, gNin, mExt, mDR, mDL, mCD, gDLen, gDLst, mD0, mD1, gSD, Arg.raw, mFD, mTD, iFD, sForN, mLCN, iNm, kc, e0', e2]
end My

set_option Elab.async false
set_option maxRecDepth 100000
set_option linter.all false
set_option maxHeartbeats 1000000
namespace My
open PySem VL
structure Rg (w : List Int) (ps : List Pr) : Prop where
  gw : Gw w
  sm : Sm w
  rl : ∀ p ∈ ps, Rl w p
  len : ps.length ≤ 5
  pw : ps.Pairwise fun a b => ltP a b = true
theorem Bd.okM {k : Int} {n : Nat} {r : List Int} (h : Bd k n r) (hk : k ≤ 20000) : okM n r = true := by
  unfold My.okM
  rw [Bool.and_eq_true, List.all_eq_true]
  refine ⟨fun x hx => ?_, decide_eq_true h.len⟩
  have := h.bnd x hx
  unfold cnt
  simp
  omega
theorem e_want_rules {w : List Int} {ps : List Pr} (g : Rg w ps) : m_want_rules [.z (ordD w), .z (.tuple (ps.map prD))] = some (.z (.tuple (ps.map prD)), [some (.z (ordD w)), some (.z (.tuple (ps.map prD)))]) := by
  have e := e_are_rules w g.sm ps (by have := g.len; omega) (fun p hp => by
    have q := g.rl p hp
    unfold isR
    rw [q.a.okM (by omega), q.b.okM (by omega), q.lt]; rfl) g.pw
  generalize ps.map prD = P at *
  simp [m_want_rules, defM, startE, backs, sSeq, sSet, setSl, sRet, sRetN, sNx, sBk, sCt, sNo, sIf, sDrop, sPar, sPar3, sAsg, sFor, bV, bT, bAnd, bOr, bNot, truth, mAnd, mOr, mNot, mIf, mC, mZ, mM, mF, mTup, mLst, mCB, mBin, mUn, mChain, mIsi, mIsi2, mSl, mPt, mLC, mBM, mCallD, mCallK, callM, takeT, putT, slotsOf, nodupB, valsZ, gk, oN, oE, aNil, aCons, slotT, Arg.get, gets, zs, T.data, gN, gsC, gs0, gT, gS, iV, iZ, iR, seqOf, wipeE, restE, gAdd, gSub, gMul, gFdiv, gMod, gPow, gNeg, gLt, gGt, gLe, gGe, gEq, gNe, gIs, gIsN, isNon, gIx, L2.atI, L2.ixN, gLen, gTup, gLst, gSum, gAll, gAny, gAbs, gMax2, gMin2, gDivmod, gInt, gGcd, isT, gAppend, gInsert, gPop, zip2D, zip3D, enumD, gSl, mRev, gRev, mSS, gSS, gMax, gMin, gMaxS, gMinS, gIn, gNin, mExt, mDR, mDL, mCD, gDLen, gDLst, mD0, mD1, gSD, Arg.raw, mFD, mTD, iFD, sForN, mLCN, iNm, e]
theorem e_want_led {w : List Int} {ps : List Pr} (g : Rg w ps) {k : Int} {r : List Int} (hb : Bd k w.length r) (hk : k ≤ 20000) : m_want_led [.z (ordD w), .z (.tuple (ps.map prD)), .z (rowD r)] = some (.z .none, [some (.z (ordD w)), some (.z (.tuple (ps.map prD))), rz r]) := by
  have e1 := e_want_order w g.gw
  have e2 := e_want_rules g
  have e3 := e_want_monomial w.length r (hb.okM hk)
  generalize ps.map prD = P at *
  simp [m_want_led, defM, startE, backs, sSeq, sSet, setSl, sRet, sRetN, sNx, sBk, sCt, sNo, sIf, sDrop, sPar, sPar3, sAsg, sFor, bV, bT, bAnd, bOr, bNot, truth, mAnd, mOr, mNot, mIf, mC, mZ, mM, mF, mTup, mLst, mCB, mBin, mUn, mChain, mIsi, mIsi2, mSl, mPt, mLC, mBM, mCallD, mCallK, callM, takeT, putT, slotsOf, nodupB, valsZ, gk, oN, oE, aNil, aCons, slotT, Arg.get, gets, zs, T.data, gN, gsC, gs0, gT, gS, iV, iZ, iR, seqOf, wipeE, restE, gAdd, gSub, gMul, gFdiv, gMod, gPow, gNeg, gLt, gGt, gLe, gGe, gEq, gNe, gIs, gIsN, isNon, gIx, L2.atI, L2.ixN, gLen, gTup, gLst, gSum, gAll, gAny, gAbs, gMax2, gMin2, gDivmod, gInt, gGcd, isT, gAppend, gInsert, gPop, zip2D, zip3D, enumD, gSl, mRev, gRev, mSS, gSS, gMax, gMin, gMaxS, gMinS, gIn, gNin, mExt, mDR, mDL, mCD, gDLen, gDLst, mD0, mD1, gSD, Arg.raw, mFD, mTD, iFD, sForN, mLCN, iNm, e1, e2, e3]
theorem e_path_of {w : List Int} {ps : List Pr} (g : Rg w ps) {r : List Int} {l : List (List Int)} (h : Pt ps w.length r l) (hl : l.length ≤ 40) (hb : Bd 83 w.length r) : m_path_of [.z (ordD w), .z (.tuple (ps.map prD)), .z (rowD r)] = some (.l (l.map rowD), [some (.z (ordD w)), some (.z (.tuple (ps.map prD))), rz r]) := by
  have e1 := e_want_led g hb (by omega)
  have e2 := e_path_by g.rl g.gw.2.1 h hl
  generalize l.map rowD = L at *
  generalize ps.map prD = P at *
  generalize ordD w = O at *
  simp [m_path_of, defM, startE, backs, sSeq, sSet, setSl, sRet, sRetN, sNx, sBk, sCt, sNo, sIf, sDrop, sPar, sPar3, sAsg, sFor, bV, bT, bAnd, bOr, bNot, truth, mAnd, mOr, mNot, mIf, mC, mZ, mM, mF, mTup, mLst, mCB, mBin, mUn, mChain, mIsi, mIsi2, mSl, mPt, mLC, mBM, mCallD, mCallK, callM, takeT, putT, slotsOf, nodupB, valsZ, gk, oN, oE, aNil, aCons, slotT, Arg.get, gets, zs, T.data, gN, gsC, gs0, gT, gS, iV, iZ, iR, seqOf, wipeE, restE, gAdd, gSub, gMul, gFdiv, gMod, gPow, gNeg, gLt, gGt, gLe, gGe, gEq, gNe, gIs, gIsN, isNon, gIx, L2.atI, L2.ixN, gLen, gTup, gLst, gSum, gAll, gAny, gAbs, gMax2, gMin2, gDivmod, gInt, gGcd, isT, gAppend, gInsert, gPop, zip2D, zip3D, enumD, gSl, mRev, gRev, mSS, gSS, gMax, gMin, gMaxS, gMinS, gIn, gNin, mExt, mDR, mDL, mCD, gDLen, gDLst, mD0, mD1, gSD, Arg.raw, mFD, mTD, iFD, sForN, mLCN, iNm, e1, e2]
theorem e_end_of {w : List Int} {ps : List Pr} (g : Rg w ps) {r z : List Int} {l pre : List (List Int)} (h : Pt ps w.length r l) (hl : l.length ≤ 40) (hb : Bd 83 w.length r) (e : l = pre ++ [z]) : m_end_of [.z (ordD w), .z (.tuple (ps.map prD)), .z (rowD r)] = some (.z (rowD z), [some (.z (ordD w)), some (.z (.tuple (ps.map prD))), rz r]) := by
  have e1 := e_want_led g hb (by omega)
  have e2 := e_end_by g.rl g.gw.2.1 h hl e
  generalize ps.map prD = P at *
  generalize ordD w = O at *
  simp [m_end_of, defM, startE, backs, sSeq, sSet, setSl, sRet, sRetN, sNx, sBk, sCt, sNo, sIf, sDrop, sPar, sPar3, sAsg, sFor, bV, bT, bAnd, bOr, bNot, truth, mAnd, mOr, mNot, mIf, mC, mZ, mM, mF, mTup, mLst, mCB, mBin, mUn, mChain, mIsi, mIsi2, mSl, mPt, mLC, mBM, mCallD, mCallK, callM, takeT, putT, slotsOf, nodupB, valsZ, gk, oN, oE, aNil, aCons, slotT, Arg.get, gets, zs, T.data, gN, gsC, gs0, gT, gS, iV, iZ, iR, seqOf, wipeE, restE, gAdd, gSub, gMul, gFdiv, gMod, gPow, gNeg, gLt, gGt, gLe, gGe, gEq, gNe, gIs, gIsN, isNon, gIx, L2.atI, L2.ixN, gLen, gTup, gLst, gSum, gAll, gAny, gAbs, gMax2, gMin2, gDivmod, gInt, gGcd, isT, gAppend, gInsert, gPop, zip2D, zip3D, enumD, gSl, mRev, gRev, mSS, gSS, gMax, gMin, gMaxS, gMinS, gIn, gNin, mExt, mDR, mDL, mCD, gDLen, gDLst, mD0, mD1, gSD, Arg.raw, mFD, mTD, iFD, sForN, mLCN, iNm, e1, e2]
theorem e_ends {w m : List Int} {ps : List Pr} (g : Rg w ps) {S : List (List Int)} (R : Reach ps w.length m S) : m_ends_in_some_way [.z (ordD w), .z (.tuple (ps.map prD)), .z (rowD m)] = some (.l ((sortI (S.filter (irr ps))).map rowD), [some (.z (ordD w)), some (.z (.tuple (ps.map prD))), rz m]) := by
  have e1 := e_want_led g (R.bd m R.cl.1) (by omega)
  have e2 := e_all_ends g.rl g.gw.2.1 R
  generalize (sortI (S.filter (irr ps))).map rowD = L at *
  generalize ps.map prD = P at *
  generalize ordD w = O at *
  simp [m_ends_in_some_way, defM, startE, backs, sSeq, sSet, setSl, sRet, sRetN, sNx, sBk, sCt, sNo, sIf, sDrop, sPar, sPar3, sAsg, sFor, bV, bT, bAnd, bOr, bNot, truth, mAnd, mOr, mNot, mIf, mC, mZ, mM, mF, mTup, mLst, mCB, mBin, mUn, mChain, mIsi, mIsi2, mSl, mPt, mLC, mBM, mCallD, mCallK, callM, takeT, putT, slotsOf, nodupB, valsZ, gk, oN, oE, aNil, aCons, slotT, Arg.get, gets, zs, T.data, gN, gsC, gs0, gT, gS, iV, iZ, iR, seqOf, wipeE, restE, gAdd, gSub, gMul, gFdiv, gMod, gPow, gNeg, gLt, gGt, gLe, gGe, gEq, gNe, gIs, gIsN, isNon, gIx, L2.atI, L2.ixN, gLen, gTup, gLst, gSum, gAll, gAny, gAbs, gMax2, gMin2, gDivmod, gInt, gGcd, isT, gAppend, gInsert, gPop, zip2D, zip3D, enumD, gSl, mRev, gRev, mSS, gSS, gMax, gMin, gMaxS, gMinS, gIn, gNin, mExt, mDR, mDL, mCD, gDLen, gDLst, mD0, mD1, gSD, Arg.raw, mFD, mTD, iFD, sForN, mLCN, iNm, e1, e2]
theorem e_have {w : List Int} {ps : List Pr} (g : Rg w ps) {r z r2 z2 : List Int} {l pre l2 pre2 : List (List Int)} (h : Pt ps w.length r l) (hl : l.length ≤ 40) (hb : Bd 83 w.length r) (e : l = pre ++ [z]) (h2 : Pt ps w.length r2 l2) (hl2 : l2.length ≤ 40) (hb2 : Bd 83 w.length r2) (e' : l2 = pre2 ++ [z2]) :
    m_have_one_end [.z (ordD w), .z (.tuple (ps.map prD)), .z (rowD r), .z (rowD r2)] = some (.z (.bool (decide (z = z2))), [some (.z (ordD w)), some (.z (.tuple (ps.map prD))), rz r, rz r2]) := by
  have e1 := e_want_led g hb (by omega)
  have e2 := e_end_by g.rl g.gw.2.1 h hl e
  have e3 := e_end_by g.rl g.gw.2.1 h2 hl2 e'
  have e4 := e_want_monomial w.length r2 (hb2.okM (by omega))
  have e5 := eq_row z z2
  generalize ps.map prD = P at *
  generalize rowD z = Z at *
  generalize rowD z2 = Z2 at *
  simp [m_have_one_end, defM, startE, backs, sSeq, sSet, setSl, sRet, sDrop, mC, mZ, mF, mCB, mBin, mCallD, callM, takeT, putT, slotsOf, nodupB, oN, oE, aNil, aCons, slotT, Arg.get, gets, zs, T.data, gIx, L2.atI, L2.ixN, gLen, io, bo, e1, e2, e3, e4, e5]
theorem Pt.pw {w : List Int} {ps : List Pr} (hr : ∀ p ∈ ps, Rl w p) {r : List Int} {l : List (List Int)} (h : Pt ps w.length r l) : l.Pairwise (fun a b => ltI (fk w b) (fk w a) = true) ∧ (∀ x ∈ l, x = r ∨ ltI (fk w x) (fk w r) = true) ∧ (∀ x ∈ l, Bd 83 w.length x) ∧ l ≠ [] := by
  induction h with
  | stop hb f => exact ⟨by simp, fun x hx => .inl (List.mem_singleton.mp hx), fun x hx => by rw [List.mem_singleton.mp hx]; exact hb, by simp⟩
  | go hb f k ih =>
    have lt := nxt_lt hr hb (fst_nxt f)
    have h5 : ∀ x ∈ _, ltI (fk w x) (fk w _) = true := fun x hx => by
      rcases ih.2.1 x hx with e | e
      · rw [e]; exact lt
      · exact ltI_trans _ _ _ e lt
    refine ⟨List.pairwise_cons.mpr ⟨h5, ih.1⟩, fun x hx => ?_, fun x hx => ?_, by simp⟩
    · rcases List.mem_cons.mp hx with rfl | hx
      · exact .inl rfl
      · exact .inr (h5 x hx)
    · rcases List.mem_cons.mp hx with rfl | hx
      · exact hb
      · exact ih.2.2.1 x hx
theorem okShow_rows {n : Nat} {l : List (List Int)} (hn : n ≤ 40) (hl : l.length ≤ 100) (h : ∀ x ∈ l, Bd 83 n x) : okShow (.list (l.map rowD)) = true := by
  refine okShow_of (n := 2) (okD_rows (n := 0) fun r hr a ha => by have := (h r hr).bnd a ha; omega).1 (by omega) ?_
  have := bulkAll_rows (rs := l) (k := 40) fun r hr => by rw [(h r hr).len]; exact hn
  have e : PyData.bulk (.list (l.map rowD)) = PyData.bulkAll (l.map rowD) := rfl
  rw [e]
  omega
theorem cutD_m1 (ds : List D) (d : D) : cutD (ds ++ [d]) (some (-1)) none = [d] := by
  have e1 : HT.sIx (ds ++ [d]).length 0 (some (-1)) = ds.length := by
    unfold HT.sIx
    simp
    try omega
  have e2 : HT.sIx (ds ++ [d]).length (ds ++ [d]).length none = (ds ++ [d]).length := rfl
  unfold cutD
  rw [e1, e2]
  simp
end My

set_option Elab.async false
set_option maxRecDepth 100000
set_option linter.all false
set_option maxHeartbeats 1000000
namespace My
open PySem VL
abbrev oE' (a b : Int) (w : List Int) (ps : List Pr) (m : List Int) (c4 c5 c6 : Option T) : VL.Env := [po a b, some (.z (ordD w)), some (.z (.tuple (ps.map prD))), rz m, c4, c5, c6, none, none]
section
variable {w m : List Int} {ps : List Pr} {l pre : List (List Int)} {z : List Int}
theorem o_1 (a b : Int) (h : Pt ps w.length m l) (hl : l.length ≤ 40) : k_L_one_right_1 (oE' a b w ps m none none none) = some (.nx, oE' a b w ps m (some (.l (l.map rowD))) none none) := by
  have e := e_L_path h hl
  (try unfold oE' at *)
  generalize l.map rowD = L at *
  generalize ps.map prD = P at *
  simp [k_L_one_right_1, defM, startE, backs, sSeq, sSet, setSl, sRet, sRetN, sNx, sBk, sCt, sNo, sIf, sDrop, sPar, sPar3, sAsg, sFor, bV, bT, bAnd, bOr, bNot, truth, mAnd, mOr, mNot, mIf, mC, mZ, mM, mF, mTup, mLst, mCB, mBin, mUn, mChain, mIsi, mIsi2, mSl, mPt, mLC, mBM, mCallD, mCallK, callM, takeT, putT, slotsOf, nodupB, valsZ, gk, oN, oE, aNil, aCons, slotT, Arg.get, gets, zs, T.data, gN, gsC, gs0, gT, gS, iV, iZ, iR, seqOf, wipeE, restE, gAdd, gSub, gMul, gFdiv, gMod, gPow, gNeg, gLt, gGt, gLe, gGe, gEq, gNe, gIs, gIsN, isNon, gIx, L2.atI, L2.ixN, gLen, gTup, gLst, gSum, gAll, gAny, gAbs, gMax2, gMin2, gDivmod, gInt, gGcd, isT, gAppend, gInsert, gPop, zip2D, zip3D, enumD, gSl, mRev, gRev, mSS, gSS, gMax, gMin, gMaxS, gMinS, gIn, gNin, mExt, mDR, mDL, mCD, gDLen, gDLst, mD0, mD1, gSD, Arg.raw, mFD, mTD, iFD, sForN, mLCN, iNm, e]
theorem o_2 (a b : Int) (g : Rg w ps) (h : Pt ps w.length m l) (hl : l.length ≤ 40) (hb : Bd 83 w.length m) (c4 : Option T) : ∃ a' b', k_L_one_right_2 (oE' a b w ps m c4 none none) = some (.nx, oE' a' b' w ps m c4 (some (.l (l.map rowD))) none) := by
  have e := e_path_of g h hl hb
  obtain ⟨d, a1, b1, d0, d1, e1⟩ := e_draw a b 2 (by decide)
  refine ⟨a1, b1, ?_⟩
  unfold oE'
  generalize l.map rowD = L at *
  generalize ps.map prD = P at *
  generalize ordD w = O at *
  by_cases q : d = 0
  · simp [k_L_one_right_2, defM, startE, backs, sSeq, sSet, setSl, sRet, sRetN, sNx, sBk, sCt, sNo, sIf, sDrop, sPar, sPar3, sAsg, sFor, bV, bT, bAnd, bOr, bNot, truth, mAnd, mOr, mNot, mIf, mC, mZ, mM, mF, mTup, mLst, mCB, mBin, mUn, mChain, mIsi, mIsi2, mSl, mPt, mLC, mBM, mCallD, mCallK, callM, takeT, putT, slotsOf, nodupB, valsZ, gk, oN, oE, aNil, aCons, slotT, Arg.get, gets, zs, T.data, gN, gsC, gs0, gT, gS, iV, iZ, iR, seqOf, wipeE, restE, gAdd, gSub, gMul, gFdiv, gMod, gPow, gNeg, gLt, gGt, gLe, gGe, gEq, gNe, gIs, gIsN, isNon, gIx, L2.atI, L2.ixN, gLen, gTup, gLst, gSum, gAll, gAny, gAbs, gMax2, gMin2, gDivmod, gInt, gGcd, isT, gAppend, gInsert, gPop, zip2D, zip3D, enumD, gSl, mRev, gRev, mSS, gSS, gMax, gMin, gMaxS, gMinS, gIn, gNin, mExt, mDR, mDL, mCD, gDLen, gDLst, mD0, mD1, gSD, Arg.raw, mFD, mTD, iFD, sForN, mLCN, iNm, e, e1, q]
  · simp [k_L_one_right_2, defM, startE, backs, sSeq, sSet, setSl, sRet, sRetN, sNx, sBk, sCt, sNo, sIf, sDrop, sPar, sPar3, sAsg, sFor, bV, bT, bAnd, bOr, bNot, truth, mAnd, mOr, mNot, mIf, mC, mZ, mM, mF, mTup, mLst, mCB, mBin, mUn, mChain, mIsi, mIsi2, mSl, mPt, mLC, mBM, mCallD, mCallK, callM, takeT, putT, slotsOf, nodupB, valsZ, gk, oN, oE, aNil, aCons, slotT, Arg.get, gets, zs, T.data, gN, gsC, gs0, gT, gS, iV, iZ, iR, seqOf, wipeE, restE, gAdd, gSub, gMul, gFdiv, gMod, gPow, gNeg, gLt, gGt, gLe, gGe, gEq, gNe, gIs, gIsN, isNon, gIx, L2.atI, L2.ixN, gLen, gTup, gLst, gSum, gAll, gAny, gAbs, gMax2, gMin2, gDivmod, gInt, gGcd, isT, gAppend, gInsert, gPop, zip2D, zip3D, enumD, gSl, mRev, gRev, mSS, gSS, gMax, gMin, gMaxS, gMinS, gIn, gNin, mExt, mDR, mDL, mCD, gDLen, gDLst, mD0, mD1, gSD, Arg.raw, mFD, mTD, iFD, sForN, mLCN, iNm, e, e1, q]
theorem o_34 (a b : Int) (hn : w.length ≤ 40) (hl : l.length ≤ 40) (hx : ∀ x ∈ l, Bd 83 w.length x) (B : MS) : (sSeq k_L_one_right_3 (sSeq k_L_one_right_4 B)) (oE' a b w ps m (some (.l (l.map rowD))) (some (.l (l.map rowD))) none) = B (oE' a b w ps m (some (.l (l.map rowD))) (some (.l (l.map rowD ++ [.none]))) none) := by
  have ok := okShow_rows hn (by omega) hx
  have ll : (l.map rowD).length < 100000 := by simp; omega
  (try unfold oE' at *)
  generalize l.map rowD = L at *
  generalize ps.map prD = P at *
  generalize ordD w = O at *
  simp [k_L_one_right_3, k_L_one_right_4, defM, startE, backs, sSeq, sSet, setSl, sRet, sRetN, sNx, sBk, sCt, sNo, sIf, sDrop, sPar, sPar3, sAsg, sFor, bV, bT, bAnd, bOr, bNot, truth, mAnd, mOr, mNot, mIf, mC, mZ, mM, mF, mTup, mLst, mCB, mBin, mUn, mChain, mIsi, mIsi2, mSl, mPt, mLC, mBM, mCallD, mCallK, callM, takeT, putT, slotsOf, nodupB, valsZ, gk, oN, oE, aNil, aCons, slotT, Arg.get, gets, zs, T.data, gN, gsC, gs0, gT, gS, iV, iZ, iR, seqOf, wipeE, restE, gAdd, gSub, gMul, gFdiv, gMod, gPow, gNeg, gLt, gGt, gLe, gGe, gEq, gNe, gIs, gIsN, isNon, gIx, L2.atI, L2.ixN, gLen, gTup, gLst, gSum, gAll, gAny, gAbs, gMax2, gMin2, gDivmod, gInt, gGcd, isT, gAppend, gInsert, gPop, zip2D, zip3D, enumD, gSl, mRev, gRev, mSS, gSS, gMax, gMin, gMaxS, gMinS, gIn, gNin, mExt, mDR, mDL, mCD, gDLen, gDLst, mD0, mD1, gSD, Arg.raw, mFD, mTD, iFD, sForN, mLCN, iNm, gRepr, ok, str_beq, ll]
theorem o_5 (a b : Int) (g : Rg w ps) (h : Pt ps w.length m l) (hl : l.length ≤ 40) (hb : Bd 83 w.length m) (c5 : Option T) : k_L_one_right_5 (oE' a b w ps m (some (.l (l.map rowD))) c5 none) = some (.nx, oE' a b w ps m (some (.l (l.map rowD))) c5 none) := by
  have e := e_path_of g h hl hb
  have ne : gNe (.list (l.map rowD)) (.list (l.map rowD)) = bo false := by
    have := gEq_rows l l
    show (if SeqAt.shaped (.list (l.map rowD)) = true ∧ SeqAt.shaped (.list (l.map rowD)) = true then bo (!PyData.eqv (.list (l.map rowD)) (.list (l.map rowD))) else none) = _
    have sh := (shaped_map (k := 1) rowD l (fun a _ => shaped_row a) (fun a _ => by rw [depth_rowD]; omega) (by decide)).1
    rw [if_pos ⟨sh, sh⟩]
    have e2 : PyData.eqv (.list (l.map rowD)) (.list (l.map rowD)) = PyData.eqvAll (l.map rowD) (l.map rowD) := by rw [PyData.eqv]
    rw [e2, eqvAll_map rowD eqv_row]; simp
  (try unfold oE' at *)
  generalize l.map rowD = L at *
  generalize ps.map prD = P at *
  generalize ordD w = O at *
  simp [k_L_one_right_5, sIf, sNx, bV, truth, mC, mZ, mBin, mCallD, callM, takeT, putT, slotsOf, nodupB, oN, oE, aNil, aCons, slotT, Arg.get, gets, zs, T.data, setSl, bo, e, ne]
theorem o_6 (a b : Int) (g : Rg w ps) (hx : ∀ x ∈ l, Bd 83 w.length x) (pw : l.Pairwise fun a b => ltI (fk w b) (fk w a) = true) (c5 : Option T) : k_L_one_right_6 (oE' a b w ps m (some (.l (l.map rowD))) c5 none) = some (.nx, oE' a b w ps m (some (.z (.list (l.map rowD)))) c5 none) := by
  have e1 : l_L_one_right_1 (oE' a b w ps m (some (.l (l.map rowD))) c5 none) = some (.l ((l.zip (l.drop 1)).map fun _ => .bool true), oE' a b w ps m (some (.z (.list (l.map rowD)))) c5 none) := by
    rw [l_L_one_right_1, mLC_map (α := List Int × List Int) (g := fun q => .tuple [rowD q.1, rowD q.2]) (f := fun _ => .bool true) (as := l.zip (l.drop 1)) (ρ1 := oE' a b w ps m (some (.z (.list (l.map rowD)))) c5 none)]
    · simp [restE, wipeE, slotT]
    · have zz : List.zipWith (fun (x y : D) => PyData.tuple [x, y]) (l.map rowD) (cutD (l.map rowD) (some 1) none) = (l.zip (l.drop 1)).map fun q => .tuple [rowD q.1, rowD q.2] := by
        rw [cutD_1, zipW_map, ← List.map_drop, List.zip_map, List.map_map]; rfl
      (try unfold oE' at *)
      generalize ordD w = O at *
      generalize ps.map prD = P at *
      generalize hq : (l.zip (l.drop 1)).map (fun q => PyData.tuple [rowD q.1, rowD q.2]) = Q at *
      generalize l.map rowD = L at *
      simp [iZ, zip2D, seqOf, mF, mSl, mPt, mZ, mC, gSl, oN, oE, aNil, aCons, slotT, Arg.get, gets, zs, T.data, zz]
    · rintro ⟨x, y⟩ hq
      have lt := zip_tail_all pw (x, y) hq
      have hx1 := (hx x (List.of_mem_zip hq).1).okM (by omega)
      have hy1 := (hx y (List.mem_of_mem_drop (List.of_mem_zip hq).2)).okM (by omega)
      have ne : x ≠ y := fun z => by
        have lt' : ltI (fk w y) (fk w x) = true := lt
        rw [z, ltI_irr] at lt'; cases lt'
      have e := e_greater w x y g.gw g.sm hx1 hy1 ne
      rw [if_pos lt] at e
      (try unfold oE' at *)
      generalize ordD w = O at *
      generalize ps.map prD = P at *
      generalize l.map rowD = L at *
      simp [defM, startE, backs, sSeq, sSet, setSl, sRet, sRetN, sNx, sBk, sCt, sNo, sIf, sDrop, sPar, sPar3, sAsg, sFor, bV, bT, bAnd, bOr, bNot, truth, mAnd, mOr, mNot, mIf, mC, mZ, mM, mF, mTup, mLst, mCB, mBin, mUn, mChain, mIsi, mIsi2, mSl, mPt, mLC, mBM, mCallD, mCallK, callM, takeT, putT, slotsOf, nodupB, valsZ, gk, oN, oE, aNil, aCons, slotT, Arg.get, gets, zs, T.data, gN, gsC, gs0, gT, gS, iV, iZ, iR, seqOf, wipeE, restE, gAdd, gSub, gMul, gFdiv, gMod, gPow, gNeg, gLt, gGt, gLe, gGe, gEq, gNe, gIs, gIsN, isNon, gIx, L2.atI, L2.ixN, gLen, gTup, gLst, gSum, gAll, gAny, gAbs, gMax2, gMin2, gDivmod, gInt, gGcd, isT, gAppend, gInsert, gPop, zip2D, zip3D, enumD, gSl, mRev, gRev, mSS, gSS, gMax, gMin, gMaxS, gMinS, gIn, gNin, mExt, mDR, mDL, mCD, gDLen, gDLst, mD0, mD1, gSD, Arg.raw, mFD, mTD, iFD, sForN, mLCN, iNm, e]
  have t : ((l.zip (l.drop 1)).map fun _ => true).all id = true := by simp
  have e2 : ((l.zip (l.drop 1)).map fun _ => PyData.bool true) = (((l.zip (l.drop 1)).map fun _ => true).map .bool) := by simp
  rw [e2] at e1
  (try unfold oE' at *)
  generalize (l.zip (l.drop 1)).map (fun _ => true) = M at *
  generalize ordD w = O at *
  generalize ps.map prD = P at *
  generalize l.map rowD = L at *
  simp [k_L_one_right_6, sIf, sNx, bNot, bT, truth, mCB, oE, aNil, aCons, gets, Arg.get, T.data, gAll, bools?_bools, e1, t]
theorem o_7 (a b : Int) (g : Rg w ps) (h : Pt ps w.length m l) (hl : l.length ≤ 40) (hb : Bd 83 w.length m) (e : l = pre ++ [z]) (hz : Bd 83 w.length z) (fz : fst ps z = none) (c5 : Option T) : k_L_one_right_7 (oE' a b w ps m (some (.z (.list (l.map rowD)))) c5 none) = some (.nx, oE' a b w ps m (some (.z (.list (l.map rowD)))) c5 none) := by
  have e1 := e_end_of g h hl hb e
  have e2 := e_path_of g (.stop hz fz) (by simp) hz
  have g1 := gIx_last pre z
  have g2 : cutD ((pre ++ [z]).map rowD) (some (-1)) none = [rowD z] := by rw [List.map_append]; exact cutD_m1 _ _
  have n1 := ne_row z z
  rw [decide_eq_true rfl] at n1
  have n2 : gNe (.list [rowD z]) (.list [rowD z]) = bo false := by
    have sh := (shaped_map (k := 1) rowD [z] (fun a _ => shaped_row a) (fun a _ => by rw [depth_rowD]; omega) (by decide)).1
    show (if SeqAt.shaped (.list ([z].map rowD)) = true ∧ SeqAt.shaped (.list ([z].map rowD)) = true then bo (!PyData.eqv (.list ([z].map rowD)) (.list ([z].map rowD))) else none) = _
    rw [if_pos ⟨sh, sh⟩]
    have e2 : PyData.eqv (.list ([z].map rowD)) (.list ([z].map rowD)) = PyData.eqvAll ([z].map rowD) ([z].map rowD) := by rw [PyData.eqv]
    rw [e2, eqvAll_map rowD eqv_row]; simp
  rw [e]
  have e2' : m_path_of [.z (ordD w), .z (.tuple (ps.map prD)), .z (rowD z)] = some (.l [rowD z], [some (.z (ordD w)), some (.z (.tuple (ps.map prD))), rz z]) := e2
  clear e2
  (try unfold oE' at *)
  generalize rowD z = Z at *
  generalize (pre ++ [z]).map rowD = L at *
  generalize ps.map prD = P at *
  generalize ordD w = O at *
  simp [k_L_one_right_7, sIf, sNx, bOr, bV, truth, mC, mZ, mF, mUn, gNeg, io, mSl, mPt, gSl, mBin, mCallD, callM, takeT, putT, slotsOf, nodupB, oN, oE, aNil, aCons, slotT, Arg.get, gets, zs, T.data, setSl, bo, e1, e2', g1, g2, n1, n2]
theorem o_8 (a b : Int) (g : Rg w ps) {S S' : List (List Int)} (R : Reach ps w.length m S) (e2 : m_L_all_ends [.z (.tuple (ps.map prD)), .z (rowD m)] = some (.l ((sortI (S'.filter (irr ps))).map rowD), [some (.z (.tuple (ps.map prD))), rz m])) (c4 c5 : Option T) : k_L_one_right_8 (oE' a b w ps m c4 c5 none) = some (.nx, oE' a b w ps m c4 (some (.l ((sortI (S.filter (irr ps))).map rowD))) (some (.l ((sortI (S'.filter (irr ps))).map rowD)))) := by
  have e1 := e_ends g R
  (try unfold oE' at *)
  generalize (sortI (S.filter (irr ps))).map rowD = L8 at *
  generalize (sortI (S'.filter (irr ps))).map rowD = L9 at *
  generalize ps.map prD = P at *
  generalize ordD w = O at *
  simp [k_L_one_right_8, defM, startE, backs, sSeq, sSet, setSl, sRet, sRetN, sNx, sBk, sCt, sNo, sIf, sDrop, sPar, sPar3, sAsg, sFor, bV, bT, bAnd, bOr, bNot, truth, mAnd, mOr, mNot, mIf, mC, mZ, mM, mF, mTup, mLst, mCB, mBin, mUn, mChain, mIsi, mIsi2, mSl, mPt, mLC, mBM, mCallD, mCallK, callM, takeT, putT, slotsOf, nodupB, valsZ, gk, oN, oE, aNil, aCons, slotT, Arg.get, gets, zs, T.data, gN, gsC, gs0, gT, gS, iV, iZ, iR, seqOf, wipeE, restE, gAdd, gSub, gMul, gFdiv, gMod, gPow, gNeg, gLt, gGt, gLe, gGe, gEq, gNe, gIs, gIsN, isNon, gIx, L2.atI, L2.ixN, gLen, gTup, gLst, gSum, gAll, gAny, gAbs, gMax2, gMin2, gDivmod, gInt, gGcd, isT, gAppend, gInsert, gPop, zip2D, zip3D, enumD, gSl, mRev, gRev, mSS, gSS, gMax, gMin, gMaxS, gMinS, gIn, gNin, mExt, mDR, mDL, mCD, gDLen, gDLst, mD0, mD1, gSD, Arg.raw, mFD, mTD, iFD, sForN, mLCN, iNm, e1, e2]
end
end My

set_option Elab.async false
set_option maxRecDepth 100000
set_option linter.all false
set_option maxHeartbeats 1000000
namespace My
open PySem VL
theorem gIn_rows (x : List Int) (l : List (List Int)) : gIn (rowD x) (.list (l.map rowD)) = bo (decide (x ∈ l)) := by
  have c1 : PyData.canLay0 (.list (l.map rowD)) = true := SeqAt.canLay_of_shaped (shaped_map (k := 1) rowD l (fun a _ => shaped_row a) (fun a _ => by rw [depth_rowD]; omega) (by decide)).1
  have c2 := SeqAt.canLay_of_shaped (shaped_row x)
  have c3 : min (PyData.depthAll (l.map rowD)) (PyData.depth (rowD x)) ≤ 60 := by rw [depth_rowD]; omega
  show (if PyData.canLay0 (.list (l.map rowD)) = true ∧ PyData.canLay0 (rowD x) = true ∧ min (PyData.depthAll (l.map rowD)) (PyData.depth (rowD x)) ≤ 60 then bo ((l.map rowD).any fun y => PyData.eqv y (rowD x)) else none) = _
  rw [if_pos ⟨c1, c2, c3⟩]
  congr 1
  rw [List.any_map]
  by_cases h : x ∈ l
  · rw [decide_eq_true h]
    exact List.any_eq_true.mpr ⟨x, h, by simp [eqv_row]⟩
  · rw [decide_eq_false h]
    rw [← Bool.not_eq_true]
    intro q
    obtain ⟨y, hy, e⟩ := List.any_eq_true.mp q
    have : y = x := by simpa [eqv_row] using e
    exact h (this ▸ hy)
theorem o_9 {w m : List Int} {ps : List Pr} {L z : List Int} {l pre K : List (List Int)} (a b : Int) (hn : w.length ≤ 40) (hl : K.length ≤ 100) (hx : ∀ x ∈ K, Bd 83 w.length x) (e : l = pre ++ [z]) (hz : z ∈ K) : k_L_one_right_9 (oE' a b w ps m (some (.z (.list (l.map rowD)))) (some (.l (K.map rowD))) (some (.l (K.map rowD)))) = some (.ret (.z (.bool true)), oE' a b w ps m (some (.z (.list (l.map rowD)))) (some (.l (K.map rowD))) (some (.l (K.map rowD)))) := by
  have ok := okShow_rows hn hl hx
  have g1 := gIx_last pre z
  have g2 := gIn_rows z K
  rw [decide_eq_true hz] at g2
  rw [e]
  unfold oE'
  generalize (pre ++ [z]).map rowD = L9 at *
  generalize K.map rowD = L8 at *
  generalize rowD z = Z at *
  simp [k_L_one_right_9, sRet, mAnd, mBin, mCB, oE, oN, aCons, aNil, gets, Arg.get, slotT, T.data, mC, mUn, gNeg, io, gRepr, ok, gEq, str_beq, truth, bV, bo, g1, g2]
theorem Reach.perm {ps : List Pr} {n : Nat} {m : List Int} {S T : List (List Int)} (h : Reach ps n m S) (k : Reach ps n m T) : S.Perm T := perm_of h.nd k.nd fun x => ⟨fun hx => h.mn (· ∈ T) k.cl x hx, fun hx => k.mn (· ∈ S) h.cl x hx⟩
theorem e_L_one_right (a b : Int) {w m : List Int} {ps : List Pr} (g : Rg w ps) (gr : Gr w m ps) (hm : Bd 3 w.length m) : ∃ a' b', m_L_one_right [pot a b, .z (ordD w), .z (.tuple (ps.map prD)), .z (rowD m)] = some (.z (.bool true), [po a' b', some (.z (ordD w)), some (.z (.tuple (ps.map prD))), rz m]) := by
  have hw := g.gw.2.1
  have hn := g.gw.2.2
  have hb : Bd 83 w.length m := hm.mono (by omega)
  obtain ⟨S, R⟩ := gr.rc
  obtain ⟨S', R', eA⟩ := e_L_all_ends gr hw hm (.z (.tuple (ps.map prD))) (.inr rfl)
  have ms : m ∈ S := R.cl.1
  obtain ⟨l, h, hl, hs, _⟩ := pt_ex g.rl R S.length m ms (rank_top ms)
  have hl40 : l.length ≤ 40 := by have := R.len; omega
  obtain ⟨pw, _, hx, _⟩ := h.pw g.rl
  obtain ⟨pre, z, e, hz, fz⟩ := h.last
  have zs' : z ∈ S := hs z (by rw [e]; simp)
  have zi : z ∈ S.filter (irr ps) := List.mem_filter.mpr ⟨zs', by unfold irr; exact decide_eq_true (fst_none.mp fz)⟩
  have e1 := o_1 a b h hl40
  obtain ⟨a', b', e2⟩ := o_2 a b g h hl40 hb (some (.l (l.map rowD)))
  have e5 := o_5 a' b' g h hl40 hb (some (.l (l.map rowD ++ [.none])))
  have e6 := o_6 (m := m) a' b' g hx pw (some (.l (l.map rowD ++ [.none])))
  have e7 := o_7 a' b' g h hl40 hb e hz fz (some (.l (l.map rowD ++ [.none])))
  have e8 := o_8 a' b' g R eA (some (.z (.list (l.map rowD)))) (some (.l (l.map rowD ++ [.none])))
  rw [sortI_perm ((R'.perm R).filter (irr ps))] at e8
  have e9 := o_9 (m := m) (ps := ps) (L := []) a' b' hn (K := sortI (S.filter (irr ps))) (by rw [sortI_len]; have := List.length_filter_le (irr ps) S; have := R.len; omega) (fun x hx => R.bd x (List.mem_filter.mp (mem_sortI.mp hx)).1) e (mem_sortI.mpr zi)
  have rest : (sSeq k_L_one_right_5 (sSeq k_L_one_right_6 (sSeq k_L_one_right_7 (sSeq k_L_one_right_8 k_L_one_right_9)))) (oE' a' b' w ps m (some (.l (l.map rowD))) (some (.l (l.map rowD ++ [.none]))) none) = some (.ret (.z (.bool true)), oE' a' b' w ps m (some (.z (.list (l.map rowD)))) (some (.l ((sortI (S.filter (irr ps))).map rowD))) (some (.l ((sortI (S.filter (irr ps))).map rowD)))) := by
    clear eA e1 e2
    unfold oE' at *
    simp only [sSeq, e5, e6, e7, e8, e9, Option.bind_some]
  have e3 := o_34 (ps := ps) (m := m) a' b' hn hl40 hx (sSeq k_L_one_right_5 (sSeq k_L_one_right_6 (sSeq k_L_one_right_7 (sSeq k_L_one_right_8 k_L_one_right_9))))
  rw [rest] at e3
  refine ⟨a', b', ?_⟩
  unfold m_L_one_right
  clear rest e5 e6 e7 e8 e9 eA
  generalize (sSeq k_L_one_right_3 (sSeq k_L_one_right_4 (sSeq k_L_one_right_5 (sSeq k_L_one_right_6 (sSeq k_L_one_right_7 (sSeq k_L_one_right_8 k_L_one_right_9)))))) = B at *
  unfold oE' at *
  generalize ps.map prD = P at *
  generalize ordD w = O at *
  generalize l.map rowD = L9 at *
  simp [defM, startE, backs, sSeq, e1, e2, e3]
end My

set_option Elab.async false
set_option maxRecDepth 100000
set_option linter.all false
set_option maxHeartbeats 1000000
namespace My
open PySem VL
theorem gDSorted_rows (ps : List Pr) (S : List (List Int)) (hx : ∀ r ∈ S, r ≠ []) (hn : S.length ≤ 100) : gDSorted (aD rowD (vw ps S)) = some (.l ((sortI S).map rowD)) := by
  have ek : (aD rowD (vw ps S)).map (·.1) = S.map rowD := by simp [Function.comp_def]
  have ek2 : ((aD rowD (vw ps S)).all fun p => (nkey p.1).isSome) = true := by
    rw [List.all_eq_true]
    intro p hp
    obtain ⟨q, _, rfl⟩ := List.mem_map.mp hp
    show (nkey (rowD q.1)).isSome = true
    rw [nkey_row]; rfl
  unfold gDSorted
  rw [ek, if_pos ⟨canSort_rows S hx (by omega), ek2⟩, sort_rows]
theorem reach_nil' {n : Nat} {m : List Int} (hm : Bd 83 n m) : Reach [] n m [m] :=
  ⟨by simp, by simp, fun x hx => by rw [List.mem_singleton] at hx; rw [hx]; exact hm, ⟨List.mem_singleton_self m, fun x _ y hy => by (cases hy)⟩, fun C hC x hx => by rw [List.mem_singleton] at hx; rw [hx]; exact hC.1⟩
theorem gIx_any (l : List (List Int)) (v : Int) (hv : 0 ≤ v) (hl : l ≠ []) : ∃ x, x ∈ l ∧ gIx (.list (l.map rowD)) (.int (v % (l.length : Int))) = some (.z (rowD x)) := by
  have h0 : 0 < (l.length : Int) := by have := List.length_pos_iff.mpr hl; omega
  have h1 := Int.emod_nonneg v (b := (l.length : Int)) (by omega)
  have h2 := Int.emod_lt_of_pos v h0
  generalize v % (l.length : Int) = i at *
  obtain ⟨j, rfl⟩ := Int.eq_ofNat_of_zero_le h1
  have hj : j < l.length := by omega
  refine ⟨l[j], List.getElem_mem hj, ?_⟩
  show (L2.atI (l.map rowD) (j : Nat)).map T.z = _
  unfold L2.atI L2.ixN
  rw [if_pos (by omega), if_pos (by simpa using hj)]
  simp [hj]
abbrev rE (a b : Int) (mn : Nat) (w : List Int) (ps : List Pr) (m : List Int) (c5 c6 c7 c8 : Option T) : VL.Env := [po a b, iz mn, rz w, some (.z (ordD w)), rz m, some (.z (.tuple (ps.map prD))), c5, c6, c7, c8]
theorem eq_last (x : D) (hs : SeqAt.shaped x = true) (hr : PyData.eqv x x = true) (hd : PyData.depth x ≤ 10) : gEq (.list [x, .list [x]]) (.list [x, .list [x]]) = bo true := by
  have c := SeqAt.canLay_of_shaped hs
  have sh : SeqAt.shaped (.list [x, .list [x]]) = true := by
    show (PyData.canLay0 (.list [x, .list [x]]) && decide (PyData.depth (.list [x, .list [x]]) ≤ 64)) = true
    rw [Bool.and_eq_true]
    refine ⟨by simp [PyData.canLay0, PyData.canLayAll0, c], decide_eq_true ?_⟩
    simp only [PyData.depth, PyData.depthAll]
    omega
  show (if SeqAt.shaped (.list [x, .list [x]]) = true ∧ SeqAt.shaped (.list [x, .list [x]]) = true then bo (PyData.eqv (.list [x, .list [x]]) (.list [x, .list [x]])) else none) = _
  rw [if_pos ⟨sh, sh⟩]
  have : PyData.eqv (.list [x, .list [x]]) (.list [x, .list [x]]) = true := by
    rw [PyData.eqv]
    simp only [PyData.eqvAll, hr, Bool.true_and, Bool.and_true]
    rw [PyData.eqv]
    simp only [PyData.eqvAll, hr, Bool.true_and, Bool.and_true]
  rw [this]
section
variable {w m x : List Int} {ps : List Pr} {l pre l2 pre2 : List (List Int)} {z z2 : List Int} {mn : Nat}
theorem r_6 (a b : Int) (gr : Gr w m ps) (hw : 1 ≤ w.length) (hm : Bd 3 w.length m) : ∃ S, Reach ps w.length m S ∧ k_L_right_6 (rE a b mn w ps m none none none none) = some (.nx, rE a b mn w ps m (some (.l ((sortI S).map rowD))) none none none) := by
  obtain ⟨S, R, e⟩ := e_L_reach gr hm (.z (.tuple (ps.map prD))) (.inr rfl)
  refine ⟨S, R, ?_⟩
  have e2 := gDSorted_rows ps S (fun r hr => (R.bd r hr).ne hw) (by have := R.len; omega)
  unfold rE
  generalize aD rowD (vw ps S) = U at *
  generalize (sortI S).map rowD = L9 at *
  generalize ps.map prD = P at *
  generalize ordD w = O at *
  simp [k_L_right_6, defM, startE, backs, sSeq, sSet, setSl, sRet, sRetN, sNx, sBk, sCt, sNo, sIf, sDrop, sPar, sPar3, sAsg, sFor, bV, bT, bAnd, bOr, bNot, truth, mAnd, mOr, mNot, mIf, mC, mZ, mM, mF, mTup, mLst, mCB, mBin, mUn, mChain, mIsi, mIsi2, mSl, mPt, mLC, mBM, mCallD, mCallK, callM, takeT, putT, slotsOf, nodupB, valsZ, gk, oN, oE, aNil, aCons, slotT, Arg.get, gets, zs, T.data, gN, gsC, gs0, gT, gS, iV, iZ, iR, seqOf, wipeE, restE, gAdd, gSub, gMul, gFdiv, gMod, gPow, gNeg, gLt, gGt, gLe, gGe, gEq, gNe, gIs, gIsN, isNon, gIx, L2.atI, L2.ixN, gLen, gTup, gLst, gSum, gAll, gAny, gAbs, gMax2, gMin2, gDivmod, gInt, gGcd, isT, gAppend, gInsert, gPop, zip2D, zip3D, enumD, gSl, mRev, gRev, mSS, gSS, gMax, gMin, gMaxS, gMinS, gIn, gNin, mExt, mDR, mDL, mCD, gDLen, gDLst, mD0, mD1, gSD, Arg.raw, mFD, mTD, iFD, sForN, mLCN, iNm, e, e2]
theorem r_7 (a b : Int) (S : List (List Int)) (hS : S ≠ []) : ∃ (a' b' : Int) (x : List Int), x ∈ S ∧ k_L_right_7 (rE a b mn w ps m (some (.l (S.map rowD))) none none none) = some (.nx, rE a' b' mn w ps m (some (.l (S.map rowD))) (rz x) none none) := by
  obtain ⟨v, a1, b1, v0, v1, e1⟩ := e_draw a b 5040 (by decide)
  obtain ⟨x, hx, e2⟩ := gIx_any S v v0 hS
  refine ⟨a1, b1, x, hx, ?_⟩
  have ln : gLen [.list (S.map rowD)] = some (.z (.int (S.length : Nat))) := by simp [gLen, io]
  have h0 : 0 < (S.length : Int) := by have := List.length_pos_iff.mpr hS; omega
  have fm : v.fmod (S.length : Int) = v % (S.length : Int) := Int.fmod_eq_emod_of_nonneg _ (by omega)
  have h00 : ¬ (S.length : Int) = 0 := by omega
  unfold rE
  generalize ps.map prD = P at *
  generalize ordD w = O at *
  generalize S.map rowD = L9 at *
  generalize (S.length : Int) = N at *
  generalize v % N = i at *
  simp [k_L_right_7, sSet, setSl, mC, mBin, mCB, mCallD, callM, takeT, putT, slotsOf, nodupB, oN, oE, aNil, aCons, slotT, Arg.get, gets, zs, T.data, gMod, io, e1, ln, e2, fm, h00, h0]
theorem r_8 (a b : Int) (h : Pt ps w.length m l) (hl : l.length ≤ 40) (e : l = pre ++ [z]) (h2 : Pt ps w.length x l2) (hl2 : l2.length ≤ 40) (e' : l2 = pre2 ++ [z2]) (c6 : Option T) : k_L_right_8 (rE a b mn w ps m c6 (rz x) none none) = some (.nx, rE a b mn w ps m c6 (rz x) (some (.z (.bool (decide (z = z2))))) none) := by
  have e1 := e_L_path h hl
  have e2 := e_L_path h2 hl2
  have g1 := gIx_last pre z
  have g2 := gIx_last pre2 z2
  have e5 := eq_row z z2
  rw [e] at e1
  rw [e'] at e2
  unfold rE
  generalize ps.map prD = P at *
  generalize ordD w = O at *
  generalize (pre ++ [z]).map rowD = L9 at *
  generalize (pre2 ++ [z2]).map rowD = L8 at *
  generalize rowD z = Z at *
  generalize rowD z2 = Z2 at *
  simp [k_L_right_8, sSet, setSl, mC, mZ, mBin, mUn, gNeg, io, mCallD, callM, takeT, putT, slotsOf, nodupB, oN, oE, aNil, aCons, slotT, Arg.get, gets, zs, T.data, bo, e1, e2, g1, g2, e5]
theorem r_9 (a b : Int) (g : Rg w ps) (h : Pt ps w.length m l) (hl : l.length ≤ 40) (hb : Bd 83 w.length m) (e : l = pre ++ [z]) (h2 : Pt ps w.length x l2) (hl2 : l2.length ≤ 40) (hb2 : Bd 83 w.length x) (e' : l2 = pre2 ++ [z2]) (c6 : Option T) :
    (sSeq k_L_right_9 (sSeq k_L_right_10 (sSeq k_L_right_11 (sSeq k_L_right_12 k_L_right_13)))) (rE a b mn w ps m c6 (rz x) (some (.z (.bool (decide (z = z2))))) none) = some (.ret (.z (.bool true)), rE a b mn w ps m c6 (rz x) (some (.z (.bool (decide (z = z2))))) (some (.z (.bool (decide (z = z2)))))) := by
  have g0 : Rg w [] := ⟨g.gw, g.sm, by simp, by simp, by simp⟩
  have f0 : fst [] x = none := rfl
  have e1 := e_have g h hl hb e h2 hl2 hb2 e'
  have e2 := e_have g h2 hl2 hb2 e' h hl hb e
  have sy : decide (z2 = z) = decide (z = z2) := decide_eq_decide.mpr eq_comm
  rw [sy] at e2
  have e3 := e_end_of g h2 hl2 hb2 e'
  have e4 := e_L_path h2 hl2
  rw [e'] at e4
  have g2 := gIx_last pre2 z2
  have n2 := ne_row z2 z2
  rw [decide_eq_true rfl] at n2
  have e5 : m_end_of [.z (ordD w), .z (.tuple []), .z (rowD x)] = some (.z (rowD x), [some (.z (ordD w)), some (.z (.tuple [])), rz x]) := e_end_of g0 (.stop hb2 f0) (by simp) hb2 (show [x] = [] ++ [x] from rfl)
  have e6 : m_ends_in_some_way [.z (ordD w), .z (.tuple []), .z (rowD x)] = some (.l [rowD x], [some (.z (ordD w)), some (.z (.tuple [])), rz x]) := by
    have := e_ends g0 (reach_nil' hb2)
    have e7 : sortI ([x].filter (irr [])) = [x] := by
      have : [x].filter (irr []) = [x] := by simp [irr, nxt]
      rw [this]
      simp [sortI]
    rw [e7] at this
    exact this
  have e8 := eq_last (rowD x) (shaped_row x) (by rw [eqv_row]; simp) (by rw [depth_rowD]; omega)
  have ok := okShow_bool (decide (z = z2))
  unfold rE
  generalize ps.map prD = P at *
  generalize ordD w = O at *
  generalize (pre2 ++ [z2]).map rowD = L8 at *
  generalize rowD z2 = Z2 at *
  generalize decide (z = z2) = bb at *
  have n3 : ∀ s : Str, gNe (.str s) (.str s) = bo false := fun s => by show bo (!(s == s)) = _; rw [str_beq]; rfl
  simp [k_L_right_9, k_L_right_10, k_L_right_11, k_L_right_12, k_L_right_13, sSeq, sSet, setSl, sRet, sIf, sNx, bV, truth, mC, mZ, mF, mTup, mLst, mBin, mCB, mUn, gNeg, io, mCallD, mCallK, gk, valsZ, callM, takeT, putT, slotsOf, nodupB, oN, oE, aNil, aCons, slotT, Arg.get, gets, zs, T.data, gRepr, ok, bo, n3, e1, e2, e3, e4, e5, e6, e8, g2, n2]
end
end My

set_option Elab.async false
set_option maxRecDepth 100000
set_option linter.all false
set_option maxHeartbeats 1000000
namespace My
open PySem VL
theorem e_L_right (a b : Int) : ∃ a' b', m_L_right [pot a b] = some (.z (.bool true), [po a' b']) := by
  obtain ⟨d, a1, b1, d0, d1, e1⟩ := e_draw a b 3 (by decide)
  obtain ⟨n, hn⟩ : ∃ n : Nat, 2 + d = (n : Int) := ⟨(2 + d).toNat, by omega⟩
  obtain ⟨w, a2, b2, lw, bw, e2⟩ := e_L_weights a1 b1 n (by omega) (by omega)
  obtain ⟨m, a3, b3, lm, bm, e3⟩ := e_L_monomial a2 b2 n 3 (by omega) (by decide)
  obtain ⟨d4, a4, b4, d40, d41, e4⟩ := e_draw a3 b3 5 (by decide)
  obtain ⟨k, hk⟩ : ∃ k : Nat, 1 + d4 = (k : Int) := ⟨(1 + d4).toNat, by omega⟩
  have hw : Gw w := ⟨by
    rw [List.all_eq_true]
    intro n hn
    have := bw n hn
    unfold cnt
    simp; omega, by omega, by omega⟩
  have sm : Sm w := fun z hz => by have := bw z hz; omega
  have hm : Bd 3 w.length m := ⟨lm.trans lw.symm, bm⟩
  have hb : Bd 83 w.length m := hm.mono (by omega)
  obtain ⟨a5, b5, ps, e5, gr⟩ := e_L_rules a4 b4 w m k sm (by omega) (by omega) hm
  have g : Rg w ps := ⟨hw, sm, gr.rl, gr.len, gr.pw⟩
  obtain ⟨a6, b6, e6⟩ := e_L_one_right a5 b5 g gr hm
  obtain ⟨S, R, e7⟩ := r_6 (mn := n) a6 b6 gr hw.2.1 hm
  obtain ⟨a8, b8, x, hx, e8⟩ := r_7 (mn := n) (w := w) (m := m) (ps := ps) a6 b6 (sortI S) (fun z => by have := mem_sortI.mpr R.cl.1; rw [z] at this; cases this)
  have hx' := mem_sortI.mp hx
  obtain ⟨l, h, hl, _, _⟩ := pt_ex g.rl R S.length m R.cl.1 (rank_top R.cl.1)
  obtain ⟨l2, h2, hl2, _, _⟩ := pt_ex g.rl R S.length x hx' (rank_top hx')
  have sl := R.len
  obtain ⟨pre, z, e, _, _⟩ := h.last
  obtain ⟨pre2, z2, e', _, _⟩ := h2.last
  have e9 := r_8 (mn := n) a8 b8 h (by omega) e h2 (by omega) e' (some (.l ((sortI S).map rowD)))
  have e10 := r_9 (mn := n) a8 b8 g h (by omega) hb e h2 (by omega) (R.bd x hx') e' (some (.l ((sortI S).map rowD)))
  refine ⟨a8, b8, ?_⟩
  unfold rE at *
  unfold m_L_right
  generalize (sSeq k_L_right_9 (sSeq k_L_right_10 (sSeq k_L_right_11 (sSeq k_L_right_12 k_L_right_13)))) = B at *
  clear h h2 gr
  generalize ps.map prD = P at *
  generalize (sortI S).map rowD = L9 at *
  generalize decide (z = z2) = bb at *
  have e5' : m_L_rules [.l [.int a4, .int b4], .z (rowD w), .z (rowD m), .z (.int (k : Int))] = some (.z (.tuple P), [po a5 b5, rz w, rz m, iz k]) := e5
  have e6' : m_L_one_right [.l [.int a5, .int b5], .z (.tuple [.str "order", rowD w]), .z (.tuple P), .z (rowD m)] = some (.z (.bool true), [po a6 b6, some (.z (ordD w)), some (.z (.tuple P)), rz m]) := e6
  simp [k_L_right_1, k_L_right_2, k_L_right_3, k_L_right_4, k_L_right_5, defM, startE, backs, sSeq, sSet, setSl, sRet, sRetN, sNx, sBk, sCt, sNo, sIf, sDrop, sPar, sPar3, sAsg, sFor, bV, bT, bAnd, bOr, bNot, truth, mAnd, mOr, mNot, mIf, mC, mZ, mM, mF, mTup, mLst, mCB, mBin, mUn, mChain, mIsi, mIsi2, mSl, mPt, mLC, mBM, mCallD, mCallK, callM, takeT, putT, slotsOf, nodupB, valsZ, gk, oN, oE, aNil, aCons, slotT, Arg.get, gets, zs, T.data, gN, gsC, gs0, gT, gS, iV, iZ, iR, seqOf, wipeE, restE, gAdd, gSub, gMul, gFdiv, gMod, gPow, gNeg, gLt, gGt, gLe, gGe, gEq, gNe, gIs, gIsN, isNon, gIx, L2.atI, L2.ixN, gLen, gTup, gLst, gSum, gAll, gAny, gAbs, gMax2, gMin2, gDivmod, gInt, gGcd, isT, gAppend, gInsert, gPop, zip2D, zip3D, enumD, gSl, mRev, gRev, mSS, gSS, gMax, gMin, gMaxS, gMinS, gIn, gNin, mExt, mDR, mDL, mCD, gDLen, gDLst, mD0, mD1, gSD, Arg.raw, mFD, mTD, iFD, sForN, mLCN, iNm, e1, e2, e3, e4, e5', e6', hn, hk, e7, e8, e9, e10]
theorem law_true (n : Nat) : LawTrue n m_law := by
  intro ns _
  obtain ⟨a, b, e1⟩ := e_L_pot ns
  obtain ⟨a', b', e2⟩ := e_L_right a b
  exact ⟨[some (.z (.list (ns.map .int)))], by simp [m_law, defM, startE, backs, sSeq, sSet, setSl, sRet, sRetN, sNx, sBk, sCt, sNo, sIf, sDrop, sPar, sPar3, sAsg, sFor, bV, bT, bAnd, bOr, bNot, truth, mAnd, mOr, mNot, mIf, mC, mZ, mM, mF, mTup, mLst, mCB, mBin, mUn, mChain, mIsi, mIsi2, mSl, mPt, mLC, mBM, mCallD, mCallK, callM, takeT, putT, slotsOf, nodupB, valsZ, gk, oN, oE, aNil, aCons, slotT, Arg.get, gets, zs, T.data, gN, gsC, gs0, gT, gS, iV, iZ, iR, seqOf, wipeE, restE, gAdd, gSub, gMul, gFdiv, gMod, gPow, gNeg, gLt, gGt, gLe, gGe, gEq, gNe, gIs, gIsN, isNon, gIx, L2.atI, L2.ixN, gLen, gTup, gLst, gSum, gAll, gAny, gAbs, gMax2, gMin2, gDivmod, gInt, gGcd, isT, gAppend, gInsert, gPop, zip2D, zip3D, enumD, gSl, mRev, gRev, mSS, gSS, gMax, gMin, gMaxS, gMinS, gIn, gNin, mExt, mDR, mDL, mCD, gDLen, gDLst, mD0, mD1, gSD, Arg.raw, mFD, mTD, iFD, sForN, mLCN, iNm, e1, e2]⟩
end My


namespace My
theorem fin {l : PySem.W.OpenLaw} {w : PySem.World} {K : VL.Fr} {mg : PySem.Str → Option PySem.Value} {fa : PySem.Addr} (g : Gg K mg) (e : mg "law" = some (.ref fa)) :
    ∃ fd : PySem.FuncData, (∀ (s : PySem.Shared) (u : PySem.Value), PySem.BindsTo s fd ⟨[u], []⟩ [("_law_script", u)]) ∧ ∀ base : PySem.Heap, VL.FnG l.prog w K mg base L2.CX0 12 fa fd ["_law_script"] (VL.spD K m_law) := by
  have q := (e.symm.trans (g.glo 41))
  cases q
  exact ⟨fd_law g, fun s u => (F_law g).bindsA (ps := ["_law_script"]) (fun _ _ _ _ _ _ us hl => match us, hl with | [_], _ => rfl) s [u] rfl, fun base => t_law g⟩
end My
open PySem PySem.W PySem.Calls PyProof.Rows
set_option maxRecDepth 100000 in
theorem PySem.Challenge.cw_sumroads_k34_whole_paths_and_ends_holds : PySem.Challenge.rw_sumroads_k34_whole_paths_and_ends.Holds := by
  w_on; o_law
  refine HandSHeadRun.head_any (r := OpenLaw.row PySem.Challenge.rw_sumroads_k34_whole_paths_and_ends) (q := view (PySem.W.OpenLaw.row PySem.Challenge.rw_sumroads_k34_whole_paths_and_ends).prog [60]) (H := My.hk) (ob := My.ob) (M := 4000) (loose := My.loose) (d := HandSHeadRun.topDef (PySem.W.OpenLaw.row PySem.Challenge.rw_sumroads_k34_whole_paths_and_ends).prog 60) (kwd := []) My.ob_eq
    (by kernel_rfl) (fun s => by kernel_rfl) My.run (by kernel_rfl) (by kernel_rfl) (by kernel_rfl) (by rfl) (by first | assumption | decide +kernel) (by decide +kernel) ⟨rfl, rfl, rfl, rfl, rfl, by decide +kernel⟩ ?hw ?hc
  case hw => w_witness2
  case hc =>
    refine VL.walk_V (l := PySem.Challenge.rw_sumroads_k34_whole_paths_and_ends) (k := 12) (x := "_law_script") (m := My.m_law) rfl (by decide) (by kernel_rfl) ⟨⟨rfl, by decide, by decide⟩, rfl⟩ (My.law_true _) ?F
    intro w mg fa h Y G hmg0
    obtain ⟨K, KX, c, b⟩ := Y
    have g : My.Gg K mg := ⟨⟨h, KX, G⟩, c, b⟩
    have hmg : mg ("law" : PySem.Str) = some (.ref fa) := by
      have e : (HandSHeadRun.topDef (PySem.W.OpenLaw.row PySem.Challenge.rw_sumroads_k34_whole_paths_and_ends).prog 60).name = ("law" : PySem.Str) := by kernel_rfl
      rw [← e]
      exact hmg0
    obtain ⟨fd, hb, hF⟩ := My.fin (l := PySem.Challenge.rw_sumroads_k34_whole_paths_and_ends) (w := w) g hmg
    exact ⟨K, fd, KX, hb, hF⟩
