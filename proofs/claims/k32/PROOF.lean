import PyProof.Rows.All
import Wide.All
import OpenK.AllK
import Wide.FinOn
import KE.KStateDown
import HandS.ForMost
import HandS.ForExc
import HandS.Defaults
import KE.KeyNested
import KE.KDictCopyH
import KE.KDictDisplayH
import KE.KDictKeyed
import KE.GoesNew
import KE.GoesEnum
import HandS.TupAny
import HandS.TupMul
import HandS.IsInst
import HandS.Gcd
import HandS.TupLe
import HandS.RaiseMore
import KE.DataCmp
import PyProof.ReprRoads
import PyProof.ReprBulk
import PyProof.CallFns
import HandS.Wide
import HandS.WideBits
import KE.KTupSum
import HandS.More
import HandS.Style
import HandS.HeadEnd
import HandS.Words
import HandS.HeadHook1
import HandS.HeadHook2
import KE.DataMinMax
import KE.SortData
import PyProof.Rows.InDataRows
import HandS.TupSets
import HandS.Dict
import HandS.Conv
import OpenK.KEqL
import HandS.Head0
import HandS.Head1
import HandS.Head2
import HandS.Head3
import PySem.Challenge.RW_sumroads_k32_whole_orders
set_option Elab.async false
set_option linter.all false
set_option maxRecDepth 100000
set_option maxHeartbeats 4000000
/-! VL: the value layer. Data that is known and never changes (Fz); locals as values (Env), some of them owned (lists that only this local knows). -/
namespace VL
open PySem PySem.Spec PyProof.Rows L2

abbrev D := PyData
abbrev Fr := PySem.W.Frag
abbrev St := L2.St

/-! ### heaps -/
/-- what never changes stays -/
def PK (H H' : Hp) : Prop := (∀ b xs, H b = some (.tup xs) → H' b = some (.tup xs)) ∧ ∀ b o u, H b = some (.frz o u) → H' b = some (.frz o u)
theorem PK.refl {H : Hp} : PK H H := ⟨fun _ _ h => h, fun _ _ _ h => h⟩
theorem PK.trans {H H1 H2 : Hp} (a : PK H H1) (b : PK H1 H2) : PK H H2 := ⟨fun c xs h => b.1 c xs (a.1 c xs h), fun c o u h => b.2 c o u (a.2 c o u h)⟩
theorem PK.same {H H' : Hp} (h : ∀ b o, H b = some o → H' b = some o) : PK H H' := ⟨fun b xs e => h b _ e, fun b o u e => h b _ e⟩
theorem PK.new {H : Hp} {p : Addr} {o : HO} (h : H p = none) : PK H (upd H p o) := .same fun b u e => by rw [upd_ne (ne_of_none e h)]; exact e
/-- what changes is mutable -/
theorem PK.mut {H : Hp} {p : Addr} {o u : HO} (h : H p = some u) (m : Mut (some u)) : PK H (upd H p o) := by
  refine ⟨fun b xs e => ?_, fun b ob v e => ?_⟩
  · rw [upd_ne fun z => by subst z; rw [h] at e; cases e; exact m]; exact e
  · rw [upd_ne fun z => by subst z; rw [h] at e; cases e; exact m]; exact e

/-- a list that is known and never changes -/
def FzL (K : Fr) (H : Hp) (a : Addr) (xs : List V) : Prop := (∃ o, H a = some (.frz o (.lst xs))) ∨
  ∃ (o : Obj) (its : Array Value) (n : Nat), K.lookup a = some o ∧ o.cls = .type "list" ∧ o.dict = none ∧ o.data = .seq its n ∧ its.size ≤ sizeLine ∧ Vals xs its.toList
theorem FzL.sq {K : Fr} {H : Hp} {a : Addr} {xs : List V} (h : FzL K H a xs) : SqL K H a xs := by
  rcases h with h | h
  · exact .inl (.inr h)
  · exact .inr h
theorem FzL.mono {K : Fr} {H H' : Hp} {a : Addr} {xs : List V} (p : PK H H') (h : FzL K H a xs) : FzL K H' a xs := by
  rcases h with ⟨o, h⟩ | h
  · exact .inl ⟨o, p.2 _ _ _ h⟩
  · exact .inr h
theorem sqT_mono {K : Fr} {H H' : Hp} {a : Addr} {xs : List V} (p : PK H H') (h : SqT K H a xs) : SqT K H' a xs := by
  rcases h with (h | ⟨o, h⟩) | h
  · exact .inl (.inl (p.1 _ _ h))
  · exact .inl (.inr ⟨o, p.2 _ _ _ h⟩)
  · exact .inr h

mutual
/-- data that is known and never changes -/
inductive Fz (K : Fr) (H : Hp) : V → D → Prop
  | non : Fz K H .non .none
  | bl (b : Bool) : Fz K H (.bl b) (.bool b)
  | int (i : Int) : Fz K H (.int i) (.int i)
  | str (x : Str) : Fz K H (.str x) (.str x)
  | lst {a : Addr} {xs : List V} {ds : List D} : FzL K H a xs → FzA K H xs ds → Fz K H (.ref a) (.list ds)
  | tup {a : Addr} {xs : List V} {ds : List D} : SqT K H a xs → FzA K H xs ds → Fz K H (.ref a) (.tuple ds)
inductive FzA (K : Fr) (H : Hp) : List V → List D → Prop
  | nil : FzA K H [] []
  | cons {v : V} {vs : List V} {d : D} {ds : List D} : Fz K H v d → FzA K H vs ds → FzA K H (v :: vs) (d :: ds)
end
section
variable {K : Fr} {H H' : Hp}
mutual
theorem Fz.mono (p : PK H H') : ∀ (d : D) (v : V), Fz K H v d → Fz K H' v d
  | .none, v, h => by cases h; exact .non
  | .bool b, v, h => by cases h; exact .bl b
  | .int i, v, h => by cases h; exact .int i
  | .str x, v, h => by cases h; exact .str x
  | .list ds, v, h => by cases h with | lst a b => exact .lst (a.mono p) (FzA.mono p ds _ b)
  | .tuple ds, v, h => by cases h with | tup a b => exact .tup (sqT_mono p a) (FzA.mono p ds _ b)
  | .dict kvs, v, h => by cases h
theorem FzA.mono (p : PK H H') : ∀ (ds : List D) (vs : List V), FzA K H vs ds → FzA K H' vs ds
  | [], vs, h => by cases h; exact .nil
  | d :: ds, vs, h => by cases h with | cons a b => exact .cons (Fz.mono p d _ a) (FzA.mono p ds _ b)
end
mutual
theorem Fz.dp : ∀ (d : D) (v : V), Fz K H v d → Dp K H v d
  | .none, v, h => by cases h; exact .non
  | .bool b, v, h => by cases h; exact .bl b
  | .int i, v, h => by cases h; exact .int i
  | .str x, v, h => by cases h; exact .str x
  | .list ds, v, h => by cases h with | lst a b => exact .lst a.sq (FzA.dp ds _ b)
  | .tuple ds, v, h => by cases h with | tup a b => exact .tup a (FzA.dp ds _ b)
  | .dict kvs, v, h => by cases h
theorem FzA.dp : ∀ (ds : List D) (vs : List V), FzA K H vs ds → DpAll K H vs ds
  | [], vs, h => by cases h; exact .nil
  | d :: ds, vs, h => by cases h with | cons a b => exact .cons (Fz.dp d _ a) (FzA.dp ds _ b)
end
theorem FzA.length : ∀ {ds : List D} {vs : List V}, FzA K H vs ds → vs.length = ds.length
  | [], _, h => by cases h; rfl
  | _ :: ds, _, h => by cases h with | cons a b => exact congrArg Nat.succ (FzA.length b)
theorem FzA.append : ∀ {ds es : List D} {vs ws : List V}, FzA K H vs ds → FzA K H ws es → FzA K H (vs ++ ws) (ds ++ es)
  | [], _, _, _, h, h' => by cases h; exact h'
  | _ :: ds, _, _, _, h, h' => by cases h with | cons a b => exact .cons a (FzA.append b h')
theorem FzA.get {d : D} : ∀ {ds : List D} {vs : List V} (i : Nat), FzA K H vs ds → ds[i]? = some d → ∃ v, vs[i]? = some v ∧ Fz K H v d
  | [], _, _, h, e => by simp at e
  | _ :: ds, _, 0, h, e => by cases h with | cons a b => simp at e; subst e; exact ⟨_, rfl, a⟩
  | _ :: ds, _, i + 1, h, e => by
    cases h with
    | cons a b =>
      obtain ⟨v, e1, f⟩ := FzA.get (ds := ds) i b (by simpa using e)
      exact ⟨v, by simpa using e1, f⟩
theorem FzA.getV {v : V} : ∀ {ds : List D} {vs : List V} (i : Nat), FzA K H vs ds → vs[i]? = some v → ∃ d, ds[i]? = some d ∧ Fz K H v d
  | [], _, _, h, e => by cases h; simp at e
  | _ :: ds, _, 0, h, e => by cases h with | cons a b => simp at e; subst e; exact ⟨_, rfl, a⟩
  | _ :: ds, _, i + 1, h, e => by
    cases h with
    | cons a b =>
      obtain ⟨d, e1, f⟩ := FzA.getV (ds := ds) i b (by simpa using e)
      exact ⟨d, by simpa using e1, f⟩
theorem FzA.set {d : D} {v : V} (f : Fz K H v d) : ∀ {ds : List D} {vs : List V} (i : Nat), FzA K H vs ds → FzA K H (vs.set i v) (ds.set i d)
  | [], _, _, h => by cases h; exact .nil
  | _ :: ds, _, 0, h => by cases h with | cons a b => exact .cons f b
  | _ :: ds, _, i + 1, h => by cases h with | cons a b => exact .cons a (FzA.set f i b)
theorem FzA.take : ∀ {ds : List D} {vs : List V} (n : Nat), FzA K H vs ds → FzA K H (vs.take n) (ds.take n)
  | _, _, 0, _ => .nil
  | [], _, _ + 1, h => by cases h; exact .nil
  | _ :: ds, _, n + 1, h => by cases h with | cons a b => exact .cons a (FzA.take n b)
theorem FzA.drop : ∀ {ds : List D} {vs : List V} (n : Nat), FzA K H vs ds → FzA K H (vs.drop n) (ds.drop n)
  | _, _, 0, h => h
  | [], _, _ + 1, h => by cases h; exact .nil
  | _ :: ds, _, n + 1, h => by cases h with | cons a b => exact FzA.drop n b
theorem FzA.reverse : ∀ {ds : List D} {vs : List V}, FzA K H vs ds → FzA K H vs.reverse ds.reverse
  | [], _, h => by cases h; exact .nil
  | _ :: ds, _, h => by
    cases h with
    | cons a b =>
      rw [List.reverse_cons, List.reverse_cons]
      exact FzA.append (FzA.reverse b) (.cons a .nil)
theorem FzA.ints : ∀ (ns : List Int), FzA K H (ns.map V.int) (ns.map PyData.int)
  | [] => .nil
  | n :: ns => .cons (.int n) (FzA.ints ns)
end

/-! ### values of locals -/
/-! ### keys of dicts: whole numbers, bools, None, tuples of such -/
mutual
def nkey : D → Option NestedKey
  | .none => some .none
  | .bool b => some (.num (if b then 1 else 0))
  | .int i => some (.num i)
  | .tuple ds => (nkeys ds).map .tup
  | .str _ => none
  | .list _ => none
  | .dict _ => none
def nkeys : List D → Option (List NestedKey)
  | [] => some []
  | d :: ds => (nkey d).bind fun k => (nkeys ds).map fun ks => k :: ks
end
/-- an entry whose key is the data k, whatever the world's texts hash to -/
def HashOk (h : Int) (k : D) : Prop := ∃ nk, nkey k = some nk ∧ ∀ w, nk.hash w = h
/-- a dict by its entries -/
def dicO (a : Addr) (es : List DictEntry) : HO := .ext fun h => (a == sysModules) = false ∧ ∃ ep, h.DictRaw a es.toArray ep
/-- the entries hold these keys and values, which never change -/
inductive EntA (K : Fr) (H : Hp) : List DictEntry → List (D × D) → Prop
  | nil : EntA K H [] []
  | cons {e : DictEntry} {es : List DictEntry} {k d : D} {kvs : List (D × D)} {x y : V} : RelV x e.key → RelV y e.val → Fz K H x k → Fz K H y d → HashOk e.hash k → EntA K H es kvs → EntA K H (e :: es) ((k, d) :: kvs)
theorem EntA.mono {K : Fr} {H H' : Hp} (p : PK H H') : ∀ {es : List DictEntry} {kvs : List (D × D)}, EntA K H es kvs → EntA K H' es kvs
  | _, _, .nil => .nil
  | _, _, .cons a b c d e f => .cons a b (Fz.mono p _ _ c) (Fz.mono p _ _ d) e (EntA.mono p f)
theorem EntA.length {K : Fr} {H : Hp} : ∀ {es : List DictEntry} {kvs : List (D × D)}, EntA K H es kvs → es.length = kvs.length
  | _, _, .nil => rfl
  | _, _, .cons _ _ _ _ _ f => congrArg Nat.succ (EntA.length f)
/-- z: data that never changes; l: a list that is owned; d: a dict that is owned -/
inductive T where
  | z (d : D)
  | l (ds : List D)
  | dc (kvs : List (D × D))
def T.data : T → D
  | .z d => d
  | .l ds => .list ds
  | .dc kvs => .dict kvs
def T.nd : T → Bool
  | .z _ => true
  | .l _ => true
  | .dc _ => false
def RepT (K : Fr) (H : Hp) (v : V) (t : T) (S : Addr → Prop) : Prop := match t with
  | .z d => Fz K H v d
  | .l ds => ∃ a xs, v = .ref a ∧ S a ∧ H a = some (.lst xs) ∧ FzA K H xs ds
  | .dc kvs => ∃ a es, v = .ref a ∧ S a ∧ H a = some (dicO a es) ∧ EntA K H es kvs ∧ (kvs.map fun p => nkey p.1).Nodup
theorem RepT.mono {K : Fr} {H H' : Hp} {v : V} {t : T} {S S' : Addr → Prop} (p : PK H H') (k : ∀ a o, S a → H a = some o → H' a = some o ∧ S' a) (h : RepT K H v t S) : RepT K H' v t S' := by
  cases t with
  | z d => exact Fz.mono p d v h
  | l ds =>
    obtain ⟨a, xs, e, s, q, f⟩ := h
    obtain ⟨q', s'⟩ := k a _ s q
    exact ⟨a, xs, e, s', q', f.mono p⟩
  | dc kvs =>
    obtain ⟨a, xs, e, s, q, f, nd⟩ := h
    obtain ⟨q', s'⟩ := k a _ s q
    exact ⟨a, xs, e, s', q', f.mono p, nd⟩
/-- what may be read now -/
def Rp (K : Fr) (H : Hp) (v : V) (d : D) : Prop := Fz K H v d ∨ ∃ a xs ds, v = .ref a ∧ d = .list ds ∧ H a = some (.lst xs) ∧ FzA K H xs ds
theorem RepT.rp {K : Fr} {H : Hp} {v : V} {t : T} {S : Addr → Prop} (n : t.nd = true) (h : RepT K H v t S) : Rp K H v t.data := by
  cases t with
  | dc kvs => cases n
  | z d => exact .inl h
  | l ds =>
    obtain ⟨a, xs, e, s, q, f⟩ := h
    exact .inr ⟨a, xs, ds, e, rfl, q, f⟩
theorem Rp.dp {K : Fr} {H : Hp} {v : V} {d : D} (h : Rp K H v d) : Dp K H v d := by
  rcases h with h | ⟨a, xs, ds, rfl, rfl, q, f⟩
  · exact Fz.dp d v h
  · exact .lst (SqL.of q) (FzA.dp _ _ f)
theorem Rp.list {K : Fr} {H : Hp} {v : V} {ds : List D} (h : Rp K H v (.list ds)) : ∃ a xs, v = .ref a ∧ SqL K H a xs ∧ FzA K H xs ds := by
  rcases h with h | ⟨a, xs, es, rfl, e, q, f⟩
  · cases h with
    | lst p q => exact ⟨_, _, rfl, p.sq, q⟩
  · cases e; exact ⟨a, xs, rfl, SqL.of q, f⟩
theorem Rp.tuple {K : Fr} {H : Hp} {v : V} {ds : List D} (h : Rp K H v (.tuple ds)) : ∃ a xs, v = .ref a ∧ SqT K H a xs ∧ FzA K H xs ds := by
  rcases h with h | ⟨a, xs, es, rfl, e, q, f⟩
  · cases h with
    | tup p q => exact ⟨_, _, rfl, p, q⟩
  · cases e
theorem Rp.int {K : Fr} {H : Hp} {v : V} {i : Int} (h : Rp K H v (.int i)) : v = .int i := by
  rcases h with h | ⟨a, xs, es, rfl, e, q, f⟩
  · cases h; rfl
  · cases e
theorem Rp.bl {K : Fr} {H : Hp} {v : V} {i : Bool} (h : Rp K H v (.bool i)) : v = .bl i := by
  rcases h with h | ⟨a, xs, es, rfl, e, q, f⟩
  · cases h; rfl
  · cases e
theorem Rp.str {K : Fr} {H : Hp} {v : V} {i : Str} (h : Rp K H v (.str i)) : v = .str i := by
  rcases h with h | ⟨a, xs, es, rfl, e, q, f⟩
  · cases h; rfl
  · cases e
theorem Rp.non {K : Fr} {H : Hp} {v : V} (h : Rp K H v .none) : v = .non := by
  rcases h with h | ⟨a, xs, es, rfl, e, q, f⟩
  · cases h; rfl
  · cases e

abbrev Env := List (Option T)
abbrev Ow := Addr → Option Nat
def Act (n B : Nat) (o : Option Nat) : Prop := ∃ j, o = some j ∧ (j < n ∨ B ≤ j)
theorem Act.none {n B : Nat} : ¬ Act n B none := fun ⟨_, e, _⟩ => by cases e
theorem Act.some {n B j : Nat} : Act n B (some j) ↔ (j < n ∨ B ≤ j) := ⟨fun ⟨_, e, h⟩ => by cases e; exact h, fun h => ⟨j, rfl, h⟩⟩
/-- what is not owned by a local (below n) nor by a temporary from B on stays -/
structure Step (n B : Nat) (own : Ow) (H : Hp) (own' : Ow) (H' : Hp) : Prop where
  keep : ∀ b o, H b = some o → ¬ Act n B (own b) → H' b = some o ∧ own' b = own b
  grow : ∀ b, Act n B (own' b) → Act n B (own b) ∨ H b = none
  pk : PK H H'
section
variable {n B C : Nat} {own own1 own2 : Ow} {H H1 H2 : Hp}
theorem Step.refl : Step n B own H own H := ⟨fun _ _ h _ => ⟨h, rfl⟩, fun _ h => .inl h, .refl⟩
theorem Step.trans (a : Step n B own H own1 H1) (b : Step n B own1 H1 own2 H2) : Step n B own H own2 H2 := by
  refine ⟨fun c o h ha => ?_, fun c h => ?_, a.pk.trans b.pk⟩
  · obtain ⟨h1, e1⟩ := a.keep c o h ha
    obtain ⟨h2, e2⟩ := b.keep c o h1 (by rw [e1]; exact ha)
    exact ⟨h2, e2.trans e1⟩
  · rcases b.grow c h with q | q
    · exact a.grow c q
    · cases e : H c with
      | none => exact .inr rfl
      | some o =>
        refine .inl (Classical.byContradiction fun z => ?_)
        have := (a.keep c o e z).1
        rw [q] at this; cases this
theorem Act.down {j : Option Nat} (h : B ≤ C) (a : Act n C j) : Act n B j := by
  obtain ⟨i, e, q⟩ := a
  exact ⟨i, e, q.imp id fun z => Nat.le_trans h z⟩
theorem Step.down (h : B ≤ C) (a : Step n C own H own1 H1) : Step n B own H own1 H1 := by
  refine ⟨fun b o e na => a.keep b o e fun z => na (z.down h), fun b q => ?_, a.pk⟩
  cases e : H b with
  | none => exact .inr rfl
  | some o =>
    by_cases z : Act n C (own b)
    · exact .inl (z.down h)
    · rw [(a.keep b o e z).2] at q
      exact .inl q
/-- what a temporary below the base owns stays -/
theorem RepT.step {K : Fr} {v : V} {t : T} {j : Nat} (a : Step n B own H own1 H1) (h1 : n ≤ j) (h2 : j < B) (h : RepT K H v t (fun b => own b = some j)) : RepT K H1 v t (fun b => own1 b = some j) := by
  refine h.mono a.pk fun b o s e => ?_
  have na : ¬ Act n B (own b) := by
    rw [s, Act.some]; omega
  obtain ⟨e1, e2⟩ := a.keep b o e na
  exact ⟨e1, e2.trans s⟩
theorem Fz.step {K : Fr} {v : V} {d : D} (a : Step n B own H own1 H1) (h : Fz K H v d) : Fz K H1 v d := Fz.mono a.pk d v h
end

structure ES (K : Fr) (H : Hp) (σ : St) (ρ : Env) (own : Ow) : Prop where
  len : ρ.length = σ.length
  rep : ∀ (i : Nat) (t : T), ρ[i]? = some (some t) → ∃ v, σ[i]? = some (some v) ∧ RepT K H v t (fun a => own a = some i)
section
variable {K : Fr} {H H' : Hp} {σ : St} {ρ : Env} {own own' : Ow}
/-- nothing of the locals changes -/
theorem ES.same (p : PK H H') (k : ∀ a o i, own a = some i → i < σ.length → H a = some o → H' a = some o ∧ own' a = some i) (h : ES K H σ ρ own) : ES K H' σ ρ own' := by
  refine ⟨h.len, fun i t e => ?_⟩
  obtain ⟨v, e1, r⟩ := h.rep i t e
  have hi : i < σ.length := (List.getElem?_eq_some_iff.mp e1).1
  exact ⟨v, e1, r.mono p fun a o s q => k a o i s hi q⟩
/-- a local takes what a temporary owned -/
def rel (j i : Nat) (own : Ow) : Ow := fun b => if own b = some j then some i else own b
theorem ES.setSlot {i j : Nat} {v : V} {t : T} (hj : σ.length ≤ j) (hi : i < σ.length) (h : ES K H σ ρ own) (r : RepT K H v t (fun b => own b = some j)) : ES K H (σ.set i (some v)) (ρ.set i (some t)) (rel j i own) := by
  refine ⟨by simpa using h.len, fun k u e => ?_⟩
  by_cases hk : k = i
  · subst hk
    have hr : k < ρ.length := by rw [h.len]; exact hi
    rw [List.getElem?_set_self hr] at e
    cases e
    refine ⟨v, List.getElem?_set_self hi, r.mono .refl fun a o s q => ⟨q, ?_⟩⟩
    unfold rel; rw [if_pos s]
  · rw [List.getElem?_set_ne (Ne.symm hk)] at e
    obtain ⟨w, e1, q⟩ := h.rep k u e
    have hk2 : k < σ.length := (List.getElem?_eq_some_iff.mp e1).1
    refine ⟨w, by rw [List.getElem?_set_ne (Ne.symm hk)]; exact e1, q.mono .refl fun a o s z => ⟨z, ?_⟩⟩
    unfold rel; rw [if_neg (by rw [s]; intro y; cases y; omega)]; exact s
theorem rel_step {n B i j : Nat} {own : Ow} {H : Hp} (hj : B ≤ j) (hi : i < n) : Step n B own H (rel j i own) H := by
  refine ⟨fun b o e na => ⟨e, ?_⟩, fun b q => ?_, .refl⟩
  · unfold rel; rw [if_neg]; intro z; exact na (by rw [z, Act.some]; exact .inr hj)
  · unfold rel at q
    by_cases z : own b = some j
    · exact .inl (by rw [z, Act.some]; exact .inr hj)
    · rw [if_neg z] at q; exact .inl q
/-- a slot is forgotten -/
theorem ES.drop {i : Nat} (h : ES K H σ ρ own) : ES K H σ (ρ.set i none) own := by
  refine ⟨by simpa using h.len, fun k u e => ?_⟩
  by_cases hk : k = i
  · subst hk
    by_cases hr : k < ρ.length
    · rw [List.getElem?_set_self hr] at e; cases e
    · rw [List.getElem?_eq_none (by simpa using Nat.le_of_not_lt hr)] at e; cases e
  · rw [List.getElem?_set_ne (Ne.symm hk)] at e
    exact h.rep k u e
end

/-! ### judgements -/
inductive Flow where
  | nx | bk | ct | ret (t : T)
abbrev ME := Env → Option (T × Env)
abbrev MS := Env → Option (Flow × Env)
abbrev MB := Env → Option (Bool × Env)
/-- an argument: a temporary, or a local that is only looked at -/
inductive Arg where
  | val (t : T) | slot (i : Nat)
abbrev MO := Env → Option (Arg × Env)
abbrev MA := Env → Option (List Arg × Env)
def Arg.raw (ρ : Env) : Arg → Option T
  | .val t => some t
  | .slot i => (ρ[i]?).join
/-- an argument that is not a dict -/
def Arg.get (ρ : Env) : Arg → Option T
  | .val (.z d) => some (.z d)
  | .val (.l ds) => some (.l ds)
  | .val (.dc _) => none
  | .slot i => match (ρ[i]?).join with
    | some (.dc _) => none
    | o => o
theorem Arg.get_some {ρ : Env} {a : Arg} {t : T} (h : a.get ρ = some t) : a.raw ρ = some t ∧ t.nd = true := by
  cases a with
  | val u => cases u <;> cases h <;> exact ⟨rfl, rfl⟩
  | slot i =>
    cases q : (ρ[i]?).join with
    | none =>
      have h' : (match (ρ[i]?).join with | some (.dc _) => none | o => o) = some t := h
      rw [q] at h'; cases h'
    | some u =>
      have h' : (match (ρ[i]?).join with | some (.dc _) => none | o => o) = some t := h
      rw [q] at h'
      cases u <;> cases h' <;> exact ⟨q, rfl⟩
def ArgRep (K : Fr) (H : Hp) (σ : St) (own : Ow) (j : Nat) (v : V) : Arg → Prop
  | .val t => RepT K H v t (fun b => own b = some j)
  | .slot i => σ[i]? = some (some v)
def ArgsRep (K : Fr) (H : Hp) (σ : St) (own : Ow) : Nat → List V → List Arg → Prop
  | _, [], [] => True
  | j, v :: vs, a :: as => ArgRep K H σ own j v a ∧ ArgsRep K H σ own (j + 1) vs as
  | _, _, _ => False
def tE (K : Fr) (m : ME) : TE := fun σ H Q => ∃ B ρ own t ρ', σ.length ≤ B ∧ ES K H σ ρ own ∧ m ρ = some (t, ρ') ∧
  ∀ v H' own', Step σ.length B own H own' H' → ES K H' σ ρ' own' → RepT K H' v t (fun b => own' b = some B) → Q v H'
def tO (K : Fr) (m : MO) : TE := fun σ H Q => ∃ B ρ own a ρ', σ.length ≤ B ∧ ES K H σ ρ own ∧ m ρ = some (a, ρ') ∧
  ∀ v H' own', Step σ.length B own H own' H' → ES K H' σ ρ' own' → ArgRep K H' σ own' B v a → Q v H'
def tT (K : Fr) (m : MB) : TT := fun σ H Q => ∃ B ρ own b ρ', σ.length ≤ B ∧ ES K H σ ρ own ∧ m ρ = some (b, ρ') ∧
  ∀ H' own', Step σ.length B own H own' H' → ES K H' σ ρ' own' → Q b H'
def tA (K : Fr) (m : MA) : TA := fun σ H Q => ∃ B ρ own as ρ', σ.length ≤ B ∧ ES K H σ ρ own ∧ m ρ = some (as, ρ') ∧
  ∀ vs H' own', Step σ.length B own H own' H' → ES K H' σ ρ' own' → ArgsRep K H' σ own' B vs as → Q vs H'
def tS (K : Fr) (pin : List Nat) (m : MS) : TS := fun E σ H => ∃ B ρ own f ρ', σ.length ≤ B ∧ ES K H σ ρ own ∧ m ρ = some (f, ρ') ∧
  ∀ σ' H' own', σ'.length = σ.length → (∀ k ∈ pin, σ'[k]? = σ[k]?) → Step σ.length B own H own' H' → ES K H' σ' ρ' own' → match f with
    | .nx => E.nx σ' H'
    | .bk => E.bk σ' H'
    | .ct => E.ct σ' H'
    | .ret t => ∀ v, RepT K H' v t (fun b => own' b = some B) → E.rt v H'
structure PX (X : Cx) (e : Expr) (m : ME) : Prop where
  pe : PE X e (tE X.K m)
structure PO (X : Cx) (e : Expr) (m : MO) : Prop where
  pe : PE X e (tO X.K m)
structure PB (X : Cx) (e : Expr) (m : MB) : Prop where
  pt : PT X e (tT X.K m)
structure PAr (X : Cx) (es : List Expr) (m : MA) : Prop where
  pa : PA X es (tA X.K m)
structure PSt (X : Cx) (pin : List Nat) (s : Stmt) (m : MS) : Prop where
  ps : PS X s (tS X.K pin m)
structure PSts (X : Cx) (pin : List Nat) (s : List Stmt) (m : MS) : Prop where
  ps : PSs X s (tS X.K pin m)
end VL

set_option Elab.async false
set_option linter.all false
set_option maxRecDepth 100000
set_option maxHeartbeats 4000000
namespace VL
open PySem PySem.Spec PyProof.Rows L2

theorem _root_.L2.PE.of {X : Cx} {e : Expr} {t t' : TE} (h : PE X e t') (i : ∀ σ H Q, t σ H Q → t' σ H Q) : PE X e t := ⟨fun pins s σ H Q I q => h.run pins s σ H Q I (i σ H Q q)⟩
theorem _root_.L2.PT.of {X : Cx} {e : Expr} {t t' : TT} (h : PT X e t') (i : ∀ σ H Q, t σ H Q → t' σ H Q) : PT X e t := ⟨fun pins s σ H Q I q => h.run pins s σ H Q I (i σ H Q q)⟩
theorem _root_.L2.PA.of {X : Cx} {e : List Expr} {t t' : TA} (h : PA X e t') (i : ∀ σ H Q, t σ H Q → t' σ H Q) : PA X e t := ⟨fun pos pins s σ H Q I q => h.run pos pins s σ H Q I (i σ H Q q)⟩
theorem _root_.L2.PS.of {X : Cx} {e : Stmt} {t t' : TS} (h : PS X e t') (i : ∀ D σ H, t D σ H → t' D σ H) : PS X e t := ⟨fun pins s σ H D I q => h.run pins s σ H D I (i D σ H q)⟩
theorem _root_.L2.PSs.of {X : Cx} {e : List Stmt} {t t' : TS} (h : PSs X e t') (i : ∀ D σ H, t D σ H → t' D σ H) : PSs X e t := ⟨fun pins s σ H D I q => h.run pins s σ H D I (i D σ H q)⟩
/-- behind an expression the abstract heap may be told otherwise -/
theorem _root_.L2.PE.ghost {X : Cx} {e : Expr} {t t' : TE} (h : PE X e t')
    (g : ∀ pins σ H Q, t σ H Q → t' σ H fun v H1 => ∀ s1, Inv X pins σ H1 s1 → ∃ H2, Inv X pins σ H2 s1 ∧ Q v H2) : PE X e t := ⟨fun pins s σ H Q I q => by
  refine thn (h.run pins s σ H _ I (g pins σ H Q q)) fun u s1 ⟨v, H1, I1, r, q1⟩ => ?_
  obtain ⟨H2, I2, q2⟩ := q1 s1 I1
  exact ⟨v, H2, I2, r, q2⟩⟩

section
variable {X : Cx} {pins : List (Addr × Obj)} {σ : St} {H : Hp} {s : Shared} {v : V} {t : T} {S : Addr → Prop}
theorem freezeT {K : Fr} (I : Inv X pins σ H s) (nd : t.nd = true) (r : RepT K H v t S) : ∃ H', Inv X pins σ H' s ∧ Fz K H' v t.data ∧ PK H H' ∧ (∀ b o, H b = some o → ¬ S b → H' b = some o) ∧ ∀ b, H b = none → H' b = none := by
  cases t with
  | z d => exact ⟨H, I, r, .refl, fun _ _ h _ => h, fun _ h => h⟩
  | l ds =>
    obtain ⟨a, xs, rfl, sa, q, f⟩ := r
    obtain ⟨od, I'⟩ := I.lock q trivial
    have p : PK H (upd H a (.frz od (.lst xs))) := .mut q trivial
    refine ⟨_, I', .lst (.inl ⟨od, upd_same⟩) (f.mono p), p, fun b o e ns => ?_, fun b e => ?_⟩
    · rw [upd_ne (fun z => ns (by rw [z]; exact sa))]; exact e
    · rw [upd_ne (fun z => by rw [z, q] at e; cases e)]; exact e
  | dc kvs => cases nd
end

/-! ### constants, names -/
def mC (d : D) : ME := fun ρ => some (.z d, ρ)
section
variable {X : Cx}
theorem px_c {e : Expr} {v : V} {d : D} (h : PE X e (tC v)) (r : ∀ H, Fz X.K H v d) : PX X e (mC d) := ⟨h.of fun σ H Q q => by
  obtain ⟨B, ρ, own, t, ρ', hB, es, e, k⟩ := q
  cases e
  exact k v H own .refl es (r H)⟩
theorem px_int {i j pos} : PX X (.Constant (.int i) j pos) (mC (.int i)) := px_c pe_int fun _ => .int i
theorem px_bl {i j pos} : PX X (.Constant (.bool i) j pos) (mC (.bool i)) := px_c pe_bl fun _ => .bl i
theorem px_str {i j pos} : PX X (.Constant (.str i) j pos) (mC (.str i)) := px_c pe_str fun _ => .str i
theorem px_non {j pos} : PX X (.Constant .none j pos) (mC .none) := px_c pe_non fun _ => .non
theorem px_gint {x : Str} {i : Int} {pos : Pos} (hg : Gl X x) (hm : ∃ t, X.mg x = some (.int i t)) (hd : (x == ("__debug__" : Str)) = false := by decide) : PX X (.Name x pos) (mC (.int i)) := by
  obtain ⟨t, hm⟩ := hm
  exact px_c (pe_glob (v := .int i) hg hm ⟨t, rfl⟩ hd) fun _ => .int i
theorem px_gstr {x : Str} {i : Str} {pos : Pos} (hg : Gl X x) (hm : ∃ t, X.mg x = some (.str i t)) (hd : (x == ("__debug__" : Str)) = false := by decide) : PX X (.Name x pos) (mC (.str i)) := by
  obtain ⟨t, hm⟩ := hm
  exact px_c (pe_glob (v := .str i) hg hm ⟨t, rfl⟩ hd) fun _ => .str i

def slotT (ρ : Env) (i : Nat) : Option T := (ρ[i]?).join
theorem slotT_some {ρ : Env} {i : Nat} {t : T} (h : slotT ρ i = some t) : ρ[i]? = some (some t) := by
  unfold slotT at h
  cases e : ρ[i]? with
  | none => rw [e] at h; cases h
  | some o =>
    rw [e] at h
    exact congrArg some h
theorem Arg.raw_slot {ρ : Env} {i : Nat} : (Arg.slot i).raw ρ = slotT ρ i := rfl
/-- a local, looked at -/
def oN (i : Nat) : MO := fun ρ => (slotT ρ i).map fun _ => (.slot i, ρ)
/-- a local's value, which then never changes -/
def mZ (i : Nat) : ME := fun ρ => (slotT ρ i).bind fun t => match t with
  | .z d => some (.z d, ρ)
  | .l ds => some (.z (.list ds), ρ.set i (some (.z (.list ds))))
  | .dc _ => none
/-- a local's value taken away from it (if owned) -/
def mM (i : Nat) : ME := fun ρ => (slotT ρ i).map fun t => match t with
  | .z d => (.z d, ρ)
  | t => (t, ρ.set i none)
theorem po_n {i : Nat} {x : Str} {pos : Pos} (h : PE X (.Name x pos) (tVar i)) : PO X (.Name x pos) (oN i) := ⟨h.of fun σ H Q q => by
  obtain ⟨B, ρ, own, a, ρ', hB, es, e, k⟩ := q
  obtain ⟨t, e1, e2⟩ := Option.map_eq_some_iff.mp (show (slotT ρ i).map (fun _ => (Arg.slot i, ρ)) = some (a, ρ') from e)
  cases e2
  obtain ⟨v, e3, r⟩ := es.rep i t (slotT_some e1)
  exact ⟨v, e3, k v H own .refl es e3⟩⟩
theorem px_z {i : Nat} {x : Str} {pos : Pos} (h : PE X (.Name x pos) (tVar i)) : PX X (.Name x pos) (mZ i) := ⟨h.ghost fun pins σ H Q q => by
  obtain ⟨B, ρ, own, a, ρ', hB, es, e, k⟩ := q
  obtain ⟨t, e1, e2⟩ := Option.bind_eq_some_iff.mp (show (slotT ρ i).bind _ = some (a, ρ') from e)
  obtain ⟨v, e3, r⟩ := es.rep i t (slotT_some e1)
  refine ⟨v, e3, fun s1 I1 => ?_⟩
  cases t with
  | dc kvs => cases e2
  | z d =>
    cases e2
    exact ⟨H, I1, k v H own .refl es r⟩
  | l ds =>
    cases e2
    have hi : i < σ.length := (List.getElem?_eq_some_iff.mp e3).1
    obtain ⟨H2, I2, f, p, kp, fr⟩ := freezeT I1 rfl r
    have st : Step σ.length B own H own H2 := ⟨fun b o e na => ⟨kp b o e fun z => na (by rw [z, Act.some]; exact .inl hi), rfl⟩, fun b q => .inl q, p⟩
    refine ⟨H2, I2, k v H2 own st ⟨by simpa using es.len, fun j u e => ?_⟩ f⟩
    by_cases hj : j = i
    · subst hj
      rw [List.getElem?_set_self (by rw [es.len]; exact hi)] at e
      cases e
      exact ⟨v, e3, f⟩
    · rw [List.getElem?_set_ne (Ne.symm hj)] at e
      obtain ⟨w, e4, r4⟩ := es.rep j u e
      exact ⟨w, e4, r4.mono p fun a o sa qa => ⟨kp a o qa (by rw [sa]; intro z; cases z; exact hj rfl), sa⟩⟩⟩
theorem px_m {i : Nat} {x : Str} {pos : Pos} (h : PE X (.Name x pos) (tVar i)) : PX X (.Name x pos) (mM i) := ⟨h.of fun σ H Q q => by
  obtain ⟨B, ρ, own, a, ρ', hB, es, e, k⟩ := q
  obtain ⟨t, e1, e2⟩ := Option.map_eq_some_iff.mp (show (slotT ρ i).map _ = some (a, ρ') from e)
  obtain ⟨v, e3, r⟩ := es.rep i t (slotT_some e1)
  refine ⟨v, e3, ?_⟩
  cases t with
  | z d =>
    cases e2
    exact k v H own .refl es r
  | l ds =>
    cases e2
    have hi : i < σ.length := (List.getElem?_eq_some_iff.mp e3).1
    have st : Step σ.length B own H (rel i B own) H := by
      refine ⟨fun b o e na => ⟨e, ?_⟩, fun b q => ?_, .refl⟩
      · unfold rel; rw [if_neg]; intro z; exact na (by rw [z, Act.some]; exact .inl hi)
      · unfold rel at q
        by_cases z : own b = some i
        · exact .inl (by rw [z, Act.some]; exact .inl hi)
        · rw [if_neg z] at q; exact .inl q
    refine k v H _ st ⟨by simpa using es.len, fun j u e => ?_⟩ (r.mono .refl fun b o sb qb => ⟨qb, by unfold rel; rw [if_pos sb]⟩)
    by_cases hj : j = i
    · subst hj
      rw [List.getElem?_set_self (by rw [es.len]; exact hi)] at e
      cases e
    · rw [List.getElem?_set_ne (Ne.symm hj)] at e
      obtain ⟨w, e4, r4⟩ := es.rep j u e
      refine ⟨w, e4, r4.mono .refl fun a o sa qa => ⟨qa, ?_⟩⟩
      unfold rel; rw [if_neg (by rw [sa]; intro z; cases z; exact hj rfl)]; exact sa
  | dc kvs =>
    cases e2
    have hi : i < σ.length := (List.getElem?_eq_some_iff.mp e3).1
    have st : Step σ.length B own H (rel i B own) H := by
      refine ⟨fun b o e na => ⟨e, ?_⟩, fun b q => ?_, .refl⟩
      · unfold rel; rw [if_neg]; intro z; exact na (by rw [z, Act.some]; exact .inl hi)
      · unfold rel at q
        by_cases z : own b = some i
        · exact .inl (by rw [z, Act.some]; exact .inl hi)
        · rw [if_neg z] at q; exact .inl q
    refine k v H _ st ⟨by simpa using es.len, fun j u e => ?_⟩ (r.mono .refl fun b o sb qb => ⟨qb, by unfold rel; rw [if_pos sb]⟩)
    by_cases hj : j = i
    · subst hj
      rw [List.getElem?_set_self (by rw [es.len]; exact hi)] at e
      cases e
    · rw [List.getElem?_set_ne (Ne.symm hj)] at e
      obtain ⟨w, e4, r4⟩ := es.rep j u e
      refine ⟨w, e4, r4.mono .refl fun a o sa qa => ⟨qa, ?_⟩⟩
      unfold rel; rw [if_neg (by rw [sa]; intro z; cases z; exact hj rfl)]; exact sa⟩

/-- an expression's value as an argument -/
def oE (m : ME) : MO := fun ρ => (m ρ).map fun p => (.val p.1, p.2)
theorem PX.po {e : Expr} {m : ME} (h : PX X e m) : PO X e (oE m) := ⟨h.pe.of fun σ H Q q => by
  obtain ⟨B, ρ, own, a, ρ', hB, es, e, k⟩ := q
  obtain ⟨⟨t, ρ1⟩, e1, e2⟩ := Option.map_eq_some_iff.mp (show (m ρ).map _ = some (a, ρ') from e)
  cases e2
  exact ⟨B, ρ, own, t, _, hB, es, e1, fun v H' own' st es' r => k v H' own' st es' r⟩⟩
/-- .. that never changes from here on -/
def mF (m : ME) : ME := fun ρ => (m ρ).bind fun p => match p.1 with
  | .z d => some (.z d, p.2)
  | .l ds => some (.z (.list ds), p.2)
  | .dc _ => none
theorem px_f {e : Expr} {m : ME} (h : PX X e m) : PX X e (mF m) := ⟨h.pe.ghost fun pins σ H Q q => by
  obtain ⟨B, ρ, own, a, ρ', hB, es, e, k⟩ := q
  obtain ⟨⟨t, ρ1⟩, e1, e2⟩ := Option.bind_eq_some_iff.mp (show (m ρ).bind _ = some (a, ρ') from e)
  have hn : t.nd = true := by
    cases t with
    | z d => rfl
    | l ds => rfl
    | dc kvs => cases e2
  have e2' : a = .z t.data ∧ ρ1 = ρ' := by
    cases t with
    | z d => cases e2; exact ⟨rfl, rfl⟩
    | l ds => cases e2; exact ⟨rfl, rfl⟩
    | dc kvs => cases e2
  obtain ⟨rfl, rfl⟩ := e2'
  refine ⟨B, ρ, own, t, _, hB, es, e1, fun v H' own' st es' r s1 I1 => ?_⟩
  obtain ⟨H2, I2, f, p, kp, fr⟩ := freezeT I1 hn r
  have st2 : Step σ.length B own' H' own' H2 := ⟨fun b o e na => ⟨kp b o e fun z => na (by rw [z, Act.some]; exact .inr (Nat.le_refl _)), rfl⟩, fun b q => .inl q, p⟩
  refine ⟨H2, I2, k v H2 own' (st.trans st2) (es'.same p fun a o i ha hi e => ⟨kp a o e (by rw [ha]; intro z; cases z; omega), ha⟩) f⟩⟩
end

/-! ### what an operation makes -/
structure Fresh (K : Fr) (H H' : Hp) (v : V) (t : T) : Prop where
  same : ∀ b o, H b = some o → H' b = some o
  rep : RepT K H' v t (fun a => H a = none)
theorem Fresh.z {K : Fr} {H : Hp} {v : V} {d : D} (f : Fz K H v d) : Fresh K H H v (.z d) := ⟨fun _ _ h => h, f⟩
theorem Fresh.tup {K : Fr} {H : Hp} {p : Addr} {xs : List V} {ds : List D} (h : H p = none) (f : FzA K H xs ds) : Fresh K H (upd H p (.tup xs)) (.ref p) (.z (.tuple ds)) :=
  ⟨fun b o e => by rw [upd_ne (ne_of_none e h)]; exact e, .tup (.inl (.inl upd_same)) (f.mono (.new h))⟩
theorem Fresh.lst {K : Fr} {H : Hp} {p : Addr} {xs : List V} {ds : List D} (h : H p = none) (f : FzA K H xs ds) : Fresh K H (upd H p (.lst xs)) (.ref p) (.l ds) :=
  ⟨fun b o e => by rw [upd_ne (ne_of_none e h)]; exact e, ⟨p, xs, rfl, h, upd_same, f.mono (.new h)⟩⟩
/-- new objects belong to the temporary B -/
def born (B : Nat) (H : Hp) (own : Ow) : Ow := fun b => if (H b).isNone then some B else own b
theorem born_old {B : Nat} {H : Hp} {own : Ow} {b : Addr} {o : HO} (h : H b = some o) : born B H own b = own b := by
  unfold born; rw [h]; rfl
theorem born_new {B : Nat} {H : Hp} {own : Ow} {b : Addr} (h : H b = none) : born B H own b = some B := by
  unfold born; rw [h]; rfl
theorem Fresh.step {K : Fr} {H H' : Hp} {v : V} {t : T} {n B : Nat} {own : Ow} (f : Fresh K H H' v t) : Step n B own H (born B H own) H' := by
  refine ⟨fun b o e na => ⟨f.same b o e, born_old e⟩, fun b q => ?_, .same f.same⟩
  cases e : H b with
  | none => exact .inr rfl
  | some o => rw [born_old e] at q; exact .inl q
theorem Fresh.es {K : Fr} {H H' : Hp} {v : V} {t : T} {B : Nat} {own : Ow} {σ : St} {ρ : Env} (f : Fresh K H H' v t) (es : ES K H σ ρ own) : ES K H' σ ρ (born B H own) :=
  es.same (.same f.same) fun a o i h _ e => ⟨f.same a o e, by rw [born_old e]; exact h⟩
theorem Fresh.rep' {K : Fr} {H H' : Hp} {v : V} {t : T} {B : Nat} {own : Ow} (f : Fresh K H H' v t) : RepT K H' v t (fun b => born B H own b = some B) :=
  f.rep.mono .refl fun a o n e => ⟨e, born_new n⟩

/-! ### arguments -/
theorem argRp {K : Fr} {H : Hp} {σ : St} {ρ : Env} {own : Ow} {j : Nat} {v : V} {a : Arg} {t : T} (es : ES K H σ ρ own) (r : ArgRep K H σ own j v a) (g : a.get ρ = some t) : Rp K H v t.data := by
  obtain ⟨g, nd⟩ := Arg.get_some g
  cases a with
  | val u =>
    have e : u = t := Option.some.inj g
    subst e
    have r' : RepT K H v u _ := r
    exact r'.rp nd
  | slot i =>
    obtain ⟨w, e, q⟩ := es.rep i t (slotT_some g)
    have r' : σ[i]? = some (some v) := r
    rw [e] at r'
    cases r'
    exact q.rp nd
theorem argStep {K : Fr} {H H' : Hp} {σ : St} {own own' : Ow} {n B j : Nat} {v : V} {a : Arg} (st : Step n B own H own' H') (h1 : n ≤ j) (h2 : j < B) (r : ArgRep K H σ own j v a) : ArgRep K H' σ own' j v a := by
  cases a with
  | val u => exact RepT.step st h1 h2 r
  | slot i => exact r
def gets (ρ : Env) : List Arg → Option (List D)
  | [] => some []
  | a :: as => (a.get ρ).bind fun t => (gets ρ as).map fun ds => t.data :: ds
inductive RpA (K : Fr) (H : Hp) : List V → List D → Prop
  | nil : RpA K H [] []
  | cons {v : V} {vs : List V} {d : D} {ds : List D} : Rp K H v d → RpA K H vs ds → RpA K H (v :: vs) (d :: ds)
theorem argsRp {K : Fr} {H : Hp} {σ : St} {ρ : Env} {own : Ow} (es : ES K H σ ρ own) : ∀ {as : List Arg} {vs : List V} {j : Nat} {ds : List D}, ArgsRep K H σ own j vs as → gets ρ as = some ds → RpA K H vs ds
  | [], [], _, ds, _, g => by cases g; exact .nil
  | [], _ :: _, _, _, r, _ => False.elim r
  | _ :: _, [], _, _, r, _ => False.elim r
  | a :: as, v :: vs, j, ds, ⟨r1, r2⟩, g => by
    obtain ⟨t, e1, e2⟩ := Option.bind_eq_some_iff.mp (show (a.get ρ).bind _ = some ds from g)
    obtain ⟨ds', e3, e4⟩ := Option.map_eq_some_iff.mp e2
    subst e4
    exact .cons (argRp es r1 e1) (argsRp es r2 e3)
def aNil : MA := fun ρ => some ([], ρ)
def aCons (m : MO) (ms : MA) : MA := fun ρ => (m ρ).bind fun p => (ms p.2).map fun q => (p.1 :: q.1, q.2)
section
variable {X : Cx}
theorem pa_0 : PAr X [] aNil := ⟨pa_nil.of fun σ H Q q => by
  obtain ⟨B, ρ, own, as, ρ', hB, es, e, k⟩ := q
  cases e
  exact k [] H own .refl es trivial⟩
theorem pa_c {e : Expr} {es : List Expr} {m : MO} {ms : MA} (h : PO X e m) (hr : PAr X es ms) (hs : starEach (e :: es) X.env = (false, eval e X.env) :: starEach es X.env := by rfl) : PAr X (e :: es) (aCons m ms) := ⟨(pa_cons h.pe hr.pa hs).of fun σ H Q q => by
  obtain ⟨B, ρ, own, as, ρ', hB, es, e, k⟩ := q
  obtain ⟨⟨a, ρ1⟩, e1, e2⟩ := Option.bind_eq_some_iff.mp (show (m ρ).bind _ = some (as, ρ') from e)
  obtain ⟨⟨as2, ρ2⟩, e3, e4⟩ := Option.map_eq_some_iff.mp e2
  cases e4
  refine ⟨B, ρ, own, a, ρ1, hB, es, e1, fun v H1 own1 st1 es1 r1 => ?_⟩
  refine ⟨B + 1, ρ1, own1, as2, _, Nat.le_succ_of_le hB, es1, e3, fun vs H2 own2 st2 es2 r2 => ?_⟩
  exact k (v :: vs) H2 own2 (st1.trans (st2.down (Nat.le_succ B))) es2 ⟨argStep st2 hB (Nat.lt_succ_self B) r1, r2⟩⟩
end

/-! ### operations -/
def rD1 (K : Fr) (g : D → Option T) : V → Hp → VK → Prop := fun x H Q => ∃ d t, Rp K H x d ∧ g d = some t ∧ ∀ v H', Fresh K H H' v t → Q v H'
def rD2 (K : Fr) (g : D → D → Option T) : R2 := fun x y H Q => ∃ d e t, Rp K H x d ∧ Rp K H y e ∧ g d e = some t ∧ ∀ v H', Fresh K H H' v t → Q v H'
def rDA (K : Fr) (g : List D → Option T) : List V → Hp → VK → Prop := fun xs H Q => ∃ ds t, RpA K H xs ds ∧ g ds = some t ∧ ∀ v H', Fresh K H H' v t → Q v H'
def UnD (X : Cx) (f : Value → Sem Value) (g : D → Option T) : Prop := UnR X f (rD1 X.K g)
def OpD (X : Cx) (f : Value → Value → Sem Value) (g : D → D → Option T) : Prop := OpR X f (rD2 X.K g)
def CallD (X : Cx) (f : Value) (g : List D → Option T) : Prop := CallR X f (rDA X.K g)
def mUn (g : D → Option T) (m : MO) : ME := fun ρ => (m ρ).bind fun p => (p.1.get p.2).bind fun t => (g t.data).map fun u => (u, p.2)
def mBin (g : D → D → Option T) (m m' : MO) : ME := fun ρ => (m ρ).bind fun p => (m' p.2).bind fun q => (p.1.get q.2).bind fun t => (q.1.get q.2).bind fun u => (g t.data u.data).map fun r => (r, q.2)
def mCB (g : List D → Option T) (m : MA) : ME := fun ρ => (m ρ).bind fun p => (gets p.2 p.1).bind fun ds => (g ds).map fun r => (r, p.2)
section
variable {X : Cx} {a b : Expr} {m m' : MO} {pos : Pos}
theorem tE_un {K : Fr} {g : D → Option T} {r : V → Hp → VK → Prop} {σ : St} {H : Hp} {Q : VK} (hr : ∀ x H Q, rD1 K g x H Q → r x H Q) (q : tE K (mUn g m) σ H Q) : tUn r (tO K m) σ H Q := by
  obtain ⟨B, ρ, own, t, ρ', hB, es, e, k⟩ := q
  obtain ⟨⟨a, ρ1⟩, e1, e2⟩ := Option.bind_eq_some_iff.mp (show (m ρ).bind _ = some (t, ρ') from e)
  obtain ⟨u, e3, e4⟩ := Option.bind_eq_some_iff.mp e2
  obtain ⟨w, e5, e6⟩ := Option.map_eq_some_iff.mp e4
  cases e6
  refine ⟨B, ρ, own, a, ρ1, hB, es, e1, fun v H1 own1 st1 es1 r1 => ?_⟩
  refine hr _ _ _ ⟨u.data, _, argRp es1 r1 e3, e5, fun v2 H2 f => ?_⟩
  exact k v2 H2 _ (st1.trans f.step) (f.es es1) f.rep'
theorem px_un {op : UnaryOp} {g : D → Option T} (ho : UnD X (unaryOp op) g) (ha : PO X a m) : PX X (.UnaryOp op a pos) (mUn g m) :=
  ⟨(pe_un ho ha.pe).of fun σ H Q q => tE_un (fun _ _ _ h => h) q⟩
theorem tE_bin {K : Fr} {g : D → D → Option T} {r : R2} {σ : St} {H : Hp} {Q : VK} (hr : ∀ x y H Q, rD2 K g x y H Q → r x y H Q) (q : tE K (mBin g m m') σ H Q) : tOp r (tO K m) (tO K m') σ H Q := by
  obtain ⟨B, ρ, own, t, ρ', hB, es, e, k⟩ := q
  obtain ⟨⟨a, ρ1⟩, e1, e2⟩ := Option.bind_eq_some_iff.mp (show (m ρ).bind _ = some (t, ρ') from e)
  obtain ⟨⟨b, ρ2⟩, e3, e4⟩ := Option.bind_eq_some_iff.mp e2
  obtain ⟨u, e5, e6⟩ := Option.bind_eq_some_iff.mp e4
  obtain ⟨w, e7, e8⟩ := Option.bind_eq_some_iff.mp e6
  obtain ⟨z, e9, e10⟩ := Option.map_eq_some_iff.mp e8
  cases e10
  refine ⟨B, ρ, own, a, ρ1, hB, es, e1, fun v H1 own1 st1 es1 r1 => ?_⟩
  refine ⟨B + 1, ρ1, own1, b, ρ2, Nat.le_succ_of_le hB, es1, e3, fun v2 H2 own2 st2 es2 r2 => ?_⟩
  have r1' := argStep (K := K) (σ := σ) (v := v) (a := a) st2 hB (Nat.lt_succ_self B) r1
  refine hr _ _ _ _ ⟨u.data, w.data, _, argRp es2 r1' e5, argRp es2 r2 e7, e9, fun v3 H3 f => ?_⟩
  exact k v3 H3 _ ((st1.trans (st2.down (Nat.le_succ B))).trans f.step) (f.es es2) f.rep'
theorem px_op {op : Operator} {g : D → D → Option T} (ho : OpD X (binaryOp op) g) (ha : PO X a m) (hb : PO X b m') : PX X (.BinOp a op b pos) (mBin g m m') :=
  ⟨(pe_op ho ha.pe hb.pe).of fun σ H Q q => tE_bin (fun _ _ _ _ h => h) q⟩
theorem px_cmp {op : CmpOp} {g : D → D → Option T} (ho : OpD X (compareOp op) g) (ha : PO X a m) (hb : PO X b m') (hm : behindInMarks op b = false) : PX X (.Compare a [op] [b] pos) (mBin g m m') :=
  ⟨(pe_cmpR ho ha.pe hb.pe hm).of fun σ H Q q => tE_bin (fun _ _ _ _ h => h) q⟩
theorem tE_cb {K : Fr} {g : List D → Option T} {r : List V → Hp → VK → Prop} {ms : MA} {σ : St} {H : Hp} {Q : VK} (hr : ∀ x H Q, rDA K g x H Q → r x H Q) (q : tE K (mCB g ms) σ H Q) : tCB r (tA K ms) σ H Q := by
  obtain ⟨B, ρ, own, t, ρ', hB, es, e, k⟩ := q
  obtain ⟨⟨as, ρ1⟩, e1, e2⟩ := Option.bind_eq_some_iff.mp (show (ms ρ).bind _ = some (t, ρ') from e)
  obtain ⟨ds, e3, e4⟩ := Option.bind_eq_some_iff.mp e2
  obtain ⟨w, e5, e6⟩ := Option.map_eq_some_iff.mp e4
  cases e6
  refine ⟨B, ρ, own, as, ρ1, hB, es, e1, fun vs H1 own1 st1 es1 r1 => ?_⟩
  refine hr _ _ _ ⟨ds, _, argsRp es1 r1 e3, e5, fun v2 H2 f => ?_⟩
  exact k v2 H2 _ (st1.trans f.step) (f.es es1) f.rep'
theorem px_cb {x : Str} {id : String} {es : List Expr} {e : Expr} {g : List D → Option T} {ms : MA} {p : Pos} (hc : CallD X (.builtin id) g) (hg : Gl X x) (hm : X.mg x = none) (hv : bootBuiltins x = some (.builtin id)) (ha : PAr X (e :: es) ms)
    (hn : x ≠ "__name__" := by decide) (hdb : (x == ("__debug__" : Str)) = false := by decide) (hs : starEach (e :: es) X.env = (false, eval e X.env) :: starEach es X.env := by rfl) (hpl : (backTo pos (starEach es X.env)).any (·.1) = false := by rfl) : PX X (.Call (.Name x p) (e :: es) [] pos) (mCB g ms) :=
  ⟨(pe_callB hc hg hm hv ha.pa hn hdb hs hpl).of fun σ H Q q => tE_cb (fun _ _ _ h => h) q⟩
theorem px_ct {x : Str} {id : String} {es : List Expr} {e : Expr} {g : List D → Option T} {ms : MA} {p : Pos} (hc : CallD X (.type id) g) (hg : Gl X x) (hm : X.mg x = none) (hv : bootBuiltins x = some (.type id)) (ha : PAr X (e :: es) ms)
    (hn : x ≠ "__name__" := by decide) (hdb : (x == ("__debug__" : Str)) = false := by decide) (hs : starEach (e :: es) X.env = (false, eval e X.env) :: starEach es X.env := by rfl) (hpl : (backTo pos (starEach es X.env)).any (·.1) = false := by rfl) : PX X (.Call (.Name x p) (e :: es) [] pos) (mCB g ms) :=
  ⟨(pe_callTy hc hg hm hv ha.pa hn hdb hs hpl).of fun σ H Q q => tE_cb (fun _ _ _ h => h) q⟩
end
end VL

set_option Elab.async false
set_option linter.all false
set_option maxRecDepth 100000
set_option maxHeartbeats 4000000
namespace VL
open PySem PySem.Spec PyProof.Rows L2

/-! ### tests -/
def truth : D → Option Bool
  | .none => some false
  | .bool b => some b
  | .int i => some (i != 0)
  | .list ds => some !ds.isEmpty
  | .tuple ds => some !ds.isEmpty
  | _ => none
def bT (m : MO) : MB := fun ρ => (m ρ).bind fun p => (p.1.get p.2).bind fun t => (truth t.data).map fun b => (b, p.2)
theorem isEmpty_FzA {K : Fr} {H : Hp} {vs : List V} {ds : List D} (f : FzA K H vs ds) : (!vs.isEmpty) = !ds.isEmpty := by cases f <;> rfl
theorem truV {K : Fr} {H : Hp} {v : V} {d : D} {b : Bool} (r : Rp K H v d) (e : truth d = some b) : TruV K v H b := by
  cases d with
  | none => cases e; rw [r.non]; exact rfl
  | bool c => cases e; rw [r.bl]; exact rfl
  | int i => cases e; rw [r.int]; exact rfl
  | str x => cases e
  | list ds =>
    cases e
    obtain ⟨a, xs, rfl, q, f⟩ := r.list
    exact .inl ⟨xs, q, (isEmpty_FzA f).symm⟩
  | tuple ds =>
    cases e
    obtain ⟨a, xs, rfl, q, f⟩ := r.tuple
    exact .inr (.inl ⟨xs, q, (isEmpty_FzA f).symm⟩)
  | dict kvs => cases e
section
variable {X : Cx} {a b c : Expr} {rest : List Expr} {m m' m'' : MO} {n n' : MB} {pos : Pos}
theorem pb_t (ha : PO X a m) (he : ∀ whole, isTrue a X.env whole = (do let v ← whole; standAt a.pos; holding [v] (truthy v)) := by intro _; rfl) : PB X a (bT m) := ⟨(pt_truth ha.pe he).of fun σ H Q q => by
  obtain ⟨B, ρ, own, t, ρ', hB, es, e, k⟩ := q
  obtain ⟨⟨x, ρ1⟩, e1, e2⟩ := Option.bind_eq_some_iff.mp (show (m ρ).bind _ = some (t, ρ') from e)
  obtain ⟨u, e3, e4⟩ := Option.bind_eq_some_iff.mp e2
  obtain ⟨w, e5, e6⟩ := Option.map_eq_some_iff.mp e4
  cases e6
  refine ⟨B, ρ, own, x, _, hB, es, e1, fun v H1 own1 st1 es1 r1 => ?_⟩
  exact ⟨_, truV (argRp es1 r1 e3) e5, k H1 own1 st1 es1⟩⟩
/-- a value that is a bool -/
def bV (m : ME) : MB := fun ρ => (m ρ).bind fun p => match p.1 with
  | .z (.bool b) => some (b, p.2)
  | _ => none
theorem bV_some {m : ME} {ρ ρ' : Env} {b : Bool} (e : bV m ρ = some (b, ρ')) : m ρ = some (.z (.bool b), ρ') := by
  obtain ⟨⟨t, ρ1⟩, e1, e2⟩ := Option.bind_eq_some_iff.mp (show (m ρ).bind _ = some (b, ρ') from e)
  rw [e1]
  cases t with
  | z d => cases d <;> first | (cases e2; rfl) | cases e2
  | l ds => cases e2
  | dc kvs => cases e2
theorem tB_of {K : Fr} {m : ME} {σ : St} {H : Hp} {Q : Bool → Hp → Prop} (q : tT K (bV m) σ H Q) : tE K m σ H fun x H1 => ∃ c, x = .bl c ∧ Q c H1 := by
  obtain ⟨B, ρ, own, t, ρ', hB, es, e, k⟩ := q
  refine ⟨B, ρ, own, _, ρ', hB, es, bV_some e, fun v H1 own1 st1 es1 r1 => ⟨t, ?_, k H1 own1 st1 es1⟩⟩
  have r2 : Fz K H1 v (.bool t) := r1
  cases r2; rfl
theorem pb_cmp {op : CmpOp} {g : D → D → Option T} (ho : OpD X (compareOp op) g) (ha : PO X a m) (hb : PO X b m') (hm : behindInMarks op b = false) : PB X (.Compare a [op] [b] pos) (bV (mBin g m m')) :=
  ⟨(pt_cmpR ho ha.pe hb.pe hm).of fun σ H Q q => tE_bin (fun _ _ _ _ h => h) (tB_of q)⟩
def mChain (g g' : D → D → Option T) (m m' m'' : MO) : ME := fun ρ => (m ρ).bind fun p => (m' p.2).bind fun q => (p.1.get q.2).bind fun t => (q.1.get q.2).bind fun u => (g t.data u.data).bind fun r => match r with
  | .z (.bool true) => (m'' q.2).bind fun o => (q.1.get o.2).bind fun u => (o.1.get o.2).bind fun w => (g' u.data w.data).map fun z => (z, o.2)
  | .z (.bool false) => some (.z (.bool false), q.2)
  | _ => none
theorem tE_chain {K : Fr} {g g' : D → D → Option T} {σ : St} {H : Hp} {Q : VK} (q : tE K (mChain g g' m m' m'') σ H Q) : tChain (rD2 K g) (rD2 K g') (tO K m) (tO K m') (tO K m'') σ H Q := by
  obtain ⟨B, ρ, own, t, ρ', hB, es, e, k⟩ := q
  obtain ⟨⟨a, ρ1⟩, e1, e2⟩ := Option.bind_eq_some_iff.mp (show (m ρ).bind _ = some (t, ρ') from e)
  obtain ⟨⟨b, ρ2⟩, e3, e4⟩ := Option.bind_eq_some_iff.mp e2
  obtain ⟨u, e5, e6⟩ := Option.bind_eq_some_iff.mp e4
  obtain ⟨w, e7, e8⟩ := Option.bind_eq_some_iff.mp e6
  obtain ⟨z, e9, e10⟩ := Option.bind_eq_some_iff.mp e8
  refine ⟨B, ρ, own, a, ρ1, hB, es, e1, fun v H1 own1 st1 es1 r1 => ?_⟩
  refine ⟨B + 1, ρ1, own1, b, ρ2, Nat.le_succ_of_le hB, es1, e3, fun v2 H2 own2 st2 es2 r2 => ?_⟩
  have r1' := argStep (K := K) (σ := σ) (v := v) (a := a) st2 hB (Nat.lt_succ_self B) r1
  refine ⟨u.data, w.data, _, argRp es2 r1' e5, argRp es2 r2 e7, e9, fun v3 H3 f => ?_⟩
  cases z with
  | l ds => cases e10
  | dc kvs => cases e10
  | z d =>
    cases d with
    | bool c =>
      have fz : Fz K H3 v3 (.bool c) := f.rep
      cases fz
      refine ⟨c, rfl, ?_⟩
      cases c with
      | false =>
        cases e10
        rw [if_neg Bool.false_ne_true]
        exact k _ H3 _ ((st1.trans (st2.down (Nat.le_succ B))).trans f.step) (f.es es2) (.bl false)
      | true =>
        rw [if_pos rfl]
        obtain ⟨⟨o, ρ3⟩, e11, e12⟩ := Option.bind_eq_some_iff.mp (show (m'' ρ2).bind _ = some (t, ρ') from e10)
        obtain ⟨u2, e13, e14⟩ := Option.bind_eq_some_iff.mp e12
        obtain ⟨w2, e15, e16⟩ := Option.bind_eq_some_iff.mp e14
        obtain ⟨z2, e17, e18⟩ := Option.map_eq_some_iff.mp e16
        cases e18
        have st3 : Step σ.length (B + 2) own2 H2 (born (B + 2) H2 own2) H3 := f.step
        have es3 := f.es (B := B + 2) es2
        refine ⟨B + 2, ρ2, _, o, _, by omega, es3, e11, fun v4 H4 own4 st4 es4 r4 => ?_⟩
        have r2a := argStep (K := K) (σ := σ) (v := v2) (a := b) st3 (show σ.length ≤ B + 1 by omega) (by omega) r2
        have r2' := argStep (K := K) (σ := σ) (v := v2) (a := b) st4 (show σ.length ≤ B + 1 by omega) (by omega) r2a
        refine ⟨u2.data, w2.data, _, argRp es4 r2' e13, argRp es4 r4 e15, e17, fun v5 H5 f5 => ?_⟩
        exact k v5 H5 _ ((((st1.trans (st2.down (Nat.le_succ B))).trans (st3.down (by omega))).trans (st4.down (by omega))).trans f5.step) (f5.es es4) f5.rep'
    | _ => cases e10
theorem px_chain {op op' : CmpOp} {g g' : D → D → Option T} (ho : OpD X (compareOp op) g) (ho' : OpD X (compareOp op') g') (ha : PO X a m) (hb : PO X b m') (hc : PO X c m'')
    (hm : lastMarks [op, op'] [b, c] = false := by with_unfolding_all rfl) : PX X (.Compare a [op, op'] [b, c] pos) (mChain g g' m m' m'') := ⟨(pe_chain ho ho' ha.pe hb.pe hc.pe hm).of fun σ H Q q => tE_chain q⟩
theorem pb_chain {op op' : CmpOp} {g g' : D → D → Option T} (ho : OpD X (compareOp op) g) (ho' : OpD X (compareOp op') g') (ha : PO X a m) (hb : PO X b m') (hc : PO X c m'')
    (hm : lastMarks [op, op'] [b, c] = false := by with_unfolding_all rfl) : PB X (.Compare a [op, op'] [b, c] pos) (bV (mChain g g' m m' m'')) := ⟨(pt_chain ho ho' ha.pe hb.pe hc.pe hm).of fun σ H Q q => tE_chain (tB_of q)⟩
structure PBw (X : Cx) (e : Expr) (m : MB) : Prop where
  pw : PW X e (tT X.K m)
def bAnd (n n' : MB) : MB := fun ρ => (n ρ).bind fun p => match p.1 with
  | true => n' p.2
  | false => some (false, p.2)
def bOr (n n' : MB) : MB := fun ρ => (n ρ).bind fun p => match p.1 with
  | false => n' p.2
  | true => some (true, p.2)
def bNot (n : MB) : MB := fun ρ => (n ρ).map fun p => (!p.1, p.2)
theorem PW.of {X : Cx} {e : Expr} {t t' : TT} (h : PW X e t') (i : ∀ σ H Q, t σ H Q → t' σ H Q) : PW X e t := ⟨fun wh pins s σ H Q I q => h.run wh pins s σ H Q I (i σ H Q q)⟩
theorem pbw_and1 (ha : PB X a n) : PBw X (.BoolOp .And [a] pos) n := ⟨pw_and1 ha.pt⟩
theorem pbw_or1 (ha : PB X a n) : PBw X (.BoolOp .Or [a] pos) n := ⟨pw_or1 ha.pt⟩
theorem pbw_and (ha : PB X a n) (hb : PBw X (.BoolOp .And (b :: rest) pos) n') : PBw X (.BoolOp .And (a :: b :: rest) pos) (bAnd n n') := ⟨PW.of (pw_and ha.pt hb.pw) fun σ H Q q => by
  obtain ⟨B, ρ, own, t, ρ', hB, es, e, k⟩ := q
  obtain ⟨⟨c, ρ1⟩, e1, e2⟩ := Option.bind_eq_some_iff.mp (show (n ρ).bind _ = some (t, ρ') from e)
  refine ⟨B, ρ, own, c, ρ1, hB, es, e1, fun H1 own1 st1 es1 => ?_⟩
  cases c with
  | false => cases e2; rw [if_neg Bool.false_ne_true]; exact k H1 own1 st1 es1
  | true => rw [if_pos rfl]; exact ⟨B, ρ1, own1, t, ρ', hB, es1, e2, fun H2 own2 st2 es2 => k H2 own2 (st1.trans st2) es2⟩⟩
theorem pbw_or (ha : PB X a n) (hb : PBw X (.BoolOp .Or (b :: rest) pos) n') : PBw X (.BoolOp .Or (a :: b :: rest) pos) (bOr n n') := ⟨PW.of (pw_or ha.pt hb.pw) fun σ H Q q => by
  obtain ⟨B, ρ, own, t, ρ', hB, es, e, k⟩ := q
  obtain ⟨⟨c, ρ1⟩, e1, e2⟩ := Option.bind_eq_some_iff.mp (show (n ρ).bind _ = some (t, ρ') from e)
  refine ⟨B, ρ, own, c, ρ1, hB, es, e1, fun H1 own1 st1 es1 => ?_⟩
  cases c with
  | true => cases e2; rw [if_pos rfl]; exact k H1 own1 st1 es1
  | false => rw [if_neg Bool.false_ne_true]; exact ⟨B, ρ1, own1, t, ρ', hB, es1, e2, fun H2 own2 st2 es2 => k H2 own2 (st1.trans st2) es2⟩⟩
theorem PBw.pb {e : Expr} (h : PBw X e n) : PB X e n := ⟨h.pw.pt⟩
theorem pb_not (ha : PB X a n) : PB X (.UnaryOp .Not a pos) (bNot n) := ⟨(pt_not ha.pt).of fun σ H Q q => by
  obtain ⟨B, ρ, own, t, ρ', hB, es, e, k⟩ := q
  obtain ⟨⟨c, ρ1⟩, e1, e2⟩ := Option.map_eq_some_iff.mp (show (n ρ).map _ = some (t, ρ') from e)
  cases e2
  exact ⟨B, ρ, own, c, _, hB, es, e1, k⟩⟩
/-! ### and, or, not as values -/
variable {p p' : ME}
def mAnd (p p' : ME) : ME := fun ρ => (bV p ρ).bind fun q => match q.1 with
  | true => p' q.2
  | false => some (.z (.bool false), q.2)
def mOr (p p' : ME) : ME := fun ρ => (bV p ρ).bind fun q => match q.1 with
  | false => p' q.2
  | true => some (.z (.bool true), q.2)
def mNot (p : ME) : ME := fun ρ => (bV p ρ).map fun q => (.z (.bool !q.1), q.2)
theorem px_one {op} (h : PX X a p) : PX X (.BoolOp op [a] pos) p := ⟨pe_one h.pe⟩
theorem px_and (ha : PX X a p) (hb : PX X (.BoolOp .And (b :: rest) pos) p') : PX X (.BoolOp .And (a :: b :: rest) pos) (mAnd p p') := ⟨(pe_and ha.pe hb.pe).of fun σ H Q q => by
  obtain ⟨B, ρ, own, t, ρ', hB, es, e, k⟩ := q
  obtain ⟨⟨c, ρ1⟩, e1, e2⟩ := Option.bind_eq_some_iff.mp (show (bV p ρ).bind _ = some (t, ρ') from e)
  refine ⟨B, ρ, own, _, ρ1, hB, es, bV_some e1, fun v H1 own1 st1 es1 r1 => ?_⟩
  have fz : Fz X.K H1 v (.bool c) := r1
  cases fz
  refine ⟨c, rfl, ?_⟩
  cases c with
  | false => cases e2; rw [if_neg Bool.false_ne_true]; exact k _ H1 own1 st1 es1 (.bl false)
  | true => rw [if_pos rfl]; exact ⟨B, ρ1, own1, t, ρ', hB, es1, e2, fun v2 H2 own2 st2 es2 r2 => k v2 H2 own2 (st1.trans st2) es2 r2⟩⟩
theorem px_or (ha : PX X a p) (hb : PX X (.BoolOp .Or (b :: rest) pos) p') : PX X (.BoolOp .Or (a :: b :: rest) pos) (mOr p p') := ⟨(pe_or ha.pe hb.pe).of fun σ H Q q => by
  obtain ⟨B, ρ, own, t, ρ', hB, es, e, k⟩ := q
  obtain ⟨⟨c, ρ1⟩, e1, e2⟩ := Option.bind_eq_some_iff.mp (show (bV p ρ).bind _ = some (t, ρ') from e)
  refine ⟨B, ρ, own, _, ρ1, hB, es, bV_some e1, fun v H1 own1 st1 es1 r1 => ?_⟩
  have fz : Fz X.K H1 v (.bool c) := r1
  cases fz
  refine ⟨c, rfl, ?_⟩
  cases c with
  | true => cases e2; rw [if_pos rfl]; exact k _ H1 own1 st1 es1 (.bl true)
  | false => rw [if_neg Bool.false_ne_true]; exact ⟨B, ρ1, own1, t, ρ', hB, es1, e2, fun v2 H2 own2 st2 es2 r2 => k v2 H2 own2 (st1.trans st2) es2 r2⟩⟩
theorem px_not (ha : PX X a p) : PX X (.UnaryOp .Not a pos) (mNot p) := ⟨(pe_not ha.pe).of fun σ H Q q => by
  obtain ⟨B, ρ, own, t, ρ', hB, es, e, k⟩ := q
  obtain ⟨⟨c, ρ1⟩, e1, e2⟩ := Option.map_eq_some_iff.mp (show (bV p ρ).map _ = some (t, ρ') from e)
  cases e2
  refine ⟨B, ρ, own, _, _, hB, es, bV_some e1, fun v H1 own1 st1 es1 r1 => ?_⟩
  have fz : Fz X.K H1 v (.bool c) := r1
  cases fz
  exact ⟨c, rfl, k _ H1 own1 st1 es1 (.bl _)⟩⟩
def mIf (n : MB) (p p' : ME) : ME := fun ρ => (n ρ).bind fun q => match q.1 with
  | true => p q.2
  | false => p' q.2
theorem px_if (hc : PB X c n) (ha : PX X a p) (hb : PX X b p') : PX X (.IfExp c a b pos) (mIf n p p') := ⟨(pe_ifExp hc.pt ha.pe hb.pe).of fun σ H Q q => by
  obtain ⟨B, ρ, own, t, ρ', hB, es, e, k⟩ := q
  obtain ⟨⟨c, ρ1⟩, e1, e2⟩ := Option.bind_eq_some_iff.mp (show (n ρ).bind _ = some (t, ρ') from e)
  refine ⟨B, ρ, own, c, ρ1, hB, es, e1, fun H1 own1 st1 es1 => ?_⟩
  cases c with
  | true => rw [if_pos rfl]; exact ⟨B, ρ1, own1, t, ρ', hB, es1, e2, fun v2 H2 own2 st2 es2 r2 => k v2 H2 own2 (st1.trans st2) es2 r2⟩
  | false => rw [if_neg Bool.false_ne_true]; exact ⟨B, ρ1, own1, t, ρ', hB, es1, e2, fun v2 H2 own2 st2 es2 r2 => k v2 H2 own2 (st1.trans st2) es2 r2⟩⟩
/-! ### displays -/
/-- arguments that never change -/
def zs : List Arg → Option (List D)
  | [] => some []
  | .val (.z d) :: as => (zs as).map fun ds => d :: ds
  | _ :: _ => none
theorem zs_fz {K : Fr} {H : Hp} {σ : St} {own : Ow} : ∀ {as : List Arg} {vs : List V} {j : Nat} {ds : List D}, ArgsRep K H σ own j vs as → zs as = some ds → FzA K H vs ds
  | [], [], _, ds, _, g => by cases g; exact .nil
  | [], _ :: _, _, _, r, _ => False.elim r
  | _ :: _, [], _, _, r, _ => False.elim r
  | .val (.z d) :: as, v :: vs, j, ds, ⟨r1, r2⟩, g => by
    obtain ⟨ds', e3, e4⟩ := Option.map_eq_some_iff.mp (show (zs as).map _ = some ds from g)
    subst e4
    exact .cons r1 (zs_fz r2 e3)
  | .val (.l d) :: as, v :: vs, j, ds, _, g => by cases g
  | .val (.dc d) :: as, v :: vs, j, ds, _, g => by cases g
  | .slot i :: as, v :: vs, j, ds, _, g => by cases g
def mTup (m : MA) : ME := fun ρ => (m ρ).bind fun p => (zs p.1).bind fun ds => if ds.length ≤ 1000 then some (.z (.tuple ds), p.2) else none
def mLst (m : MA) : ME := fun ρ => (m ρ).bind fun p => (zs p.1).bind fun ds => if ds.length ≤ 1000 then some (.l ds, p.2) else none
variable {es : List Expr} {ms : MA}
theorem line1000 {n : Nat} (h : n ≤ 1000) : n ≤ sizeLine := Nat.le_trans h (by decide)
theorem px_tup {x1} (h : PAr X es ms) : PX X (.Tuple es x1 pos) (mTup ms) := ⟨(pe_tup h.pa).of fun σ H Q q => by
  obtain ⟨B, ρ, own, t, ρ', hB, es, e, k⟩ := q
  obtain ⟨⟨as, ρ1⟩, e1, e2⟩ := Option.bind_eq_some_iff.mp (show (ms ρ).bind _ = some (t, ρ') from e)
  obtain ⟨ds, e3, e4⟩ := Option.bind_eq_some_iff.mp e2
  by_cases hl : ds.length ≤ 1000
  · rw [if_pos hl] at e4
    cases e4
    refine ⟨B, ρ, own, as, _, hB, es, e1, fun vs H1 own1 st1 es1 r1 => ?_⟩
    have f := zs_fz r1 e3
    refine ⟨line1000 (by rw [f.length]; exact hl), fun p hp => ?_⟩
    have fr : Fresh X.K H1 (upd H1 p (.tup vs)) (.ref p) (.z (.tuple ds)) := .tup hp f
    exact k _ _ _ (st1.trans fr.step) (fr.es es1) fr.rep'
  · rw [if_neg hl] at e4; cases e4⟩
theorem px_lst (h : PAr X es ms) : PX X (.List es pos) (mLst ms) := ⟨(pe_lst h.pa).of fun σ H Q q => by
  obtain ⟨B, ρ, own, t, ρ', hB, es, e, k⟩ := q
  obtain ⟨⟨as, ρ1⟩, e1, e2⟩ := Option.bind_eq_some_iff.mp (show (ms ρ).bind _ = some (t, ρ') from e)
  obtain ⟨ds, e3, e4⟩ := Option.bind_eq_some_iff.mp e2
  by_cases hl : ds.length ≤ 1000
  · rw [if_pos hl] at e4
    cases e4
    refine ⟨B, ρ, own, as, _, hB, es, e1, fun vs H1 own1 st1 es1 r1 => ?_⟩
    have f := zs_fz r1 e3
    refine ⟨line1000 (by rw [f.length]; exact hl), fun p hp => ?_⟩
    have fr : Fresh X.K H1 (upd H1 p (.lst vs)) (.ref p) (.l ds) := .lst hp f
    exact k _ _ _ (st1.trans fr.step) (fr.es es1) fr.rep'
  · rw [if_neg hl] at e4; cases e4⟩
end

/-! ### statements -/
def sNx : MS := fun ρ => some (.nx, ρ)
def sBk : MS := fun ρ => some (.bk, ρ)
def sCt : MS := fun ρ => some (.ct, ρ)
def sSeq (m m' : MS) : MS := fun ρ => (m ρ).bind fun p => match p.1 with
  | .nx => m' p.2
  | f => some (f, p.2)
def sRet (m : ME) : MS := fun ρ => (m ρ).map fun p => (.ret p.1, p.2)
def sRetN : MS := fun ρ => some (.ret (.z .none), ρ)
def sDrop (m : ME) : MS := fun ρ => (m ρ).map fun p => (.nx, p.2)
def sIf (n : MB) (m m' : MS) : MS := fun ρ => (n ρ).bind fun q => match q.1 with
  | true => m q.2
  | false => m' q.2
def sNo : MS := fun _ => none
def setSl (i : Nat) (t : T) (ρ : Env) : Option Env := if i < ρ.length then some (ρ.set i (some t)) else none
def sSet (i : Nat) (m : ME) : MS := fun ρ => (m ρ).bind fun p => (setSl i p.1 p.2).map fun ρ' => (.nx, ρ')
section
variable {X : Cx} {pin : List Nat} {st : Stmt} {rest : List Stmt} {m m' : MS} {e : Expr} {p : ME} {pos : Pos}
theorem pst_0 : PSts X pin [] sNx := ⟨pss_nil.of fun D σ H q => by
  obtain ⟨B, ρ, own, f, ρ', hB, es, e, k⟩ := q
  cases e
  exact k σ H own rfl (fun _ _ => rfl) .refl es⟩
theorem ps_pass' : PSt X pin (.Pass pos) sNx := ⟨ps_pass.of fun D σ H q => by
  obtain ⟨B, ρ, own, f, ρ', hB, es, e, k⟩ := q
  cases e
  exact k σ H own rfl (fun _ _ => rfl) .refl es⟩
theorem ps_bk : PSt X pin (.Break pos) sBk := ⟨ps_break.of fun D σ H q => by
  obtain ⟨B, ρ, own, f, ρ', hB, es, e, k⟩ := q
  cases e
  exact k σ H own rfl (fun _ _ => rfl) .refl es⟩
theorem ps_ct : PSt X pin (.Continue pos) sCt := ⟨ps_continue.of fun D σ H q => by
  obtain ⟨B, ρ, own, f, ρ', hB, es, e, k⟩ := q
  cases e
  exact k σ H own rfl (fun _ _ => rfl) .refl es⟩
theorem ps_no : PSt X pin st sNo := ⟨ps_never.of fun D σ H q => by
  obtain ⟨B, ρ, own, f, ρ', hB, es, e, k⟩ := q
  cases e⟩
theorem tS_seq {K : Fr} {D : Ends} {σ : St} {H : Hp} (q : tS K pin (sSeq m m') D σ H) : tS K pin m { D with nx := tS K pin m' D } σ H := by
  obtain ⟨B, ρ, own, f, ρ', hB, es, e, k⟩ := q
  obtain ⟨⟨g, ρ1⟩, e1, e2⟩ := Option.bind_eq_some_iff.mp (show (m ρ).bind _ = some (f, ρ') from e)
  refine ⟨B, ρ, own, g, ρ1, hB, es, e1, fun σ1 H1 own1 l1 pn st1 es1 => ?_⟩
  cases g with
  | nx =>
    refine ⟨B, ρ1, own1, f, ρ', by rw [l1]; exact hB, es1, e2, fun σ2 H2 own2 l2 pn2 st2 es2 => ?_⟩
    have z := k σ2 H2 own2 (l2.trans l1) (fun j hj => (pn2 j hj).trans (pn j hj)) (st1.trans (by rw [← l1]; exact st2)) es2
    exact z
  | bk => cases e2; exact k σ1 H1 own1 l1 pn st1 es1
  | ct => cases e2; exact k σ1 H1 own1 l1 pn st1 es1
  | ret t => cases e2; exact k σ1 H1 own1 l1 pn st1 es1
theorem pst_c (h1 : PSt X pin st m) (h2 : PSts X pin rest m') : PSts X pin (st :: rest) (sSeq m m') := ⟨(pss_cons h1.ps h2.ps).of fun D σ H q => tS_seq q⟩
theorem pst_1 (h1 : PSt X pin st m) : PSts X pin [st] m := ⟨pss_one h1.ps⟩
theorem ps_ret' (he : PX X e p) : PSt X pin (.Return (some e) pos) (sRet p) := ⟨(ps_ret he.pe).of fun D σ H q => by
  obtain ⟨B, ρ, own, f, ρ', hB, es, e, k⟩ := q
  obtain ⟨⟨t, ρ1⟩, e1, e2⟩ := Option.map_eq_some_iff.mp (show (p ρ).map _ = some (f, ρ') from e)
  cases e2
  exact ⟨B, ρ, own, t, _, hB, es, e1, fun v H1 own1 st1 es1 r1 => k σ H1 own1 rfl (fun _ _ => rfl) st1 es1 v r1⟩⟩
theorem ps_retn : PSt X pin (.Return none pos) sRetN := ⟨ps_retN.of fun D σ H q => by
  obtain ⟨B, ρ, own, f, ρ', hB, es, e, k⟩ := q
  cases e
  exact k σ H own rfl (fun _ _ => rfl) .refl es _ .non⟩
theorem ps_ex (he : PX X e p) (hs : swapsWith e none pos.line X.env = pure false := by rfl) : PSt X pin (.Expr e pos) (sDrop p) := ⟨(ps_expr he.pe hs).of fun D σ H q => by
  obtain ⟨B, ρ, own, f, ρ', hB, es, e, k⟩ := q
  obtain ⟨⟨t, ρ1⟩, e1, e2⟩ := Option.map_eq_some_iff.mp (show (p ρ).map _ = some (f, ρ') from e)
  cases e2
  exact ⟨B, ρ, own, t, _, hB, es, e1, fun v H1 own1 st1 es1 r1 => k σ H1 own1 rfl (fun _ _ => rfl) st1 es1⟩⟩
theorem ps_if' {c : Expr} {a b : List Stmt} {n : MB} (hc : PB X c n) (ha : PSts X pin a m) (hb : PSts X pin b m') : PSt X pin (.If c a b pos) (sIf n m m') := ⟨(ps_if hc.pt ha.ps hb.ps).of fun D σ H q => by
  obtain ⟨B, ρ, own, f, ρ', hB, es, e, k⟩ := q
  obtain ⟨⟨d, ρ1⟩, e1, e2⟩ := Option.bind_eq_some_iff.mp (show (n ρ).bind _ = some (f, ρ') from e)
  refine ⟨B, ρ, own, d, ρ1, hB, es, e1, fun H1 own1 st1 es1 => ?_⟩
  cases d with
  | true => rw [if_pos rfl]; exact ⟨B, ρ1, own1, f, ρ', hB, es1, e2, fun σ2 H2 own2 l2 pn2 st2 es2 => k σ2 H2 own2 l2 pn2 (st1.trans st2) es2⟩
  | false => rw [if_neg Bool.false_ne_true]; exact ⟨B, ρ1, own1, f, ρ', hB, es1, e2, fun σ2 H2 own2 l2 pn2 st2 es2 => k σ2 H2 own2 l2 pn2 (st1.trans st2) es2⟩⟩
theorem setSl_some {i : Nat} {t : T} {ρ ρ' : Env} (h : setSl i t ρ = some ρ') : i < ρ.length ∧ ρ' = ρ.set i (some t) := by
  unfold setSl at h
  by_cases hi : i < ρ.length
  · rw [if_pos hi] at h; cases h; exact ⟨hi, rfl⟩
  · rw [if_neg hi] at h; cases h
theorem tS_set {K : Fr} {i : Nat} {D : Ends} {σ : St} {H : Hp} (hp : pin.contains i = false) (q : tS K pin (sSet i p) D σ H) : tAsg (tE K p) (gName i) D σ H := by
  obtain ⟨B, ρ, own, f, ρ', hB, es, e, k⟩ := q
  obtain ⟨⟨t, ρ1⟩, e1, e2⟩ := Option.bind_eq_some_iff.mp (show (p ρ).bind _ = some (f, ρ') from e)
  obtain ⟨ρ2, e3, e4⟩ := Option.map_eq_some_iff.mp e2
  cases e4
  obtain ⟨hi, rfl⟩ := setSl_some e3
  refine ⟨B, ρ, own, t, ρ1, hB, es, e1, fun v H1 own1 st1 es1 r1 => ?_⟩
  have hi' : i < σ.length := by rw [← es1.len]; exact hi
  refine k (σ.set i (some v)) H1 (rel B i own1) (by simp) (fun j hj => ?_) (st1.trans (rel_step (Nat.le_refl B) hi')) (es1.setSlot hB hi' r1)
  rw [List.getElem?_set_ne]
  intro z
  subst z
  rw [List.contains_iff_mem.mpr hj] at hp
  cases hp
theorem ps_set' {i : Nat} {x : Str} {pos' : Pos} (h : ∀ t : TE, PE X e t → PS X (.Assign [.Name x pos'] e pos) (tAsg t (gName i))) (hp : pin.contains i = false) (he : PX X e p) : PSt X pin (.Assign [.Name x pos'] e pos) (sSet i p) :=
  ⟨(h _ he.pe).of fun D σ H q => tS_set hp q⟩

/-! ### while -/
def sWh (n : MB) (m : MS) : Nat → MS
  | 0, _ => none
  | k + 1, ρ => (n ρ).bind fun q => match q.1 with
    | false => some (.nx, q.2)
    | true => (m q.2).bind fun p => match p.1 with
      | .nx => sWh n m k p.2
      | .ct => sWh n m k p.2
      | .bk => some (.nx, p.2)
      | .ret t => some (.ret t, p.2)
theorem ps_wh {c : Expr} {body : List Stmt} {n : MB} (k0 : Nat) (hp : PassesOwn (model X.prog X.w) X.A X.env X.xe) (hc : PB X c n) (hb : PSts X pin body m) : PSt X pin (.While c body [] pos) (sWh n m k0) := ⟨(ps_while hp hc.pt hb.ps).of fun D σ H q => by
  obtain ⟨B, ρ, own, f, ρ', hB, es, e, k⟩ := q
  refine ⟨fun j σ1 H1 => ∃ ρ1 own1, sWh n m j ρ1 = some (f, ρ') ∧ σ1.length = σ.length ∧ (∀ i ∈ pin, σ1[i]? = σ[i]?) ∧ Step σ.length B own H own1 H1 ∧ ES X.K H1 σ1 ρ1 own1, ⟨k0, ρ, own, e, rfl, fun _ _ => rfl, .refl, es⟩, ?_⟩
  rintro j σ1 H1 ⟨ρ1, own1, e1, l1, pn1, st1, es1⟩
  cases j with
  | zero => cases e1
  | succ j =>
    obtain ⟨⟨d, ρ2⟩, e2, e3⟩ := Option.bind_eq_some_iff.mp (show (n ρ1).bind _ = some (f, ρ') from e1)
    refine ⟨B, ρ1, own1, d, ρ2, by rw [l1]; exact hB, es1, e2, fun H2 own2 st2 es2 => ?_⟩
    rw [l1] at st2
    cases d with
    | false =>
      cases e3
      rw [if_neg Bool.false_ne_true]
      exact k σ1 H2 own2 l1 pn1 (st1.trans st2) es2
    | true =>
      rw [if_pos rfl]
      obtain ⟨⟨g, ρ3⟩, e4, e5⟩ := Option.bind_eq_some_iff.mp (show (m ρ2).bind _ = some (f, ρ') from e3)
      refine ⟨fun σ3 H3 => ∃ ρ1 own1, sWh n m j ρ1 = some (f, ρ') ∧ σ3.length = σ.length ∧ (∀ i ∈ pin, σ3[i]? = σ[i]?) ∧ Step σ.length B own H own1 H3 ∧ ES X.K H3 σ3 ρ1 own1, fun σ3 H3 h => ⟨j, Nat.lt_succ_self j, h⟩, ?_⟩
      refine ⟨B, ρ2, own2, g, ρ3, by rw [l1]; exact hB, es2, e4, fun σ3 H3 own3 l3 pn3 st3 es3 => ?_⟩
      rw [l1] at st3
      have l3' := l3.trans l1
      have pn3' : ∀ i ∈ pin, σ3[i]? = σ[i]? := fun i hi => (pn3 i hi).trans (pn1 i hi)
      have st := (st1.trans st2).trans st3
      cases g with
      | nx => exact ⟨ρ3, own3, e5, l3', pn3', st, es3⟩
      | ct => exact ⟨ρ3, own3, e5, l3', pn3', st, es3⟩
      | bk => cases e5; exact k σ3 H3 own3 l3' pn3' st es3
      | ret t =>
        cases e5
        intro v r
        exact k σ3 H3 own3 l3' pn3' st es3 v r⟩
end
end VL

set_option Elab.async false
set_option linter.all false
set_option maxRecDepth 100000
set_option maxHeartbeats 4000000
namespace VL
open PySem PySem.Spec PyProof.Rows L2

/-! ### lists and tuples that are walked -/
inductive Knd where
  | l | t
def IsSeq (k : Knd) (h : Heap) (a : Addr) (its : Array Value) : Prop := match k with
  | .l => h.IsList a its
  | .t => h.IsTuple a its
def IsIter (k : Knd) (h : Heap) (it a : Addr) (i : Nat) : Prop := match k with
  | .l => h.IsListIter it a i
  | .t => h.IsTupleIter it a i
def SqK (K : Fr) (H : Hp) (k : Knd) (a : Addr) (xs : List V) : Prop := match k with
  | .l => SqL K H a xs
  | .t => SqT K H a xs
def iterO (k : Knd) (a : Addr) : Obj := match k with
  | .l => { cls := .type "list_iterator", data := .fields #[.ref a, .int 0 0] }
  | .t => { cls := .type "tuple_iterator", data := .fields #[.ref a, .int 0 0] }
theorem drawsK (k : Knd) {prog : Program} {w : World} {A : Around} (hh : A.handled = none) (it a : Addr) (hne : a ≠ it) (items : Array Value) :
    Draws prog w A it [it, a] items.size (fun i v => items[i]? = some v) (fun i h => IsIter k h it a i ∧ IsSeq k h a items) := match k with
  | .l => .list hh it a hne items
  | .t => .tuple hh it a hne items
theorem beginsK (k : Knd) (a : Addr) (items : Array Value) : Begins (.ref a) (iterO k a) fun h => IsSeq k h a items := match k with
  | .l => begins_list a items
  | .t => begins_tuple a items
theorem iterK (k : Knd) {h : Heap} {it a : Addr} (e : h.get? it = some (iterO k a)) : IsIter k h it a 0 := match k with
  | .l => ⟨_, e, rfl, rfl⟩
  | .t => ⟨_, e, rfl, rfl⟩
theorem IsIter.at {k : Knd} {h h' : Heap} {it a : Addr} {i : Nat} (x : IsIter k h it a i) (e : ∀ o, h.get? it = some o → h'.get? it = some o) : IsIter k h' it a i := match k with
  | .l => Heap.IsListIter.at x e
  | .t => Heap.IsTupleIter.at x e
theorem IsIter.obj {k : Knd} {h : Heap} {it a : Addr} {i : Nat} (x : IsIter k h it a i) : ∃ o, h.get? it = some o ∧ ∀ v, o.data ≠ .cell v := by
  cases k with
  | l => obtain ⟨o, e, _, d⟩ := x; exact ⟨o, e, fun v q => by rw [d] at q; cases q⟩
  | t => obtain ⟨o, e, _, d⟩ := x; exact ⟨o, e, fun v q => by rw [d] at q; cases q⟩
theorem IsSeq.at {k : Knd} {h h' : Heap} {a : Addr} {its : Array Value} (x : IsSeq k h a its) (e : ∀ o, h.get? a = some o → h'.get? a = some o) : IsSeq k h' a its := match k with
  | .l => Heap.IsList.at x e
  | .t => Heap.IsTuple.at x e
theorem IsSeq.lt {k : Knd} {h : Heap} {a : Addr} {its : Array Value} (x : IsSeq k h a its) : a < h.objs.size := by
  cases k with
  | l => obtain ⟨o, e, _⟩ := x; exact Heap.lt_size e
  | t => obtain ⟨o, e, _⟩ := x; exact Heap.lt_size e
section
variable {X : Cx} {pins : List (Addr × Obj)} {σ : St} {H : Hp} {s : Shared} {k : Knd} {a : Addr} {xs ys : List V}
theorem invSeq (I : Inv X pins σ H s) (h : SqK X.K H k a xs) : ∃ its : List Value, Vals xs its ∧ IsSeq k s.heap a its.toArray := by
  cases k with
  | l => obtain ⟨its, r, p, _⟩ := I.list h; exact ⟨its, r, p.isList⟩
  | t => obtain ⟨its, r, p, _⟩ := I.tuple h; exact ⟨its, r, p⟩
theorem invSeq_inj (I : Inv X pins σ H s) (h : SqK X.K H k a xs) (h' : SqK X.K H k a ys) : xs = ys := by
  cases k with
  | l => exact I.list_inj h h'
  | t => exact I.tuple_inj h h'
end
theorem Rp.seq {K : Fr} {H : Hp} {v : V} {k : Knd} {ds : List D} (h : Rp K H v (match k with | .l => .list ds | .t => .tuple ds)) : ∃ a xs, v = .ref a ∧ SqK K H k a xs ∧ FzA K H xs ds := by
  cases k with
  | l => exact h.list
  | t => exact h.tuple

/-- several of them -/
def SqAll (K : Fr) (H : Hp) : List (Knd × Addr) → List (List V) → Prop
  | [], [] => True
  | c :: cs, xs :: xss => SqK K H c.1 c.2 xs ∧ SqAll K H cs xss
  | _, _ => False
def IsAll (h : Heap) : List (Knd × Addr) → List (List Value) → Prop
  | [], [] => True
  | c :: cs, xs :: xss => IsSeq c.1 h c.2 xs.toArray ∧ IsAll h cs xss
  | _, _ => False
inductive ValsA : List (List V) → List (List Value) → Prop
  | nil : ValsA [] []
  | cons {xs : List V} {us : List Value} {xss : List (List V)} {uss : List (List Value)} : Vals xs us → ValsA xss uss → ValsA (xs :: xss) (us :: uss)
section
variable {X : Cx} {pins : List (Addr × Obj)} {σ : St} {H : Hp} {s : Shared}
theorem invAll (I : Inv X pins σ H s) : ∀ {cs : List (Knd × Addr)} {xss : List (List V)}, SqAll X.K H cs xss → ∃ uss, ValsA xss uss ∧ IsAll s.heap cs uss
  | [], [], _ => ⟨[], .nil, trivial⟩
  | [], _ :: _, h => False.elim h
  | _ :: _, [], h => False.elim h
  | c :: cs, xs :: xss, ⟨h1, h2⟩ => by
    obtain ⟨us, r, q⟩ := invSeq I h1
    obtain ⟨uss, r2, q2⟩ := invAll I h2
    exact ⟨us :: uss, .cons r r2, q, q2⟩
theorem invAll_inj (I : Inv X pins σ H s) : ∀ {cs : List (Knd × Addr)} {xss yss : List (List V)}, SqAll X.K H cs xss → SqAll X.K H cs yss → xss = yss
  | [], [], [], _, _ => rfl
  | [], _ :: _, _, h, _ => False.elim h
  | [], [], _ :: _, _, h => False.elim h
  | _ :: _, [], _, h, _ => False.elim h
  | _ :: _, _ :: _, [], _, h => False.elim h
  | c :: cs, xs :: xss, ys :: yss, ⟨h1, h2⟩, ⟨h3, h4⟩ => by rw [invSeq_inj I h1 h3, invAll_inj I h2 h4]
end
theorem IsAll.at {h h' : Heap} : ∀ {cs : List (Knd × Addr)} {uss : List (List Value)}, IsAll h cs uss → (∀ c ∈ cs, ∀ o, h.get? c.2 = some o → h'.get? c.2 = some o) → IsAll h' cs uss
  | [], [], _, _ => trivial
  | [], _ :: _, h, _ => False.elim h
  | _ :: _, [], h, _ => False.elim h
  | c :: cs, us :: uss, ⟨h1, h2⟩, k => ⟨IsSeq.at h1 fun o e => k c (by simp) o e, IsAll.at h2 fun d hd o e => k d (List.mem_cons_of_mem _ hd) o e⟩

/-- an iterator that makes a new tuple at each turn, of what it finds in lists and tuples -/
def ItN (K : Fr) (cs : List (Knd × Addr)) (n : List (List V) → Nat) (y : Nat → List (List V) → List V → Prop) : It :=
  ⟨fun i H => ∃ xss, SqAll K H cs xss ∧ i < n xss, fun i H v H' => ∃ T items, v = .ref T ∧ H T = none ∧ H' = upd H T (.tup items) ∧ ∀ xss, SqAll K H cs xss → y i xss items, fun i H => ∃ xss, SqAll K H cs xss ∧ i = n xss⟩
theorem turn_goes {P : Program} {w : World} {K : Fr} {tg : Expr} {it : Addr} {fp fpG wr : List Addr} {cs : List (Knd × Addr)} {n : List (List V) → Nat} {y : Nat → List (List V) → List V → Prop} {tn : Nat → Heap → Prop} {nv : List (List Value) → Nat} {yv : List (List Value) → Nat → Array Value → Prop}
    (mem : it ∈ fp) (obj : ∀ i h, tn i h → ∀ b ∈ fp, ∃ o, h.get? b = some o ∧ ∀ v, o.data ≠ .cell v) (keep : ∀ i h h', tn i h → (∀ b ∈ fp, ∀ o, h.get? b = some o → h'.get? b = some o) → tn i h')
    (self : ∀ (A : Around) (i : Nat) (s : Shared) (Q : Value → Shared → Prop) (E : Value → Shared → Prop), tn i s.heap → Q (.ref it) s → wpAny (model P w) A (pyIter (.ref it)) Q E s)
    (hw : ∀ b ∈ wr, b ∈ fp) (hn : ∀ {xss uss}, ValsA xss uss → n xss = nv uss) (hy : ∀ {xss uss i vals}, ValsA xss uss → yv uss i vals → ∃ items, y i xss items ∧ Vals items vals.toList ∧ items.length ≤ 1000)
    (G : ∀ (A : Around) (i0 : Nat) (h0 : Heap) (uss : List (List Value)), A.handled = none → tn i0 h0 → IsAll h0 cs uss → GoesN P w A tg it fpG wr (nv uss) (fun i h₀ v h => ∃ T vals, v = .ref T ∧ h₀.objs.size ≤ T ∧ yv uss i vals ∧ h.IsTuple T vals) (fun i h => tn i h ∧ IsAll h cs uss)) :
    Turn P w K tg (ItN K cs n y) fp it tn where
  mem := mem
  obj := obj
  keep := keep
  item := by
    intro X hP hw' hK hc i pins s σ H E I hf st hg
    subst hP hw' hK
    obtain ⟨xss, q1, hi⟩ := hg
    obtain ⟨uss, r, q2⟩ := invAll I q1
    rw [hn r] at hi
    refine wpAny_mono ((G X.A i s.heap uss (I.ok.hd hc) st q2).goes i s (fun u s2 => ∃ x H', Inv X pins σ H' s2 ∧ RelV x u ∧ (ItN X.K cs n y).yld i H x H' ∧ tn (i + 1) s2.heap ∧ ∀ b ∈ fp, H' b = none) E hi ⟨st, q2⟩ fun v h' tk hY st' hk htk => ?_) (fun r s1 ⟨v, e1, e2⟩ => ⟨v, e1, e2⟩) fun _ _ z => z
    obtain ⟨T, vals, rfl, hT, hv, hTup⟩ := hY
    obtain ⟨items, y1, y2, y3⟩ := hy r hv
    have hTn : H T = none := I.hok.fresh hT
    have new : ObjOk X.prog X.w (upd H T (.tup items)) h' T (.tup items) := ⟨line1000 y3, vals.toList, y2, (show h'.IsTuple T vals.toList.toArray from by simpa using hTup)⟩
    have I1 : Inv X pins σ (upd H T (.tup items)) { s with heap := h', toks := tk } := I.turnedNew (ch := wr) (fun b o hb e => hk b o hb e) (fun b hb => hf b (hw b hb)) hT new
    refine ⟨.ref T, _, I1, rfl, ⟨T, items, rfl, hTn, rfl, fun xss' q => by rw [invAll_inj I q q1]; exact y1⟩, st'.1, fun b hb => ?_⟩
    have hbT : b ≠ T := fun z => by
      subst z
      obtain ⟨o, e, _⟩ := obj i _ st b hb
      exact absurd (Heap.lt_size e) (Nat.not_lt_of_le hT)
    rw [upd_ne hbT]
    exact (hf b hb).1
  done := by
    intro X hP hw' hK hc i pins s σ H E I hf st hg
    subst hP hw' hK
    obtain ⟨xss, q1, hi⟩ := hg
    obtain ⟨uss, r, q2⟩ := invAll I q1
    rw [hn r] at hi
    subst hi
    refine wpAny_mono ((G X.A _ s.heap uss (I.ok.hd hc) st q2).stops s (fun s1 => Inv X pins σ H s1) E ⟨st, q2⟩ fun h' tk hk htk => ?_) (fun r s1 ⟨e1, e2⟩ => ⟨e1, e2⟩) fun _ _ z => z
    exact I.turnedL (t' := tk) (ch := wr) (fun b o hb e => hk b o hb e) fun b hb => hf b (hw b hb)
  self := self
def nzip (xss : List (List V)) : Nat := match xss with
  | [xs, ys] => min xs.length ys.length
  | [xs, ys, zs] => min (min xs.length ys.length) zs.length
  | [xs] => xs.length
  | _ => 0
def nzipv (xss : List (List Value)) : Nat := match xss with
  | [xs, ys] => min xs.toArray.size ys.toArray.size
  | [xs, ys, zs] => min (min xs.toArray.size ys.toArray.size) zs.toArray.size
  | [xs] => xs.toArray.size
  | _ => 0
theorem nzip_eq {xss : List (List V)} {uss : List (List Value)} (r : ValsA xss uss) : nzip xss = nzipv uss := by
  cases r with
  | nil => rfl
  | cons r1 r =>
    cases r with
    | nil => simp [nzip, nzipv, r1.length]
    | cons r2 r =>
      cases r with
      | nil => simp [nzip, nzipv, r1.length, r2.length]
      | cons r3 r =>
        cases r with
        | nil => simp [nzip, nzipv, r1.length, r2.length, r3.length]
        | cons r4 r => rfl
def yzip2 (i : Nat) (xss : List (List V)) (items : List V) : Prop := ∃ xs ys x y, xss = [xs, ys] ∧ xs[i]? = some x ∧ ys[i]? = some y ∧ items = [x, y]
def yzip3 (i : Nat) (xss : List (List V)) (items : List V) : Prop := ∃ xs ys zs x y z, xss = [xs, ys, zs] ∧ xs[i]? = some x ∧ ys[i]? = some y ∧ zs[i]? = some z ∧ items = [x, y, z]
def yenum (i : Nat) (xss : List (List V)) (items : List V) : Prop := ∃ xs x, xss = [xs] ∧ xs[i]? = some x ∧ items = [.int i, x]
def iN (K : Fr) (n : List (List V) → Nat) (y : Nat → List (List V) → List V → Prop) (cnt : Nat) (ta : TA) : TI := fun σ H R => ta σ H fun vs H1 => ∃ (cs : List (Knd × Addr)) (xss : List (List V)), cs.length = cnt ∧ vs = cs.map (fun c => V.ref c.2) ∧ SqAll K H1 cs xss ∧ R (ItN K cs n y) H1
theorem valsR {xs : List V} {us : List Value} {i : Nat} {u : Value} (r : Vals xs us) (e : us[i]? = some u) : ∃ x, xs[i]? = some x ∧ RelV x u := by
  have hi : i < us.length := (List.getElem?_eq_some_iff.mp e).1
  have hi' : i < xs.length := by rw [r.length]; exact hi
  obtain ⟨u', e1, r1⟩ := r.get (i := i) (x := xs[i]) (by simp [hi'])
  rw [e] at e1
  cases e1
  exact ⟨_, by simp [hi'], r1⟩
theorem freshFp {X : Cx} {pins : List (Addr × Obj)} {σ : St} {H : Hp} {s : Shared} (I : Inv X pins σ H s) {l : List Addr} (h : ∀ b ∈ l, s.heap.objs.size ≤ b) : ∀ b ∈ l, FpOk X pins H b := fun b hb => I.fpOk (h b hb) (I.hok.fresh (h b hb))
theorem pi_zip2 {X : Cx} {e e2 : Expr} {ta : TA} {p pos tpos : Pos} {elts : List Expr} {kk : Nat} (hg : Gl X "zip") (hm : X.mg "zip" = none) (ha : PA X [e, e2] ta)
    (hs : starEach [e, e2] X.env = (false, eval e X.env) :: starEach [e2] X.env := by rfl) (hpl : (backTo pos (starEach [e2] X.env)).any (·.1) = false := by rfl) :
    PI X (.Tuple elts kk tpos) (.Call (.Name "zip" p) [e, e2] [] pos) (iN X.K nzip yzip2 2 ta) := by
  refine ⟨fun pins s σ H R I h => ?_⟩
  refine Call_ (ld_blt I hg hm PyProof.Rows.boot_zip (PyProof.Rows.callWith_type1 (thn (ha.run pos pins s σ H _ I h) fun us s1 ⟨vs, H1, I1, r1, q1⟩ => ?_) hs hpl))
  obtain ⟨cs, xss, hl, ex, hq, q⟩ := q1
  match cs, hl with
  | [c1, c2], _ =>
  subst ex
  cases r1 with
  | cons r rr =>
  cases rr with
  | cons r' rr =>
  cases rr
  cases r
  cases r'
  obtain ⟨uss, ra, qa⟩ := invAll I1 hq
  match xss, uss, ra, hq, qa with
  | [xs, ys], [us, ws], ra, ⟨hq1, hq2, _⟩, ⟨qa1, qa2, _⟩ =>
  generalize hN : s1.heap.objs.size = N
  have l1 : c1.2 < N := by rw [← hN]; exact qa1.lt
  have l2 : c2.2 < N := by rw [← hN]; exact qa2.lt
  refine zip_begins2 (beginsK c1.1 c1.2 us.toArray) (beginsK c2.1 c2.2 ws.toArray) qa1 qa2 fun h' hz hTI hTO h1 h2 hsz hk => wpAny_pyIter_zip hz ?_
  rw [hN] at hz hTI hTO h1 h2 ⊢
  have I2 : Inv X pins σ H1 { s1 with heap := h' } := I1.kept (t' := s1.toks) hk
  have S := zip_sep2 (N := N) (fp1 := [c1.2]) (fp2 := [c2.2]) (fun b hb => (List.mem_singleton.mp hb) ▸ l1) (fun b hb => (List.mem_singleton.mp hb) ▸ l2)
  refine ⟨N + 4, [N + 4, N + 2, N + 3, N, N + 1], fun i h => IsZip h (N + 4) (N + 2) (N + 3) .none ∧ IsTupOf2 h (N + 2) (.ref N) (.ref (N + 1)) ∧ (∃ a1 a2, IsTupOf2 h (N + 3) a1 a2) ∧ IsIter c1.1 h N c1.2 i ∧ IsIter c2.1 h (N + 1) c2.2 i, _, H1, rfl, I2, ?_, ⟨hz, hTI, ⟨_, _, hTO⟩, iterK c1.1 h1, iterK c2.1 h2⟩,
    freshFp I1 (fun b hb => ?_), q⟩
  · refine turn_goes (fpG := (N + 4) :: (N + 2) :: (N + 3) :: ([N, c1.2] ++ [N + 1, c2.2])) (wr := [N + 4, N + 3, N, N + 1]) (nv := nzipv) (yv := fun uss i vals => ∃ us ws x y, uss = [us, ws] ∧ us.toArray[i]? = some x ∧ ws.toArray[i]? = some y ∧ vals = #[x, y])
      (by simp) (fun i h st b hb => ?_) (fun i h h'' st k => ?_) (fun A i s Q E st h => wpAny_pyIter_zip st.1 h) (fun b hb => ?_) nzip_eq (fun {xss uss i vals} r hv => ?_) fun A i0 h0 uss hh st0 hI0 => ?_
    · obtain ⟨hz, hTI, ⟨x, y, hTO⟩, h1, h2⟩ := st
      have e' : b = N + 4 ∨ b = N + 2 ∨ b = N + 3 ∨ b = N ∨ b = N + 1 := by simpa using hb
      rcases e' with z | z | z | z | z
      · rw [z]; exact ⟨_, hz, fun v q => nomatch q⟩
      · rw [z]; exact ⟨_, hTI, fun v q => nomatch q⟩
      · rw [z]; exact ⟨_, hTO, fun v q => nomatch q⟩
      · rw [z]; exact h1.obj
      · rw [z]; exact h2.obj
    · obtain ⟨hz, hTI, ⟨x, y, hTO⟩, h1, h2⟩ := st
      exact ⟨k _ (by simp) _ hz, k _ (by simp) _ hTI, ⟨x, y, k _ (by simp) _ hTO⟩, h1.at fun o q => k _ (by simp) o q, h2.at fun o q => k _ (by simp) o q⟩
    · have e' : b = N + 4 ∨ b = N + 3 ∨ b = N ∨ b = N + 1 := by simpa using hb
      rcases e' with z | z | z | z <;> rw [z] <;> simp
    · obtain ⟨us', ws', x, y, eu, e1, e2, ev⟩ := hv
      subst eu ev
      cases r with
      | cons r1 r =>
      cases r with
      | cons r2 r =>
      cases r
      obtain ⟨x', f1, g1⟩ := valsR r1 (by simpa using e1)
      obtain ⟨y', f2, g2⟩ := valsR r2 (by simpa using e2)
      exact ⟨[x', y'], ⟨_, _, x', y', rfl, f1, f2, rfl⟩, .cons g1 (.cons g2 .nil), by simp⟩
    · match uss, hI0 with
      | [us', ws'], ⟨z1, z2, _⟩ =>
      have D1 := drawsK c1.1 (prog := X.prog) (w := X.w) (A := A.in1) hh N c1.2 (Nat.ne_of_lt l1) us'.toArray
      have D2 := drawsK c2.1 (prog := X.prog) (w := X.w) (A := A.in1) hh (N + 1) c2.2 (Nat.ne_of_lt (Nat.lt_succ_of_lt l2)) ws'.toArray
      have G := GoesN.zip2 (elts := elts) (x1 := kk) (pos := tpos) S D1 D2
      have rb : ∀ i h, (IsZip h (N + 4) (N + 2) (N + 3) .none ∧ IsTupOf2 h (N + 2) (.ref N) (.ref (N + 1)) ∧ (∃ a1 a2, IsTupOf2 h (N + 3) a1 a2) ∧ (IsIter c1.1 h N c1.2 i ∧ IsSeq c1.1 h c1.2 us'.toArray) ∧ (IsIter c2.1 h (N + 1) c2.2 i ∧ IsSeq c2.1 h c2.2 ws'.toArray)) ↔
          ((IsZip h (N + 4) (N + 2) (N + 3) .none ∧ IsTupOf2 h (N + 2) (.ref N) (.ref (N + 1)) ∧ (∃ a1 a2, IsTupOf2 h (N + 3) a1 a2) ∧ IsIter c1.1 h N c1.2 i ∧ IsIter c2.1 h (N + 1) c2.2 i) ∧ IsAll h [c1, c2] [us', ws']) := fun i h =>
        ⟨fun ⟨a, b, c, ⟨d, e⟩, ⟨f, g⟩⟩ => ⟨⟨a, b, c, d, f⟩, e, g, trivial⟩, fun ⟨⟨a, b, c, d, f⟩, e, g, _⟩ => ⟨a, b, c, ⟨d, e⟩, ⟨f, g⟩⟩⟩
      have G2 := G.mono (Y' := fun i h₀ v h => ∃ T vals, v = .ref T ∧ h₀.objs.size ≤ T ∧ (∃ us ws x y, [us', ws'] = [us, ws] ∧ us.toArray[i]? = some x ∧ ws.toArray[i]? = some y ∧ vals = #[x, y]) ∧ h.IsTuple T vals) fun i h₀ v h _ ⟨T, x, y, ev, hn, hx, hy, hT⟩ => ⟨T, _, ev, hn, ⟨us', ws', x, y, rfl, hx, hy, rfl⟩, hT⟩
      have e := funext fun i => funext fun h => propext (rb i h)
      rw [e] at G2
      exact G2
  · have e' : b = N + 4 ∨ b = N + 2 ∨ b = N + 3 ∨ b = N ∨ b = N + 1 := by simpa using hb
    rw [hN]
    rcases e' with z | z | z | z | z <;> rw [z] <;> first | exact Nat.le_add_right _ _ | exact Nat.le_refl _
theorem pi_zip3 {X : Cx} {e e2 e3 : Expr} {ta : TA} {p pos tpos : Pos} {elts : List Expr} {kk : Nat} (hg : Gl X "zip") (hm : X.mg "zip" = none) (ha : PA X [e, e2, e3] ta)
    (hs : starEach [e, e2, e3] X.env = (false, eval e X.env) :: starEach [e2, e3] X.env := by rfl) (hpl : (backTo pos (starEach [e2, e3] X.env)).any (·.1) = false := by rfl) :
    PI X (.Tuple elts kk tpos) (.Call (.Name "zip" p) [e, e2, e3] [] pos) (iN X.K nzip yzip3 3 ta) := by
  refine ⟨fun pins s σ H R I h => ?_⟩
  refine Call_ (ld_blt I hg hm PyProof.Rows.boot_zip (PyProof.Rows.callWith_type1 (thn (ha.run pos pins s σ H _ I h) fun us s1 ⟨vs, H1, I1, r1, q1⟩ => ?_) hs hpl))
  obtain ⟨cs, xss, hl, ex, hq, q⟩ := q1
  match cs, hl with
  | [c1, c2, c3], _ =>
  subst ex
  cases r1 with
  | cons r rr =>
  cases rr with
  | cons r' rr =>
  cases rr with
  | cons r'' rr =>
  cases rr
  cases r
  cases r'
  cases r''
  obtain ⟨uss, ra, qa⟩ := invAll I1 hq
  match xss, uss, ra, hq, qa with
  | [xs, ys, zs], [us, ws, ts], ra, ⟨hq1, hq2, hq3, _⟩, ⟨qa1, qa2, qa3, _⟩ =>
  generalize hN : s1.heap.objs.size = N
  have l1 : c1.2 < N := by rw [← hN]; exact qa1.lt
  have l2 : c2.2 < N := by rw [← hN]; exact qa2.lt
  have l3 : c3.2 < N := by rw [← hN]; exact qa3.lt
  refine zip_begins3 (beginsK c1.1 c1.2 us.toArray) (beginsK c2.1 c2.2 ws.toArray) (beginsK c3.1 c3.2 ts.toArray) qa1 qa2 qa3 fun h' hz hTI hTO h1 h2 h3 hsz hk => wpAny_pyIter_zip hz ?_
  rw [hN] at hz hTI hTO h1 h2 h3 ⊢
  have I2 : Inv X pins σ H1 { s1 with heap := h' } := I1.kept (t' := s1.toks) hk
  have S := zip_sep3 (N := N) (fp1 := [c1.2]) (fp2 := [c2.2]) (fp3 := [c3.2]) (fun b hb => (List.mem_singleton.mp hb) ▸ l1) (fun b hb => (List.mem_singleton.mp hb) ▸ l2) (fun b hb => (List.mem_singleton.mp hb) ▸ l3)
  refine ⟨N + 5, [N + 5, N + 3, N + 4, N, N + 1, N + 2], fun i h => IsZip h (N + 5) (N + 3) (N + 4) .none ∧ IsTupOf3 h (N + 3) (.ref N) (.ref (N + 1)) (.ref (N + 2)) ∧ (∃ a1 a2 a3, IsTupOf3 h (N + 4) a1 a2 a3) ∧ IsIter c1.1 h N c1.2 i ∧ IsIter c2.1 h (N + 1) c2.2 i ∧ IsIter c3.1 h (N + 2) c3.2 i, _, H1, rfl, I2, ?_, ⟨hz, hTI, ⟨_, _, _, hTO⟩, iterK c1.1 h1, iterK c2.1 h2, iterK c3.1 h3⟩,
    freshFp I1 (fun b hb => ?_), q⟩
  · refine turn_goes (fpG := (N + 5) :: (N + 3) :: (N + 4) :: ([N, c1.2] ++ [N + 1, c2.2] ++ [N + 2, c3.2])) (wr := [N + 5, N + 4, N, N + 1, N + 2]) (nv := nzipv) (yv := fun uss i vals => ∃ us ws ts x y z, uss = [us, ws, ts] ∧ us.toArray[i]? = some x ∧ ws.toArray[i]? = some y ∧ ts.toArray[i]? = some z ∧ vals = #[x, y, z])
      (by simp) (fun i h st b hb => ?_) (fun i h h'' st k => ?_) (fun A i s Q E st h => wpAny_pyIter_zip st.1 h) (fun b hb => ?_) nzip_eq (fun {xss uss i vals} r hv => ?_) fun A i0 h0 uss hh st0 hI0 => ?_
    · obtain ⟨hz, hTI, ⟨x, y, y', hTO⟩, h1, h2, h3⟩ := st
      have e' : b = N + 5 ∨ b = N + 3 ∨ b = N + 4 ∨ b = N ∨ b = N + 1 ∨ b = N + 2 := by simpa using hb
      rcases e' with z | z | z | z | z | z
      · rw [z]; exact ⟨_, hz, fun v q => nomatch q⟩
      · rw [z]; exact ⟨_, hTI, fun v q => nomatch q⟩
      · rw [z]; exact ⟨_, hTO, fun v q => nomatch q⟩
      · rw [z]; exact h1.obj
      · rw [z]; exact h2.obj
      · rw [z]; exact h3.obj
    · obtain ⟨hz, hTI, ⟨x, y, y', hTO⟩, h1, h2, h3⟩ := st
      exact ⟨k _ (by simp) _ hz, k _ (by simp) _ hTI, ⟨x, y, y', k _ (by simp) _ hTO⟩, h1.at fun o q => k _ (by simp) o q, h2.at fun o q => k _ (by simp) o q, h3.at fun o q => k _ (by simp) o q⟩
    · have e' : b = N + 5 ∨ b = N + 4 ∨ b = N ∨ b = N + 1 ∨ b = N + 2 := by simpa using hb
      rcases e' with z | z | z | z | z <;> rw [z] <;> simp
    · obtain ⟨us', ws', ts', x, y, z, eu, e1, e2, e3, ev⟩ := hv
      subst eu ev
      cases r with
      | cons r1 r =>
      cases r with
      | cons r2 r =>
      cases r with
      | cons r3 r =>
      cases r
      obtain ⟨x', f1, g1⟩ := valsR r1 (by simpa using e1)
      obtain ⟨y', f2, g2⟩ := valsR r2 (by simpa using e2)
      obtain ⟨z', f3, g3⟩ := valsR r3 (by simpa using e3)
      exact ⟨[x', y', z'], ⟨_, _, _, x', y', z', rfl, f1, f2, f3, rfl⟩, .cons g1 (.cons g2 (.cons g3 .nil)), by simp⟩
    · match uss, hI0 with
      | [us', ws', ts'], ⟨z1, z2, z3, _⟩ =>
      have D1 := drawsK c1.1 (prog := X.prog) (w := X.w) (A := A.in1) hh N c1.2 (Nat.ne_of_lt l1) us'.toArray
      have D2 := drawsK c2.1 (prog := X.prog) (w := X.w) (A := A.in1) hh (N + 1) c2.2 (Nat.ne_of_lt (Nat.lt_succ_of_lt l2)) ws'.toArray
      have D3 := drawsK c3.1 (prog := X.prog) (w := X.w) (A := A.in1) hh (N + 2) c3.2 (Nat.ne_of_lt (Nat.lt_succ_of_lt (Nat.lt_succ_of_lt l3))) ts'.toArray
      have G := GoesN.zip3 (elts := elts) (x1 := kk) (pos := tpos) S D1 D2 D3
      have rb : ∀ i h, (IsZip h (N + 5) (N + 3) (N + 4) .none ∧ IsTupOf3 h (N + 3) (.ref N) (.ref (N + 1)) (.ref (N + 2)) ∧ (∃ a1 a2 a3, IsTupOf3 h (N + 4) a1 a2 a3) ∧ (IsIter c1.1 h N c1.2 i ∧ IsSeq c1.1 h c1.2 us'.toArray) ∧ (IsIter c2.1 h (N + 1) c2.2 i ∧ IsSeq c2.1 h c2.2 ws'.toArray) ∧ (IsIter c3.1 h (N + 2) c3.2 i ∧ IsSeq c3.1 h c3.2 ts'.toArray)) ↔
          ((IsZip h (N + 5) (N + 3) (N + 4) .none ∧ IsTupOf3 h (N + 3) (.ref N) (.ref (N + 1)) (.ref (N + 2)) ∧ (∃ a1 a2 a3, IsTupOf3 h (N + 4) a1 a2 a3) ∧ IsIter c1.1 h N c1.2 i ∧ IsIter c2.1 h (N + 1) c2.2 i ∧ IsIter c3.1 h (N + 2) c3.2 i) ∧ IsAll h [c1, c2, c3] [us', ws', ts']) := fun i h =>
        ⟨fun ⟨a, b, c, ⟨d, e⟩, ⟨f, g⟩, ⟨j, k⟩⟩ => ⟨⟨a, b, c, d, f, j⟩, e, g, k, trivial⟩, fun ⟨⟨a, b, c, d, f, j⟩, e, g, k, _⟩ => ⟨a, b, c, ⟨d, e⟩, ⟨f, g⟩, ⟨j, k⟩⟩⟩
      have G2 := G.mono (Y' := fun i h₀ v h => ∃ T vals, v = .ref T ∧ h₀.objs.size ≤ T ∧ (∃ us ws ts x y z, [us', ws', ts'] = [us, ws, ts] ∧ us.toArray[i]? = some x ∧ ws.toArray[i]? = some y ∧ ts.toArray[i]? = some z ∧ vals = #[x, y, z]) ∧ h.IsTuple T vals) fun i h₀ v h _ ⟨T, x, y, z, ev, hn, hx, hy, hz, hT⟩ => ⟨T, _, ev, hn, ⟨us', ws', ts', x, y, z, rfl, hx, hy, hz, rfl⟩, hT⟩
      have e := funext fun i => funext fun h => propext (rb i h)
      rw [e] at G2
      exact G2
  · have e' : b = N + 5 ∨ b = N + 3 ∨ b = N + 4 ∨ b = N ∨ b = N + 1 ∨ b = N + 2 := by simpa using hb
    rw [hN]
    rcases e' with z | z | z | z | z | z <;> rw [z] <;> first | exact Nat.le_add_right _ _ | exact Nat.le_refl _

end VL

set_option Elab.async false
set_option linter.all false
set_option maxRecDepth 100000
set_option maxHeartbeats 4000000
namespace VL
open PySem PySem.Spec PyProof.Rows L2

section
open PySem.Sem (wp)
open PySem.AutoSeq1 (wpAny_loadPart')
set_option maxHeartbeats 4000000 in
theorem meets_enum1 {v : Value} {o : Obj} {H : Heap → Prop} (B : Begins v o H) :
    Meets (Builtin.«enumerate.__new__» ⟨[.type "enumerate", v], []⟩) (fun _ R s => H s.heap ∧
      R (.ok (.ret (.ref (s.heap.push o).objs.size))) { s with heap := (s.heap.push o).push { cls := .type "enumerate", data := .fields #[.none, .bool false, .ref s.heap.objs.size, rawInt 0, .none, .none] } }) :=
  .of_wp fun prog w A R s h => by
    obtain ⟨hp, g, d, tk, os⟩ := s; obtain ⟨h1, h⟩ := h
    have hsub := sub_enumerate
    have q1 : ∀ {A' : Around} {E : Value → Shared → Prop} {Q : Value → Shared → Prop}, Q (.ref hp.objs.size) ⟨hp.push o, g, d, tk, os⟩ → wpAny (model prog w) A' (pyIter v) Q E ⟨hp, g, d, tk, os⟩ :=
      fun q => B.iter prog w _ _ ⟨hp, g, d, tk, os⟩ _ h1 q
    wp_walk using q1
    refine wpAny_stack_any fun st => wpAny_pure ?_
    split
    · rename_i c _ _ _ _ _
      cases (c == Value.type "enumerate")
      · wp_walk using q1
        exact ⟨_, rfl, h⟩
      · wp_walk using q1
        exact ⟨_, rfl, h⟩
    · wp_walk using q1
      exact ⟨_, rfl, h⟩
theorem enum_begins1 {prog : Program} {w : World} {A : Around} {E : Value → Shared → Prop} {s : Shared} {v : Value} {o : Obj} {H : Heap → Prop} {Q : Value → Shared → Prop} (B : Begins v o H) (h1 : H s.heap)
    (h : ∀ h', IsEnum h' (s.heap.objs.size + 1) s.heap.objs.size 0 .none → h'.get? s.heap.objs.size = some o → h'.objs.size = s.heap.objs.size + 2 →
      (∀ b o, s.heap.get? b = some o → h'.get? b = some o) → Q (.ref (s.heap.objs.size + 1)) { s with heap := h' }) :
    wpAny (model prog w) A (call (.type "enumerate") [v]) Q E s := by
  refine callType_new F.called_enumerate (by decide) (F.typeCall_enumerate_1 _) (F.newCall_enumerate_1 _) (fun obj => F.args_object_init_2 obj _) F.entry_enumerate_new
    (meets_enum1 B) ⟨h1, ?_⟩
  have hz : (s.heap.push o).objs.size = s.heap.objs.size + 1 := Heap.size_push ..
  show _ ∧ _
  rw [hz]
  have he : IsEnum ((s.heap.push o).push { cls := .type "enumerate", data := .fields #[.none, .bool false, .ref s.heap.objs.size, rawInt 0, .none, .none] }) (s.heap.objs.size + 1) s.heap.objs.size 0 .none := by
    have := Heap.get?_push_size (s.heap.push o) (o := { cls := .type "enumerate", data := .fields #[.none, .bool false, .ref s.heap.objs.size, rawInt 0, .none, .none] }) rfl
    rw [hz] at this; exact this
  refine ⟨⟨_, he, rfl⟩, h _ he (Heap.get?_push_of_some _ (Heap.get?_push_size _ B.free)) (by rw [Heap.size_push, hz]) fun b o x => Heap.get?_push_of_some _ (Heap.get?_push_of_some _ x)⟩
end
theorem pi_enum1 {X : Cx} {e : Expr} {ta : TA} {p pos tpos : Pos} {elts : List Expr} {kk : Nat} (hg : Gl X "enumerate") (hm : X.mg "enumerate" = none) (ha : PA X [e] ta) (hs : starEach [e] X.env = [(false, eval e X.env)] := by rfl) :
    PI X (.Tuple elts kk tpos) (.Call (.Name "enumerate" p) [e] [] pos) (iN X.K nzip yenum 1 ta) := by
  refine ⟨fun pins s σ H R I h => ?_⟩
  refine Call_ (ld_blt I hg hm boot_enumerate (PyProof.Rows.callWith_type1 (thn (ha.run pos pins s σ H _ I h) fun us s1 ⟨vs, H1, I1, r1, q1⟩ => ?_) hs rfl))
  obtain ⟨cs, xss, hl, ex, hq, q⟩ := q1
  match cs, hl with
  | [c1], _ =>
  subst ex
  cases r1 with
  | cons r rr =>
  cases rr
  cases r
  obtain ⟨uss, ra, qa⟩ := invAll I1 hq
  match xss, uss, ra, hq, qa with
  | [xs], [us], ra, ⟨hq1, _⟩, ⟨qa1, _⟩ =>
  generalize hN : s1.heap.objs.size = N
  have l1 : c1.2 < N := by rw [← hN]; exact qa1.lt
  have fin : ∀ h', IsEnum h' (N + 1) N 0 .none → h'.get? N = some (iterO c1.1 c1.2) → (∀ b o, s1.heap.get? b = some o → h'.get? b = some o) → PIE X pins σ (.Tuple elts kk tpos) R (.ref (N + 1)) { s1 with heap := h' } := fun h' he hit hk => by
    have I2 : Inv X pins σ H1 { s1 with heap := h' } := I1.kept (t' := s1.toks) hk
    refine ⟨N + 1, [N + 1, N], fun i h => (∃ old, IsEnum h (N + 1) N (0 + ((i : Nat) : Int)) old) ∧ IsIter c1.1 h N c1.2 i, _, H1, rfl, I2, ?_, ⟨⟨.none, by simpa using he⟩, iterK c1.1 hit⟩, freshFp I1 (fun b hb => ?_), q⟩
    · refine turn_goes (fpG := (N + 1) :: [N, c1.2]) (wr := [N + 1, N]) (nv := nzipv) (yv := fun uss i vals => ∃ us t x, uss = [us] ∧ us.toArray[i]? = some x ∧ vals = #[.int (0 + (i : Int)) t, x])
        (by simp) (fun i h st b hb => ?_) (fun i h h'' st k => ?_) (fun A i s Q E st h => by obtain ⟨⟨old, he⟩, _⟩ := st; exact wpAny_pyIter_enum he h) (fun b hb => hb) nzip_eq (fun {xss uss i vals} r hv => ?_) fun A i0 h0 uss hh st0 hI0 => ?_
      · obtain ⟨⟨old, he⟩, h1⟩ := st
        have e' : b = N + 1 ∨ b = N := by simpa using hb
        rcases e' with z | z
        · rw [z]; exact ⟨_, he, fun v q => nomatch q⟩
        · rw [z]; exact h1.obj
      · obtain ⟨⟨old, he⟩, h1⟩ := st
        exact ⟨⟨old, k _ (by simp) _ he⟩, h1.at fun o q => k _ (by simp) o q⟩
      · obtain ⟨us', t, x, eu, e1, ev⟩ := hv
        subst eu ev
        cases r with
        | cons r1 r =>
        cases r
        obtain ⟨x', f1, g1⟩ := valsR r1 (by simpa using e1)
        refine ⟨[.int (i : Int), x'], ⟨_, x', rfl, f1, rfl⟩, .cons ⟨t, ?_⟩ (.cons g1 .nil), by simp⟩
        rw [Int.zero_add]
      · match uss, hI0 with
        | [us'], ⟨z1, _⟩ =>
        have D1 := drawsK c1.1 (prog := X.prog) (w := X.w) (A := A.in1) hh N c1.2 (Nat.ne_of_lt l1) us'.toArray
        have G := GoesN.enumFrom (elts := elts) (x1 := kk) (pos := tpos) 0 D1 (N + 1) (Nat.succ_ne_self N) (by
          intro z
          have e' : N + 1 = N ∨ N + 1 = c1.2 := by simpa using z
          rcases e' with y | y
          · exact Nat.succ_ne_self N y
          · rw [← y] at l1; exact absurd l1 (Nat.not_lt_of_le (Nat.le_succ N))) (by simp)
        have rb : ∀ i h, ((∃ old, IsEnum h (N + 1) N (0 + ((i : Nat) : Int)) old) ∧ (IsIter c1.1 h N c1.2 i ∧ IsSeq c1.1 h c1.2 us'.toArray)) ↔ (((∃ old, IsEnum h (N + 1) N (0 + ((i : Nat) : Int)) old) ∧ IsIter c1.1 h N c1.2 i) ∧ IsAll h [c1] [us']) := fun i h =>
          ⟨fun ⟨a, d, e⟩ => ⟨⟨a, d⟩, e, trivial⟩, fun ⟨⟨a, d⟩, e, _⟩ => ⟨a, d, e⟩⟩
        have G2 := G.mono (Y' := fun i h₀ v h => ∃ T vals, v = .ref T ∧ h₀.objs.size ≤ T ∧ (∃ us t x, [us'] = [us] ∧ us.toArray[i]? = some x ∧ vals = #[.int (0 + (i : Int)) t, x]) ∧ h.IsTuple T vals) fun i h₀ v h _ ⟨T, t, x, ev, hn, hx, hT⟩ => ⟨T, _, ev, hn, ⟨us', t, x, rfl, hx, rfl⟩, hT⟩
        have e := funext fun i => funext fun h => propext (rb i h)
        rw [e] at G2
        exact G2
    · have e' : b = N + 1 ∨ b = N := by simpa using hb
      rw [hN]
      rcases e' with z | z <;> rw [z] <;> first | exact Nat.le_add_right _ _ | exact Nat.le_refl _
  refine enum_begins1 (beginsK c1.1 c1.2 us.toArray) qa1 fun h' he hit hsz hk => ?_
  rw [hN] at he hit ⊢
  exact wpAny_pyIter_enum he (fin h' he hit hk)
end VL

set_option Elab.async false
set_option linter.all false
set_option maxRecDepth 100000
set_option maxHeartbeats 4000000
namespace VL
open PySem PySem.Spec PyProof.Rows L2

/-! ### what is walked, as data -/
/-- J walks the items ds, whatever happens to what may change -/
structure WalkD (J : It) (K : Fr) (H0 : Hp) (ds : List D) : Prop where
  go : ∀ i H, PK H0 H → i < ds.length → J.go i H
  stop : ∀ H, PK H0 H → J.stop ds.length H
  yld : ∀ i H x H', PK H0 H → i < ds.length → J.yld i H x H' → ∃ d, ds[i]? = some d ∧ Fz K H' x d ∧ ∀ b o, H b = some o → H' b = some o
  line : ds.length ≤ sizeLine
abbrev MI := Env → Option (List D × Env)
def tI (K : Fr) (m : MI) : TI := fun σ H R => ∃ B ρ own ds ρ', σ.length ≤ B ∧ ES K H σ ρ own ∧ m ρ = some (ds, ρ') ∧
  ∀ J H1 own1, Step σ.length B own H own1 H1 → ES K H1 σ ρ' own1 → WalkD J K H1 ds → R J H1
structure PIt (X : Cx) (tg e : Expr) (m : MI) : Prop where
  pi : PI X tg e (tI X.K m)
theorem PI.of' {X : Cx} {tg e : Expr} {t t' : TI} (h : PI X tg e t') (i : ∀ σ H R, t σ H R → t' σ H fun J H1 => ∀ pins s, Inv X pins σ H1 s → R J H1) : PI X tg e t := ⟨fun pins s σ H R I q => by
  refine thn (h.run pins s σ H _ I (i σ H R q)) fun v s1 h1 => thn h1 fun v2 s2 ⟨it, fp, tn, J, H', e, I', T, st, f, r⟩ => ?_
  exact ⟨it, fp, tn, J, H', e, I', T, st, f, r pins s2 I'⟩⟩
def FzK (K : Fr) (H : Hp) (k : Knd) (a : Addr) (xs : List V) : Prop := match k with
  | .l => FzL K H a xs
  | .t => SqT K H a xs
theorem FzK.sq {K : Fr} {H : Hp} {k : Knd} {a : Addr} {xs : List V} (h : FzK K H k a xs) : SqK K H k a xs := match k, h with
  | .l, h => FzL.sq h
  | .t, h => h
theorem FzK.mono {K : Fr} {H H' : Hp} {k : Knd} {a : Addr} {xs : List V} (p : PK H H') (h : FzK K H k a xs) : FzK K H' k a xs := match k, h with
  | .l, h => FzL.mono p h
  | .t, h => sqT_mono p h
def seqOf : D → Option (List D)
  | .list ds => some ds
  | .tuple ds => some ds
  | _ => none
theorem fzSeq {K : Fr} {H : Hp} {v : V} {d : D} {ds : List D} (f : Fz K H v d) (e : seqOf d = some ds) : ∃ k a xs, v = .ref a ∧ FzK K H k a xs ∧ FzA K H xs ds := by
  cases d with
  | list es => cases e; cases f with | lst p q => exact ⟨.l, _, _, rfl, p, q⟩
  | tuple es => cases e; cases f with | tup p q => exact ⟨.t, _, _, rfl, p, q⟩
  | _ => cases e
/-! ### a list, a tuple -/
def ItK (K : Fr) (k : Knd) (a : Addr) : It := match k with
  | .l => Itl K a
  | .t => Itt K a
def iSeq (K : Fr) (tl : TE) : TI := fun σ H R => tl σ H fun x H1 => ∃ k a xs, x = .ref a ∧ SqK K H1 k a xs ∧ R (ItK K k a) H1
theorem pi_seq {X : Cx} {tg l : Expr} {tl : TE} (hl : PE X l tl) : PI X tg l (iSeq X.K tl) := by
  refine ⟨fun pins s σ H R I h => ?_⟩
  refine thn (hl.run pins s σ H _ I h) fun v s1 ⟨x, H1, I1, r1, q1⟩ => ?_
  obtain ⟨k, a, xs, e, hq, q⟩ := q1
  subst e
  cases r1
  cases k with
  | l =>
    obtain ⟨its, rv, p, hz⟩ := I1.list hq
    refine wpAny_pyIter_list p.isList ?_
    refine ⟨s1.heap.objs.size, [s1.heap.objs.size], _, _, H1, rfl, I1.kept (t' := s1.toks) fun b o e => Heap.get?_push_of_some _ e, turn_list a _, ⟨_, Heap.get?_push_size _ rfl, rfl, rfl⟩, fun b hb => ?_, q⟩
    have e : b = s1.heap.objs.size := by simpa using hb
    subst e
    exact I1.fpOk (Nat.le_refl _) (I1.hok.fresh (Nat.le_refl _))
  | t =>
    obtain ⟨its, rv, p, hz⟩ := I1.tuple hq
    refine wpAny_pyIter_tuple (show s1.heap.IsTuple a its.toArray from p) ?_
    refine ⟨s1.heap.objs.size, [s1.heap.objs.size], _, _, H1, rfl, I1.kept (t' := s1.toks) fun b o e => Heap.get?_push_of_some _ e, turn_tuple a _, ⟨_, Heap.get?_push_size _ rfl, rfl, rfl⟩, fun b hb => ?_, q⟩
    have e : b = s1.heap.objs.size := by simpa using hb
    subst e
    exact I1.fpOk (Nat.le_refl _) (I1.hok.fresh (Nat.le_refl _))
theorem walk_seq {X : Cx} {pins : List (Addr × Obj)} {σ : St} {s : Shared} {H : Hp} {k : Knd} {a : Addr} {xs : List V} {ds : List D} (I : Inv X pins σ H s) (h : FzK X.K H k a xs) (f : FzA X.K H xs ds) : WalkD (ItK X.K k a) X.K H ds := by
  cases k with
  | l =>
    have uniq : ∀ H', PK H H' → SqL X.K H' a xs := fun H' p => (FzL.mono p h).sq
    refine ⟨fun i H' p hi => ?_, fun H' p => ⟨xs, uniq H' p, Nat.le_of_eq f.length⟩, fun i H' x H'' p hi y => ?_, ?_⟩
    · obtain ⟨v, e, _⟩ := f.get i (show ds[i]? = some ds[i] by simp [hi])
      exact ⟨xs, v, uniq H' p, e⟩
    · obtain ⟨e, y⟩ := y
      subst e
      obtain ⟨d, e1, e2⟩ := f.getV i (y xs (uniq _ p))
      exact ⟨d, e1, Fz.mono p _ _ e2, fun _ _ z => z⟩
    · obtain ⟨its, r, _, z⟩ := I.list h.sq
      rw [← f.length]; exact z
  | t =>
    have uniq : ∀ H', PK H H' → SqT X.K H' a xs := fun H' p => sqT_mono p h
    refine ⟨fun i H' p hi => ?_, fun H' p => ⟨xs, uniq H' p, Nat.le_of_eq f.length⟩, fun i H' x H'' p hi y => ?_, ?_⟩
    · obtain ⟨v, e, _⟩ := f.get i (show ds[i]? = some ds[i] by simp [hi])
      exact ⟨xs, v, uniq H' p, e⟩
    · obtain ⟨e, y⟩ := y
      subst e
      obtain ⟨d, e1, e2⟩ := f.getV i (y xs (uniq _ p))
      exact ⟨d, e1, Fz.mono p _ _ e2, fun _ _ z => z⟩
    · obtain ⟨its, r, _, z⟩ := I.tuple h
      rw [← f.length]; exact z
def iV (m : ME) : MI := fun ρ => (m ρ).bind fun p => match p.1 with
  | .z d => (seqOf d).map fun ds => (ds, p.2)
  | _ => none
theorem pit_v {X : Cx} {tg e : Expr} {m : ME} (h : PX X e m) : PIt X tg e (iV m) := ⟨PI.of' (pi_seq h.pe) fun σ H R q => by
  obtain ⟨B, ρ, own, ds, ρ', hB, es, e, k⟩ := q
  obtain ⟨⟨t, ρ1⟩, e1, e2⟩ := Option.bind_eq_some_iff.mp (show (m ρ).bind _ = some (ds, ρ') from e)
  cases t with
  | l es => cases e2
  | dc es => cases e2
  | z d =>
    obtain ⟨ds', e3, e4⟩ := Option.map_eq_some_iff.mp (show (seqOf d).map _ = some (ds, ρ') from e2)
    cases e4
    refine ⟨B, ρ, own, _, _, hB, es, e1, fun v H1 own1 st1 es1 r1 => ?_⟩
    obtain ⟨kk, a, xs, ev, fk, fa⟩ := fzSeq r1 e3
    exact ⟨kk, a, xs, ev, fk.sq, fun pins s I => k _ H1 own1 st1 es1 (walk_seq I fk fa)⟩⟩
/-! ### range -/
def rangeL (lo : Int) (n : Nat) : List D := (List.range n).map fun i => .int (lo + (i : Nat))
def big : Int := 4611686018427387904
def rangeD1 : List D → Option (List D)
  | [.int j] => if -big ≤ j ∧ j ≤ 1000000 then some (rangeL 0 j.toNat) else none
  | _ => none
def rangeD2 : List D → Option (List D)
  | [.int i, .int j] => if (-big ≤ i ∧ i < big) ∧ (-big ≤ j ∧ j < big) ∧ j - i ≤ 1000000 then some (rangeL i (j - i).toNat) else none
  | _ => none
/-- range(i, j, -1) -/
def rangeD3 : List D → Option (List D)
  | [.int i, .int j, .int k] => if k = -1 ∧ (-1000000 ≤ i ∧ i ≤ 1000000) ∧ (-1000000 ≤ j ∧ j ≤ 1000000) ∧ i - j ≤ 1000000 then some ((List.range (i - j).toNat).map fun m => .int (i - (m : Nat))) else none
  | _ => none
theorem rangeD1_some {ds xs : List D} (h : rangeD1 ds = some xs) : ∃ j : Int, ds = [.int j] ∧ (-big ≤ j ∧ j ≤ 1000000) ∧ xs = rangeL 0 j.toNat := by
  unfold rangeD1 at h
  split at h
  · split at h
    · rename_i hj
      cases h
      exact ⟨_, rfl, hj, rfl⟩
    · cases h
  · cases h
theorem rangeD2_some {ds xs : List D} (h : rangeD2 ds = some xs) : ∃ i j : Int, ds = [.int i, .int j] ∧ ((-big ≤ i ∧ i < big) ∧ (-big ≤ j ∧ j < big) ∧ j - i ≤ 1000000) ∧ xs = rangeL i (j - i).toNat := by
  unfold rangeD2 at h
  split at h
  · split at h
    · rename_i hj
      cases h
      exact ⟨_, _, rfl, hj, rfl⟩
    · cases h
  · cases h
theorem rangeD3_some {ds xs : List D} (h : rangeD3 ds = some xs) : ∃ i j : Int, ds = [.int i, .int j, .int (-1)] ∧ ((-1000000 ≤ i ∧ i ≤ 1000000) ∧ (-1000000 ≤ j ∧ j ≤ 1000000) ∧ i - j ≤ 1000000) ∧ xs = (List.range (i - j).toNat).map fun m => .int (i - (m : Nat)) := by
  unfold rangeD3 at h
  split at h
  · split at h
    · rename_i hj
      cases h
      obtain ⟨rfl, hj⟩ := hj
      exact ⟨_, _, rfl, hj, rfl⟩
    · cases h
  · cases h
def iR (r : List D → Option (List D)) (m : MA) : MI := fun ρ => (m ρ).bind fun p => (gets p.2 p.1).bind fun ds => (r ds).map fun xs => (xs, p.2)
theorem line6 : (1000000 : Nat) ≤ sizeLine := by decide
theorem walk_range {K : Fr} {H : Hp} {lo : Int} {n : Nat} (h : n ≤ 1000000) : WalkD (Itr lo n) K H (rangeL lo n) := by
  have hl : (rangeL lo n).length = n := by simp [rangeL]
  refine ⟨fun i H' p hi => by rw [hl] at hi; exact hi, fun H' p => by rw [hl]; exact Nat.le_refl n, fun i H' x H'' p hi y => ?_, by rw [hl]; exact Nat.le_trans h line6⟩
  obtain ⟨e, ex⟩ := y
  subst e ex
  rw [hl] at hi
  exact ⟨.int (lo + (i : Nat)), by simp [rangeL, hi], .int _, fun _ _ z => z⟩

theorem rpa1 {K : Fr} {H : Hp} {vs : List V} {d : D} (r : RpA K H vs [d]) : ∃ v, vs = [v] ∧ Rp K H v d := by
  cases r with | cons a b => cases b; exact ⟨_, rfl, a⟩
theorem rpa2 {K : Fr} {H : Hp} {vs : List V} {d e : D} (r : RpA K H vs [d, e]) : ∃ v u, vs = [v, u] ∧ Rp K H v d ∧ Rp K H u e := by
  cases r with
  | cons a b =>
    obtain ⟨u, e, q⟩ := rpa1 b
    exact ⟨_, u, by rw [e], a, q⟩
theorem rpa3 {K : Fr} {H : Hp} {vs : List V} {d e f : D} (r : RpA K H vs [d, e, f]) : ∃ v u w, vs = [v, u, w] ∧ Rp K H v d ∧ Rp K H u e ∧ Rp K H w f := by
  cases r with
  | cons a b =>
    obtain ⟨u, w, e, q⟩ := rpa2 b
    exact ⟨_, u, w, by rw [e], a, q⟩
theorem pit_r1 {X : Cx} {tg a : Expr} {m : MA} {p pos : Pos} (hg : Gl X "range") (hm : X.mg "range" = none) (h : PAr X [a] m) (hs : starEach [a] X.env = [(false, eval a X.env)] := by rfl) : PIt X tg (.Call (.Name "range" p) [a] [] pos) (iR rangeD1 m) := ⟨PI.of' (pi_range1 hg hm h.pa hs) fun σ H R q => by
  obtain ⟨B, ρ, own, xs, ρ', hB, es, e, k⟩ := q
  obtain ⟨⟨as, ρ1⟩, e1, e2⟩ := Option.bind_eq_some_iff.mp (show (m ρ).bind _ = some (xs, ρ') from e)
  obtain ⟨ds, e3, e4⟩ := Option.bind_eq_some_iff.mp e2
  obtain ⟨ys, e5, e6⟩ := Option.map_eq_some_iff.mp e4
  cases e6
  refine ⟨B, ρ, own, as, _, hB, es, e1, fun vs H1 own1 st1 es1 r1 => ?_⟩
  have r2 := argsRp es1 r1 e3
  obtain ⟨j, rfl, hj, rfl⟩ := rangeD1_some e5
  obtain ⟨v, rfl, r3⟩ := rpa1 r2
  have r4 := r3.int
  subst r4
  unfold big at hj
  exact ⟨j, rfl, by omega, by omega, fun pins s I => k _ H1 own1 st1 es1 (walk_range (by omega))⟩⟩
theorem pit_r2 {X : Cx} {tg a b : Expr} {m : MA} {p pos : Pos} (hg : Gl X "range") (hm : X.mg "range" = none) (h : PAr X [a, b] m) (hs : starEach [a, b] X.env = [(false, eval a X.env), (false, eval b X.env)] := by rfl) (hs2 : starEach [b] X.env = [(false, eval b X.env)] := by rfl) :
    PIt X tg (.Call (.Name "range" p) [a, b] [] pos) (iR rangeD2 m) := ⟨PI.of' (pi_range2 hg hm h.pa hs hs2) fun σ H R q => by
  obtain ⟨B, ρ, own, xs, ρ', hB, es, e, k⟩ := q
  obtain ⟨⟨as, ρ1⟩, e1, e2⟩ := Option.bind_eq_some_iff.mp (show (m ρ).bind _ = some (xs, ρ') from e)
  obtain ⟨ds, e3, e4⟩ := Option.bind_eq_some_iff.mp e2
  obtain ⟨ys, e5, e6⟩ := Option.map_eq_some_iff.mp e4
  cases e6
  refine ⟨B, ρ, own, as, _, hB, es, e1, fun vs H1 own1 st1 es1 r1 => ?_⟩
  have r2 := argsRp es1 r1 e3
  obtain ⟨i, j, rfl, hj, rfl⟩ := rangeD2_some e5
  obtain ⟨v, u, rfl, r3, r4⟩ := rpa2 r2
  have r5 := r3.int
  have r6 := r4.int
  subst r5 r6
  unfold big at hj
  exact ⟨i, j, rfl, by omega, fun pins s I => k _ H1 own1 st1 es1 (walk_range (by omega))⟩⟩
/-! ### zip, enumerate -/
def zip2D : List D → Option (List D)
  | [a, b] => (seqOf a).bind fun xs => (seqOf b).map fun ys => List.zipWith (fun x y => .tuple [x, y]) xs ys
  | _ => none
def zip3D : List D → Option (List D)
  | [a, b, c] => (seqOf a).bind fun xs => (seqOf b).bind fun ys => (seqOf c).map fun zs => List.zipWith (fun x (p : D × D) => .tuple [x, p.1, p.2]) xs (List.zip ys zs)
  | _ => none
def enumD : List D → Option (List D)
  | [a] => (seqOf a).map fun xs => xs.mapIdx fun i x => .tuple [.int (i : Nat), x]
  | _ => none
def iZ (z : List D → Option (List D)) (m : MA) : MI := fun ρ => (m ρ).bind fun p => (zs p.1).bind fun ds => (z ds).map fun xs => (xs, p.2)
theorem zip2D_some {ds xs : List D} (h : zip2D ds = some xs) : ∃ a b as bs, ds = [a, b] ∧ seqOf a = some as ∧ seqOf b = some bs ∧ xs = List.zipWith (fun x y => .tuple [x, y]) as bs := by
  unfold zip2D at h
  split at h
  · obtain ⟨as, e1, e2⟩ := Option.bind_eq_some_iff.mp h
    obtain ⟨bs, e3, e4⟩ := Option.map_eq_some_iff.mp e2
    exact ⟨_, _, as, bs, rfl, e1, e3, e4.symm⟩
  · cases h
theorem zip3D_some {ds xs : List D} (h : zip3D ds = some xs) : ∃ a b c as bs cs, ds = [a, b, c] ∧ seqOf a = some as ∧ seqOf b = some bs ∧ seqOf c = some cs ∧ xs = List.zipWith (fun x (p : D × D) => .tuple [x, p.1, p.2]) as (List.zip bs cs) := by
  unfold zip3D at h
  split at h
  · obtain ⟨as, e1, e2⟩ := Option.bind_eq_some_iff.mp h
    obtain ⟨bs, e3, e4⟩ := Option.bind_eq_some_iff.mp e2
    obtain ⟨cs, e5, e6⟩ := Option.map_eq_some_iff.mp e4
    exact ⟨_, _, _, as, bs, cs, rfl, e1, e3, e5, e6.symm⟩
  · cases h
theorem enumD_some {ds xs : List D} (h : enumD ds = some xs) : ∃ a as, ds = [a] ∧ seqOf a = some as ∧ xs = as.mapIdx fun i x => .tuple [.int (i : Nat), x] := by
  unfold enumD at h
  split at h
  · obtain ⟨as, e3, e4⟩ := Option.map_eq_some_iff.mp h
    exact ⟨_, as, rfl, e3, e4.symm⟩
  · cases h
theorem invLine {X : Cx} {pins : List (Addr × Obj)} {σ : St} {s : Shared} {H : Hp} {k : Knd} {a : Addr} {xs : List V} {ds : List D} (I : Inv X pins σ H s) (h : FzK X.K H k a xs) (f : FzA X.K H xs ds) : ds.length ≤ sizeLine := (walk_seq I h f).line
theorem fza_new {K : Fr} {H : Hp} {T : Addr} {items : List V} {ds : List D} (n : H T = none) (f : FzA K H items ds) : Fz K (upd H T (.tup items)) (.ref T) (.tuple ds) ∧ ∀ b o, H b = some o → upd H T (.tup items) b = some o :=
  ⟨.tup (.inl (.inl upd_same)) (f.mono (.new n)), fun b o e => by rw [upd_ne (ne_of_none e n)]; exact e⟩
theorem walk_zip2 {X : Cx} {pins : List (Addr × Obj)} {σ : St} {s : Shared} {H : Hp} {k1 k2 : Knd} {a b : Addr} {xs ys : List V} {as bs : List D} (I : Inv X pins σ H s) (h1 : FzK X.K H k1 a xs) (f1 : FzA X.K H xs as) (h2 : FzK X.K H k2 b ys) (f2 : FzA X.K H ys bs) :
    WalkD (ItN X.K [(k1, a), (k2, b)] nzip yzip2) X.K H (List.zipWith (fun x y => .tuple [x, y]) as bs) := by
  have all : ∀ H', PK H H' → SqAll X.K H' [(k1, a), (k2, b)] [xs, ys] := fun H' p => ⟨(h1.mono p).sq, (h2.mono p).sq, trivial⟩
  have l1 := f1.length
  have l2 := f2.length
  have hl : (List.zipWith (fun x y => (PyData.tuple [x, y])) as bs).length = nzip [xs, ys] := by
    simp [nzip]; omega
  refine ⟨fun i H' p hi => ⟨_, all H' p, by rw [← hl]; exact hi⟩, fun H' p => ⟨_, all H' p, hl⟩, fun i H' x H'' p hi y => ?_, ?_⟩
  · obtain ⟨T, items, rfl, hT, rfl, yy⟩ := y
    obtain ⟨xs', ys', x, y, ex, e1, e2, ei⟩ := yy _ (all _ p)
    cases ex
    obtain ⟨d1, q1, z1⟩ := f1.getV i e1
    obtain ⟨d2, q2, z2⟩ := f2.getV i e2
    subst ei
    refine ⟨.tuple [d1, d2], by rw [List.getElem?_zipWith, q1, q2], fza_new hT (.cons (Fz.mono p _ _ z1) (.cons (Fz.mono p _ _ z2) .nil))⟩
  · have := invLine I h1 f1
    have q : (List.zipWith (fun x y => (PyData.tuple [x, y])) as bs).length ≤ as.length := by simp; omega
    exact Nat.le_trans q this
theorem walk_zip3 {X : Cx} {pins : List (Addr × Obj)} {σ : St} {s : Shared} {H : Hp} {k1 k2 k3 : Knd} {a b c : Addr} {xs ys zs : List V} {as bs cs : List D} (I : Inv X pins σ H s) (h1 : FzK X.K H k1 a xs) (f1 : FzA X.K H xs as) (h2 : FzK X.K H k2 b ys) (f2 : FzA X.K H ys bs) (h3 : FzK X.K H k3 c zs) (f3 : FzA X.K H zs cs) :
    WalkD (ItN X.K [(k1, a), (k2, b), (k3, c)] nzip yzip3) X.K H (List.zipWith (fun x (p : D × D) => .tuple [x, p.1, p.2]) as (List.zip bs cs)) := by
  have all : ∀ H', PK H H' → SqAll X.K H' [(k1, a), (k2, b), (k3, c)] [xs, ys, zs] := fun H' p => ⟨(h1.mono p).sq, (h2.mono p).sq, (h3.mono p).sq, trivial⟩
  have l1 := f1.length
  have l2 := f2.length
  have l3 := f3.length
  have hl : (List.zipWith (fun x (p : D × D) => (PyData.tuple [x, p.1, p.2])) as (List.zip bs cs)).length = nzip [xs, ys, zs] := by
    simp [nzip]; omega
  refine ⟨fun i H' p hi => ⟨_, all H' p, by rw [← hl]; exact hi⟩, fun H' p => ⟨_, all H' p, hl⟩, fun i H' x H'' p hi y => ?_, ?_⟩
  · obtain ⟨T, items, rfl, hT, rfl, yy⟩ := y
    obtain ⟨xs', ys', zs', x, y, z, ex, e1, e2, e3, ei⟩ := yy _ (all _ p)
    cases ex
    obtain ⟨d1, q1, z1⟩ := f1.getV i e1
    obtain ⟨d2, q2, z2⟩ := f2.getV i e2
    obtain ⟨d3, q3, z3⟩ := f3.getV i e3
    subst ei
    refine ⟨.tuple [d1, d2, d3], by rw [List.getElem?_zipWith, List.getElem?_zip_eq_some (z := (d2, d3)) |>.mpr ⟨q2, q3⟩, q1], fza_new hT (.cons (Fz.mono p _ _ z1) (.cons (Fz.mono p _ _ z2) (.cons (Fz.mono p _ _ z3) .nil)))⟩
  · have := invLine I h1 f1
    have q : (List.zipWith (fun x (p : D × D) => (PyData.tuple [x, p.1, p.2])) as (List.zip bs cs)).length ≤ as.length := by simp; omega
    exact Nat.le_trans q this
theorem walk_enum {X : Cx} {pins : List (Addr × Obj)} {σ : St} {s : Shared} {H : Hp} {k1 : Knd} {a : Addr} {xs : List V} {as : List D} (I : Inv X pins σ H s) (h1 : FzK X.K H k1 a xs) (f1 : FzA X.K H xs as) :
    WalkD (ItN X.K [(k1, a)] nzip yenum) X.K H (as.mapIdx fun i x => .tuple [.int (i : Nat), x]) := by
  have all : ∀ H', PK H H' → SqAll X.K H' [(k1, a)] [xs] := fun H' p => ⟨(h1.mono p).sq, trivial⟩
  have l1 := f1.length
  have hl : (as.mapIdx fun i x => (PyData.tuple [.int (i : Nat), x])).length = nzip [xs] := by
    simp [nzip]; omega
  refine ⟨fun i H' p hi => ⟨_, all H' p, by rw [← hl]; exact hi⟩, fun H' p => ⟨_, all H' p, hl⟩, fun i H' x H'' p hi y => ?_, ?_⟩
  · obtain ⟨T, items, rfl, hT, rfl, yy⟩ := y
    obtain ⟨xs', x, ex, e1, ei⟩ := yy _ (all _ p)
    cases ex
    obtain ⟨d1, q1, z1⟩ := f1.getV i e1
    subst ei
    refine ⟨.tuple [.int (i : Nat), d1], by rw [List.getElem?_mapIdx, q1]; rfl, fza_new hT (.cons (.int _) (.cons (Fz.mono p _ _ z1) .nil))⟩
  · have := invLine I h1 f1
    simpa using this
theorem pit_zip2 {X : Cx} {a b : Expr} {m : MA} {p pos tpos : Pos} {elts : List Expr} {kk : Nat} (hg : Gl X "zip") (hm : X.mg "zip" = none) (h : PAr X [a, b] m) (hs : starEach [a, b] X.env = (false, eval a X.env) :: starEach [b] X.env := by rfl) (hpl : (backTo pos (starEach [b] X.env)).any (·.1) = false := by rfl) :
    PIt X (.Tuple elts kk tpos) (.Call (.Name "zip" p) [a, b] [] pos) (iZ zip2D m) := ⟨PI.of' (pi_zip2 hg hm h.pa hs hpl) fun σ H R q => by
  obtain ⟨B, ρ, own, xs, ρ', hB, es, e, k⟩ := q
  obtain ⟨⟨as, ρ1⟩, e1, e2⟩ := Option.bind_eq_some_iff.mp (show (m ρ).bind _ = some (xs, ρ') from e)
  obtain ⟨ds, e3, e4⟩ := Option.bind_eq_some_iff.mp e2
  obtain ⟨ys, e5, e6⟩ := Option.map_eq_some_iff.mp e4
  cases e6
  refine ⟨B, ρ, own, as, _, hB, es, e1, fun vs H1 own1 st1 es1 r1 => ?_⟩
  have r2 := zs_fz r1 e3
  obtain ⟨d1, d2, as1, as2, rfl, s1, s2, rfl⟩ := zip2D_some e5
  cases r2 with
  | cons q1 r2 =>
  cases r2 with
  | cons q2 r2 =>
  cases r2
  obtain ⟨k1, a1, xs1, rfl, g1, f1⟩ := fzSeq q1 s1
  obtain ⟨k2, a2, xs2, rfl, g2, f2⟩ := fzSeq q2 s2
  exact ⟨[(k1, a1), (k2, a2)], [xs1, xs2], rfl, rfl, ⟨g1.sq, g2.sq, trivial⟩, fun pins s I => k _ H1 own1 st1 es1 (walk_zip2 I g1 f1 g2 f2)⟩⟩
theorem pit_zip3 {X : Cx} {a b c : Expr} {m : MA} {p pos tpos : Pos} {elts : List Expr} {kk : Nat} (hg : Gl X "zip") (hm : X.mg "zip" = none) (h : PAr X [a, b, c] m) (hs : starEach [a, b, c] X.env = (false, eval a X.env) :: starEach [b, c] X.env := by rfl) (hpl : (backTo pos (starEach [b, c] X.env)).any (·.1) = false := by rfl) :
    PIt X (.Tuple elts kk tpos) (.Call (.Name "zip" p) [a, b, c] [] pos) (iZ zip3D m) := ⟨PI.of' (pi_zip3 hg hm h.pa hs hpl) fun σ H R q => by
  obtain ⟨B, ρ, own, xs, ρ', hB, es, e, k⟩ := q
  obtain ⟨⟨as, ρ1⟩, e1, e2⟩ := Option.bind_eq_some_iff.mp (show (m ρ).bind _ = some (xs, ρ') from e)
  obtain ⟨ds, e3, e4⟩ := Option.bind_eq_some_iff.mp e2
  obtain ⟨ys, e5, e6⟩ := Option.map_eq_some_iff.mp e4
  cases e6
  refine ⟨B, ρ, own, as, _, hB, es, e1, fun vs H1 own1 st1 es1 r1 => ?_⟩
  have r2 := zs_fz r1 e3
  obtain ⟨d1, d2, d3, as1, as2, as3, rfl, s1, s2, s3, rfl⟩ := zip3D_some e5
  cases r2 with
  | cons q1 r2 =>
  cases r2 with
  | cons q2 r2 =>
  cases r2 with
  | cons q3 r2 =>
  cases r2
  obtain ⟨k1, a1, xs1, rfl, g1, f1⟩ := fzSeq q1 s1
  obtain ⟨k2, a2, xs2, rfl, g2, f2⟩ := fzSeq q2 s2
  obtain ⟨k3, a3, xs3, rfl, g3, f3⟩ := fzSeq q3 s3
  exact ⟨[(k1, a1), (k2, a2), (k3, a3)], [xs1, xs2, xs3], rfl, rfl, ⟨g1.sq, g2.sq, g3.sq, trivial⟩, fun pins s I => k _ H1 own1 st1 es1 (walk_zip3 I g1 f1 g2 f2 g3 f3)⟩⟩
theorem pit_enum {X : Cx} {a : Expr} {m : MA} {p pos tpos : Pos} {elts : List Expr} {kk : Nat} (hg : Gl X "enumerate") (hm : X.mg "enumerate" = none) (h : PAr X [a] m) (hs : starEach [a] X.env = [(false, eval a X.env)] := by rfl) :
    PIt X (.Tuple elts kk tpos) (.Call (.Name "enumerate" p) [a] [] pos) (iZ enumD m) := ⟨PI.of' (pi_enum1 hg hm h.pa hs) fun σ H R q => by
  obtain ⟨B, ρ, own, xs, ρ', hB, es, e, k⟩ := q
  obtain ⟨⟨as, ρ1⟩, e1, e2⟩ := Option.bind_eq_some_iff.mp (show (m ρ).bind _ = some (xs, ρ') from e)
  obtain ⟨ds, e3, e4⟩ := Option.bind_eq_some_iff.mp e2
  obtain ⟨ys, e5, e6⟩ := Option.map_eq_some_iff.mp e4
  cases e6
  refine ⟨B, ρ, own, as, _, hB, es, e1, fun vs H1 own1 st1 es1 r1 => ?_⟩
  have r2 := zs_fz r1 e3
  obtain ⟨d1, as1, rfl, s1, rfl⟩ := enumD_some e5
  cases r2 with
  | cons q1 r2 =>
  cases r2
  obtain ⟨k1, a1, xs1, rfl, g1, f1⟩ := fzSeq q1 s1
  exact ⟨[(k1, a1)], [xs1], rfl, rfl, ⟨g1.sq, trivial⟩, fun pins s I => k _ H1 own1 st1 es1 (walk_enum I g1 f1)⟩⟩
end VL

set_option Elab.async false
set_option linter.all false
set_option maxRecDepth 100000
set_option maxHeartbeats 4000000
namespace VL
open PySem PySem.Spec PyProof.Rows L2

/-! ### targets of for, of comprehensions -/
abbrev MG := D → Env → Option Env
abbrev MGs := List D → Env → Option Env
def tG (K : Fr) (pin : List Nat) (m : MG) : TG := fun v σ H Q => ∃ d ρ own ρ', Fz K H v d ∧ ES K H σ ρ own ∧ m d ρ = some ρ' ∧ ∀ σ', σ'.length = σ.length → (∀ k ∈ pin, σ'[k]? = σ[k]?) → ES K H σ' ρ' own → Q σ' H
def tGs (K : Fr) (pin : List Nat) (m : MGs) : TGs := fun vs σ H Q => ∃ ds ρ own ρ', FzA K H vs ds ∧ ES K H σ ρ own ∧ m ds ρ = some ρ' ∧ ∀ σ', σ'.length = σ.length → (∀ k ∈ pin, σ'[k]? = σ[k]?) → ES K H σ' ρ' own → Q σ' H
structure PTg (X : Cx) (pin : List Nat) (e : Expr) (m : MG) : Prop where
  pg : PG X e (tG X.K pin m)
structure PTgs (X : Cx) (pin : List Nat) (e : List Expr) (m : MGs) : Prop where
  pgs : PGs X e (tGs X.K pin m)
theorem _root_.L2.PG.of {X : Cx} {e : Expr} {t t' : TG} (h : PG X e t') (i : ∀ v σ H Q, t v σ H Q → t' v σ H Q) : PG X e t := ⟨fun pins s σ H v u Q I r q => h.run pins s σ H v u Q I r (i v σ H Q q)⟩
theorem _root_.L2.PGs.of {X : Cx} {e : List Expr} {t t' : TGs} (h : PGs X e t') (i : ∀ v σ H Q, t v σ H Q → t' v σ H Q) : PGs X e t := ⟨fun pins s σ H v u Q I r q => h.run pins s σ H v u Q I r (i v σ H Q q)⟩
theorem ES.setZ {K : Fr} {H : Hp} {σ : St} {ρ : Env} {own : Ow} {i : Nat} {v : V} {d : D} (hi : i < σ.length) (es : ES K H σ ρ own) (f : Fz K H v d) : ES K H (σ.set i (some v)) (ρ.set i (some (.z d))) own := by
  refine ⟨by simpa using es.len, fun k u e => ?_⟩
  by_cases hk : k = i
  · subst hk
    rw [List.getElem?_set_self (by rw [es.len]; exact hi)] at e
    cases e
    exact ⟨v, List.getElem?_set_self hi, f⟩
  · rw [List.getElem?_set_ne (Ne.symm hk)] at e
    obtain ⟨w, e1, q⟩ := es.rep k u e
    exact ⟨w, by rw [List.getElem?_set_ne (Ne.symm hk)]; exact e1, q⟩
theorem pin_ne {pin : List Nat} {i : Nat} {σ : St} {v : Option V} (hp : pin.contains i = false) : ∀ k ∈ pin, (σ.set i v)[k]? = σ[k]? := fun k hk => by
  rw [List.getElem?_set_ne]
  intro z
  subst z
  rw [List.contains_iff_mem.mpr hk] at hp
  cases hp
def gN (i : Nat) : MG := fun d ρ => setSl i (.z d) ρ
section
variable {X : Cx} {pin : List Nat}
theorem ptg_n {i : Nat} {x : Str} {pos : Pos} (h : PG X (.Name x pos) (gName i)) (hp : pin.contains i = false) : PTg X pin (.Name x pos) (gN i) := ⟨h.of fun v σ H Q q => by
  obtain ⟨d, ρ, own, ρ', f, es, e, k⟩ := q
  obtain ⟨hi, rfl⟩ := setSl_some e
  have hi' : i < σ.length := by rw [← es.len]; exact hi
  exact k _ (by simp) (pin_ne hp) (es.setZ hi' f)⟩
def gs0 : MGs := fun ds ρ => match ds with
  | [] => some ρ
  | _ => none
def gsC (m : MG) (ms : MGs) : MGs := fun ds ρ => match ds with
  | d :: ds => (m d ρ).bind fun ρ' => ms ds ρ'
  | [] => none
def gT (n : Nat) (ms : MGs) : MG := fun d ρ => match d with
  | .tuple ds => if ds.length = n then ms ds ρ else none
  | _ => none
theorem ptgs_0 : PTgs X pin [] gs0 := ⟨pgs_nil.of fun vs σ H Q q => by
  obtain ⟨ds, ρ, own, ρ', f, es, e, k⟩ := q
  cases f with
  | nil => cases e; exact ⟨rfl, k σ rfl (fun _ _ => rfl) es⟩
  | cons a b => cases e⟩
theorem ptgs_c {e : Expr} {es : List Expr} {m : MG} {ms : MGs} (h1 : PTg X pin e m) (h2 : PTgs X pin es ms) (hs : (assignEach (e :: es) X.env).map (·.2) = assign e X.env :: (assignEach es X.env).map (·.2) := by rfl) : PTgs X pin (e :: es) (gsC m ms) := ⟨(pgs_cons h1.pg h2.pgs hs).of fun vs σ H Q q => by
  obtain ⟨ds, ρ, own, ρ', f, es, e, k⟩ := q
  cases f with
  | nil => cases e
  | cons a b =>
    obtain ⟨ρ1, e1, e2⟩ := Option.bind_eq_some_iff.mp (show (m _ ρ).bind _ = some ρ' from e)
    refine ⟨_, _, rfl, _, ρ, own, ρ1, a, es, e1, fun σ1 l1 p1 es1 => ?_⟩
    exact ⟨_, ρ1, own, ρ', b, es1, e2, fun σ2 l2 p2 es2 => k σ2 (l2.trans l1) (fun j hj => (p2 j hj).trans (p1 j hj)) es2⟩⟩
theorem ptg_t {es : List Expr} {k n : Nat} {pos : Pos} {ms : MGs} (hc : X.calm = true) (h : PTgs X pin es ms) (hn : (assignEach es X.env).length = n := by rfl) (hst : (assignEach es X.env).findIdx? (·.1) = none := by rfl) : PTg X pin (.Tuple es k pos) (gT n ms) := ⟨(pg_tup hc h.pgs hn hst).of fun v σ H Q q => by
  obtain ⟨d, ρ, own, ρ', f, es, e, k⟩ := q
  cases f with
  | tup a b =>
    rename_i ad xs ds
    have e' : (if ds.length = n then ms ds ρ else none) = some ρ' := e
    by_cases hl : ds.length = n
    · rw [if_pos hl] at e'
      exact ⟨_, _, rfl, a, by rw [b.length]; exact hl, _, ρ, own, ρ', b, es, e', k⟩
    · rw [if_neg hl] at e'; cases e'
  | _ => cases e⟩
end

/-! ### for -/
def forGo (mg : MG) (mb : MS) : List D → MS
  | [], ρ => some (.nx, ρ)
  | d :: ds, ρ => (mg d ρ).bind fun ρ1 => (mb ρ1).bind fun p => match p.1 with
    | .nx => forGo mg mb ds p.2
    | .ct => forGo mg mb ds p.2
    | .bk => some (.nx, p.2)
    | .ret t => some (.ret t, p.2)
def sFor (mi : MI) (mg : MG) (mb : MS) : MS := fun ρ => (mi ρ).bind fun p => forGo mg mb p.1 p.2
theorem ps_for' {X : Cx} {pin : List Nat} {tg iter : Expr} {body : List Stmt} {pos : Pos} {mi : MI} {mg : MG} {mb : MS} (hp : PassesOwn (model X.prog X.w) X.A X.env X.xe) (hc : X.calm = true) (hi : PIt X tg iter mi) (hg : PTg X pin tg mg) (hb : PSts X pin body mb)
    (hs : ∀ x, foldedSetIterable iter X.env x = pure x := by intro _; rfl) : PSt X pin (.For tg iter body [] pos) (sFor mi mg mb) := ⟨(ps_for hp hc hi.pi hg.pg hb.ps hs).of fun E σ H q => by
  obtain ⟨B, ρ, own, f, ρ', hB, es, e, k⟩ := q
  obtain ⟨⟨ds, ρ1⟩, e1, e2⟩ := Option.bind_eq_some_iff.mp (show (mi ρ).bind _ = some (f, ρ') from e)
  refine ⟨B, ρ, own, ds, ρ1, hB, es, e1, fun J H1 own1 st1 es1 W => ?_⟩
  -- at turn i: what is left leads to the known end
  let G : Nat → Nat → St → Hp → Prop := fun i m σ' H' => m = ds.length - i ∧ i ≤ ds.length ∧ ∃ ρi owni, forGo mg mb (ds.drop i) ρi = some (f, ρ') ∧ σ'.length = σ.length ∧ (∀ j ∈ pin, σ'[j]? = σ[j]?) ∧ Step σ.length B own H owni H' ∧ PK H1 H' ∧ ES X.K H' σ' ρi owni
  refine ⟨G, ⟨ds.length, rfl, Nat.zero_le _, ρ1, own1, e2, rfl, fun _ _ => rfl, st1, .refl, es1⟩, ?_⟩
  rintro i m σ' H' ⟨rfl, hi, ρi, owni, ei, li, pi, sti, pki, esi⟩
  by_cases hlt : i < ds.length
  · refine .inr ⟨W.go i H' pki hlt, fun σ2 H2 => G (i + 1) (ds.length - (i + 1)) σ2 H2, fun σ2 H2 g => ⟨_, by omega, g⟩, fun x H2 y => ?_⟩
    obtain ⟨d, ed, fz, same⟩ := W.yld i H' x H2 pki hlt y
    have edr : ds.drop i = d :: ds.drop (i + 1) := by
      rw [List.drop_eq_getElem_cons hlt]
      rw [List.getElem?_eq_getElem hlt] at ed
      cases ed; rfl
    rw [edr] at ei
    obtain ⟨ρg, eg, ei2⟩ := Option.bind_eq_some_iff.mp (show (mg d ρi).bind _ = some (f, ρ') from ei)
    obtain ⟨⟨fl, ρb⟩, eb, ei3⟩ := Option.bind_eq_some_iff.mp ei2
    have st2 : Step σ.length B owni H' owni H2 := ⟨fun b o e _ => ⟨same b o e, rfl⟩, fun b q => .inl q, .same same⟩
    have es2 : ES X.K H2 σ' ρi owni := esi.same (.same same) fun a o j ha _ e => ⟨same a o e, ha⟩
    refine ⟨d, ρi, owni, ρg, fz, es2, eg, fun σ3 l3 p3 es3 => ?_⟩
    refine ⟨B, ρg, owni, fl, ρb, by rw [l3, li]; exact hB, es3, eb, fun σ4 H4 own4 l4 p4 st4 es4 => ?_⟩
    rw [l3, li] at st4
    have l4' : σ4.length = σ.length := l4.trans (l3.trans li)
    have p4' : ∀ j ∈ pin, σ4[j]? = σ[j]? := fun j hj => (p4 j hj).trans ((p3 j hj).trans (pi j hj))
    have st' : Step σ.length B own H own4 H4 := (sti.trans st2).trans st4
    have pk' : PK H1 H4 := (pki.trans st2.pk).trans st4.pk
    cases fl with
    | nx => exact ⟨rfl, hlt, ρb, own4, ei3, l4', p4', st', pk', es4⟩
    | ct => exact ⟨rfl, hlt, ρb, own4, ei3, l4', p4', st', pk', es4⟩
    | bk => cases ei3; exact k σ4 H4 own4 l4' p4' st' es4
    | ret t =>
      cases ei3
      intro v r
      exact k σ4 H4 own4 l4' p4' st' es4 v r
  · have e : i = ds.length := by omega
    subst e
    rw [List.drop_length] at ei
    cases ei
    exact .inl ⟨W.stop H' pki, k σ' H' owni li pi sti esi⟩⟩

/-! ### comprehensions -/
def wipeE (ρ : Env) : List Nat → Env
  | [] => ρ
  | v :: vs => (wipeE ρ vs).set v none
/-- behind the block its own names are again what they were, where that never changes -/
def restE (ρ0 ρ : Env) : List Nat → Env
  | [] => ρ
  | v :: vs => (restE ρ0 ρ vs).set v (match slotT ρ0 v with
    | some (.z d) => some (.z d)
    | _ => none)
theorem wipeE_len (ρ : Env) : ∀ vs, (wipeE ρ vs).length = ρ.length
  | [] => rfl
  | v :: vs => by unfold wipeE; rw [List.length_set, wipeE_len ρ vs]
theorem restE_len (ρ0 ρ : Env) : ∀ vs, (restE ρ0 ρ vs).length = ρ.length
  | [] => rfl
  | v :: vs => by unfold restE; rw [List.length_set, restE_len ρ0 ρ vs]
theorem wipeE_some {ρ : Env} {i : Nat} {t : T} : ∀ {vs : List Nat}, (wipeE ρ vs)[i]? = some (some t) → ρ[i]? = some (some t) ∧ i ∉ vs
  | [], h => ⟨h, by simp⟩
  | v :: vs, h => by
    unfold wipeE at h
    by_cases hi : v = i
    · subst hi
      by_cases hv : v < (wipeE ρ vs).length
      · rw [List.getElem?_set_self hv] at h; cases h
      · rw [List.getElem?_eq_none (by simpa using hv)] at h; cases h
    · rw [List.getElem?_set_ne hi] at h
      obtain ⟨h1, h2⟩ := wipeE_some h
      exact ⟨h1, by simp only [List.mem_cons, not_or]; exact ⟨fun e => hi e.symm, h2⟩⟩
theorem restE_some {ρ0 ρ : Env} {i : Nat} {t : T} : ∀ {vs : List Nat}, (restE ρ0 ρ vs)[i]? = some (some t) → (i ∉ vs ∧ ρ[i]? = some (some t)) ∨ ∃ d, t = .z d ∧ slotT ρ0 i = some (.z d)
  | [], h => .inl ⟨by simp, h⟩
  | v :: vs, h => by
    unfold restE at h
    by_cases hi : v = i
    · subst hi
      by_cases hv : v < (restE ρ0 ρ vs).length
      · rw [List.getElem?_set_self hv] at h
        have h := Option.some.inj h
        split at h
        · rename_i d e
          cases h
          exact .inr ⟨d, rfl, e⟩
        · cases h
      · rw [List.getElem?_eq_none (by simpa using hv)] at h; cases h
    · rw [List.getElem?_set_ne hi] at h
      rcases restE_some h with ⟨h1, h2⟩ | h3
      · exact .inl ⟨by simp only [List.mem_cons, not_or]; exact ⟨fun e => hi e.symm, h1⟩, h2⟩
      · exact .inr h3
theorem wipe_get {σ : St} {i : Nat} {vs : List Nat} (h : i ∉ vs) : (wipe σ vs)[i]? = σ[i]? := by
  induction vs with
  | nil => rfl
  | cons v vs ih =>
    simp only [List.mem_cons, not_or] at h
    unfold wipe
    rw [List.getElem?_set_ne (Ne.symm h.1)]
    exact ih h.2
theorem ES.wipe {K : Fr} {H : Hp} {σ : St} {ρ : Env} {own : Ow} (es : ES K H σ ρ own) (vs : List Nat) : ES K H (wipe σ vs) (wipeE ρ vs) own := by
  refine ⟨by rw [wipeE_len, wipe_length]; exact es.len, fun i t e => ?_⟩
  obtain ⟨e1, n⟩ := wipeE_some e
  obtain ⟨v, e2, r⟩ := es.rep i t e1
  exact ⟨v, by rw [wipe_get n]; exact e2, r⟩
/-- a comprehension's turns: acc is what is made so far -/
def lcGo (mg : MG) (mt : MB) (me : ME) (vs : List Nat) : List D → Env → List D → Option (List D × Env)
  | [], ρ, acc => some (acc, ρ)
  | d :: ds, ρ, acc => (mg d ρ).bind fun ρ1 => (mt ρ1).bind fun b => match b.1 with
    | false => lcGo mg mt me vs ds (wipeE b.2 vs) acc
    | true => (me b.2).bind fun p => match p.1 with
      | .z y => lcGo mg mt me vs ds (wipeE p.2 vs) (acc ++ [y])
      | _ => none
def mLC (mi : MI) (mg : MG) (mt : MB) (me : ME) (vs : List Nat) : ME := fun ρ => (mi ρ).bind fun p => (lcGo mg mt me vs p.1 (wipeE p.2 vs) []).map fun q => (.l q.1, restE p.2 q.2 vs)
/-- pins for what is not the block's own: all slots -/
def others (n : Nat) (vs : List Nat) : List Nat := (List.range n).filter fun i => !vs.contains i
theorem wipe_eq {σ σ' : St} {vs : List Nat} (hl : σ'.length = σ.length) (h : ∀ k, k ∉ vs → σ'[k]? = σ[k]?) : L2.wipe σ' vs = L2.wipe σ vs := by
  apply List.ext_getElem?
  intro i
  by_cases hi : i ∈ vs
  · have z : ∀ (τ : St) (ws : List Nat), i ∈ ws → (L2.wipe τ ws)[i]? = if i < τ.length then some none else none := fun τ ws => by
      induction ws with
      | nil => intro q; cases q
      | cons w ws ih =>
        intro q
        unfold L2.wipe
        by_cases e : w = i
        · subst e
          by_cases hw : w < τ.length
          · rw [List.getElem?_set_self (by rw [wipe_length]; exact hw), if_pos hw]
          · rw [List.getElem?_eq_none (by rw [List.length_set, wipe_length]; omega), if_neg hw]
        · rw [List.getElem?_set_ne e]
          exact ih ((List.mem_cons.mp q).resolve_left fun x => e x.symm)
    rw [z _ _ hi, z _ _ hi, hl]
  · rw [wipe_get hi, wipe_get hi, h i hi]
theorem tLc_of {X : Cx} {K : Fr} {mi : MI} {mg : MG} {mt : MB} {me : ME} {vs : List Nat} {σ : St} {H : Hp} {Q : VK} (q : tE K (mLC mi mg mt me vs) σ H Q) : tLc (tI K mi) (tG K (others σ.length vs) mg) (tT K mt) (tE K me) vs σ H Q := by
  obtain ⟨B, ρ, own, t, ρ', hB, es, e, k⟩ := q
  obtain ⟨⟨ds, ρ1⟩, e1, e2⟩ := Option.bind_eq_some_iff.mp (show (mi ρ).bind _ = some (t, ρ') from e)
  obtain ⟨⟨out, ρ2⟩, e3, e4⟩ := Option.map_eq_some_iff.mp e2
  cases e4
  refine ⟨B, ρ, own, ds, ρ1, hB, es, e1, fun J H1 own1 st1 es1 W D hD => ?_⟩
  -- the list made is the temporary B's; the turns work from B + 1 on
  let own2 : Ow := fun b => if b = D then some B else own1 b
  have own2_ne : ∀ {b}, b ≠ D → own2 b = own1 b := fun {b} n => if_neg n
  have own2_D : own2 D = some B := if_pos rfl
  have ne_D : ∀ {b o}, H1 b = some o → b ≠ D := fun {b o} e z => by subst z; rw [hD] at e; cases e
  have hst2 : Step σ.length B own1 H1 own2 (upd H1 D (.lst [])) :=
    ⟨fun b o e _ => ⟨by rw [upd_ne (ne_D e)]; exact e, own2_ne (ne_D e)⟩, fun b q => by
      by_cases z : b = D
      · subst z; exact .inr hD
      · rw [own2_ne z] at q; exact .inl q, .new hD⟩
  have es2 : ES K (upd H1 D (.lst [])) σ ρ1 own2 := es1.same hst2.pk fun a o i ha _ e => ⟨by rw [upd_ne (ne_D e)]; exact e, by rw [own2_ne (ne_D e)]; exact ha⟩
  let G : Nat → Nat → Hp → Prop := fun i m H' => m = ds.length - i ∧ i ≤ ds.length ∧ ∃ ρi owni acc xs, lcGo mg mt me vs (ds.drop i) ρi acc = some (out, ρ2) ∧ ES K H' (wipe σ vs) ρi owni ∧ Step σ.length B own H owni H' ∧ PK H1 H' ∧
    H' D = some (.lst xs) ∧ owni D = some B ∧ FzA K H' xs acc ∧ acc.length ≤ i
  refine ⟨G, ⟨ds.length, rfl, Nat.zero_le _, wipeE ρ1 vs, own2, [], [], e3, es2.wipe vs, st1.trans hst2, .new hD, upd_same, own2_D, .nil, Nat.le_refl 0⟩, ?_⟩
  rintro i m H' ⟨rfl, hi, ρi, owni, acc, xs, ei, esi, sti, pki, hDi, oDi, fzi, li⟩
  have hBn : σ.length ≤ B := hB
  have wl : (wipe σ vs).length = σ.length := wipe_length σ vs
  by_cases hlt : i < ds.length
  · refine .inr ⟨W.go i H' pki hlt, fun H2 => G (i + 1) (ds.length - (i + 1)) H2, fun H2 g => ⟨_, by omega, g⟩, fun x H2 y => ?_⟩
    obtain ⟨d, ed, fz, same⟩ := W.yld i H' x H2 pki hlt y
    have edr : ds.drop i = d :: ds.drop (i + 1) := by
      rw [List.drop_eq_getElem_cons hlt]
      rw [List.getElem?_eq_getElem hlt] at ed
      cases ed; rfl
    rw [edr] at ei
    obtain ⟨ρg, eg, ei2⟩ := Option.bind_eq_some_iff.mp (show (mg d ρi).bind _ = some (out, ρ2) from ei)
    obtain ⟨⟨bb, ρb⟩, eb, ei3⟩ := Option.bind_eq_some_iff.mp ei2
    have stp : Step σ.length B owni H' owni H2 := ⟨fun b o e _ => ⟨same b o e, rfl⟩, fun b q => .inl q, .same same⟩
    have esp : ES K H2 (wipe σ vs) ρi owni := esi.same (.same same) fun a o j ha _ e => ⟨same a o e, ha⟩
    have hD2 : H2 D = some (.lst xs) := same _ _ hDi
    have fz2 : FzA K H2 xs acc := fzi.mono (.same same)
    refine ⟨d, ρi, owni, ρg, fz, esp, eg, fun σ3 l3 p3 es3 => ?_⟩
    have l3' : σ3.length = σ.length := l3.trans wl
    have hw : wipe σ3 vs = wipe σ vs := by
      have a1 : wipe σ3 vs = wipe (wipe σ vs) vs := wipe_eq l3 fun j hj => by
        by_cases hjl : j < σ.length
        · exact p3 j (List.mem_filter.mpr ⟨List.mem_range.mpr hjl, by simpa using hj⟩)
        · rw [List.getElem?_eq_none (by rw [l3']; omega), List.getElem?_eq_none (by rw [wl]; omega)]
      rw [a1]
      exact wipe_eq wl fun j hj => wipe_get hj
    refine ⟨hw, ?_⟩
    refine ⟨B + 1, ρg, owni, bb, ρb, by rw [l3']; omega, es3, eb, fun H4 own4 st4 es4 => ?_⟩
    rw [l3'] at st4
    have nD : ¬ Act σ.length (B + 1) (owni D) := by rw [oDi, Act.some]; omega
    obtain ⟨hD4, oD4⟩ := st4.keep D _ hD2 nD
    have fz4 : FzA K H4 xs acc := fz2.mono st4.pk
    have st' : Step σ.length B own H own4 H4 := (sti.trans stp).trans (st4.down (Nat.le_succ B))
    have pk' : PK H1 H4 := (pki.trans (.same same)).trans st4.pk
    cases bb with
    | false =>
      rw [if_neg Bool.false_ne_true]
      refine ⟨rfl, hlt, wipeE ρb vs, own4, acc, xs, ei3, ?_, st', pk', hD4, oD4.trans oDi, fz4, Nat.le_succ_of_le li⟩
      rw [← hw]
      exact es4.wipe vs
    | true =>
      rw [if_pos rfl]
      obtain ⟨⟨u, ρu⟩, eu, ei4⟩ := Option.bind_eq_some_iff.mp (show (me ρb).bind _ = some (out, ρ2) from ei3)
      refine ⟨B + 1, ρb, own4, u, ρu, by rw [l3']; omega, es4, eu, fun yv H5 own5 st5 es5 r5 => ?_⟩
      rw [l3'] at st5
      have nD4 : ¬ Act σ.length (B + 1) (own4 D) := by rw [oD4, oDi, Act.some]; omega
      obtain ⟨hD5, oD5⟩ := st5.keep D _ hD4 nD4
      have fz5 : FzA K H5 xs acc := fz4.mono st5.pk
      cases u with
      | l es => cases ei4
      | dc es => cases ei4
      | z y =>
        have fy : Fz K H5 yv y := r5
        have pkD : PK H5 (upd H5 D (.lst (xs ++ [yv]))) := .mut hD5 trivial
        have accl : xs.length < sizeLine := by
          have q := W.line
          rw [fz5.length]
          omega
        have oD : own5 D = some B := oD5.trans (oD4.trans oDi)
        have stD : Step σ.length B own5 H5 own5 (upd H5 D (.lst (xs ++ [yv]))) := ⟨fun b o e na => ⟨by rw [upd_ne (fun z => na (by rw [z, oD, Act.some]; exact .inr (Nat.le_refl B)))]; exact e, rfl⟩, fun b q => .inl q, pkD⟩
        refine ⟨xs, hD5, accl, rfl, hlt, wipeE ρu vs, own5, acc ++ [y], xs ++ [yv], ei4, ?_, (st'.trans (st5.down (Nat.le_succ B))).trans stD, (pk'.trans st5.pk).trans pkD, upd_same, oD, (fz5.append (.cons fy .nil)).mono pkD, by simp; omega⟩
        rw [← hw]
        refine ES.wipe ?_ vs
        refine es5.same pkD fun a o j ha hj e => ⟨?_, ha⟩
        rw [upd_ne]
        · exact e
        · intro z
          subst z
          rw [oD] at ha
          cases ha
          rw [l3'] at hj
          omega
  · have e : i = ds.length := by omega
    subst e
    rw [List.drop_length] at ei
    cases ei
    refine .inl ⟨W.stop H' pki, k (.ref D) H' owni sti ⟨by rw [restE_len, esi.len, wl], fun j t e => ?_⟩ ⟨D, xs, rfl, oDi, hDi, fzi⟩⟩
    rcases restE_some e with ⟨hn, ex⟩ | ⟨d, rfl, ex⟩
    · obtain ⟨v, e5, r⟩ := esi.rep j t ex
      exact ⟨v, by rw [← wipe_get (σ := σ) hn]; exact e5, r⟩
    · obtain ⟨v, e5, r⟩ := es1.rep j _ (slotT_some ex)
      exact ⟨v, e5, Fz.mono pki _ _ r⟩
def bYes : MB := fun ρ => some (true, ρ)
structure PTs' (X : Cx) (ifs : List Expr) (m : MB) : Prop where
  pts : PTs X ifs (tT X.K m)
theorem _root_.L2.PTs.of {X : Cx} {e : List Expr} {t t' : TT} (h : PTs X e t') (i : ∀ σ H Q, t σ H Q → t' σ H Q) : PTs X e t := ⟨fun pins s σ H Q I q => h.run pins s σ H Q I (i σ H Q q)⟩
theorem pts_0 {X : Cx} : PTs' X [] bYes := ⟨pts_nil.of fun σ H Q q => by
  obtain ⟨B, ρ, own, b, ρ', hB, es, e, k⟩ := q
  cases e
  exact k H own .refl es⟩
theorem pts_1 {X : Cx} {c : Expr} {m : MB} (h : PB X c m) : PTs' X [c] m := ⟨pts_one h.pt⟩
section
variable {X : Cx} {elt tg iter : Expr} {ifs : List Expr} {scope : Scope} {ow : List (Str × Nat)} {pos : Pos} {mi : MI} {mg : MG} {mt : MB} {me : ME}
theorem px_lc (hc : X.calm = true) (hN : X.N.Nodup) (hi : PIt X tg iter mi) (ok : BlkOk X.N X.env.scope scope ow)
    (hg : ∀ (n : Nat) (s : Shared) (H : Hp) (C : Addr) (cl : List (Str × Addr)) (fp : List Addr), PTg (X.blk s H scope (compEnvC scope cl C X.env) fp) (others n (ow.map (·.2))) tg mg)
    (ht : ∀ (s : Shared) (H : Hp) (C : Addr) (cl : List (Str × Addr)) (fp : List Addr), PTs' (X.blk s H scope (compEnvC scope cl C X.env) fp) ifs mt)
    (he : ∀ (s : Shared) (H : Hp) (C : Addr) (cl : List (Str × Addr)) (fp : List Addr), PX (X.blk s H scope (compEnvC scope cl C X.env) fp) elt me) (hs : ∀ x, foldedSetIterable iter X.env x = pure x := by intro _; rfl) :
    PX X (.ListComp elt [⟨tg, iter, ifs, 0⟩] scope pos) (mLC mi mg mt me (ow.map (·.2))) := by
  have hg' : ∀ (n : Nat) (s : Shared) (H : Hp) (C : Addr) (cl : List (Str × Addr)) (fp : List Addr), PG (X.blk s H scope (compEnvC scope cl C X.env) fp) tg (tG X.K (others n (ow.map (·.2))) mg) := fun n s H C cl fp => (hg n s H C cl fp).pg
  have ht' : ∀ (s : Shared) (H : Hp) (C : Addr) (cl : List (Str × Addr)) (fp : List Addr), PTs (X.blk s H scope (compEnvC scope cl C X.env) fp) ifs (tT X.K mt) := fun s H C cl fp => (ht s H C cl fp).pts
  have he' : ∀ (s : Shared) (H : Hp) (C : Addr) (cl : List (Str × Addr)) (fp : List Addr), PE (X.blk s H scope (compEnvC scope cl C X.env) fp) elt (tE X.K me) := fun s H C cl fp => (he s H C cl fp).pe
  refine ⟨⟨fun pins s σ H Q I q => ?_⟩⟩
  exact (pe_lc hc hN hi.pi ok (hg' σ.length) ht' he' hs).run pins s σ H Q I (tLc_of (X := X) q)
/-- name = [..] -/
theorem ps_lc {pin : List Nat} {i : Nat} {y : Str} {py spos : Pos} (hc : X.calm = true) (hN : X.N.Nodup) (hy : X.N[i]? = some y) (hyl : X.env.scope.names.lookup y = some .local)
    (hsw : swapsWith (.ListComp elt [⟨tg, iter, ifs, 0⟩] scope pos) (some (.Name y py)) spos.line X.env = pure true) (hpin : pin.contains i = false) (hi : PIt X tg iter mi) (ok : BlkOk X.N X.env.scope scope ow)
    (hg : ∀ (n : Nat) (s : Shared) (H : Hp) (C : Addr) (cl : List (Str × Addr)) (fp : List Addr), PTg (X.blk s H scope (compEnvC scope cl C X.env) fp) (others n (ow.map (·.2))) tg mg)
    (ht : ∀ (s : Shared) (H : Hp) (C : Addr) (cl : List (Str × Addr)) (fp : List Addr), PTs' (X.blk s H scope (compEnvC scope cl C X.env) fp) ifs mt)
    (he : ∀ (s : Shared) (H : Hp) (C : Addr) (cl : List (Str × Addr)) (fp : List Addr), PX (X.blk s H scope (compEnvC scope cl C X.env) fp) elt me) (hs : ∀ x, foldedSetIterable iter X.env x = pure x := by intro _; rfl) :
    PSt X pin (.Assign [.Name y py] (.ListComp elt [⟨tg, iter, ifs, 0⟩] scope pos) spos) (sSet i (mLC mi mg mt me (ow.map (·.2)))) := by
  have hg' : ∀ (n : Nat) (s : Shared) (H : Hp) (C : Addr) (cl : List (Str × Addr)) (fp : List Addr), PG (X.blk s H scope (compEnvC scope cl C X.env) fp) tg (tG X.K (others n (ow.map (·.2))) mg) := fun n s H C cl fp => (hg n s H C cl fp).pg
  have ht' : ∀ (s : Shared) (H : Hp) (C : Addr) (cl : List (Str × Addr)) (fp : List Addr), PTs (X.blk s H scope (compEnvC scope cl C X.env) fp) ifs (tT X.K mt) := fun s H C cl fp => (ht s H C cl fp).pts
  have he' : ∀ (s : Shared) (H : Hp) (C : Addr) (cl : List (Str × Addr)) (fp : List Addr), PE (X.blk s H scope (compEnvC scope cl C X.env) fp) elt (tE X.K me) := fun s H C cl fp => (he s H C cl fp).pe
  refine ⟨⟨fun pins s σ H E I q => ?_⟩⟩
  refine (ps_setLc hc hN hy hyl hsw hi.pi ok (hg' σ.length) ht' he' hs).run pins s σ H E I ?_
  have z : tAsg (tE X.K (mLC mi mg mt me (ow.map (·.2)))) (gName i) E σ H := tS_set hpin q
  have z2 : tE X.K (mLC mi mg mt me (ow.map (·.2))) σ H (fun x H1 => gName i x σ H1 E.nx) := z
  exact tLc_of (X := X) z2
end
end VL

set_option Elab.async false
set_option linter.all false
set_option maxRecDepth 100000
set_option maxHeartbeats 4000000
namespace VL
open PySem PySem.Spec PyProof.Rows L2

/-! ### what a def does with values: its arguments, what it gives, what it leaves of the arguments -/
abbrev MD := List T → Option (T × List (Option T))
def spD (K : Fr) (m : MD) : Sp := fun vs H Q _ => ∃ ts own t ts', ES K H (vs.map some) (ts.map some) own ∧ m ts = some (t, ts') ∧
  ∀ v H' own', Step 0 0 own H own' H' → ES K H' (vs.map some) ts' own' → RepT K H' v t (fun b => own' b = some vs.length) → Q v H'
/-- the modes of the parameters: true: changed for the caller -/
def backs : List Bool → List T → Env → Option (List (Option T))
  | [], [], _ => some []
  | true :: ms, _ :: ts, r :: ρ => (backs ms ts ρ).map fun l => r :: l
  | false :: ms, .z d :: ts, _ :: ρ => (backs ms ts ρ).map fun l => some (.z d) :: l
  | _, _, _ => none
def startE (n : Nat) (ts : List T) : Env := ts.map some ++ List.replicate (n - ts.length) none
def defM (n : Nat) (ms : List Bool) (body : MS) : MD := fun ts => (body (startE n ts)).bind fun p => match p.1 with
  | .ret t => (backs ms ts p.2).map fun l => (t, l)
  | .nx => (backs ms ts p.2).map fun l => (.z .none, l)
  | _ => none
theorem backs_len : ∀ {ms : List Bool} {ts : List T} {ρ : Env} {l : List (Option T)}, backs ms ts ρ = some l → ts.length = ms.length ∧ l.length = ms.length
  | [], [], _, l, h => by cases h; exact ⟨rfl, rfl⟩
  | [], _ :: _, _, _, h => by cases h
  | true :: _, [], _, _, h => by cases h
  | false :: _, [], _, _, h => by cases h
  | true :: _, _ :: _, [], _, h => by cases h
  | false :: _, .z _ :: _, [], _, h => by cases h
  | false :: _, .l _ :: _, _, _, h => by cases h
  | false :: _, .dc _ :: _, _, _, h => by cases h
  | true :: ms, t :: ts, r :: ρ, l, h => by
    obtain ⟨l', e, rfl⟩ := Option.map_eq_some_iff.mp (show (backs ms ts ρ).map _ = some l from h)
    obtain ⟨h1, h2⟩ := backs_len e
    exact ⟨congrArg Nat.succ h1, congrArg Nat.succ h2⟩
  | false :: ms, .z d :: ts, r :: ρ, l, h => by
    obtain ⟨l', e, rfl⟩ := Option.map_eq_some_iff.mp (show (backs ms ts ρ).map _ = some l from h)
    obtain ⟨h1, h2⟩ := backs_len e
    exact ⟨congrArg Nat.succ h1, congrArg Nat.succ h2⟩
/-- what comes back: of a parameter of mode true what its slot holds, else the argument, which never changes -/
theorem backs_get : ∀ {ms : List Bool} {ts : List T} {ρ : Env} {l : List (Option T)} {i : Nat} {t : T}, backs ms ts ρ = some l → l[i]? = some (some t) → (ms[i]? = some true ∧ ρ[i]? = some (some t)) ∨ (∃ d, t = .z d ∧ ts[i]? = some (.z d))
  | [], [], _, l, i, t, h, e => by cases h; simp at e
  | [], _ :: _, _, _, _, _, h, _ => by cases h
  | true :: _, [], _, _, _, _, h, _ => by cases h
  | false :: _, [], _, _, _, _, h, _ => by cases h
  | true :: _, _ :: _, [], _, _, _, h, _ => by cases h
  | false :: _, .z _ :: _, [], _, _, _, h, _ => by cases h
  | false :: _, .l _ :: _, _, _, _, _, h, _ => by cases h
  | false :: _, .dc _ :: _, _, _, _, _, h, _ => by cases h
  | true :: ms, u :: ts, r :: ρ, l, i, t, h, e => by
    obtain ⟨l', e1, rfl⟩ := Option.map_eq_some_iff.mp (show (backs ms ts ρ).map _ = some l from h)
    cases i with
    | zero => simp at e; subst e; exact .inl ⟨rfl, rfl⟩
    | succ i =>
      rcases backs_get (i := i) e1 (by simpa using e) with ⟨a, b⟩ | ⟨d, a, b⟩
      · exact .inl ⟨by simpa using a, by simpa using b⟩
      · exact .inr ⟨d, a, by simpa using b⟩
  | false :: ms, .z d :: ts, r :: ρ, l, i, t, h, e => by
    obtain ⟨l', e1, rfl⟩ := Option.map_eq_some_iff.mp (show (backs ms ts ρ).map _ = some l from h)
    cases i with
    | zero => simp at e; subst e; exact .inr ⟨d, rfl, rfl⟩
    | succ i =>
      rcases backs_get (i := i) e1 (by simpa using e) with ⟨a, b⟩ | ⟨d, a, b⟩
      · exact .inl ⟨by simpa using a, by simpa using b⟩
      · exact .inr ⟨d, a, by simpa using b⟩
def pinsOf (ms : List Bool) : List Nat := (List.range ms.length).filter fun i => ms[i]? == some true
theorem defM_some {n : Nat} {ms : List Bool} {body : MS} {ts : List T} {t : T} {ts' : List (Option T)} (h : defM n ms body ts = some (t, ts')) :
    ∃ f ρ', body (startE n ts) = some (f, ρ') ∧ backs ms ts ρ' = some ts' ∧ (f = .ret t ∨ (f = .nx ∧ t = .z .none)) := by
  obtain ⟨⟨f, ρ'⟩, e1, e2⟩ := Option.bind_eq_some_iff.mp (show (body (startE n ts)).bind _ = some (t, ts') from h)
  cases f with
  | ret u =>
    obtain ⟨l, e3, e4⟩ := Option.map_eq_some_iff.mp (show (backs ms ts ρ').map _ = some (t, ts') from e2)
    cases e4
    exact ⟨_, ρ', e1, e3, .inl rfl⟩
  | nx =>
    obtain ⟨l, e3, e4⟩ := Option.map_eq_some_iff.mp (show (backs ms ts ρ').map _ = some (t, ts') from e2)
    cases e4
    exact ⟨_, ρ', e1, e3, .inr ⟨rfl, rfl⟩⟩
  | bk => cases e2
  | ct => cases e2
theorem act00 {j : Nat} : Act 0 0 (some j) := ⟨j, rfl, .inr (Nat.zero_le _)⟩
theorem act00_iff {o : Option Nat} : Act 0 0 o ↔ o ≠ none := by
  cases o with
  | none => exact ⟨fun h => (Act.none h).elim, fun h => (h rfl).elim⟩
  | some j => exact ⟨fun _ => by simp, fun _ => act00⟩
theorem actnn_iff {n : Nat} {o : Option Nat} : Act n n o ↔ o ≠ none := by
  cases o with
  | none => exact ⟨fun h => (Act.none h).elim, fun h => (h rfl).elim⟩
  | some j => exact ⟨fun _ => by simp, fun _ => ⟨j, rfl, by omega⟩⟩
/-! ### room, with no container being shown -/
structure RoomG (k : Nat) (A : Around) : Prop where
  rm : Room k A
  gd : A.guards = some []
theorem RoomG.mono {j k : Nat} {A : Around} (r : RoomG k A) (h : j ≤ k) : RoomG j A := ⟨r.rm.mono h, r.gd⟩
theorem RoomG.deeper {k : Nat} {A : Around} (r : RoomG (k + 1) A) (env : PySem.Env) : RoomG k (A.deeper env) := ⟨r.rm.deeper env, r.gd⟩
theorem RoomG.make {k : Nat} {A : Around} (r : RoomG (k + 1) A) (C : Addr) (us : List Value) (kw : List (Str × Value)) : RoomG k (A.under (.builtin "type.__call__" ⟨.ref C :: us, kw⟩)) :=
  ⟨r.rm.make C us kw, by
    have h := r.gd
    simp only [Around.under, Code.guards, pushGuards, h]
    rfl⟩
/-- a def that keeps a promise wherever there is such room -/
structure FnG (P : Program) (w : World) (K : Fr) (mg : Str → Option Value) (base : Heap) (CX : CXT) (k : Nat) (f : Addr) (fd : FuncData) (ps : List Str) (sp : Sp) : Prop where
  len : ∀ vs H Q E, sp vs H Q E → vs.length = ps.length
  run : ∀ (A : Around) (outer : List PySem.Env) (s : Shared) (H : Hp) (args : Args) (us : List Value) (vs : List V) (Q : VK) (E : XK), RoomG k A → Env0 P w K mg base A outer s H →
    BindsTo s fd args (ps.zip us) → Vals vs us → sp vs H Q E → codeAny (model P w) A (.call (.ref f) args) (CR CX outer P w H s Q E) s
theorem FnG.mono {P : Program} {w : World} {K : Fr} {mg : Str → Option Value} {base : Heap} {CX : CXT} {j k : Nat} {f : Addr} {fd : FuncData} {ps : List Str} {sp : Sp} (F : FnG P w K mg base CX j f fd ps sp) (h : j ≤ k) : FnG P w K mg base CX k f fd ps sp :=
  ⟨F.len, fun A outer s H args us vs Q E r => F.run A outer s H args us vs Q E (r.mono h)⟩
theorem fnG_of {CX : CXT} {P : Program} {w : World} {K : Fr} {mg : Str → Option Value} {base : Heap} {k : Nat} {f : Addr} {x qual : Str} {params : Arguments} {body : List Stmt} {scope : Scope} {dvs : List V} {kws : List (Str × V)} {fd : FuncData} {N ps : List Str} {sp : Sp}
    (F : FunD K x qual params body scope dvs kws f fd) (S : FnScope N ps scope) (len : ∀ vs H Q E, sp vs H Q E → vs.length = ps.length)
    (hb : ∀ (cdv : Value) (A : Around) (outer : List PySem.Env) (s : Shared) (H : Hp) (vs : List V) (Q : VK) (E : XK), RoomG k (A.deeper (envOfC qual scope s.heap.objs.size f cdv)) → sp vs H Q E →
      ∃ t, PSs (cxOf CX P w K mg base N qual scope f cdv A outer s H E) body t ∧ t { nx := fun _ H' => Q .non H', rt := Q } (L2.start N vs) H) : FnG P w K mg base CX (k + 1) f fd ps sp := by
  obtain ⟨oc, od, dV, kV, doc, pm, an, cdv, ct, osl, rfl, lk, hcd, _, _⟩ := F.ex
  refine ⟨len, fun A outer s H args us vs Q E hr e0 hbd r hsp => ?_⟩
  have here : ∀ b o, base.get? b = some o → s.heap.get? b = some o := fun b o e => (e0.bs b o e).1
  have KX : K.In s.heap := e0.mod.kin.keeps here
  have pars : ∀ y ∈ ps.zip us, scope.names.lookup y.1 = some .local ∨ (scope.names.lookup y.1 = some .cell ∧ ((cellsFrom (s.heap.objs.size + 1) scope.names []).lookup y.1).isSome = true) := by
    rintro ⟨n, v⟩ hy
    refine (S.par n (List.of_mem_zip hy).1).imp id fun q => ⟨q, ?_⟩
    exact PySem.W.cellsFrom_some _ _ _ (.inl q)
  refine codeAny_call_function hr.rm.depth (KX _ _ lk) rfl S.co S.gen rfl (PySem.W.codeRec_of KX hcd) (hbd _ _ _ _ ?_)
  refine wpAny_newFunctionEnv_cells S.kind pars ?_
  rintro env rfl s1 x
  refine ⟨(e0.mod.nolimit.keeps here).keeps x.toInCall.keep, codeAny_func ?_⟩
  obtain ⟨t, ht, hq⟩ := hb cdv A outer s H vs Q E (hr.deeper _) hsp
  have I := inv_start (CX := CX) (E := E) S hr.rm.hd e0 (len _ _ _ _ hsp) r x
  refine wpAny_mono (ht.run [] s1 (L2.start N vs) H _ I hq) (fun fl s' hs => ?_) fun _ _ hs => hs
  cases fl with
  | ret u =>
    obtain ⟨v, σ', H', J, rv, q⟩ := hs
    exact ⟨v, H', J.os, J.bare, J.base, J.hok, rv, q⟩
  | next =>
    obtain ⟨σ', H', J, q⟩ := hs
    exact ⟨V.non, H', J.os, J.bare, J.base, J.hok, rfl, q⟩
  | brk =>
    obtain ⟨_, _, _, q⟩ := hs
    exact False.elim q
  | cont =>
    obtain ⟨_, _, _, q⟩ := hs
    exact False.elim q
section
variable {X : Cx} {CX : CXT} {k : Nat} {f : Addr} {fd : FuncData} {ps : List Str} {sp : Sp} {E : XK}
/-- such a def is called -/
theorem runG {pins : List (Addr × Obj)} {σ : St} {H : Hp} {s : Shared} {Q : VK} {args : Args} {us : List Value} {vs : List V} (F : FnG X.prog X.w X.K X.mg X.base CX k f fd ps sp) (hr : RoomG k X.A) (hx : Passes CX X E) (I : Inv X pins σ H s) (hb : BindsTo s fd args (ps.zip us)) (r : Vals vs us) (h : sp vs H Q E) :
    wpAny (model X.prog X.w) X.A (PySem.call (.ref f) args.pos args.kw) (EP X pins σ Q) X.xe s := by
  refine wpAny_call (codeAny_mono (F.run X.A X.stack s H args us vs Q E hr I.env0 hb r h) ?_)
  rintro (e | fl) s' hq
  · exact hx pins σ H s e s' I hq
  · cases fl with
    | ret u => exact I.after hq
    | next => exact hq.elim
    | brk => exact hq.elim
    | cont => exact hq.elim
end
section
variable {P : Program} {w : World} {K : Fr} {mg : Str → Option Value} {base : Heap} {x qual : Str} {params : Arguments} {body : List Stmt} {scope : Scope} {dvs : List V} {kws : List (Str × V)} {f : Addr} {fd : FuncData} {N ps : List Str} {k : Nat} {ms : List Bool} {mb : MS}
theorem fn_d (F : FunD K x qual params body scope dvs kws f fd) (S : FnScope N ps scope) (hm : ms.length = ps.length)
    (hb : ∀ (cdv : Value) (A : Around) (outer : List PySem.Env) (s : Shared) (H : Hp) (E : XK), RoomG k (A.deeper (envOfC qual scope s.heap.objs.size f cdv)) → PSts (cxOf CX0 P w K mg base N qual scope f cdv A outer s H E).nox (pinsOf ms) body mb) :
    FnG P w K mg base CX0 (k + 1) f fd ps (spD K (defM N.length ms mb)) := by
  refine fnG_of F S (fun vs H Q E h => ?_) fun cdv A outer s H vs Q E hr h => ?_
  · obtain ⟨ts, own, t, ts', es, e, _⟩ := h
    obtain ⟨_, _, _, e2, _⟩ := defM_some e
    have l1 := (backs_len e2).1
    have l2 := es.len
    simp only [List.length_map] at l2
    rw [← l2, l1, hm]
  · obtain ⟨ts, own, t, ts', es, e, hQ⟩ := h
    obtain ⟨fl, ρ', e1, e2, hf⟩ := defM_some e
    obtain ⟨lts, lts'⟩ := backs_len e2
    have l2 : ts.length = vs.length := by have := es.len; simpa using this
    have hP : ps.length ≤ N.length := by rw [← S.pre]; simp [List.length_take]; omega
    have hv : vs.length ≤ N.length := by omega
    have hsl : (L2.start N vs).length = N.length := by unfold L2.start; simp; omega
    refine ⟨_, PSs.nox (hb cdv A outer s H E hr).ps, ?_⟩
    refine ⟨N.length, startE N.length ts, own, fl, ρ', Nat.le_of_eq hsl, ⟨by unfold startE; rw [hsl]; simp; omega, fun i u eu => ?_⟩, e1, fun σ' H' own' l' pn st es' => ?_⟩
    · unfold startE at eu
      have hi : i < ts.length := by
        refine Nat.lt_of_not_le fun q => ?_
        rw [List.getElem?_append_right (by simpa using q)] at eu
        rw [List.getElem?_replicate] at eu
        split at eu <;> cases eu
      rw [List.getElem?_append_left (by simpa using hi)] at eu
      obtain ⟨v, e3, r⟩ := es.rep i u eu
      refine ⟨v, ?_, r⟩
      unfold L2.start
      rw [List.getElem?_append_left (by simp; omega)]
      exact e3
    · rw [hsl] at st
      let own2 : Ow := fun b => match own' b with
        | some j => if j < vs.length then some j else if j = N.length then some vs.length else none
        | none => none
      have o2 : ∀ {b j}, own' b = some j → j < vs.length → own2 b = some j := fun {b j} h hj => by
        show (match own' b with | some j => if j < vs.length then some j else if j = N.length then some vs.length else none | none => none) = _
        rw [h]; simp [hj]
      have o2r : ∀ {b}, own' b = some N.length → own2 b = some vs.length := fun {b} h => by
        show (match own' b with | some j => if j < vs.length then some j else if j = N.length then some vs.length else none | none => none) = _
        rw [h]; simp; omega
      have o2n : ∀ {b}, own' b = none → own2 b = none := fun {b} h => by
        show (match own' b with | some j => if j < vs.length then some j else if j = N.length then some vs.length else none | none => none) = _
        rw [h]
      have st2 : Step 0 0 own H own2 H' := by
        refine ⟨fun b o eo na => ?_, fun b q => ?_, st.pk⟩
        · have nn : own b = none := Classical.byContradiction fun z => na (act00_iff.mpr z)
          obtain ⟨h1, h2⟩ := st.keep b o eo (by rw [nn]; exact Act.none)
          rw [nn] at h2
          exact ⟨h1, by rw [o2n h2, nn]⟩
        · have nz := act00_iff.mp q
          have q' : own' b ≠ none := fun z => nz (o2n z)
          rcases st.grow b (actnn_iff.mpr q') with y | y
          · exact .inl (act00_iff.mpr (actnn_iff.mp y))
          · exact .inr y
      have es2 : ES K H' (vs.map some) ts' own2 := by
        refine ⟨by simp; omega, fun i u eu => ?_⟩
        rcases backs_get e2 eu with ⟨m1, m2⟩ | ⟨d, rfl, m2⟩
        · have hi : i < ms.length := (List.getElem?_eq_some_iff.mp m1).1
          have hiv : i < vs.length := by omega
          obtain ⟨v, e3, r⟩ := es'.rep i u m2
          have pi := pn i (List.mem_filter.mpr ⟨List.mem_range.mpr hi, by rw [m1]; rfl⟩)
          rw [e3] at pi
          unfold L2.start at pi
          rw [List.getElem?_append_left (by simpa using hiv)] at pi
          refine ⟨v, pi.symm, r.mono .refl fun a o ha eo => ⟨eo, o2 ha hiv⟩⟩
        · obtain ⟨v, e3, r⟩ := es.rep i (.z d) (by simp [m2])
          exact ⟨v, e3, Fz.mono st.pk _ _ r⟩
      rcases hf with rfl | ⟨rfl, rfl⟩
      · intro v r
        exact hQ v H' own2 st2 es2 (r.mono .refl fun a o ha eo => ⟨eo, o2r ha⟩)
      · exact hQ _ H' own2 st2 es2 .non
end

/-! ### a call -/
def takeT (ρ : Env) : List Bool → List Arg → Option (List T)
  | [], [] => some []
  | true :: ms, .slot i :: as => (slotT ρ i).bind fun t => (takeT ρ ms as).map fun ts => t :: ts
  | true :: ms, .val t :: as => (takeT ρ ms as).map fun ts => t :: ts
  | false :: ms, .val (.z d) :: as => (takeT ρ ms as).map fun ts => .z d :: ts
  | _, _ => none
def slotsOf : List Arg → List Nat
  | [] => []
  | .slot i :: as => i :: slotsOf as
  | .val _ :: as => slotsOf as
def putT (ρ : Env) : List Arg → List (Option T) → Env
  | .slot i :: as, t :: ts => (putT ρ as ts).set i t
  | .val _ :: as, _ :: ts => putT ρ as ts
  | _, _ => ρ
def nodupB : List Nat → Bool
  | [] => true
  | x :: xs => !xs.contains x && nodupB xs
theorem nodupB_ok : ∀ {xs : List Nat}, nodupB xs = true → xs.Nodup
  | [], _ => .nil
  | x :: xs, h => by
    obtain ⟨h1, h2⟩ := Bool.and_eq_true_iff.mp h
    refine List.nodup_cons.mpr ⟨fun z => ?_, nodupB_ok h2⟩
    rw [List.contains_iff_mem.mpr z] at h1
    cases h1
def callM (m : MD) (ms : List Bool) (ρ : Env) (as : List Arg) : Option (T × Env) := if nodupB (slotsOf as) then (takeT ρ ms as).bind fun ts => (m ts).map fun p => (p.1, putT ρ as p.2) else none
def mCall (m : MD) (ms : List Bool) (ma : MA) : ME := fun ρ => (ma ρ).bind fun p => callM m ms p.2 p.1
/-- the labels of the arguments: a slot's own, of a temporary B, B + 1, .. -/
def labs : Nat → List Arg → List Nat
  | _, [] => []
  | B, .slot i :: as => i :: labs (B + 1) as
  | B, .val _ :: as => B :: labs (B + 1) as
theorem labs_len : ∀ {B : Nat} {as : List Arg}, (labs B as).length = as.length
  | _, [] => rfl
  | B, .slot i :: as => congrArg Nat.succ labs_len
  | B, .val _ :: as => congrArg Nat.succ labs_len
theorem labs_mem : ∀ {B j : Nat} {as : List Arg}, j ∈ labs B as → j ∈ slotsOf as ∨ B ≤ j
  | _, _, [], h => by cases h
  | B, j, .slot i :: as, h => by
    rcases List.mem_cons.mp (show j ∈ i :: labs (B + 1) as from h) with e | h
    · rw [e]; exact .inl (List.mem_cons_self ..)
    · rcases labs_mem h with q | q
      · exact .inl (List.mem_cons_of_mem _ q)
      · exact .inr (by omega)
  | B, j, .val t :: as, h => by
    rcases List.mem_cons.mp (show j ∈ B :: labs (B + 1) as from h) with e | h
    · exact .inr (by omega)
    · rcases labs_mem h with q | q
      · exact .inl q
      · exact .inr (by omega)
theorem labs_nodup {n : Nat} : ∀ {B : Nat} {as : List Arg}, n ≤ B → (∀ i ∈ slotsOf as, i < n) → (slotsOf as).Nodup → (labs B as).Nodup
  | _, [], _, _, _ => .nil
  | B, .slot i :: as, h1, h2, h3 => by
    obtain ⟨n1, n2⟩ := List.nodup_cons.mp h3
    refine List.nodup_cons.mpr ⟨fun z => ?_, labs_nodup (Nat.le_succ_of_le h1) (fun j hj => h2 j (List.mem_cons_of_mem _ hj)) n2⟩
    rcases labs_mem z with q | q
    · exact n1 q
    · have := h2 i (List.mem_cons_self ..); omega
  | B, .val t :: as, h1, h2, h3 => by
    refine List.nodup_cons.mpr ⟨fun z => ?_, labs_nodup (Nat.le_succ_of_le h1) h2 h3⟩
    rcases labs_mem z with q | q
    · have := h2 B q; omega
    · omega
def ixOf : List Nat → Nat → Option Nat
  | [], _ => none
  | x :: xs, j => if x = j then some 0 else (ixOf xs j).map (· + 1)
theorem ixOf_some : ∀ {xs : List Nat} {j k : Nat}, ixOf xs j = some k → xs[k]? = some j
  | [], _, _, h => by cases h
  | x :: xs, j, k, h => by
    unfold ixOf at h
    split at h
    · rename_i e
      cases h; rw [e]; rfl
    · obtain ⟨k', e1, rfl⟩ := Option.map_eq_some_iff.mp h
      simpa using ixOf_some e1
theorem ixOf_of : ∀ {xs : List Nat} {j k : Nat}, xs.Nodup → xs[k]? = some j → ixOf xs j = some k
  | [], _, _, _, h => by simp at h
  | x :: xs, j, 0, _, h => by
    simp at h
    unfold ixOf
    rw [if_pos h]
  | x :: xs, j, k + 1, hn, h => by
    obtain ⟨n1, n2⟩ := List.nodup_cons.mp hn
    have h' : xs[k]? = some j := by simpa using h
    unfold ixOf
    rw [if_neg (fun e => n1 (by rw [e]; exact List.mem_of_getElem? h')), ixOf_of n2 h']
    rfl
theorem ixOf_none {xs : List Nat} {j : Nat} (h : j ∉ xs) : ixOf xs j = none := by
  cases e : ixOf xs j with
  | none => rfl
  | some k => exact (h (List.mem_of_getElem? (ixOf_some e))).elim
theorem labs_get : ∀ {B k : Nat} {as : List Arg} {a : Arg}, as[k]? = some a → (labs B as)[k]? = some (match a with | .slot i => i | .val _ => B + k)
  | _, _, [], _, h => by simp at h
  | B, 0, .slot i :: as, a, h => by simp at h; subst h; rfl
  | B, 0, .val t :: as, a, h => by simp at h; subst h; rfl
  | B, k + 1, .slot i :: as, a, h => by
    have := labs_get (B := B + 1) (k := k) (as := as) (by simpa using h)
    show (labs (B + 1) as)[k]? = _
    rw [this]
    cases a
    · simp; omega
    · rfl
  | B, k + 1, .val t :: as, a, h => by
    have := labs_get (B := B + 1) (k := k) (as := as) (by simpa using h)
    show (labs (B + 1) as)[k]? = _
    rw [this]
    cases a
    · simp; omega
    · rfl
theorem argsRep_len {K : Fr} {H : Hp} {σ : St} {own : Ow} : ∀ {j : Nat} {vs : List V} {as : List Arg}, ArgsRep K H σ own j vs as → vs.length = as.length
  | _, [], [], _ => rfl
  | _, [], _ :: _, h => False.elim h
  | _, _ :: _, [], h => False.elim h
  | _, v :: vs, a :: as, h => congrArg Nat.succ (argsRep_len h.2)
theorem argsRep_get {K : Fr} {H : Hp} {σ : St} {own : Ow} : ∀ {j k : Nat} {vs : List V} {as : List Arg} {a : Arg}, ArgsRep K H σ own j vs as → as[k]? = some a → ∃ v, vs[k]? = some v ∧ ArgRep K H σ own (j + k) v a
  | _, _, [], [], _, _, e => by simp at e
  | _, _, [], _ :: _, _, h, _ => False.elim h
  | _, _, _ :: _, [], _, h, _ => False.elim h
  | j, 0, v :: vs, a :: as, b, h, e => by simp at e; subst e; exact ⟨v, rfl, h.1⟩
  | j, k + 1, v :: vs, a :: as, b, h, e => by
    obtain ⟨w, e1, r⟩ := argsRep_get (k := k) h.2 (by simpa using e)
    refine ⟨w, by simpa using e1, ?_⟩
    have ej : j + 1 + k = j + (k + 1) := by omega
    rw [ej] at r
    exact r
theorem takeT_len {ρ : Env} : ∀ {ms : List Bool} {as : List Arg} {ts : List T}, takeT ρ ms as = some ts → ts.length = as.length ∧ ∀ i ∈ slotsOf as, i < ρ.length
  | [], [], ts, h => by cases h; exact ⟨rfl, fun i hi => by cases hi⟩
  | [], _ :: _, _, h => by cases h
  | true :: _, [], _, h => by cases h
  | false :: _, [], _, h => by cases h
  | true :: ms, .slot i :: as, ts, h => by
    obtain ⟨t, e1, e2⟩ := Option.bind_eq_some_iff.mp (show (slotT ρ i).bind _ = some ts from h)
    obtain ⟨ts', e3, rfl⟩ := Option.map_eq_some_iff.mp e2
    obtain ⟨l, q⟩ := takeT_len e3
    refine ⟨congrArg Nat.succ l, fun j hj => ?_⟩
    rcases List.mem_cons.mp (show j ∈ i :: slotsOf as from hj) with e | hj
    · rw [e]; exact (List.getElem?_eq_some_iff.mp (slotT_some e1)).1
    · exact q j hj
  | true :: ms, .val t :: as, ts, h => by
    obtain ⟨ts', e3, rfl⟩ := Option.map_eq_some_iff.mp (show (takeT ρ ms as).map _ = some ts from h)
    obtain ⟨l, q⟩ := takeT_len e3
    exact ⟨congrArg Nat.succ l, q⟩
  | false :: ms, .slot i :: as, ts, h => by cases h
  | false :: ms, .val (.l t) :: as, ts, h => by cases h
  | false :: ms, .val (.z t) :: as, ts, h => by
    obtain ⟨ts', e3, rfl⟩ := Option.map_eq_some_iff.mp (show (takeT ρ ms as).map _ = some ts from h)
    obtain ⟨l, q⟩ := takeT_len e3
    exact ⟨congrArg Nat.succ l, q⟩
theorem takeT_get {ρ : Env} : ∀ {ms : List Bool} {as : List Arg} {ts : List T} {k : Nat} {t : T}, takeT ρ ms as = some ts → ts[k]? = some t → (∃ i, as[k]? = some (.slot i) ∧ slotT ρ i = some t) ∨ as[k]? = some (.val t)
  | [], [], ts, k, t, h, e => by cases h; simp at e
  | [], _ :: _, _, _, _, h, _ => by cases h
  | true :: _, [], _, _, _, h, _ => by cases h
  | false :: _, [], _, _, _, h, _ => by cases h
  | true :: ms, .slot i :: as, ts, k, t, h, e => by
    obtain ⟨u, e1, e2⟩ := Option.bind_eq_some_iff.mp (show (slotT ρ i).bind _ = some ts from h)
    obtain ⟨ts', e3, rfl⟩ := Option.map_eq_some_iff.mp e2
    cases k with
    | zero => simp at e; subst e; exact .inl ⟨i, rfl, e1⟩
    | succ k => simpa using takeT_get (k := k) e3 (by simpa using e)
  | true :: ms, .val u :: as, ts, k, t, h, e => by
    obtain ⟨ts', e3, rfl⟩ := Option.map_eq_some_iff.mp (show (takeT ρ ms as).map _ = some ts from h)
    cases k with
    | zero => simp at e; subst e; exact .inr rfl
    | succ k => simpa using takeT_get (k := k) e3 (by simpa using e)
  | false :: ms, .slot i :: as, ts, _, _, h, _ => by cases h
  | false :: ms, .val (.l t) :: as, ts, _, _, h, _ => by cases h
  | false :: ms, .val (.z u) :: as, ts, k, t, h, e => by
    obtain ⟨ts', e3, rfl⟩ := Option.map_eq_some_iff.mp (show (takeT ρ ms as).map _ = some ts from h)
    cases k with
    | zero => simp at e; subst e; exact .inr rfl
    | succ k => simpa using takeT_get (k := k) e3 (by simpa using e)
theorem putT_len {ρ : Env} : ∀ {as : List Arg} {ts : List (Option T)}, (putT ρ as ts).length = ρ.length
  | [], _ => by unfold putT; rfl
  | .slot i :: as, [] => rfl
  | .val _ :: as, [] => rfl
  | .slot i :: as, t :: ts => by unfold putT; rw [List.length_set, putT_len]
  | .val _ :: as, t :: ts => by unfold putT; exact putT_len
theorem putT_get {ρ : Env} {j : Nat} {t : T} : ∀ {as : List Arg} {ts : List (Option T)}, ts.length = as.length → (slotsOf as).Nodup → (putT ρ as ts)[j]? = some (some t) → (∃ k : Nat, as[k]? = some (Arg.slot j) ∧ ts[k]? = some (some t)) ∨ (j ∉ slotsOf as ∧ ρ[j]? = some (some t))
  | [], [], _, _, h => .inr ⟨by simp [slotsOf], h⟩
  | [], _ :: _, l, _, _ => by simp at l
  | _ :: _, [], l, _, _ => by simp at l
  | .slot i :: as, u :: ts, l, hn, h => by
    obtain ⟨n1, n2⟩ := List.nodup_cons.mp (show (i :: slotsOf as).Nodup from hn)
    unfold putT at h
    by_cases e : i = j
    · subst e
      by_cases hi : i < (putT ρ as ts).length
      · rw [List.getElem?_set_self hi] at h
        have h := Option.some.inj h
        subst h
        exact .inl ⟨0, rfl, rfl⟩
      · rw [List.getElem?_eq_none (by simpa using hi)] at h; cases h
    · rw [List.getElem?_set_ne e] at h
      rcases putT_get (by simpa using l) n2 h with ⟨k, q1, q2⟩ | ⟨q1, q2⟩
      · exact .inl ⟨k + 1, by simpa using q1, by simpa using q2⟩
      · exact .inr ⟨by show j ∉ i :: slotsOf as; simp only [List.mem_cons, not_or]; exact ⟨fun z => e z.symm, q1⟩, q2⟩
  | .val u' :: as, u :: ts, l, hn, h => by
    unfold putT at h
    rcases putT_get (as := as) (ts := ts) (by simpa using l) hn h with ⟨k, q1, q2⟩ | ⟨q1, q2⟩
    · exact .inl ⟨k + 1, by simpa using q1, by simpa using q2⟩
    · exact .inr ⟨q1, q2⟩
theorem spD_of {K : Fr} {m : MD} {ms : List Bool} {σ : St} {ρ ρ' : Env} {own : Ow} {H : Hp} {B : Nat} {vs : List V} {as : List Arg} {t : T} {Q : VK} {E : XK} (hB : σ.length ≤ B) (es : ES K H σ ρ own) (r : ArgsRep K H σ own B vs as) (e : callM m ms ρ as = some (t, ρ'))
    (hl : ∀ {ts t ts'}, m ts = some (t, ts') → ts'.length = ts.length)
    (k : ∀ v H' own', Step σ.length B own H own' H' → ES K H' σ ρ' own' → RepT K H' v t (fun b => own' b = some B) → Q v H') : spD K m vs H Q E := by
  unfold callM at e
  by_cases hn : nodupB (slotsOf as) = true
  · rw [if_pos hn] at e
    obtain ⟨ts, e1, e2⟩ := Option.bind_eq_some_iff.mp e
    obtain ⟨⟨t', ts'⟩, e3, e4⟩ := Option.map_eq_some_iff.mp e2
    have et : t' = t := congrArg (fun p : T × Env => p.1) (show (t', putT ρ as ts') = (t, ρ') from e4)
    have er : putT ρ as ts' = ρ' := congrArg (fun p : T × Env => p.2) (show (t', putT ρ as ts') = (t, ρ') from e4)
    subst et er
    obtain ⟨lt, sl⟩ := takeT_len e1
    have lv := argsRep_len r
    have nds := nodupB_ok hn
    have sln : ∀ i ∈ slotsOf as, i < σ.length := fun i hi => by rw [← es.len]; exact sl i hi
    have nd : (labs B as).Nodup := labs_nodup hB sln nds
    let L := labs B as
    let oc : Ow := fun b => (own b).bind fun j => ixOf L j
    have oc_some : ∀ {b k}, oc b = some k → ∃ j, own b = some j ∧ L[k]? = some j := fun {b k} h => by
      obtain ⟨j, q1, q2⟩ := Option.bind_eq_some_iff.mp h
      exact ⟨j, q1, ixOf_some q2⟩
    have oc_of : ∀ {b j k}, own b = some j → L[k]? = some j → oc b = some k := fun {b j k} h q => by
      show (own b).bind _ = _
      rw [h]; exact ixOf_of nd q
    have actL : ∀ {j}, j ∈ L → Act σ.length B (some j) := fun {j} h => by
      rw [Act.some]
      rcases labs_mem h with q | q
      · exact .inl (sln j q)
      · exact .inr q
    refine ⟨ts, oc, t', ts', ⟨by simp; omega, fun i u eu => ?_⟩, e3, fun v H' oc' st es' rv => ?_⟩
    · have eu' : ts[i]? = some u := by
        rw [List.getElem?_map] at eu
        obtain ⟨u', q1, q2⟩ := Option.map_eq_some_iff.mp eu
        cases q2; exact q1
      rcases takeT_get e1 eu' with ⟨s, q1, q2⟩ | q1
      · obtain ⟨v, q3, q4⟩ := argsRep_get r q1
        obtain ⟨v', q5, q6⟩ := es.rep s u (slotT_some q2)
        have q4' : σ[s]? = some (some v) := q4
        rw [q5] at q4'
        cases q4'
        refine ⟨v, by simp [q3], q6.mono .refl fun a o ha eo => ⟨eo, oc_of ha (labs_get q1)⟩⟩
      · obtain ⟨v, q3, q4⟩ := argsRep_get r q1
        refine ⟨v, by simp [q3], RepT.mono .refl (fun a o ha eo => ⟨eo, oc_of ha (labs_get q1)⟩) q4⟩
    · have rv' : RepT K H' v t' fun b => oc' b = some vs.length := rv
      let own2 : Ow := fun b => match oc' b with
        | some k => (match L[k]? with
          | some j => some j
          | none => some B)
        | none => if oc b = none then own b else none
      have o2s : ∀ {b k j}, oc' b = some k → L[k]? = some j → own2 b = some j := fun {b k j} h q => by
        show (match oc' b with | some k => (match L[k]? with | some j => some j | none => some B) | none => if oc b = none then own b else none) = _
        rw [h]; simp only [q]
      have o2r : ∀ {b k}, oc' b = some k → L[k]? = none → own2 b = some B := fun {b k} h q => by
        show (match oc' b with | some k => (match L[k]? with | some j => some j | none => some B) | none => if oc b = none then own b else none) = _
        rw [h]; simp only [q]
      have o2n : ∀ {b}, oc' b = none → oc b = none → own2 b = own b := fun {b} h q => by
        show (match oc' b with | some k => (match L[k]? with | some j => some j | none => some B) | none => if oc b = none then own b else none) = _
        rw [h]; exact if_pos q
      have o2m : ∀ {b}, oc' b = none → oc b ≠ none → own2 b = none := fun {b} h q => by
        show (match oc' b with | some k => (match L[k]? with | some j => some j | none => some B) | none => if oc b = none then own b else none) = _
        rw [h]; exact if_neg q
      have same : ∀ {b o}, H b = some o → oc b = none → H' b = some o ∧ own2 b = own b := fun {b o} eo nn => by
        obtain ⟨h1, h2⟩ := st.keep b o eo (by rw [nn]; exact Act.none)
        rw [nn] at h2
        exact ⟨h1, o2n h2 nn⟩
      have back : ∀ {b}, Act 0 0 (oc b) → Act σ.length B (own b) := fun {b} h => by
        cases q : oc b with
        | none => rw [q] at h; exact (Act.none h).elim
        | some k =>
          obtain ⟨j, q1, q2⟩ := oc_some q
          rw [q1]
          exact actL (List.mem_of_getElem? q2)
      refine k v H' own2 ⟨fun b o eo na => ?_, fun b q => ?_, st.pk⟩ ⟨by rw [putT_len]; exact es.len, fun j u eu => ?_⟩ (rv'.mono .refl fun a o ha eo => ⟨eo, o2r ha (List.getElem?_eq_none (show L.length ≤ vs.length by show (labs B as).length ≤ _; rw [labs_len]; omega))⟩)
      · refine same eo ?_
        cases q : oc b with
        | none => rfl
        | some k => exact (na (back (by rw [q]; exact act00))).elim
      · cases q1 : oc' b with
        | none =>
          cases q2 : oc b with
          | none => rw [o2n q1 q2] at q; exact .inl q
          | some k => rw [o2m q1 (by rw [q2]; simp)] at q; exact (Act.none q).elim
        | some k =>
          rcases st.grow b (by rw [q1]; exact act00) with y | y
          · exact .inl (back y)
          · exact .inr y
      · rcases putT_get (by rw [hl e3]; exact lt) nds eu with ⟨k, q1, q2⟩ | ⟨q1, q2⟩
        · obtain ⟨v', q3, q4⟩ := es'.rep k u q2
          obtain ⟨v2, q5, q6⟩ := argsRep_get r q1
          have q6' : σ[j]? = some (some v2) := q6
          rw [List.getElem?_map, q5] at q3
          cases q3
          exact ⟨_, q6', q4.mono .refl fun a o ha eo => ⟨eo, o2s ha (labs_get q1)⟩⟩
        · obtain ⟨v', q3, q4⟩ := es.rep j u q2
          have hj : j < σ.length := (List.getElem?_eq_some_iff.mp q3).1
          refine ⟨v', q3, q4.mono st.pk fun a o ha eo => ?_⟩
          have nn : oc a = none := by
            show (own a).bind _ = none
            rw [ha]
            refine ixOf_none fun z => ?_
            rcases labs_mem z with y | y
            · exact q1 y
            · omega
          obtain ⟨h1, h2⟩ := same eo nn
          exact ⟨h1, h2.trans ha⟩
  · rw [if_neg hn] at e; cases e
theorem defM_len {n : Nat} {ms : List Bool} {body : MS} {ts : List T} {t : T} {ts' : List (Option T)} (h : defM n ms body ts = some (t, ts')) : ts'.length = ts.length := by
  obtain ⟨_, _, _, e, _⟩ := defM_some h
  obtain ⟨a, b⟩ := backs_len e
  omega
def MD.Len (m : MD) : Prop := ∀ {ts : List T} {t : T} {ts' : List (Option T)}, m ts = some (t, ts') → ts'.length = ts.length
theorem defM_Len {n : Nat} {ms : List Bool} {body : MS} : MD.Len (defM n ms body) := fun {_ _ _} h => defM_len h
section
variable {X : Cx} {k : Nat} {f : Addr} {fd : FuncData} {ps : List Str} {m : MD} {ms : List Bool} {ma mk : MA} {x : Str} {p pos : Pos} {e : Expr} {es : List Expr}
/-- f(e, ..), with constants behind what is written, for parameters with defaults -/
def mCallD (m : MD) (ms : List Bool) (ds : List D) (ma : MA) : ME := fun ρ => (ma ρ).bind fun p => callM m ms p.2 (p.1 ++ ds.map fun d => .val (.z d))
theorem argsRep_zl {K : Fr} {H : Hp} {σ : St} {own : Ow} : ∀ {j : Nat} {us : List V} {ds : List D}, FzA K H us ds → ArgsRep K H σ own j us (ds.map fun d => .val (.z d))
  | _, _, [], f => by cases f; trivial
  | _, _, d :: ds, f => by cases f with | cons a b => exact ⟨a, argsRep_zl b⟩
theorem argsRep_app {K : Fr} {H : Hp} {σ : St} {own : Ow} : ∀ {j : Nat} {vs : List V} {as : List Arg} {us : List V} {ds : List D}, ArgsRep K H σ own j vs as → FzA K H us ds → ArgsRep K H σ own j (vs ++ us) (as ++ ds.map fun d => .val (.z d))
  | j, [], [], us, ds, _, f => argsRep_zl f
  | _, [], _ :: _, _, _, h, _ => False.elim h
  | _, _ :: _, [], _, _, h, _ => False.elim h
  | _, _ :: _, _ :: _, _, _, h, f => ⟨h.1, argsRep_app h.2 f⟩
theorem px_callD {dvs : List V} {dl : List Value} {ds : List D} (F : FnG X.prog X.w X.K X.mg X.base CX0 k f fd ps (spD X.K m)) (hl : MD.Len m) (hr : RoomG k X.A) (hg : Gl X x) (hm : X.mg x = some (.ref f)) (hk : PySem.W.keepIn X.K (.ref f) = true) (hb : Binds X.K fd ps dl) (hd : Vals dvs dl) (hf : ∀ H, FzA X.K H dvs ds)
    (ha : PAr X (e :: es) ma) (hdb : (x == ("__debug__" : Str)) = false := by decide) (he : starEach (e :: es) X.env = (false, eval e X.env) :: starEach es X.env := by rfl) (hpl : (backTo pos (starEach es X.env)).any (·.1) = false := by rfl) :
    PX X (.Call (.Name x p) (e :: es) [] pos) (mCallD m ms ds ma) := by
  refine ⟨⟨fun pins s σ H Q I q => ?_⟩⟩
  refine wpAny_Call_Name_kw (ld_glob I hg hm ?_ hdb)
  refine PySem.W.callWith_K (h₀ := X.base) I.ok.mod.kin hk (thn (ha.pa.run pos pins s σ H (fun vs H1 => spD X.K m (vs ++ dvs) H1 Q E0) I ?_) fun us s1 ⟨vs, H1, I1, r, q1⟩ => ⟨I1.kIn, ?_⟩) he hpl
  · obtain ⟨B, ρ, own, t, ρ', hB, es, e, k⟩ := q
    obtain ⟨⟨as, ρ1⟩, e1, e2⟩ := Option.bind_eq_some_iff.mp (show (ma ρ).bind _ = some (t, ρ') from e)
    refine ⟨B, ρ, own, as, ρ1, hB, es, e1, fun vs H1 own1 st1 es1 r1 => ?_⟩
    exact spD_of hB es1 (argsRep_app r1 (hf H1)) e2 hl fun v H2 own2 st2 es2 r2 => k v H2 own2 (st1.trans st2) es2 r2
  · have r2 := r.append hd
    have hlen : (us ++ dl).length = ps.length := by rw [← r2.length]; exact F.len _ _ _ _ q1
    exact runG (args := ⟨us, []⟩) F hr pass0 I1 (hb s1 us I1.kIn hlen) r2 q1
theorem px_call (F : FnG X.prog X.w X.K X.mg X.base CX0 k f fd ps (spD X.K m)) (hl : MD.Len m) (hr : RoomG k X.A) (hg : Gl X x) (hm : X.mg x = some (.ref f)) (hk : PySem.W.keepIn X.K (.ref f) = true) (hb : Binds X.K fd ps [])
    (ha : PAr X (e :: es) ma) (hdb : (x == ("__debug__" : Str)) = false := by decide) (he : starEach (e :: es) X.env = (false, eval e X.env) :: starEach es X.env := by rfl) (hpl : (backTo pos (starEach es X.env)).any (·.1) = false := by rfl) :
    PX X (.Call (.Name x p) (e :: es) [] pos) (mCallD m ms [] ma) := px_callD F hl hr hg hm hk hb .nil (fun _ => .nil) ha hdb he hpl
/-- f() -/
theorem px_call0 (F : FnG X.prog X.w X.K X.mg X.base CX0 k f fd ps (spD X.K m)) (hl : MD.Len m) (hr : RoomG k X.A) (hg : Gl X x) (hm : X.mg x = some (.ref f)) (hk : PySem.W.keepIn X.K (.ref f) = true) (hb : Binds X.K fd ps [])
    (hdb : (x == ("__debug__" : Str)) = false := by decide) : PX X (.Call (.Name x p) [] [] pos) (mCallD m [] [] aNil) := by
  refine ⟨⟨fun pins s σ H Q I q => ?_⟩⟩
  refine wpAny_Call_Name_kw (ld_glob I hg hm ?_ hdb)
  refine PySem.W.callWith_K0 I.kIn hk ?_
  obtain ⟨B, ρ, own, t, ρ', hB, es, e, k⟩ := q
  have e2 : callM m [] ρ [] = some (t, ρ') := e
  have h : spD X.K m [] H Q E0 := spD_of (as := []) hB es trivial e2 hl fun v H2 own2 st2 es2 r2 => k v H2 own2 st2 es2 r2
  have hlen : ([] : List Value).length = ps.length := F.len _ _ _ _ h
  exact runG (args := ⟨[], []⟩) (us := []) F hr pass0 I (by simpa using hb s [] I.kIn (by simpa using hlen)) .nil h
/-! ### keywords: all arguments data that never changes; perm puts them in the parameters' order -/
structure PKr (X : Cx) (kws : List Keyword) (m : MA) : Prop where
  pk : L2.PK X kws (tA X.K m)
theorem _root_.L2.PK.of {X : Cx} {e : List Keyword} {t t' : TA} (h : L2.PK X e t') (i : ∀ σ H Q, t σ H Q → t' σ H Q) : L2.PK X e t := ⟨fun pos pins s σ H Q I q => h.run pos pins s σ H Q I (i σ H Q q)⟩
theorem pkr_0 : PKr X [] aNil := ⟨pk_nil.of fun σ H Q q => by
  obtain ⟨B, ρ, own, as, ρ', hB, es, e, k⟩ := q
  cases e
  exact k [] H own .refl es trivial⟩
theorem pkr_c {e : Expr} {kws : List Keyword} {m : MO} {ms : MA} {nm : Option Str} {kpos : Pos} (h : PO X e m) (hr : PKr X kws ms) : PKr X (⟨nm, e, kpos⟩ :: kws) (aCons m ms) := ⟨(pk_cons h.pe hr.pk).of fun σ H Q q => by
  obtain ⟨B, ρ, own, as, ρ', hB, es, e, k⟩ := q
  obtain ⟨⟨a, ρ1⟩, e1, e2⟩ := Option.bind_eq_some_iff.mp (show (m ρ).bind _ = some (as, ρ') from e)
  obtain ⟨⟨as2, ρ2⟩, e3, e4⟩ := Option.map_eq_some_iff.mp e2
  cases e4
  refine ⟨B, ρ, own, a, ρ1, hB, es, e1, fun v H1 own1 st1 es1 r1 => ?_⟩
  refine ⟨B + 1, ρ1, own1, as2, _, Nat.le_succ_of_le hB, es1, e3, fun vs H2 own2 st2 es2 r2 => ?_⟩
  exact k (v :: vs) H2 own2 (st1.trans (st2.down (Nat.le_succ B))) es2 ⟨argStep st2 hB (Nat.lt_succ_self B) r1, r2⟩⟩
def valsZ (ds : List D) : List Arg := ds.map fun d => .val (.z d)
/-- g: positional values and keyword values in the parameters' order -/
def mCallK (m : MD) (ms : List Bool) (g : List D → List D → List D) (ma mk : MA) : ME := fun ρ => (ma ρ).bind fun p => (zs p.1).bind fun ds => (mk p.2).bind fun q => (zs q.1).bind fun es => callM m ms q.2 (valsZ (g ds es))
theorem tE_callK {K : Fr} {g : List D → List D → List D} {gV : List V → List V → List V} (hg : ∀ {H vs us ds es}, FzA K H vs ds → FzA K H us es → FzA K H (gV vs us) (g ds es)) (hl : MD.Len m) {σ : St} {H : Hp} {Q : VK} (q : tE K (mCallK m ms g ma mk) σ H Q) : tA K ma σ H fun vs H1 => tA K mk σ H1 fun us H2 => spD K m (gV vs us) H2 Q E0 := by
  obtain ⟨B, ρ, own, t, ρ', hB, es, e, k⟩ := q
  obtain ⟨⟨as, ρ1⟩, e1, e2⟩ := Option.bind_eq_some_iff.mp (show (ma ρ).bind _ = some (t, ρ') from e)
  obtain ⟨ds, e3, e4⟩ := Option.bind_eq_some_iff.mp e2
  obtain ⟨⟨bs, ρ2⟩, e5, e6⟩ := Option.bind_eq_some_iff.mp e4
  obtain ⟨es', e7, e8⟩ := Option.bind_eq_some_iff.mp e6
  refine ⟨B, ρ, own, as, ρ1, hB, es, e1, fun vs H1 own1 st1 es1 r1 => ?_⟩
  have f1 := zs_fz r1 e3
  refine ⟨B, ρ1, own1, bs, ρ2, hB, es1, e5, fun us H2 own2 st2 es2 r2 => ?_⟩
  have f2 := zs_fz r2 e7
  exact spD_of hB es2 (argsRep_zl (hg (f1.mono st2.pk) f2)) e8 hl fun v H3 own3 st3 es3 r3 => k v H3 own3 ((st1.trans st2).trans st3) es3 r3
variable {ks : List Str} {kws : List Keyword} {g : List Value → List Value → List Value} {gV : List V → List V → List V} {gD : List D → List D → List D}
theorem runK {pins : List (Addr × Obj)} {σ : St} {H : Hp} {s : Shared} {Q : VK} {us ws : List Value} {vs zs : List V} (F : FnG X.prog X.w X.K X.mg X.base CX0 k f fd ps (spD X.K m)) (hr : RoomG k X.A) (hb : KBinds X.K fd ps ks g gV) (I : Inv X pins σ H s) (r : Vals vs us) (rz : Vals zs ws) (h : spD X.K m (gV vs zs) H Q E0) :
    wpAny (model X.prog X.w) X.A (PySem.call (.ref f) us (ks.zip ws)) (EP X pins σ Q) X.xe s := by
  have r2 := hb.rel r rz
  have hlen : (g us ws).length = ps.length := by rw [← r2.length]; exact F.len _ _ _ _ h
  exact runG (args := ⟨us, ks.zip ws⟩) F hr pass0 I (hb.to s us ws I.kIn hlen) r2 h
theorem px_callK (F : FnG X.prog X.w X.K X.mg X.base CX0 k f fd ps (spD X.K m)) (hl : MD.Len m) (hr : RoomG k X.A) (hg : Gl X x) (hm : X.mg x = some (.ref f)) (hk : PySem.W.keepIn X.K (.ref f) = true) (hb : KBinds X.K fd ps ks g gV)
    (hgD : ∀ {H vs us ds es}, FzA X.K H vs ds → FzA X.K H us es → FzA X.K H (gV vs us) (gD ds es)) (ha : PAr X (e :: es) ma) (hkw : PKr X kws mk) (hall : (backToKw pos (keywordEach kws X.env)).all (·.1.isSome) = true := by rfl) (hks : (backToKw pos (keywordEach kws X.env)).filterMap (·.1) = ks := by rfl)
    (hdb : (x == ("__debug__" : Str)) = false := by decide) (he : starEach (e :: es) X.env = (false, eval e X.env) :: starEach es X.env := by rfl)
    (hpl : ((backTo pos (starEach (e :: es) X.env)).any (·.1) || (backToKw pos (keywordEach kws X.env)).any (·.1.isNone)) = false := by rfl) :
    PX X (.Call (.Name x p) (e :: es) kws pos) (mCallK m ms gD ma mk) := by
  refine ⟨⟨fun pins s σ H Q I q => ?_⟩⟩
  refine wpAny_Call_Name_kw (ld_glob I hg hm ?_ hdb)
  refine PySem.W.callWith_KW (h₀ := X.base) I.ok.mod.kin hk hall (thn (ha.pa.run pos pins s σ H _ I (tE_callK (gV := gV) hgD hl q)) fun us s1 ⟨vs, H1, I1, r, q1⟩ => ?_) hpl he
  refine thn (hkw.pk.run pos pins s1 σ H1 _ I1 q1) fun ws s2 ⟨zs, H2, I2, rz, q2⟩ => ⟨I2.kIn, ?_⟩
  rw [hks]
  exact runK F hr hb I2 r rz q2
theorem px_callK0 (F : FnG X.prog X.w X.K X.mg X.base CX0 k f fd ps (spD X.K m)) (hl : MD.Len m) (hr : RoomG k X.A) (hg : Gl X x) (hm : X.mg x = some (.ref f)) (hk : PySem.W.keepIn X.K (.ref f) = true) (hb : KBinds X.K fd ps ks g gV)
    (hgD : ∀ {H vs us ds es}, FzA X.K H vs ds → FzA X.K H us es → FzA X.K H (gV vs us) (gD ds es)) (hkw : PKr X kws mk) (hall : (backToKw pos (keywordEach kws X.env)).all (·.1.isSome) = true := by rfl) (hks : (backToKw pos (keywordEach kws X.env)).filterMap (·.1) = ks := by rfl)
    (hdb : (x == ("__debug__" : Str)) = false := by decide) (hpl : ((backTo pos (starEach [] X.env)).any (·.1) || (backToKw pos (keywordEach kws X.env)).any (·.1.isNone)) = false := by rfl) :
    PX X (.Call (.Name x p) [] kws pos) (mCallK m ms gD aNil mk) := by
  refine ⟨⟨fun pins s σ H Q I q => ?_⟩⟩
  refine wpAny_Call_Name_kw (ld_glob I hg hm ?_ hdb)
  have z : tA X.K mk σ H fun us H2 => spD X.K m (gV [] us) H2 Q E0 := by
    obtain ⟨B, ρ, own, as, ρ', hB, es, e, k⟩ := tE_callK (gV := gV) hgD hl q
    cases e
    exact k [] H own .refl es trivial
  refine PySem.W.callWith_KW0 (h₀ := X.base) I.ok.mod.kin hk hall (thn (hkw.pk.run pos pins s σ H _ I z) fun ws s2 ⟨zs, H2, I2, rz, q2⟩ => ⟨I2.kIn, ?_⟩) hpl
  rw [hks]
  exact runK F hr hb I2 .nil rz q2
end
end VL

set_option Elab.async false
set_option linter.all false
set_option maxRecDepth 100000
set_option maxHeartbeats 4000000
namespace VL
open PySem PySem.Spec PyProof.Rows L2

abbrev bo (b : Bool) : Option T := some (.z (.bool b))
abbrev io (i : Int) : Option T := some (.z (.int i))
def isNon : D → Bool
  | .none => true
  | _ => false
theorem isNon_ne {d : D} (h : isNon d = false) : d ≠ .none := fun e => by subst e; cases h
/-! ### + - * // % ** -/
def gAdd : D → D → Option T
  | .int i, .int j => io (i + j)
  | .tuple a, .tuple b => if a.length + b.length ≤ 100000 then some (.z (.tuple (a ++ b))) else none
  | .list a, .list b => if a.length + b.length ≤ 100000 then some (.l (a ++ b)) else none
  | _, _ => none
def gSub : D → D → Option T
  | .int i, .int j => io (i - j)
  | .bool a, .bool b => io ((if a then 1 else 0) - (if b then 1 else 0))
  | _, _ => none
def gMul : D → D → Option T
  | .int i, .int j => if i.natAbs < 2 ^ 64 ∨ j.natAbs < 2 ^ 64 ∨ i.natAbs.log2 + j.natAbs.log2 < 1000000 then io (i * j) else none
  | .tuple a, .int k => if a ≠ [] ∧ 1 ≤ k ∧ k ≤ 1000 ∧ a.length ≤ 1000 then some (.z (.tuple (List.replicate k.toNat a).flatten)) else none
  | .list a, .int k => if 0 ≤ k ∧ k ≤ 1000 ∧ a.length ≤ 1000 then some (.l (List.replicate k.toNat a).flatten) else none
  | _, _ => none
def gFdiv : D → D → Option T
  | .int i, .int j => if j ≠ 0 ∧ (j.natAbs < 1073741824 ∨ j.natAbs.log2 < 9000) then io (i.fdiv j) else none
  | _, _ => none
def gMod : D → D → Option T
  | .int i, .int j => if j ≠ 0 then io (i.fmod j) else none
  | _, _ => none
def gPow : D → D → Option T
  | .int i, .int j => if 0 ≤ j ∧ j ≤ 1000000 ∧ i.natAbs < 2 ^ 64 then io (i ^ j.toNat) else none
  | _, _ => none
def gNeg : D → Option T
  | .int i => io (-i)
  | _ => none
def gLt : D → D → Option T
  | .int i, .int j => bo (decide (i < j))
  | d, e => if PySem.W.alike d e = true ∧ isNon d = false ∧ min d.depth e.depth ≤ 60 then bo (PySem.W.dataLt d e) else none
def gGt : D → D → Option T
  | .int i, .int j => bo (decide (j < i))
  | d, e => if PySem.W.alike d e = true ∧ isNon d = false ∧ min d.depth e.depth ≤ 60 then bo (PySem.W.dataLt e d) else none
def gLe : D → D → Option T
  | .int i, .int j => bo (decide (i ≤ j))
  | _, _ => none
def gGe : D → D → Option T
  | .int i, .int j => bo (decide (j ≤ i))
  | _, _ => none
def gEq : D → D → Option T
  | .int i, .int j => bo (decide (i = j))
  | .str a, .str b => bo (a == b)
  | d, e => if SeqAt.shaped d = true ∧ SeqAt.shaped e = true then bo (PyData.eqv d e) else none
def gNe : D → D → Option T
  | .int i, .int j => bo (!decide (i = j))
  | .str a, .str b => bo (!(a == b))
  | d, e => if SeqAt.shaped d = true ∧ SeqAt.shaped e = true then bo (!PyData.eqv d e) else none
def gIs : D → D → Option T
  | d, .none => bo (isNon d)
  | .bool a, .bool b => bo (decide (a = b))
  | _, _ => none
def gIsN : D → D → Option T
  | d, .none => bo (!isNon d)
  | .bool a, .bool b => bo (!decide (a = b))
  | _, _ => none
section
variable {X : Cx} {K : Fr} {H : Hp}
theorem k_int {i : Int} {Q : VK} (k : ∀ v H', Fresh K H H' v (.z (.int i)) → Q v H') : Q (.int i) H := k _ _ (.z (.int i))
theorem k_bl {i : Bool} {Q : VK} (k : ∀ v H', Fresh K H H' v (.z (.bool i)) → Q v H') : Q (.bl i) H := k _ _ (.z (.bl i))
theorem lim {n : Nat} (h : n ≤ 100000) : n ≤ sizeLine := Nat.le_trans h (by decide)
theorem ite_some' {α : Type} {p : Prop} [Decidable p] {a b : α} (h : (if p then some a else none) = some b) : p ∧ a = b := by
  by_cases hp : p
  · rw [if_pos hp] at h; exact ⟨hp, Option.some.inj h⟩
  · rw [if_neg hp] at h; cases h
/-- list + list, any kind -/
theorem op_catL : OpR X (binaryOp .Add) (fun x y H Q => ∃ l b xs zs, x = .ref l ∧ y = .ref b ∧ SqL X.K H l xs ∧ SqL X.K H b zs ∧ xs.length + zs.length ≤ sizeLine ∧ ∀ p, H p = none → Q (.ref p) (upd H p (.lst (xs ++ zs)))) := by
  intro pins s σ H x y v u Q I rx ry h
  obtain ⟨l, b, xs, zs, rfl, rfl, ha, hb, hz, q⟩ := h
  cases rx
  cases ry
  obtain ⟨its, r, pl, hz1⟩ := I.list ha
  obtain ⟨its2, r2, pl2, hz2⟩ := I.list hb
  obtain ⟨⟨cls, dd, data, sl⟩, ho, hc, n, hd⟩ := pl.isList
  obtain ⟨⟨cls2, dd2, data2, sl2⟩, ho2, hc2, n2, hd2⟩ := pl2.isList
  simp only at hc hd hc2 hd2
  subst hc hd hc2 hd2
  have e1 := r.length
  have e2 := r2.length
  refine concat_meets ⟨_, ho, rfl⟩ ⟨_, ho2, rfl⟩ noFill_list_add seq_list_add PySem.F.slot_list_add PySem.F.entry_list_add (PySem.F.args_list_add_2 _ _) (list_addW l b its.toArray its2.toArray n n2 dd dd2 sl sl2 (by simp only [List.size_toArray]; omega)) ⟨ho, ho2, ?_⟩
  refine ⟨.ref s.heap.objs.size, _, I.laid (t' := s.toks) (o := .lst (xs ++ zs)) (fun b ob q => Heap.get?_push_of_some _ q) (Nat.le_refl _) ?_, rfl, q _ (I.hok.fresh (Nat.le_refl _))⟩
  exact ⟨by rw [List.length_append]; exact hz, its ++ its2, 0, r.append r2, by rw [Heap.get?_push_size _ rfl]; simp⟩
theorem od_add : OpD X (binaryOp .Add) gAdd := by
  intro pins s σ H x y v u Q I rx ry ⟨d, e, t, r1, r2, e1, k⟩
  unfold gAdd at e1
  split at e1
  · cases e1
    cases r1.int; cases r2.int
    exact op_add pins s σ H _ _ v u Q I rx ry ⟨_, _, rfl, rfl, k_int k⟩
  · obtain ⟨hl, rfl⟩ := ite_some' e1
    obtain ⟨a, xs, rfl, q1, f1⟩ := r1.tuple
    obtain ⟨b, ys, rfl, q2, f2⟩ := r2.tuple
    have l1 := f1.length
    have l2 := f2.length
    refine op_catA pins s σ H _ _ v u Q I rx ry ⟨a, b, xs, ys, rfl, rfl, q1, q2, by rw [l1, l2]; exact lim hl, fun h => ?_, fun _ h => ?_, fun _ _ p hp => ?_⟩
    · subst h
      cases f1
      exact k _ _ ⟨fun _ _ h => h, Fz.tup q2 f2⟩
    · subst h
      cases f2
      rw [List.append_nil] at k
      exact k _ _ ⟨fun _ _ h => h, Fz.tup q1 f1⟩
    · exact k _ _ (.tup hp (f1.append f2))
  · obtain ⟨hl, rfl⟩ := ite_some' e1
    obtain ⟨a, xs, rfl, q1, f1⟩ := r1.list
    obtain ⟨b, ys, rfl, q2, f2⟩ := r2.list
    exact op_catL pins s σ H _ _ v u Q I rx ry ⟨a, b, xs, ys, rfl, rfl, q1, q2, by rw [f1.length, f2.length]; exact lim hl, fun p hp => k _ _ (.lst hp (f1.append f2))⟩
  · cases e1
theorem od_sub : OpD X (binaryOp .Sub) gSub := by
  intro pins s σ H x y v u Q I rx ry ⟨d, e, t, r1, r2, e1, k⟩
  unfold gSub at e1
  split at e1
  · cases e1
    cases r1.int; cases r2.int
    exact op_sub pins s σ H _ _ v u Q I rx ry ⟨_, _, rfl, rfl, k_int k⟩
  · cases e1
    cases r1.bl; cases r2.bl
    obtain rfl := rx
    obtain rfl := ry
    exact PyProof.Rows.sub_bool ⟨.int _, H, I.tok _, ⟨_, rfl⟩, k_int k⟩
  · cases e1
theorem od_mod : OpD X (binaryOp .Mod) gMod := by
  intro pins s σ H x y v u Q I rx ry ⟨d, e, t, r1, r2, e1, k⟩
  unfold gMod at e1
  split at e1
  · obtain ⟨hl, rfl⟩ := ite_some' e1
    cases r1.int; cases r2.int
    exact op_modN pins s σ H _ _ v u Q I rx ry ⟨_, _, rfl, rfl, hl, k_int k⟩
  · cases e1
def CDivNW (_ j : Int) : Prop := j ≠ 0 ∧ j.natAbs.log2 < 9000
theorem op_fdivNW : OpR X (binaryOp .FloorDiv) (rI CDivNW fun i j => .int (i.fdiv j)) := opI fun _ _ _ _ _ _ _ hc q => floordiv_int hc.1 q (.inl (PyProof.noPylong_of_log2 hc.2))
theorem od_fdiv : OpD X (binaryOp .FloorDiv) gFdiv := by
  intro pins s σ H x y v u Q I rx ry ⟨d, e, t, r1, r2, e1, k⟩
  unfold gFdiv at e1
  split at e1
  · obtain ⟨hl, rfl⟩ := ite_some' e1
    cases r1.int; cases r2.int
    rcases hl.2 with h2 | h2
    · exact op_fdivN pins s σ H _ _ v u Q I rx ry ⟨_, _, rfl, rfl, ⟨hl.1, h2⟩, k_int k⟩
    · exact op_fdivNW pins s σ H _ _ v u Q I rx ry ⟨_, _, rfl, rfl, ⟨hl.1, h2⟩, k_int k⟩
  · cases e1
theorem od_pow : OpD X (binaryOp .Pow) gPow := by
  intro pins s σ H x y v u Q I rx ry ⟨d, e, t, r1, r2, e1, k⟩
  unfold gPow at e1
  split at e1
  · obtain ⟨hl, rfl⟩ := ite_some' e1
    cases r1.int; cases r2.int
    exact op_pow pins s σ H _ _ v u Q I rx ry ⟨_, _, rfl, rfl, hl, k_int k⟩
  · cases e1
theorem ud_neg : UnD X (unaryOp .USub) gNeg := by
  intro pins s σ H x v Q I rx ⟨d, t, r1, e1, k⟩
  unfold gNeg at e1
  split at e1
  · cases e1
    cases r1.int
    exact un_neg pins s σ H _ v Q I rx ⟨_, rfl, k_int k⟩
  · cases e1
theorem od_lt (hu : X.A.units + 65 < cLine) : OpD X (compareOp .Lt) gLt := by
  intro pins s σ H x y v u Q I rx ry ⟨d, e, t, r1, r2, e1, k⟩
  unfold gLt at e1
  split at e1
  · cases e1
    cases r1.int; cases r2.int
    exact op_lt pins s σ H _ _ v u Q I rx ry ⟨_, _, rfl, rfl, k_bl k⟩
  · obtain ⟨⟨h1, h2, h3⟩, rfl⟩ := ite_some' e1
    obtain ⟨as, q1⟩ := Dp.reads I _ _ _ r1.dp rx
    obtain ⟨bs, q2⟩ := Dp.reads I _ _ _ r2.dp ry
    exact PySem.W.lt_data q1 q2 h1 (isNon_ne h2) (by omega) ⟨.bl _, H, I, rfl, k_bl k⟩
theorem od_gt (hu : X.A.units + 65 < cLine) : OpD X (compareOp .Gt) gGt := by
  intro pins s σ H x y v u Q I rx ry ⟨d, e, t, r1, r2, e1, k⟩
  unfold gGt at e1
  split at e1
  · cases e1
    cases r1.int; cases r2.int
    exact op_gt pins s σ H _ _ v u Q I rx ry ⟨_, _, rfl, rfl, k_bl k⟩
  · obtain ⟨⟨h1, h2, h3⟩, rfl⟩ := ite_some' e1
    obtain ⟨as, q1⟩ := Dp.reads I _ _ _ r1.dp rx
    obtain ⟨bs, q2⟩ := Dp.reads I _ _ _ r2.dp ry
    exact PySem.W.gt_data q1 q2 h1 (isNon_ne h2) (by omega) ⟨.bl _, H, I, rfl, k_bl k⟩
theorem od_le : OpD X (compareOp .LtE) gLe := by
  intro pins s σ H x y v u Q I rx ry ⟨d, e, t, r1, r2, e1, k⟩
  unfold gLe at e1
  split at e1
  · cases e1
    cases r1.int; cases r2.int
    exact op_le pins s σ H _ _ v u Q I rx ry ⟨_, _, rfl, rfl, k_bl k⟩
  · cases e1
theorem od_ge : OpD X (compareOp .GtE) gGe := by
  intro pins s σ H x y v u Q I rx ry ⟨d, e, t, r1, r2, e1, k⟩
  unfold gGe at e1
  split at e1
  · cases e1
    cases r1.int; cases r2.int
    exact op_ge pins s σ H _ _ v u Q I rx ry ⟨_, _, rfl, rfl, k_bl k⟩
  · cases e1
theorem od_eq (hu : X.A.units + 64 < cLine) : OpD X (compareOp .Eq) gEq := by
  intro pins s σ H x y v u Q I rx ry ⟨d, e, t, r1, r2, e1, k⟩
  unfold gEq at e1
  split at e1
  · cases e1
    cases r1.int; cases r2.int
    refine op_eq pins s σ H _ _ v u Q I rx ry ⟨rfl, ?_⟩
    rw [dec_int]
    exact k_bl k
  · cases e1
    cases r1.str; cases r2.str
    refine op_eq pins s σ H _ _ v u Q I rx ry ⟨rfl, ?_⟩
    rw [dec_str]
    exact k_bl k
  · obtain ⟨⟨h1, h2⟩, rfl⟩ := ite_some' e1
    exact op_eqD hu pins s σ H _ _ v u Q I rx ry ⟨_, _, r1.dp, r2.dp, h1, h2, k_bl k⟩
theorem od_ne (hu : X.A.units + 64 < cLine) : OpD X (compareOp .NotEq) gNe := by
  intro pins s σ H x y v u Q I rx ry ⟨d, e, t, r1, r2, e1, k⟩
  unfold gNe at e1
  split at e1
  · cases e1
    cases r1.int; cases r2.int
    refine op_ne pins s σ H _ _ v u Q I rx ry ⟨rfl, ?_⟩
    rw [dec_int]
    exact k_bl k
  · cases e1
    cases r1.str; cases r2.str
    refine op_ne pins s σ H _ _ v u Q I rx ry ⟨rfl, ?_⟩
    rw [dec_str]
    exact k_bl k
  · obtain ⟨⟨h1, h2⟩, rfl⟩ := ite_some' e1
    exact op_neD hu pins s σ H _ _ v u Q I rx ry ⟨_, _, r1.dp, r2.dp, h1, h2, k_bl k⟩
theorem nonD {d : D} {x : V} (r : Rp K H x d) : decide (x = .non) = isNon d := by
  cases d with
  | none => rw [r.non]; rfl
  | bool b => rw [r.bl]; rfl
  | int b => rw [r.int]; rfl
  | str b => rw [r.str]; rfl
  | list b => obtain ⟨_, _, rfl, _⟩ := r.list; rfl
  | tuple b => obtain ⟨_, _, rfl, _⟩ := r.tuple; rfl
  | dict b =>
    rcases r with h | ⟨_, _, _, _, e, _⟩
    · cases h
    · cases e
theorem od_is : OpD X (compareOp .Is) gIs := by
  intro pins s σ H x y v u Q I rx ry ⟨d, e, t, r1, r2, e1, k⟩
  unfold gIs at e1
  split at e1
  · cases e1
    cases r2.non
    refine op_isN pins s σ H _ _ v u Q I rx ry ⟨rfl, ?_⟩
    rw [nonD r1]
    exact k_bl k
  · cases e1
    cases r1.bl; cases r2.bl
    exact op_is_bl pins s σ H _ _ v u Q I rx ry ⟨_, _, rfl, rfl, k_bl k⟩
  · cases e1
theorem od_isn : OpD X (compareOp .IsNot) gIsN := by
  intro pins s σ H x y v u Q I rx ry ⟨d, e, t, r1, r2, e1, k⟩
  unfold gIsN at e1
  split at e1
  · cases e1
    cases r2.non
    refine op_notN pins s σ H _ _ v u Q I rx ry ⟨rfl, ?_⟩
    rw [nonD r1]
    exact k_bl k
  · cases e1
    cases r1.bl; cases r2.bl
    exact op_isnot_bl pins s σ H _ _ v u Q I rx ry ⟨_, _, rfl, rfl, k_bl k⟩
  · cases e1
end
end VL

set_option Elab.async false
set_option linter.all false
set_option maxRecDepth 100000
set_option maxHeartbeats 4000000
namespace VL
open PySem PySem.Spec PyProof.Rows L2
/-! ### tuple * 1, list * int of any kind -/
theorem tuple_mul1 (l : Addr) (items : Array Value) (n : Nat) (dd : Option Addr) (sl : Array (Option Value)) (u : Tok) (hne : items.isEmpty = false) :
    Meets (Builtin.«tuple.__mul__» ⟨[.ref l, .int 1 u], []⟩) (fun _ R s => s.heap.get? l = some { cls := .type "tuple", dict := dd, data := .seq items n, slots := sl } ∧
      R (.ok (.ret (Value.ref l))) { s with heap := s.heap, toks := s.toks }) :=
  .of_wp fun prog w A R s h => by
    obtain ⟨hp, g, d, tk, os⟩ := s
    obtain ⟨hl, h⟩ := h
    have f1 := AutoSeq1.idx_int
    wp_walk using wpAny_loadPart' hl
    exact ⟨_, rfl, h⟩
theorem list_mulW (l : Addr) (items : Array Value) (n : Nat) (dd : Option Addr) (sl : Array (Option Value)) (x : Int) (u : Tok) (hfit : ¬(!Builtin.List.listFitsIndex x) = true) (hcap : ¬items.size * x.toNat > (2 ^ 63 - 1) / 8)
    (hlong : ¬Builtin.List.listTooLong (items.size * x.toNat) = true) (hsz : (List.foldl (fun x1 x2 => x1 ++ x2) #[] (List.replicate (if items.isEmpty = true then 0 else x.toNat) items)).size ≤ sizeLine) :
    Meets (Builtin.«list.__mul__» ⟨[.ref l, .int x u], []⟩) (fun _ R s => s.heap.get? l = some { cls := .type "list", dict := dd, data := .seq items n, slots := sl } ∧
      R (.ok (.ret (Value.ref s.heap.objs.size))) { s with heap := s.heap.push { cls := Value.type "list", data := Data.seq (List.foldl (fun x1 x2 => x1 ++ x2) #[] (List.replicate (if items.isEmpty = true then 0 else x.toNat) items)) }, toks := s.toks }) :=
  .of_wp fun prog w A R s h => by
    obtain ⟨hp, g, d, tk, os⟩ := s
    obtain ⟨hl, h⟩ := h
    have f1 := AutoSeq1.idx_int
    wp_walk using wpAny_loadPart' hl
    refine wpAny_ite_false (decide_eq_false (Nat.not_lt.mpr hsz)) ?_
    wp_walk using wpAny_loadPart' hl
    exact ⟨_, rfl, h⟩
theorem int_rmul_list (a : Int) (t : Tok) (l : Addr) (items : Array Value) (n : Nat) (dd : Option Addr) (sl : Array (Option Value)) :
    Meets (Builtin.«int.__rmul__» ⟨[.int a t, .ref l], []⟩) (fun _ R s => s.heap.get? l = some { cls := .type "list", dict := dd, data := .seq items n, slots := sl } ∧ R (.ok (.ret Value.notImplemented)) s) :=
  .of_wp fun prog w A R s h => by obtain ⟨hp, g, d, tk, os⟩ := s; obtain ⟨hl, h⟩ := h; wp_walk using wpAny_loadPart' hl; exact ⟨_, rfl, h⟩
section
variable {X : Cx}
theorem op_repT1 : OpR X (binaryOp .Mult) (fun x y H Q => ∃ l xs, x = .ref l ∧ y = .int 1 ∧ SqT X.K H l xs ∧ xs ≠ [] ∧ Q (.ref l) H) := by
  intro pins s σ H x y v u Q I rx ry h
  obtain ⟨l, xs, rfl, rfl, hT, hne, q⟩ := h
  cases rx
  obtain ⟨t, rfl⟩ := ry
  obtain ⟨its, r, ⟨⟨cls, dd, data, sl⟩, ho, hc, n, hd⟩, hs⟩ := I.tuple hT
  simp only at hc hd
  subst hc hd
  have hle : its.length = xs.length := r.length.symm
  have hi : its.toArray.isEmpty = false := by
    cases its with
    | nil => exact absurd (List.eq_nil_of_length_eq_zero hle.symm) hne
    | cons a b => rfl
  exact wpAny_binaryOp_repeat_ref (T := "tuple") (U := "int") (by decide) ⟨_, ho, rfl⟩ (fun s' => typeIs_int s' 1 t) noFill_tuple_mul F.fills_int_mul F.slot_int_rmul repeat_tuple F.slot_int_index.lookup
    (call_meets F.slot_int_rmul (typeIs_int s 1 t) F.entry_int_rmul (F.args_int_rmul_2 _ _) (int_rmul_tuple 1 t l its.toArray n dd sl)
      ⟨ho, rfl, ⟨_, ho, rfl⟩, call_meets F.slot_tuple_mul ⟨_, ho, rfl⟩ F.entry_tuple_mul (F.args_tuple_mul_2 _ _) (tuple_mul1 l its.toArray n dd sl t hi) ⟨ho, ⟨.ref l, H, I, rfl, q⟩⟩⟩)
theorem op_repL : OpR X (binaryOp .Mult) (fun x y H Q => ∃ l k xs, x = .ref l ∧ y = .int k ∧ SqL X.K H l xs ∧ 0 ≤ k ∧ k ≤ 1000 ∧ xs.length ≤ 1000 ∧ ∀ p, H p = none → Q (.ref p) (upd H p (.lst (List.replicate k.toNat xs).flatten))) := by
  intro pins s σ H x y v u Q I rx ry h
  obtain ⟨l, k, xs, rfl, rfl, hH, h1, h2, hz, q⟩ := h
  cases rx
  obtain ⟨t, rfl⟩ := ry
  obtain ⟨its, r, pl, hs⟩ := I.list hH
  obtain ⟨⟨cls, dd, data, sl⟩, ho, hc, n, hd⟩ := pl.isList
  simp only at hc hd
  subst hc hd
  have hlen0 : its.length = xs.length := r.length.symm
  have hmul : its.length * k.toNat ≤ 1000 * 1000 := Nat.mul_le_mul (by omega) (by omega)
  have hlen : its.toArray.size * k.toNat ≤ sizeLine := by rw [List.size_toArray, sizeLine_eq]; omega
  have hcap : ¬ its.toArray.size * k.toNat > (2 ^ 63 - 1) / 8 := by rw [List.size_toArray]; omega
  have hfit : ¬ (!Builtin.List.listFitsIndex k) = true := by
    rw [fitsIndex_both (by omega) (by omega)]
    exact Bool.false_ne_true
  have hlong : ¬ Builtin.List.listTooLong (its.toArray.size * k.toNat) = true := by
    rw [notLongL hlen]
    exact Bool.false_ne_true
  have hnew : List.foldl (fun x1 x2 => x1 ++ x2) #[] (List.replicate (if its.toArray.isEmpty = true then 0 else k.toNat) its.toArray) = (List.replicate k.toNat its).flatten.toArray := by
    have f0 : ∀ m : Nat, List.foldl (fun x1 x2 => x1 ++ x2) #[] (List.replicate m its.toArray) = (List.replicate m its).flatten.toArray := fun m => by
      have := foldl_rep its m []
      rw [List.nil_append] at this
      exact this
    rw [f0]
    cases its with
    | nil => simp
    | cons a r' => rw [if_neg (by simp)]
  have flen : (List.replicate k.toNat its).flatten.length ≤ sizeLine := by
    rw [PyProof.Rows.lm_len_rep_flat, Nat.mul_comm, sizeLine_eq]; omega
  refine wpAny_binaryOp_repeat_ref (T := "list") (U := "int") (by decide) ⟨_, ho, rfl⟩ (fun s' => typeIs_int s' k t) noFill_list_mul F.fills_int_mul F.slot_int_rmul repeat_list F.slot_int_index.lookup
    (call_meets F.slot_int_rmul (typeIs_int s k t) F.entry_int_rmul (F.args_int_rmul_2 _ _) (int_rmul_list k t l its.toArray n dd sl)
      ⟨ho, rfl, ⟨_, ho, rfl⟩, call_meets F.slot_list_mul ⟨_, ho, rfl⟩ F.entry_list_mul (F.args_list_mul_2 _ _) (list_mulW l its.toArray n dd sl k t hfit hcap hlong (by rw [hnew, List.size_toArray]; exact flen)) ⟨ho, ?_⟩⟩)
  rw [hnew]
  refine ⟨.ref s.heap.objs.size, _, I.laid (t' := s.toks) (o := .lst (List.replicate k.toNat xs).flatten) (fun b ob q => Heap.get?_push_of_some _ q) (Nat.le_refl _) ?_, rfl, q _ (I.hok.fresh (Nat.le_refl _))⟩
  exact ⟨by rw [PyProof.Rows.lm_len_rep_flat, ← hlen0, Nat.mul_comm, sizeLine_eq]; omega, _, 0, r.rep k.toNat, by rw [Heap.get?_push_size _ rfl]⟩
theorem FzA.rep {K : Fr} {H : Hp} {xs : List V} {ds : List D} (f : FzA K H xs ds) : ∀ n : Nat, FzA K H (List.replicate n xs).flatten (List.replicate n ds).flatten
  | 0 => .nil
  | n + 1 => by
    rw [List.replicate_succ, List.replicate_succ, List.flatten_cons, List.flatten_cons]
    exact f.append (FzA.rep f n)
theorem od_mul : OpD X (binaryOp .Mult) gMul := by
  intro pins s σ H x y v u Q I rx ry ⟨d, e, t, r1, r2, e1, k⟩
  unfold gMul at e1
  split at e1
  · obtain ⟨hl, rfl⟩ := ite_some' e1
    cases r1.int; cases r2.int
    rename_i i j
    by_cases h3 : CMulW i j
    · exact op_mulW pins s σ H _ _ v u Q I rx ry ⟨_, _, rfl, rfl, h3, k_int k⟩
    · exact op_mul pins s σ H _ _ v u Q I rx ry ⟨_, _, rfl, rfl, by unfold CMulW at h3; unfold CMul; omega, k_int k⟩
  · obtain ⟨⟨h0, h1, h2, h3⟩, rfl⟩ := ite_some' e1
    obtain ⟨a, xs, rfl, q1, f1⟩ := r1.tuple
    cases r2.int
    have l1 := f1.length
    have hne : xs ≠ [] := fun z => by subst z; cases f1; exact h0 rfl
    rename_i kk
    by_cases hk : kk = 1
    · subst hk
      have e : ∀ l : List D, (List.replicate (1 : Int).toNat l).flatten = l := fun l => by
        show (List.replicate 1 l).flatten = _
        rw [List.replicate_succ, List.flatten_cons]
        exact List.append_nil _
      rw [e] at k
      exact op_repT1 pins s σ H _ _ v u Q I rx ry ⟨a, xs, rfl, rfl, q1, hne, k _ _ ⟨fun _ _ h => h, Fz.tup q1 f1⟩⟩
    · exact op_repT pins s σ H _ _ v u Q I rx ry ⟨a, kk, xs, rfl, rfl, q1, hne, by omega, h2, by omega, fun p hp => k _ _ (.tup hp (f1.rep _))⟩
  · obtain ⟨⟨h1, h2, h3⟩, rfl⟩ := ite_some' e1
    obtain ⟨a, xs, rfl, q1, f1⟩ := r1.list
    cases r2.int
    exact op_repL pins s σ H _ _ v u Q I rx ry ⟨a, _, xs, rfl, rfl, q1, h1, h2, by rw [f1.length]; exact h3, fun p hp => k _ _ (.lst hp (f1.rep _))⟩
  · cases e1
end

/-! ### calls of built-in functions and types -/
def gLen : List D → Option T
  | [.list a] => io a.length
  | [.tuple a] => io a.length
  | [.str a] => if a.length ≤ sizeLine then io a.length else none
  | _ => none
def gTup : List D → Option T
  | [.list a] => some (.z (.tuple a))
  | [.tuple a] => some (.z (.tuple a))
  | _ => none
def gLst : List D → Option T
  | [.list a] => some (.l a)
  | [.tuple a] => some (.l a)
  | _ => none
def ints? : List D → Option (List Int)
  | [] => some []
  | .int i :: ds => (ints? ds).map fun l => i :: l
  | _ :: _ => none
def bools? : List D → Option (List Bool)
  | [] => some []
  | .bool i :: ds => (bools? ds).map fun l => i :: l
  | _ :: _ => none
theorem ints?_fz {K : Fr} {H : Hp} : ∀ {ds : List D} {ns : List Int} {xs : List V}, ints? ds = some ns → FzA K H xs ds → xs = ns.map V.int
  | [], _, _, e, f => by cases e; cases f; rfl
  | .int i :: ds, ns, _, e, f => by
    obtain ⟨l, e1, rfl⟩ := Option.map_eq_some_iff.mp (show (ints? ds).map _ = some ns from e)
    cases f with
    | cons a b => cases a; rw [ints?_fz e1 b]; rfl
  | .none :: _, _, _, e, _ => by cases e
  | .bool _ :: _, _, _, e, _ => by cases e
  | .str _ :: _, _, _, e, _ => by cases e
  | .list _ :: _, _, _, e, _ => by cases e
  | .tuple _ :: _, _, _, e, _ => by cases e
  | .dict _ :: _, _, _, e, _ => by cases e
theorem bools?_fz {K : Fr} {H : Hp} : ∀ {ds : List D} {ns : List Bool} {xs : List V}, bools? ds = some ns → FzA K H xs ds → xs = ns.map V.bl
  | [], _, _, e, f => by cases e; cases f; rfl
  | .bool i :: ds, ns, _, e, f => by
    obtain ⟨l, e1, rfl⟩ := Option.map_eq_some_iff.mp (show (bools? ds).map _ = some ns from e)
    cases f with
    | cons a b => cases a; rw [bools?_fz e1 b]; rfl
  | .none :: _, _, _, e, _ => by cases e
  | .int _ :: _, _, _, e, _ => by cases e
  | .str _ :: _, _, _, e, _ => by cases e
  | .list _ :: _, _, _, e, _ => by cases e
  | .tuple _ :: _, _, _, e, _ => by cases e
  | .dict _ :: _, _, _, e, _ => by cases e
def gSum : List D → Option T
  | [.list a] => (ints? a).bind fun ns => io ns.sum
  | [.tuple a] => (ints? a).bind fun ns => io ns.sum
  | _ => none
def gAll : List D → Option T
  | [.list a] => (bools? a).bind fun ns => bo (ns.all id)
  | _ => none
def gAny : List D → Option T
  | [.list a] => (bools? a).bind fun ns => bo (ns.any id)
  | _ => none
def gAbs : List D → Option T
  | [.int i] => io (if i < 0 then -i else i)
  | _ => none
def gMax2 : List D → Option T
  | [.int i, .int j] => io (if j > i then j else i)
  | _ => none
def gMin2 : List D → Option T
  | [.int i, .int j] => io (if j < i then j else i)
  | _ => none
def gDivmod : List D → Option T
  | [.int i, .int j] => if 0 < j ∧ (j < 1073741824 ∨ j.natAbs.log2 < 9000) then some (.z (.tuple [.int (i / j), .int (i % j)])) else none
  | _ => none
def gInt : List D → Option T
  | [.int i] => io i
  | [.bool b] => io (if b then 1 else 0)
  | _ => none
def gGcd : List D → Option T
  | [.int i, .int j] => io ((Nat.gcd i.natAbs j.natAbs : Nat) : Int)
  | _ => none
/-- what repr can show within the model's sizes -/
def okShow (d : D) : Bool := d.showable && d.leavesShort 13 && decide (d.bulk ≤ 2 ^ 20) && !d.hasDict && decide (d.depth ≤ 60)
def gRepr : List D → Option T
  | [d] => if okShow d = true then some (.z (.str d.shown)) else none
  | _ => none
theorem rpA1 {K : Fr} {H : Hp} {xs : List V} {d : D} (r : RpA K H xs [d]) : ∃ v, xs = [v] ∧ Rp K H v d := by
  cases r with
  | cons a b => cases b; exact ⟨_, rfl, a⟩
theorem rpA2 {K : Fr} {H : Hp} {xs : List V} {d e : D} (r : RpA K H xs [d, e]) : ∃ v u, xs = [v, u] ∧ Rp K H v d ∧ Rp K H u e := by
  cases r with
  | cons a b =>
    obtain ⟨u, rfl, c⟩ := rpA1 b
    exact ⟨_, _, rfl, a, c⟩
section
variable {X : Cx}
theorem cd_len : CallD X (.builtin "len") gLen := by
  intro pins s σ H xs us Q I rs ⟨ds, t, r, e1, k⟩
  unfold gLen at e1
  split at e1
  · cases e1
    obtain ⟨v, rfl, r1⟩ := rpA1 r
    obtain ⟨a, ys, rfl, q1, f1⟩ := r1.list
    refine call_len_seq pins s σ H _ us Q I rs ⟨a, ys, rfl, .inl q1, ?_⟩
    rw [f1.length]; exact k_int k
  · cases e1
    obtain ⟨v, rfl, r1⟩ := rpA1 r
    obtain ⟨a, ys, rfl, q1, f1⟩ := r1.tuple
    refine call_len_seq pins s σ H _ us Q I rs ⟨a, ys, rfl, .inr q1, ?_⟩
    rw [f1.length]; exact k_int k
  · obtain ⟨hl, rfl⟩ := ite_some' e1
    obtain ⟨v, rfl, r1⟩ := rpA1 r
    cases r1.str
    exact call_len_str pins s σ H _ us Q I rs ⟨_, rfl, hl, k_int k⟩
  · cases e1
theorem cd_tup : CallD X (.type "tuple") gTup := by
  intro pins s σ H xs us Q I rs ⟨ds, t, r, e1, k⟩
  unfold gTup at e1
  split at e1
  · cases e1
    obtain ⟨v, rfl, r1⟩ := rpA1 r
    obtain ⟨a, ys, rfl, q1, f1⟩ := r1.list
    exact call_tuple_of pins s σ H _ us Q I rs ⟨a, ys, rfl, .inl ⟨q1, fun p hp => k _ _ (.tup hp f1)⟩⟩
  · cases e1
    obtain ⟨v, rfl, r1⟩ := rpA1 r
    obtain ⟨a, ys, rfl, q1, f1⟩ := r1.tuple
    exact call_tuple_of pins s σ H _ us Q I rs ⟨a, ys, rfl, .inr ⟨q1, k _ _ ⟨fun _ _ h => h, Fz.tup q1 f1⟩⟩⟩
  · cases e1
theorem cd_lst : CallD X (.type "list") gLst := by
  intro pins s σ H xs us Q I rs ⟨ds, t, r, e1, k⟩
  unfold gLst at e1
  split at e1
  · cases e1
    obtain ⟨v, rfl, r1⟩ := rpA1 r
    obtain ⟨a, ys, rfl, q1, f1⟩ := r1.list
    exact call_list_of pins s σ H _ us Q I rs ⟨a, ys, rfl, .inl q1, fun p hp => k _ _ (.lst hp f1)⟩
  · cases e1
    obtain ⟨v, rfl, r1⟩ := rpA1 r
    obtain ⟨a, ys, rfl, q1, f1⟩ := r1.tuple
    exact call_list_of pins s σ H _ us Q I rs ⟨a, ys, rfl, .inr q1, fun p hp => k _ _ (.lst hp f1)⟩
  · cases e1
theorem cd_sum (hc : X.calm = true) : CallD X (.builtin "sum") gSum := by
  intro pins s σ H xs us Q I rs ⟨ds, t, r, e1, k⟩
  unfold gSum at e1
  split at e1
  · obtain ⟨ns, e2, e3⟩ := Option.bind_eq_some_iff.mp e1
    cases e3
    obtain ⟨v, rfl, r1⟩ := rpA1 r
    obtain ⟨a, ys, rfl, q1, f1⟩ := r1.list
    cases ints?_fz e2 f1
    exact cr_sum hc pins s σ H _ us Q I rs ⟨a, ns, rfl, q1, k_int k⟩
  · obtain ⟨ns, e2, e3⟩ := Option.bind_eq_some_iff.mp e1
    cases e3
    obtain ⟨v, rfl, r1⟩ := rpA1 r
    obtain ⟨a, ys, rfl, q1, f1⟩ := r1.tuple
    cases ints?_fz e2 f1
    obtain ⟨its, rv, ht, _⟩ := I.tuple q1
    rw [Vals.ref1 rs]
    obtain ⟨xs, e⟩ := rv.ints.allInts.items
    have hn : numsOf (intItems xs).toList = ns := by rw [← e]; exact rv.ints.numsOf
    rw [nums_intItems] at hn
    rw [e] at ht
    refine PySem.W.ktm_sumG (I.ok.hd hc) ht fun h' tk t' hk => ?_
    rw [preSum_eq, List.take_of_length_le (by simp), hn]
    exact ⟨.int _, H, I.kept hk, ⟨_, rfl⟩, k_int k⟩
  · cases e1
theorem cd_all (hc : X.calm = true) : CallD X (.builtin "all") gAll := by
  intro pins s σ H xs us Q I rs ⟨ds, t, r, e1, k⟩
  unfold gAll at e1
  split at e1
  · obtain ⟨ns, e2, e3⟩ := Option.bind_eq_some_iff.mp e1
    cases e3
    obtain ⟨v, rfl, r1⟩ := rpA1 r
    obtain ⟨a, ys, rfl, q1, f1⟩ := r1.list
    cases bools?_fz e2 f1
    exact cr_all hc pins s σ H _ us Q I rs ⟨a, ns, rfl, q1, k_bl k⟩
  · cases e1
theorem cd_any (hc : X.calm = true) : CallD X (.builtin "any") gAny := by
  intro pins s σ H xs us Q I rs ⟨ds, t, r, e1, k⟩
  unfold gAny at e1
  split at e1
  · obtain ⟨ns, e2, e3⟩ := Option.bind_eq_some_iff.mp e1
    cases e3
    obtain ⟨v, rfl, r1⟩ := rpA1 r
    obtain ⟨a, ys, rfl, q1, f1⟩ := r1.list
    cases bools?_fz e2 f1
    exact cr_any hc pins s σ H _ us Q I rs ⟨a, ns, rfl, q1, k_bl k⟩
  · cases e1
theorem cd_abs : CallD X (.builtin "abs") gAbs := by
  intro pins s σ H xs us Q I rs ⟨ds, t, r, e1, k⟩
  unfold gAbs at e1
  split at e1
  · cases e1
    obtain ⟨v, rfl, r1⟩ := rpA1 r
    cases r1.int
    exact call_abs pins s σ H _ us Q I rs ⟨_, rfl, k_int k⟩
  · cases e1
theorem cd_max2 (hc : X.calm = true) : CallD X (.builtin "max") gMax2 := by
  intro pins s σ H xs us Q I rs ⟨ds, t, r, e1, k⟩
  unfold gMax2 at e1
  split at e1
  · cases e1
    obtain ⟨v, u, rfl, r1, r2⟩ := rpA2 r
    cases r1.int; cases r2.int
    exact call_max2 hc pins s σ H _ us Q I rs ⟨_, _, rfl, k_int k⟩
  · cases e1
theorem cd_min2 (hc : X.calm = true) : CallD X (.builtin "min") gMin2 := by
  intro pins s σ H xs us Q I rs ⟨ds, t, r, e1, k⟩
  unfold gMin2 at e1
  split at e1
  · cases e1
    obtain ⟨v, u, rfl, r1, r2⟩ := rpA2 r
    cases r1.int; cases r2.int
    exact call_min2 hc pins s σ H _ us Q I rs ⟨_, _, rfl, k_int k⟩
  · cases e1
theorem cd_divmod : CallD X (.builtin "divmod") gDivmod := by
  intro pins s σ H xs us Q I rs ⟨ds, t, r, e1, k⟩
  unfold gDivmod at e1
  split at e1
  · obtain ⟨hl, rfl⟩ := ite_some' e1
    obtain ⟨v, u, rfl, r1, r2⟩ := rpA2 r
    cases r1.int; cases r2.int
    rcases hl.2 with h2 | h2
    · exact call_divmod pins s σ H _ us Q I rs ⟨_, _, rfl, ⟨hl.1, h2⟩, fun p hp => k _ _ (.tup hp (.cons (.int _) (.cons (.int _) .nil)))⟩
    · exact call_divmodW pins s σ H _ us Q I rs ⟨_, _, rfl, ⟨hl.1, PyProof.noPylong_of_log2 h2⟩, fun p hp => k _ _ (.tup hp (.cons (.int _) (.cons (.int _) .nil)))⟩
  · cases e1
theorem cd_int : CallD X (.type "int") gInt := by
  intro pins s σ H xs us Q I rs ⟨ds, t, r, e1, k⟩
  unfold gInt at e1
  split at e1
  · cases e1
    obtain ⟨v, rfl, r1⟩ := rpA1 r
    cases r1.int
    exact call_int1 pins s σ H _ us Q I rs (.inl ⟨_, rfl, k_int k⟩)
  · cases e1
    obtain ⟨v, rfl, r1⟩ := rpA1 r
    cases r1.bl
    exact call_int1 pins s σ H _ us Q I rs (.inr ⟨_, rfl, k_int k⟩)
  · cases e1
theorem cd_gcd : CallD X (.builtin "math.gcd") gGcd := by
  intro pins s σ H xs us Q I rs ⟨ds, t, r, e1, k⟩
  unfold gGcd at e1
  split at e1
  · cases e1
    obtain ⟨v, u, rfl, r1, r2⟩ := rpA2 r
    cases r1.int; cases r2.int
    exact cr_gcd pins s σ H _ us Q I rs ⟨_, _, rfl, k_int k⟩
  · cases e1
theorem cd_repr (hg : X.A.guards = some []) (hu : X.A.units + 65 < cLine) : CallD X (.builtin "repr") gRepr := by
  intro pins s σ H xs us Q I rs ⟨ds, t, r, e1, k⟩
  unfold gRepr at e1
  split at e1
  · rename_i d
    obtain ⟨ok, rfl⟩ := ite_some' e1
    obtain ⟨v, rfl, r1⟩ := rpA1 r
    obtain ⟨u, rfl, rx⟩ := vals1 rs
    unfold okShow at ok
    simp only [Bool.and_eq_true, decide_eq_true_eq, Bool.not_eq_true'] at ok
    obtain ⟨⟨⟨⟨h1, h2⟩, h3⟩, h4⟩, h5⟩ := ok
    have hsz := PyData.shown_fits_bulk (B := 13) (by omega) (by omega) h2 h3
    obtain ⟨as, rd⟩ := Dp.reads I d _ _ r1.dp rx
    have fin : ∀ h' tk u, (∀ b o, s.heap.get? b = some o → h'.get? b = some o) → EP X pins σ Q (.str d.shown u) { s with heap := h', toks := tk } := fun h' tk u kp =>
      ⟨.str d.shown, H, I.kept kp, ⟨_, rfl⟩, k _ _ (.z (.str _))⟩
    have noD : d.hasDict = true → sysModules ∉ as := fun z => by rw [h4] at z; cases z
    cases d with
    | none => cases rd; exact PySem.P.repr_of_none (by have := fin s.heap (s.toks + 1) s.toks (fun _ _ h => h); rw [PyData.shown_none] at this; exact this)
    | bool b => cases rd; exact PySem.P.repr_of_bool (by have := fin s.heap (s.toks + 1) s.toks (fun _ _ h => h); rw [PyData.shown_bool] at this; exact this)
    | int i =>
      cases r1.int
      refine SkE.call_repr_int pins s σ H _ _ Q I rs ⟨i, rfl, by simpa [PyData.showable] using h1, ?_⟩
      have := k _ _ (.z (.str _))
      rw [PyData.shown_int] at this
      exact this
    | str x => cases rd; exact PySem.P.repr_of_str (by have := fin s.heap (s.toks + 1) s.toks (fun _ _ h => h); rw [PyData.shown_str] at this; exact this) (by rw [← PyData.shown_str]; exact hsz)
    | list ds =>
      obtain ⟨a, ys, rfl, q1, f1⟩ := r1.list
      cases rx
      exact repr_of_reads' rd h1 noD hg (by omega) (fun _ _ h => h) (fun h' u tk kp => fin h' tk u kp) hsz
    | tuple ds =>
      obtain ⟨a, ys, rfl, q1, f1⟩ := r1.tuple
      cases rx
      exact repr_of_reads' rd h1 noD hg (by omega) (fun _ _ h => h) (fun h' u tk kp => fin h' tk u kp) hsz
    | dict ds =>
      rcases r1 with h | ⟨_, _, _, _, e, _⟩
      · cases h
      · cases e
  · cases e1
end
end VL

set_option Elab.async false
set_option linter.all false
set_option maxRecDepth 100000
set_option maxHeartbeats 4000000
namespace VL
open PySem PySem.Spec PyProof.Rows L2
/-! ### isinstance -/
def tyD : D → String
  | .none => "NoneType"
  | .bool _ => "bool"
  | .int _ => "int"
  | .str _ => "str"
  | .list _ => "list"
  | .tuple _ => "tuple"
  | .dict _ => "dict"
theorem SqT.tyX {K : Fr} {H : Hp} {a : Addr} {xs : List V} (q : SqT K H a xs) : TyX K H (.ref a) (.type "tuple") := by
  rcases q with (h | ⟨o, h⟩) | ⟨o, its, n, e, c, _⟩
  · exact .base (.tup h)
  · exact .fTuple h
  · exact .kTuple e c
theorem SqL.tyX {K : Fr} {H : Hp} {a : Addr} {xs : List V} (q : SqL K H a xs) : TyX K H (.ref a) (.type "list") := by
  rcases q with (h | ⟨o, h⟩) | ⟨o, its, n, e, c, _⟩
  · exact .base (.lst h)
  · exact .base (.frz h)
  · exact .kList e c
theorem Rp.tyX {K : Fr} {H : Hp} {v : V} {d : D} (r : Rp K H v d) : TyX K H v (.type (tyD d)) := by
  cases d with
  | none => rw [r.non]; exact .base .non
  | bool b => rw [r.bl]; exact .base (.bl b)
  | int b => rw [r.int]; exact .base (.int b)
  | str b => rw [r.str]; exact .base (.str b)
  | list ds => obtain ⟨a, xs, rfl, q, f⟩ := r.list; exact SqL.tyX q
  | tuple ds => obtain ⟨a, xs, rfl, q, f⟩ := r.tuple; exact SqT.tyX q
  | dict ds =>
    rcases r with h | ⟨_, _, _, _, e, _⟩
    · cases h
    · cases e
def isT (n : String) (d : D) : Bool := match n, d with
  | "int", .int _ => true
  | "int", .bool _ => true
  | "bool", .bool _ => true
  | "str", .str _ => true
  | "list", .list _ => true
  | "tuple", .tuple _ => true
  | "dict", .dict _ => true
  | _, _ => false
def IsTy (n : String) : Prop := ∀ (K : Fr) (d : D), PySem.W.kitOne K (.type (tyD d)) (.type n) = some (isT n d)
theorem isTy_int : IsTy "int" := fun K d => by cases d <;> kernel_rfl
theorem isTy_bool : IsTy "bool" := fun K d => by cases d <;> kernel_rfl
theorem isTy_str : IsTy "str" := fun K d => by cases d <;> kernel_rfl
theorem isTy_list : IsTy "list" := fun K d => by cases d <;> kernel_rfl
theorem isTy_tuple : IsTy "tuple" := fun K d => by cases d <;> kernel_rfl
theorem isTy_dict : IsTy "dict" := fun K d => by cases d <;> kernel_rfl
def mIsi (n : String) (m : MO) : ME := fun ρ => (m ρ).bind fun p => (p.1.get p.2).map fun t => (.z (.bool (isT n t.data)), p.2)
def mIsi2 (n n2 : String) (m : MO) : ME := fun ρ => (m ρ).bind fun p => (p.1.get p.2).map fun t => (.z (.bool (isT n t.data || isT n2 t.data)), p.2)
section
variable {X : Cx} {a : Expr} {m : MO} {p pos : Pos}
theorem px_isi {x : Str} {n : String} {p2 : Pos} (ht : IsTy n) (hg : Gl X "isinstance") (hm : X.mg "isinstance" = none) (ha : PO X a m) (hgx : Gl X x) (hmx : X.mg x = none) (hv : bootBuiltins x = some (.type n) := by decide +kernel) (hn : x ≠ "__name__" := by decide) (hdx : (x == ("__debug__" : Str)) = false := by decide)
    (hs : starEach [a, .Name x p2] X.env = (false, eval a X.env) :: starEach [.Name x p2] X.env := by rfl) (hs2 : starEach [.Name x p2] X.env = (false, eval (.Name x p2) X.env) :: starEach [] X.env := by rfl)
    (hpl : (backTo pos (starEach [.Name x p2] X.env)).any (·.1) = false := by rfl) : PX X (.Call (.Name "isinstance" p) [a, .Name x p2] [] pos) (mIsi n m) :=
  ⟨(pe_callB (call_isi (X := X)) hg hm (by decide +kernel) (pa_cons ha.pe (pa_cons (pe_bltn (v := .ty n) hgx hmx hv rfl hn hdx) pa_nil hs2) hs) (he := hs) (hpl := hpl)).of fun σ H Q q => by
    obtain ⟨B, ρ, own, t, ρ', hB, es, e, k⟩ := q
    obtain ⟨⟨a, ρ1⟩, e1, e2⟩ := Option.bind_eq_some_iff.mp (show (m ρ).bind _ = some (t, ρ') from e)
    obtain ⟨u, e3, e4⟩ := Option.map_eq_some_iff.mp e2
    cases e4
    refine ⟨B, ρ, own, a, _, hB, es, e1, fun v H1 own1 st1 es1 r1 => ?_⟩
    exact ⟨v, .ty n, _, _, _, rfl, .ty n, (argRp es1 r1 e3).tyX, ht _ _, k _ _ _ st1 es1 (.bl _)⟩⟩
theorem px_isi2 {x y : Str} {n n2 : String} {p2 p3 pt : Pos} {kt} (ht : IsTy n) (ht2 : IsTy n2) (hg : Gl X "isinstance") (hm : X.mg "isinstance" = none) (ha : PO X a m) (hgx : Gl X x) (hmx : X.mg x = none) (hgy : Gl X y) (hmy : X.mg y = none) (hv : bootBuiltins x = some (.type n) := by decide +kernel) (hv2 : bootBuiltins y = some (.type n2) := by decide +kernel)
    (hn : x ≠ "__name__" := by decide) (hdx : (x == ("__debug__" : Str)) = false := by decide) (hny : y ≠ "__name__" := by decide) (hdy : (y == ("__debug__" : Str)) = false := by decide)
    (hs : starEach [a, .Tuple [.Name x p2, .Name y p3] kt pt] X.env = (false, eval a X.env) :: starEach [.Tuple [.Name x p2, .Name y p3] kt pt] X.env := by rfl) (hs2 : starEach [.Tuple [.Name x p2, .Name y p3] kt pt] X.env = (false, eval (.Tuple [.Name x p2, .Name y p3] kt pt) X.env) :: starEach [] X.env := by rfl)
    (hpl : (backTo pos (starEach [.Tuple [.Name x p2, .Name y p3] kt pt] X.env)).any (·.1) = false := by rfl)
    (hs3 : starEach [.Name x p2, .Name y p3] X.env = (false, eval (.Name x p2) X.env) :: starEach [.Name y p3] X.env := by rfl) (hs4 : starEach [.Name y p3] X.env = (false, eval (.Name y p3) X.env) :: starEach [] X.env := by rfl) :
    PX X (.Call (.Name "isinstance" p) [a, .Tuple [.Name x p2, .Name y p3] kt pt] [] pos) (mIsi2 n n2 m) :=
  ⟨(pe_callB (call_isiT (X := X)) hg hm (by decide +kernel) (pa_cons ha.pe (pa_cons (pe_tup (pa_cons (pe_bltn (v := .ty n) hgx hmx hv rfl hn hdx) (pa_cons (pe_bltn (v := .ty n2) hgy hmy hv2 rfl hny hdy) pa_nil hs4) hs3)) pa_nil hs2) hs) (he := hs) (hpl := hpl)).of fun σ H Q q => by
    obtain ⟨B, ρ, own, t, ρ', hB, es, e, k⟩ := q
    obtain ⟨⟨a, ρ1⟩, e1, e2⟩ := Option.bind_eq_some_iff.mp (show (m ρ).bind _ = some (t, ρ') from e)
    obtain ⟨u, e3, e4⟩ := Option.map_eq_some_iff.mp e2
    cases e4
    refine ⟨B, ρ, own, a, _, hB, es, e1, fun v H1 own1 st1 es1 r1 => ?_⟩
    refine ⟨by show 2 ≤ sizeLine; decide, fun q hq => ?_⟩
    have r2 := argRp es1 r1 e3
    have st : Step σ.length B own1 H1 own1 (upd H1 q (.tup [.ty n, .ty n2])) := ⟨fun b o eb _ => ⟨by rw [upd_ne (ne_of_none eb hq)]; exact eb, rfl⟩, fun b z => .inl z, .new hq⟩
    have es2 := es1.same (K := X.K) (H' := upd H1 q (.tup [.ty n, .ty n2])) (own' := own1) (.new hq) fun a o i h _ eb => ⟨by rw [upd_ne (ne_of_none eb hq)]; exact eb, h⟩
    have r3 : Rp X.K (upd H1 q (.tup [.ty n, .ty n2])) v u.data := by
      rcases r2 with h | ⟨b, xs, ds, h1, h2, h3, h4⟩
      · exact .inl (Fz.mono (.new hq) _ _ h)
      · exact .inr ⟨b, xs, ds, h1, h2, by rw [upd_ne (ne_of_none h3 hq)]; exact h3, h4.mono (.new hq)⟩
    refine ⟨v, q, [.ty n, .ty n2], _, [.type n, .type n2], _, rfl, upd_same, .cons (.ty n) (.cons (.ty n2) .nil), r3.tyX, ?_, k _ _ _ (st1.trans st) es2 (.bl _)⟩
    unfold PySem.W.kitAny
    rw [ht]
    cases isT n u.data with
    | true => rfl
    | false =>
      show PySem.W.kitAny X.K _ [.type n2] = _
      unfold PySem.W.kitAny
      rw [ht2]
      cases isT n2 u.data <;> rfl⟩
end

/-! ### x[i] -/
def gIx : D → D → Option T
  | .list a, .int i => (atI a i).map .z
  | .tuple a, .int i => (atI a i).map .z
  | _, _ => none
theorem atI_fz {K : Fr} {H : Hp} {xs : List V} {ds : List D} {i : Int} {d : D} (f : FzA K H xs ds) (e : atI ds i = some d) : ∃ v, atI xs i = some v ∧ Fz K H v d := by
  unfold atI at e
  obtain ⟨j, e1, e2⟩ := Option.bind_eq_some_iff.mp e
  obtain ⟨v, e3, q⟩ := f.get j e2
  exact ⟨v, by unfold atI; rw [f.length, e1]; exact e3, q⟩
section
variable {X : Cx} {a b : Expr} {m m' : MO} {p pos : Pos}
theorem id_ix : IxR X (rD2 X.K gIx) := by
  intro value slice pins s σ H x y v u Q I rx ry ⟨d, e, t, r1, r2, e1, k⟩ hs
  unfold gIx at e1
  split at e1
  · obtain ⟨z, e2, rfl⟩ := Option.map_eq_some_iff.mp e1
    cases r2.int
    obtain ⟨a, xs, rfl, q1, f1⟩ := r1.list
    obtain ⟨w, e3, q⟩ := atI_fz f1 e2
    exact ix_list value slice pins s σ H _ _ v u Q I rx ry ⟨a, xs, _, w, rfl, rfl, q1, e3, k _ _ (.z q)⟩ hs
  · obtain ⟨z, e2, rfl⟩ := Option.map_eq_some_iff.mp e1
    cases r2.int
    obtain ⟨a, xs, rfl, q1, f1⟩ := r1.tuple
    obtain ⟨w, e3, q⟩ := atI_fz f1 e2
    exact ix_tup value slice pins s σ H _ _ v u Q I rx ry ⟨a, xs, _, w, rfl, rfl, q1, e3, k _ _ (.z q)⟩ hs
  · cases e1
theorem px_ix (ha : PO X a m) (hb : PO X b m') (hs : PlainIx b := by intro _ _; rfl) : PX X (.Subscript a b pos) (mBin gIx m m') :=
  ⟨(pe_ix id_ix ha.pe hb.pe hs).of fun σ H Q q => tE_bin (fun _ _ _ _ h => h) q⟩

/-! ### x[lo:hi] -/
def mPt : Option MO → Env → Option (Option Int × Env)
  | none, ρ => some (none, ρ)
  | some m, ρ => (m ρ).bind fun p => (p.1.get p.2).bind fun t => match t with
    | .z (.int i) => some (some i, p.2)
    | _ => none
def tP (K : Fr) (m : Option MO) : TO := fun σ H Q => ∃ B ρ own o ρ', σ.length ≤ B ∧ ES K H σ ρ own ∧ mPt m ρ = some (o, ρ') ∧ ∀ H' own', Step σ.length B own H own' H' → ES K H' σ ρ' own' → Q o H'
structure PPt (X : Cx) (e : Option Expr) (m : Option MO) : Prop where
  po : L2.PO X e (tP X.K m)
theorem _root_.L2.PO.of {X : Cx} {e : Option Expr} {t t' : TO} (h : L2.PO X e t') (i : ∀ σ H Q, t σ H Q → t' σ H Q) : L2.PO X e t := ⟨fun pins s σ H Q I q => h.run pins s σ H Q I (i σ H Q q)⟩
theorem ppt_0 : PPt X none none := ⟨po_none.of fun σ H Q q => by
  obtain ⟨B, ρ, own, o, ρ', hB, es, e, k⟩ := q
  cases e
  exact k H own .refl es⟩
theorem ppt_1 (ha : PO X a m) : PPt X (some a) (some m) := ⟨(po_some ha.pe).of fun σ H Q q => by
  obtain ⟨B, ρ, own, o, ρ', hB, es, e, k⟩ := q
  obtain ⟨⟨a, ρ1⟩, e1, e2⟩ := Option.bind_eq_some_iff.mp (show (m ρ).bind _ = some (o, ρ') from e)
  obtain ⟨u, e3, e4⟩ := Option.bind_eq_some_iff.mp e2
  refine ⟨B, ρ, own, a, ρ1, hB, es, e1, fun v H1 own1 st1 es1 r1 => ?_⟩
  have r := argRp es1 r1 e3
  cases u with
  | l ds => cases e4
  | dc ds => cases e4
  | z d =>
    cases d with
    | int i => cases e4; exact ⟨i, r.int, k _ _ st1 es1⟩
    | _ => cases e4⟩
def cutD (xs : List D) (lo hi : Option Int) : List D := (xs.drop (HT.sIx xs.length 0 lo)).take (HT.sIx xs.length xs.length hi - HT.sIx xs.length 0 lo)
def gSl : D → Option Int → Option Int → Option T
  | .list a, lo, hi => some (.l (cutD a lo hi))
  | .tuple a, lo, hi => some (.z (.tuple (cutD a lo hi)))
  | _, _, _ => none
theorem cut_fz {K : Fr} {H : Hp} {xs : List V} {ds : List D} (f : FzA K H xs ds) (lo hi : Option Int) : FzA K H (cutV xs lo hi) (cutD ds lo hi) := by
  unfold cutV cutD
  rw [f.length]
  exact (f.drop _).take _
theorem cutD_whole {ds : List D} {lo hi : Option Int} (h : HT.sIx ds.length 0 lo = 0 ∧ HT.sIx ds.length ds.length hi = ds.length) : cutD ds lo hi = ds := by
  unfold cutD
  rw [h.1, h.2, List.drop_zero, Nat.sub_zero, List.take_length]
def rSlD (K : Fr) : V → Option Int → Option Int → Hp → VK → Prop := fun x lo hi H Q => ∃ d t, Rp K H x d ∧ gSl d lo hi = some t ∧ ∀ v H', Fresh K H H' v t → Q v H'
theorem sl_d : SlR X (rSlD X.K) := by
  intro pins s σ H x v vl vu lo hi sl Q I rx hs pl pu ⟨d, t, r1, e1, k⟩
  unfold gSl at e1
  split at e1
  · cases e1
    obtain ⟨a, xs, rfl, q1, f1⟩ := r1.list
    exact sl_list pins s σ H _ v vl vu lo hi sl Q I rx hs pl pu ⟨a, xs, rfl, q1, fun p hp => k _ _ (.lst hp (cut_fz f1 lo hi))⟩
  · cases e1
    obtain ⟨a, xs, rfl, q1, f1⟩ := r1.tuple
    refine sl_tupA pins s σ H _ v vl vu lo hi sl Q I rx hs pl pu ⟨a, xs, rfl, q1, fun h => ?_, fun _ p hp => k _ _ (.tup hp (cut_fz f1 lo hi))⟩
    rw [f1.length] at h
    rw [cutD_whole h] at k
    exact k _ _ ⟨fun _ _ h => h, Fz.tup q1 f1⟩
  · cases e1
def mSl (m : MO) (ml mh : Option MO) : ME := fun ρ => (m ρ).bind fun p => (mPt ml p.2).bind fun l => (mPt mh l.2).bind fun h => (p.1.get h.2).bind fun t => (gSl t.data l.1 h.1).map fun r => (r, h.2)
theorem px_sl {lo hi : Option Expr} {ml mh : Option MO} {p2 : Pos} (ha : PO X a m) (hl : PPt X lo ml) (hh : PPt X hi mh) : PX X (.Subscript a (.Slice lo hi none p2) pos) (mSl m ml mh) := ⟨(pe_slice sl_d ha.pe hl.po hh.po).of fun σ H Q q => by
  obtain ⟨B, ρ, own, t, ρ', hB, es, e, k⟩ := q
  obtain ⟨⟨a, ρ1⟩, e1, e2⟩ := Option.bind_eq_some_iff.mp (show (m ρ).bind _ = some (t, ρ') from e)
  obtain ⟨⟨l, ρ2⟩, e3, e4⟩ := Option.bind_eq_some_iff.mp e2
  obtain ⟨⟨h, ρ3⟩, e5, e6⟩ := Option.bind_eq_some_iff.mp e4
  obtain ⟨u, e7, e8⟩ := Option.bind_eq_some_iff.mp e6
  obtain ⟨z, e9, e10⟩ := Option.map_eq_some_iff.mp e8
  cases e10
  refine ⟨B, ρ, own, a, ρ1, hB, es, e1, fun v H1 own1 st1 es1 r1 => ?_⟩
  refine ⟨B + 1, ρ1, own1, l, ρ2, by omega, es1, e3, fun H2 own2 st2 es2 => ?_⟩
  refine ⟨B + 1, ρ2, own2, h, ρ3, by omega, es2, e5, fun H3 own3 st3 es3 => ?_⟩
  have r2 := argStep (K := X.K) (σ := σ) (v := v) (a := a) st2 hB (Nat.lt_succ_self B) r1
  have r3 := argStep (K := X.K) (σ := σ) (v := v) (a := a) st3 hB (Nat.lt_succ_self B) r2
  refine ⟨u.data, _, argRp es3 r3 e7, e9, fun v4 H4 f => ?_⟩
  exact k v4 H4 _ (((st1.trans (st2.down (Nat.le_succ B))).trans (st3.down (Nat.le_succ B))).trans f.step) (f.es es3) f.rep'⟩
/-! ### x[::-1] of a list -/
def mRevL (m : MO) : ME := fun ρ => (m ρ).bind fun p => (p.1.get p.2).bind fun t => match t.data with
  | .list ds => some (.l ds.reverse, p.2)
  | _ => none
end
end VL

set_option Elab.async false
set_option linter.all false
set_option maxRecDepth 100000
set_option maxHeartbeats 4000000
namespace VL
open PySem PySem.Spec PyProof.Rows L2
/-! ### methods of a list that a local owns -/
/-- g: items, arguments -> what it gives, the items behind -/
def rMut (K : Fr) (g : List D → List D → Option (D × List D)) : V → List V → Hp → VK → Prop := fun x vs H Q => ∃ l xs ds as d ds', x = .ref l ∧ H l = some (.lst xs) ∧ FzA K H xs ds ∧ FzA K H vs as ∧ g ds as = some (d, ds') ∧
  ∀ v xs', Fz K H v d → FzA K H xs' ds' → Q v (upd H l (.lst xs'))
def MutD (X : Cx) (id : String) (g : List D → List D → Option (D × List D)) : Prop := MtR X id (rMut X.K g)
def gAppend : List D → List D → Option (D × List D) := fun ds as => match as with
  | [d] => if ds.length < 100000 then some (.none, ds ++ [d]) else none
  | _ => none
def gInsert : List D → List D → Option (D × List D) := fun ds as => match as with
  | [.int i, d] => if ds.length < 100000 ∧ 0 ≤ i ∧ i < 2 ^ 63 then some (.none, ds.take i.toNat ++ [d] ++ ds.drop i.toNat) else none
  | _ => none
def gPop : List D → List D → Option (D × List D) := fun ds as => match as with
  | [] => (ds[ds.length - 1]?).map fun d => (d, ds.dropLast)
  | _ => none
theorem FzA.dropLast {K : Fr} {H : Hp} : ∀ {ds : List D} {vs : List V}, FzA K H vs ds → FzA K H vs.dropLast ds.dropLast
  | [], _, h => by cases h; exact .nil
  | [_], _, h => by cases h with | cons a b => cases b; exact .nil
  | _ :: _ :: ds, _, h => by
    cases h with
    | cons a b =>
      cases b with
      | cons a2 b2 => exact .cons a (FzA.dropLast (.cons a2 b2))
section
variable {X : Cx}
theorem lt_line {n : Nat} (h : n < 100000) : n < sizeLine := Nat.lt_of_lt_of_le h (by decide)
theorem md_append : MutD X "list.append" gAppend := by
  intro pins s σ H x vs v us Q I rx rs ⟨l, xs, ds, as, d, ds', ex, hl, f, fa, e, k⟩
  unfold gAppend at e
  split at e
  · obtain ⟨hn, e2⟩ := ite_some' e
    cases e2
    cases fa with
    | cons a b =>
      cases b
      exact mt_append pins s σ H x _ v us Q I rx rs ⟨l, xs, _, ex, rfl, hl, by rw [f.length]; exact lt_line hn, k _ _ .non (f.append (.cons a .nil))⟩
  · cases e
theorem md_insert : MutD X "list.insert" gInsert := by
  intro pins s σ H x vs v us Q I rx rs ⟨l, xs, ds, as, d, ds', ex, hl, f, fa, e, k⟩
  unfold gInsert at e
  split at e
  · obtain ⟨hn, e2⟩ := ite_some' e
    cases e2
    cases fa with
    | cons a b =>
      cases b with
      | cons a2 b2 =>
        cases b2
        cases a
        exact mt_insert pins s σ H x _ v us Q I rx rs ⟨l, xs, _, _, ex, rfl, hl, by rw [f.length]; exact lt_line hn.1, hn.2.1, hn.2.2, k _ _ .non (((f.take _).append (.cons a2 .nil)).append (f.drop _))⟩
  · cases e
theorem md_pop : MutD X "list.pop" gPop := by
  intro pins s σ H x vs v us Q I rx rs ⟨l, xs, ds, as, d, ds', ex, hl, f, fa, e, k⟩
  unfold gPop at e
  split at e
  · obtain ⟨z, e2, e3⟩ := Option.map_eq_some_iff.mp e
    cases e3
    cases fa
    obtain ⟨w, e4, q⟩ := f.get _ e2
    exact mt_pop pins s σ H x _ v us Q I rx rs ⟨l, xs, w, ex, rfl, hl, by rw [f.length]; exact e4, k _ _ q f.dropLast⟩
  · cases e
def mBM (i : Nat) (g : List D → List D → Option (D × List D)) (ma : MA) : ME := fun ρ => match slotT ρ i with
  | some (.l _) => (ma ρ).bind fun p => (zs p.1).bind fun as => match slotT p.2 i with
    | some (.l ds) => (g ds as).map fun r => (.z r.1, p.2.set i (some (.l r.2)))
    | _ => none
  | _ => none
/-- a local's list is written -/
theorem ES.write {K : Fr} {H : Hp} {σ : St} {ρ : Env} {own : Ow} {i : Nat} {l : Addr} {xs xs' : List V} {ds' : List D} (es : ES K H σ ρ own) (hi : i < σ.length) (hs : σ[i]? = some (some (.ref l))) (ho : own l = some i) (hl : H l = some (.lst xs)) (f : FzA K H xs' ds') :
    ES K (upd H l (.lst xs')) σ (ρ.set i (some (.l ds'))) own := by
  have pk : PK H (upd H l (.lst xs')) := .mut hl trivial
  refine ⟨by simpa using es.len, fun k u e => ?_⟩
  by_cases hk : k = i
  · subst hk
    rw [List.getElem?_set_self (by rw [es.len]; exact hi)] at e
    cases e
    exact ⟨_, hs, l, xs', rfl, ho, upd_same, f.mono pk⟩
  · rw [List.getElem?_set_ne (Ne.symm hk)] at e
    obtain ⟨w, e1, r⟩ := es.rep k u e
    refine ⟨w, e1, r.mono pk fun a o sa qa => ⟨?_, sa⟩⟩
    rw [upd_ne (fun z => by subst z; rw [ho] at sa; cases sa; exact hk rfl)]
    exact qa
theorem write_step {n B : Nat} {own : Ow} {H : Hp} {i : Nat} {l : Addr} {xs xs' : List V} (hi : i < n) (ho : own l = some i) (hl : H l = some (.lst xs)) : Step n B own H own (upd H l (.lst xs')) :=
  ⟨fun b o e na => ⟨by rw [upd_ne (fun z => na (by rw [z, ho, Act.some]; exact .inl hi))]; exact e, rfl⟩, fun b q => .inl q, .mut hl trivial⟩
theorem tE_bm {K : Fr} {i : Nat} {g : List D → List D → Option (D × List D)} {ma : MA} {σ : St} {H : Hp} {Q : VK} (q : tE K (mBM i g ma) σ H Q) : tO K (oN i) σ H fun x H1 => tyV K "list" x H1 ∧ tA K ma σ H1 fun xs H2 => rMut K g x xs H2 Q := by
  obtain ⟨B, ρ, own, t, ρ', hB, es, e, k⟩ := q
  unfold mBM at e
  split at e
  · rename_i ds0 es0
    obtain ⟨⟨as, ρ1⟩, e1, e2⟩ := Option.bind_eq_some_iff.mp e
    obtain ⟨bs, e3, e4⟩ := Option.bind_eq_some_iff.mp e2
    split at e4
    · rename_i ds es1'
      obtain ⟨⟨d, ds'⟩, e5, e6⟩ := Option.map_eq_some_iff.mp e4
      cases e6
      refine ⟨B, ρ, own, .slot i, ρ, hB, es, by unfold oN; rw [es0]; rfl, fun v H1 own1 st1 es1 r1 => ?_⟩
      have r1' : σ[i]? = some (some v) := r1
      obtain ⟨w, q1, a, xs, rfl, sa, hl, f⟩ := es1.rep i _ (slotT_some es0)
      rw [r1'] at q1
      cases q1
      refine ⟨.inl ⟨rfl, xs, SqL.of hl⟩, ?_⟩
      refine ⟨B, ρ, own1, as, ρ1, hB, es1, e1, fun vs H2 own2 st2 es2 r2 => ?_⟩
      obtain ⟨w2, q2, a2, xs2, rfl, sa2, hl2, f2⟩ := es2.rep i _ (slotT_some es1')
      rw [r1'] at q2
      cases q2
      have hi : i < σ.length := (List.getElem?_eq_some_iff.mp r1').1
      refine ⟨a, xs2, ds, bs, d, ds', rfl, hl2, f2, zs_fz r2 e3, e5, fun u xs' fu fx => ?_⟩
      exact k u _ own2 ((st1.trans st2).trans (write_step hi sa2 hl2)) (es2.write hi r1' sa2 hl2 fx) (Fz.mono (.mut hl2 trivial) _ _ fu)
    · cases e4
  · cases e
variable {i : Nat} {e : Expr} {es : List Expr} {x name : Str} {npos apos cpos : Pos} {id : String} {g : List D → List D → Option (D × List D)} {ma : MA}
theorem px_bm (hd : MutD X id g) (slot : Slot "list" name id) (hty : typeOf (.builtin id) = pure (.type "method_descriptor")) (hn : PE X (.Name x npos) (tVar i)) (ha : PAr X (e :: es) ma)
    (hbase : attributeBase (.Name x npos) name X.env (eval (.Name x npos) X.env) = eval (.Name x npos) X.env := by rfl)
    (hfew : ((backTo cpos (starEach (e :: es) X.env)).all (fun x => !x.1) && (backToKw cpos (keywordEach [] X.env)).all (fun x => x.1.isSome)
      && decide ((e :: es).length + ([] : List Keyword).length + (if ([] : List Keyword).isEmpty then 0 else 1) < 30)) = true := by rfl)
    (hline : (apos.endLine == cpos.line) = true := by rfl) (hs : starEach (e :: es) X.env = (false, eval e X.env) :: starEach es X.env := by rfl) (hplain : (backTo cpos (starEach es X.env)).any (·.1) = false := by rfl) :
    PX X (.Call (.Attribute (.Name x npos) name apos) (e :: es) [] cpos) (mBM i g ma) :=
  ⟨(pe_bm F.plainAttrs_list slot hty hd (po_n hn).pe ha.pa hbase hfew hline hs hplain).of fun σ H Q q => tE_bm q⟩
theorem px_bm0 (hd : MutD X id g) (slot : Slot "list" name id) (hty : typeOf (.builtin id) = pure (.type "method_descriptor")) (hn : PE X (.Name x npos) (tVar i))
    (hbase : attributeBase (.Name x npos) name X.env (eval (.Name x npos) X.env) = eval (.Name x npos) X.env := by rfl) (hline : (apos.endLine == cpos.line) = true := by rfl) :
    PX X (.Call (.Attribute (.Name x npos) name apos) [] [] cpos) (mBM i g aNil) :=
  ⟨(pe_bm0 F.plainAttrs_list slot hty hd (po_n hn).pe hbase hline).of fun σ H Q q => by
    obtain ⟨B, ρ, own, a, ρ', hB, es, e, k⟩ := tE_bm q
    refine ⟨B, ρ, own, a, ρ', hB, es, e, fun v H1 own1 st1 es1 r1 => ?_⟩
    obtain ⟨ty, B2, ρ2, own2, as, ρ3, hB2, es2, e2, k2⟩ := k v H1 own1 st1 es1 r1
    cases e2
    exact ⟨ty, k2 [] H1 own2 .refl es2 trivial⟩⟩
end

/-! ### targets of assignments: the heap may change -/
def tGh (K : Fr) (pin : List Nat) (m : MG) : TG := fun v σ H Q => ∃ B d ρ own ρ', σ.length ≤ B ∧ Fz K H v d ∧ ES K H σ ρ own ∧ m d ρ = some ρ' ∧ ∀ σ' H' own', σ'.length = σ.length → (∀ k ∈ pin, σ'[k]? = σ[k]?) → Step σ.length B own H own' H' → ES K H' σ' ρ' own' → Q σ' H'
def tGhs (K : Fr) (pin : List Nat) (m : MGs) : TGs := fun vs σ H Q => ∃ B ds ρ own ρ', σ.length ≤ B ∧ FzA K H vs ds ∧ ES K H σ ρ own ∧ m ds ρ = some ρ' ∧ ∀ σ' H' own', σ'.length = σ.length → (∀ k ∈ pin, σ'[k]? = σ[k]?) → Step σ.length B own H own' H' → ES K H' σ' ρ' own' → Q σ' H'
structure PTh (X : Cx) (pin : List Nat) (e : Expr) (m : MG) : Prop where
  pg : PG X e (tGh X.K pin m)
structure PThs (X : Cx) (pin : List Nat) (e : List Expr) (m : MGs) : Prop where
  pgs : PGs X e (tGhs X.K pin m)
def gS (i : Nat) (mi : MO) : MG := fun d ρ => match slotT ρ i with
  | some (.l _) => (mi ρ).bind fun q => (q.1.get q.2).bind fun t => match t, slotT q.2 i with
    | .z (.int k), some (.l ds) => (ixN ds.length k).map fun j => q.2.set i (some (.l (ds.set j d)))
    | _, _ => none
  | _ => none
section
variable {X : Cx} {pin : List Nat} {i : Nat} {x : Str} {pos npos : Pos} {mi : MO} {ix : Expr}
theorem pth_n (h : PG X (.Name x pos) (gName i)) (hp : pin.contains i = false) : PTh X pin (.Name x pos) (gN i) := ⟨h.of fun v σ H Q q => by
  obtain ⟨B, d, ρ, own, ρ', hB, f, es, e, k⟩ := q
  obtain ⟨hi, rfl⟩ := setSl_some e
  have hi' : i < σ.length := by rw [← es.len]; exact hi
  exact k _ _ own (by simp) (pin_ne hp) .refl (es.setZ hi' f)⟩
theorem pth_s (hn : PE X (.Name x npos) (tVar i)) (hx : PO X ix mi)
    (ha : ∀ v, assign (.Subscript (.Name x npos) ix pos) X.env v = (do
      let ov ← holding [v] (eval (.Name x npos) X.env)
      let iv ← holding [v, ov] (eval ix X.env)
      standAt pos
      holding [v, ov, iv] (setItem ov iv v)
      release [v, ov, iv] []) := by intro _; rfl) : PTh X pin (.Subscript (.Name x npos) ix pos) (gS i mi) := ⟨(pg_sub (po_n hn).pe hx.pe set_list ha).of fun v σ H Q q => by
  obtain ⟨B, d, ρ, own, ρ', hB, f, es, e, k⟩ := q
  unfold gS at e
  split at e
  · rename_i ds0 es0
    obtain ⟨⟨a, ρ1⟩, e1, e2⟩ := Option.bind_eq_some_iff.mp e
    obtain ⟨t, e3, e4⟩ := Option.bind_eq_some_iff.mp e2
    split at e4
    · rename_i kk ds es1'
      obtain ⟨j, e5, e6⟩ := Option.map_eq_some_iff.mp e4
      cases e6
      refine ⟨B, ρ, own, .slot i, ρ, hB, es, by unfold oN; rw [es0]; rfl, fun o H1 own1 st1 es1 r1 => ?_⟩
      have r1' : σ[i]? = some (some o) := r1
      refine ⟨B, ρ, own1, a, ρ1, hB, es1, e1, fun y H2 own2 st2 es2 r2 => ?_⟩
      obtain ⟨w2, q2, l, xs2, rfl, sa2, hl2, f2⟩ := es2.rep i _ (slotT_some es1')
      rw [r1'] at q2
      cases q2
      have hi : i < σ.length := (List.getElem?_eq_some_iff.mp r1').1
      have ry := argRp es2 r2 e3
      cases (show y = .int kk from ry.int)
      have fv := Fz.step st2 (Fz.step st1 f)
      refine ⟨l, xs2, kk, j, rfl, rfl, hl2, by rw [f2.length]; exact e5, ?_⟩
      exact k σ _ own2 rfl (fun _ _ => rfl) ((st1.trans st2).trans (write_step hi sa2 hl2)) (es2.write hi r1' sa2 hl2 (f2.set fv j))
    · cases e4
  · cases e⟩
theorem pths_0 : PThs X pin [] gs0 := ⟨pgs_nil.of fun vs σ H Q q => by
  obtain ⟨B, ds, ρ, own, ρ', hB, f, es, e, k⟩ := q
  cases f with
  | nil => cases e; exact ⟨rfl, k σ H own rfl (fun _ _ => rfl) .refl es⟩
  | cons a b => cases e⟩
theorem pths_c {e : Expr} {es : List Expr} {m : MG} {ms : MGs} (h1 : PTh X pin e m) (h2 : PThs X pin es ms) (hs : (assignEach (e :: es) X.env).map (·.2) = assign e X.env :: (assignEach es X.env).map (·.2) := by rfl) : PThs X pin (e :: es) (gsC m ms) := ⟨(pgs_cons h1.pg h2.pgs hs).of fun vs σ H Q q => by
  obtain ⟨B, ds, ρ, own, ρ', hB, f, es, e, k⟩ := q
  cases f with
  | nil => cases e
  | cons a b =>
    obtain ⟨ρ1, e1, e2⟩ := Option.bind_eq_some_iff.mp (show (m _ ρ).bind _ = some ρ' from e)
    refine ⟨_, _, rfl, B, _, ρ, own, ρ1, hB, a, es, e1, fun σ1 H1 own1 l1 p1 st1 es1 => ?_⟩
    exact ⟨B, _, ρ1, own1, ρ', by rw [l1]; exact hB, b.mono st1.pk, es1, e2, fun σ2 H2 own2 l2 p2 st2 es2 => k σ2 H2 own2 (l2.trans l1) (fun j hj => (p2 j hj).trans (p1 j hj)) (st1.trans (by rw [← l1]; exact st2)) es2⟩⟩
theorem pth_t {es : List Expr} {k n : Nat} {pos : Pos} {ms : MGs} (hc : X.calm = true) (h : PThs X pin es ms) (hn : (assignEach es X.env).length = n := by rfl) (hst : (assignEach es X.env).findIdx? (·.1) = none := by rfl) : PTh X pin (.Tuple es k pos) (gT n ms) := ⟨(pg_tup hc h.pgs hn hst).of fun v σ H Q q => by
  obtain ⟨B, d, ρ, own, ρ', hB, f, es, e, k⟩ := q
  cases f with
  | tup a b =>
    rename_i ad xs ds
    have e' : (if ds.length = n then ms ds ρ else none) = some ρ' := e
    by_cases hl : ds.length = n
    · rw [if_pos hl] at e'
      exact ⟨_, _, rfl, a, by rw [b.length]; exact hl, B, _, ρ, own, ρ', hB, b, es, e', k⟩
    · rw [if_neg hl] at e'; cases e'
  | _ => cases e⟩
def sAsg (m : ME) (mg : MG) : MS := fun ρ => (m ρ).bind fun p => match p.1 with
  | .z d => (mg d p.2).map fun ρ' => (.nx, ρ')
  | _ => none
theorem ps_asgT {tg e : Expr} {m : ME} {mg : MG} (he : PX X e m) (hg : PTh X pin tg mg) (hs : swapsWithSole [tg] e pos.line X.env = pure false := by rfl) (hw : swappedStores [tg] e X.env = pure none := by rfl)
    (h1 : (assignEach [tg] X.env).map (·.2) = [assign tg X.env] := by rfl) : PSt X pin (.Assign [tg] e pos) (sAsg m mg) := ⟨(ps_asg he.pe hg.pg hs hw h1).of fun D σ H q => by
  obtain ⟨B, ρ, own, f, ρ', hB, es, e, k⟩ := q
  obtain ⟨⟨t, ρ1⟩, e1, e2⟩ := Option.bind_eq_some_iff.mp (show (m ρ).bind _ = some (f, ρ') from e)
  cases t with
  | l ds => cases e2
  | dc ds => cases e2
  | z d =>
    obtain ⟨ρ2, e3, e4⟩ := Option.map_eq_some_iff.mp (show (mg d ρ1).map _ = some (f, ρ') from e2)
    cases e4
    refine ⟨B, ρ, own, .z d, ρ1, hB, es, e1, fun v H1 own1 st1 es1 r1 => ?_⟩
    exact ⟨B, d, ρ1, own1, _, hB, r1, es1, e3, fun σ2 H2 own2 l2 p2 st2 es2 => k σ2 H2 own2 l2 p2 (st1.trans st2) es2⟩⟩

/-! ### a, b = e, f with plain local names -/
def sPar (i j : Nat) (ma : MA) : MS := fun ρ => (ma ρ).bind fun p => match p.1 with
  | [.val t, .val u] => (setSl i t p.2).bind fun ρ1 => (setSl j u ρ1).map fun ρ2 => (.nx, ρ2)
  | _ => none
def sPar3 (i j l : Nat) (ma : MA) : MS := fun ρ => (ma ρ).bind fun p => match p.1 with
  | [.val t, .val u, .val w] => (setSl i t p.2).bind fun ρ1 => (setSl j u ρ1).bind fun ρ2 => (setSl l w ρ2).map fun ρ3 => (.nx, ρ3)
  | _ => none
theorem RepT.relNe {K : Fr} {H : Hp} {v : V} {t : T} {own : Ow} {b i j : Nat} (h : j ≠ b) (r : RepT K H v t fun a => own a = some j) : RepT K H v t fun a => rel b i own a = some j :=
  r.mono .refl fun a o s q => ⟨q, by unfold rel; rw [if_neg (by rw [s]; intro z; cases z; exact h rfl)]; exact s⟩
theorem ps_par' {y : Str} {a b : Expr} {j : Nat} {ma : MA} {px py pt : Pos} {kt k2 pt2} (hc : X.calm = true) (hN : X.N.Nodup) (hi : X.N[i]? = some x) (hj : X.N[j]? = some y) (hij : i ≠ j)
    (hx : X.env.scope.names.lookup x = some .local) (hy : X.env.scope.names.lookup y = some .local) (hpi : pin.contains i = false) (hpj : pin.contains j = false) (ha : PAr X [a, b] ma)
    (hw : swappedStores [.Tuple [.Name x px, .Name y py] kt pt] (.Tuple [a, b] k2 pt2) X.env = pure (some [x, y]) := by rfl)
    (hs : swapsWithSole [.Tuple [.Name x px, .Name y py] kt pt] (.Tuple [a, b] k2 pt2) pos.line X.env = pure false := by rfl) :
    PSt X pin (.Assign [.Tuple [.Name x px, .Name y py] kt pt] (.Tuple [a, b] k2 pt2) pos) (sPar i j ma) := ⟨(ps_par hc hN hi hj hij hx hy ha.pa hw hs).of fun D σ H q => by
  obtain ⟨B, ρ, own, f, ρ', hB, es, e, k⟩ := q
  obtain ⟨⟨as, ρ1⟩, e1, e2⟩ := Option.bind_eq_some_iff.mp (show (ma ρ).bind _ = some (f, ρ') from e)
  refine ⟨B, ρ, own, as, ρ1, hB, es, e1, fun vs H1 own1 st1 es1 r1 => ?_⟩
  split at e2
  · rename_i t u eq
    cases eq
    obtain ⟨ρ2, e3, e4⟩ := Option.bind_eq_some_iff.mp e2
    obtain ⟨ρ3, e5, e6⟩ := Option.map_eq_some_iff.mp e4
    cases e6
    obtain ⟨h1, rfl⟩ := setSl_some e3
    obtain ⟨h2, rfl⟩ := setSl_some e5
    match vs, r1 with
    | [v, w], ⟨rv, rw', _⟩ =>
      have rv : RepT X.K H1 v t fun b => own1 b = some B := rv
      have rw' : RepT X.K H1 w u fun b => own1 b = some (B + 1) := rw'
      have hi' : i < σ.length := by rw [← es1.len]; exact h1
      have hj' : j < σ.length := by rw [← es1.len]; simpa using h2
      refine ⟨v, w, rfl, ?_⟩
      have s1 := es1.setSlot hB hi' rv
      have s2 := s1.setSlot (i := j) (j := B + 1) (by simpa using Nat.le_succ_of_le hB) (by simpa using hj') (rw'.relNe (by omega))
      refine k _ H1 _ (by simp) (fun m hm => ?_) ((st1.trans (rel_step (Nat.le_refl B) hi')).trans (rel_step (Nat.le_succ B) hj')) s2
      rw [pin_ne hpj m hm, pin_ne hpi m hm]
  · cases e2⟩
theorem ps_par3' {y z : Str} {a b c : Expr} {j l : Nat} {ma : MA} {px py pz pt : Pos} {kt k2 pt2} (hc : X.calm = true) (hN : X.N.Nodup) (hi : X.N[i]? = some x) (hj : X.N[j]? = some y) (hl : X.N[l]? = some z) (hij : i ≠ j) (hil : i ≠ l) (hjl : j ≠ l)
    (hx : X.env.scope.names.lookup x = some .local) (hy : X.env.scope.names.lookup y = some .local) (hz : X.env.scope.names.lookup z = some .local) (hpi : pin.contains i = false) (hpj : pin.contains j = false) (hpl : pin.contains l = false) (ha : PAr X [a, b, c] ma)
    (hw : swappedStores [.Tuple [.Name x px, .Name y py, .Name z pz] kt pt] (.Tuple [a, b, c] k2 pt2) X.env = pure (some [x, y, z]) := by rfl)
    (hs : swapsWithSole [.Tuple [.Name x px, .Name y py, .Name z pz] kt pt] (.Tuple [a, b, c] k2 pt2) pos.line X.env = pure false := by rfl) :
    PSt X pin (.Assign [.Tuple [.Name x px, .Name y py, .Name z pz] kt pt] (.Tuple [a, b, c] k2 pt2) pos) (sPar3 i j l ma) := ⟨(ps_par3 hc hN hi hj hl hij hil hjl hx hy hz ha.pa hw hs).of fun D σ H q => by
  obtain ⟨B, ρ, own, f, ρ', hB, es, e, k⟩ := q
  obtain ⟨⟨as, ρ1⟩, e1, e2⟩ := Option.bind_eq_some_iff.mp (show (ma ρ).bind _ = some (f, ρ') from e)
  refine ⟨B, ρ, own, as, ρ1, hB, es, e1, fun vs H1 own1 st1 es1 r1 => ?_⟩
  split at e2
  · rename_i t u t3 eq
    cases eq
    obtain ⟨ρ2, e3, e4⟩ := Option.bind_eq_some_iff.mp e2
    obtain ⟨ρ3, e5, e6⟩ := Option.bind_eq_some_iff.mp e4
    obtain ⟨ρ4, e7, e8⟩ := Option.map_eq_some_iff.mp e6
    cases e8
    obtain ⟨h1, rfl⟩ := setSl_some e3
    obtain ⟨h2, rfl⟩ := setSl_some e5
    obtain ⟨h3, rfl⟩ := setSl_some e7
    match vs, r1 with
    | [v, w, w3], ⟨rv, rw', rw3, _⟩ =>
      have rv : RepT X.K H1 v t fun b => own1 b = some B := rv
      have rw' : RepT X.K H1 w u fun b => own1 b = some (B + 1) := rw'
      have rw3 : RepT X.K H1 w3 t3 fun b => own1 b = some (B + 1 + 1) := rw3
      have hi' : i < σ.length := by rw [← es1.len]; exact h1
      have hj' : j < σ.length := by rw [← es1.len]; simpa using h2
      have hl' : l < σ.length := by rw [← es1.len]; simpa using h3
      refine ⟨v, w, w3, rfl, ?_⟩
      have s1 := es1.setSlot hB hi' rv
      have s2 := s1.setSlot (i := j) (j := B + 1) (by simp; omega) (by simpa using hj') (rw'.relNe (by omega))
      have s3 := s2.setSlot (i := l) (j := B + 2) (by simp; omega) (by simpa using hl') ((rw3.relNe (by omega)).relNe (by omega))
      refine k _ H1 _ (by simp) (fun m hm => ?_) (((st1.trans (rel_step (Nat.le_refl B) hi')).trans (rel_step (Nat.le_succ B) hj')).trans (rel_step (by omega) hl')) s3
      rw [pin_ne hpl m hm, pin_ne hpj m hm, pin_ne hpi m hm]
  · cases e2⟩
end
end VL

set_option Elab.async false
set_option linter.all false
set_option maxRecDepth 100000
set_option maxHeartbeats 4000000
namespace VL
open PySem PySem.Spec PyProof.Rows L2
/-- the abstract heap a law starts with: the script alone, as a list that never changes -/
def scr (K : Fr) (a : Addr) (o : Obj) (xs : List V) : Hp := fun b => if b = a ∧ K.lookup a = none then some (.frz o (.lst xs)) else none
theorem scr_some {K : Fr} {a b : Addr} {o : Obj} {xs : List V} {u : HO} (h : scr K a o xs b = some u) : b = a ∧ K.lookup a = none ∧ u = .frz o (.lst xs) := by
  unfold scr at h
  by_cases c : b = a ∧ K.lookup a = none
  · rw [if_pos c] at h; cases h; exact ⟨c.1, c.2, rfl⟩
  · rw [if_neg c] at h; cases h
/-- the law's call, where the law's def keeps a promise with room for repr too -/
theorem law_callV {P : Program} {w : World} {K : Fr} {mg mb : Str → Option Value} {k : Nat} {fa a : Addr} {fd : FuncData} {x : Str} {sp : Sp} {s : Shared} {vs : List Value} {ns : List Int}
    (hr : RoomG k callerA) (KX : K.In s.heap) (glob : s.heap.Ns mainGlobals mg) (blt : s.heap.Ns builtinsNs mb) (boot : ∀ x : Str, x ≠ "__name__" → mb x = bootBuiltins x) (lim : s.heap.NoLimit) (gens : s.gens = #[])
    (at_ : s.heap.get? a = some { cls := .type "list", data := .seq vs.toArray }) (inn : IntsAre vs ns) (len : ns.length ≤ sizeLine) (bind : ∀ (s : Shared) (u : Value), BindsTo s fd ⟨[u], []⟩ [(x, u)])
    (F : ∀ base : Heap, FnG P w K mg base CX0 k fa fd [x] sp) (says : ∀ H : Hp, FzL K H a (ns.map V.int) → sp [.ref a] H (fun v _ => v = .bl true) fun _ _ _ => False) :
    codeAny (model P w) callerA (.call (.ref fa) ⟨[.ref a], []⟩) (fun r s' => r = .ok (.ret (.bool true)) ∧ OldK s.heap s'.heap ∧ s'.os = s.os ∧ AllBare s'.gens) s := by
  have rel : Vals (ns.map V.int) vs := vals_ints inn
  let H := scr K a { cls := .type "list", data := .seq vs.toArray } (ns.map V.int)
  have ok : HOk P w H s.heap := fun b u e => by
    obtain ⟨rfl, _, rfl⟩ := scr_some e
    exact ⟨at_, by rw [List.length_map]; exact len, vs, _, rel, at_⟩
  have fz : FzL K H a (ns.map V.int) := by
    cases q : K.lookup a with
    | none => exact .inl ⟨_, if_pos ⟨rfl, q⟩⟩
    | some o =>
      have e := KX a o q
      rw [at_] at e
      cases e
      exact .inr ⟨_, vs.toArray, _, q, rfl, rfl, rfl, by rw [List.size_toArray, inn.length]; exact len, by simpa using rel⟩
  -- what is not the script stands in the base
  have there : ∀ {b : Addr} {o : Obj}, s.heap.get? b = some o → (b = a → K.lookup a = none → False) → (hidT s.heap H).get? b = some o := fun {b o} e n => hidT_get e (by
    cases q : H b with
    | none => rfl
    | some u =>
      obtain ⟨h1, h2, _⟩ := scr_some q
      exact (n h1 h2).elim)
  have names : ∀ {b : Addr} {m : Str → Option Value}, s.heap.Ns b m → (hidT s.heap H).Ns b m := fun {b m} ⟨o, es, ep, e, d, r⟩ => ⟨o, es, ep, there e (fun z _ => by
    subst z
    rw [at_] at e
    cases e
    cases (show Data.seq vs.toArray _ = Data.dict es ep from d)), d, r⟩
  have md : Mod K mg (hidT s.heap H) := ⟨fun b o e => there (KX b o e) fun z n => (by subst z; rw [e] at n; cases n), names glob, ⟨mb, names blt, boot⟩, let ⟨mc, h1, h2⟩ := lim; ⟨mc, names h1, h2⟩⟩
  have e0 : Env0 P w K mg (hidT s.heap H) callerA [] s H := { frames := rfl, mod := md, bs := fun b o e => of_hidT e, bsz := Nat.le_of_eq (hidT_size _ _), funs := trivial, frf := fun b hb => (List.not_mem_nil hb).elim, hok := ok, bare := .of_eq gens }
  refine codeAny_mono ((F _).run callerA [] s H ⟨[.ref a], []⟩ [.ref a] [.ref a] _ _ hr e0 (bind s (.ref a)) (.cons rfl .nil) (says H fz)) fun r s' h => ?_
  cases r with
  | error e => exact False.elim h
  | ok fl =>
    cases fl with
    | ret u =>
      obtain ⟨v, H', os, bare, un, ok', rv, e⟩ := h
      cases (show v = .bl true from e)
      cases (show u = Value.bool true from rv)
      refine ⟨rfl, OldK.of_keep fun b o e => ?_, os, bare⟩
      cases q : H b with
      | none => exact un.keep b o e q (fun z => (List.not_mem_nil z).elim) (List.not_mem_nil)
      | some u =>
        obtain ⟨rfl, hk, rfl⟩ := scr_some q
        have q2 := un.frzs b _ _ q
        rw [at_] at e
        cases e
        exact (ok' b _ q2).1
    | next => exact False.elim h
    | brk => exact False.elim h
    | cont => exact False.elim h
theorem fz_ints {K : Fr} {H : Hp} {a : Addr} {ns : List Int} (h : FzL K H a (ns.map V.int)) : Fz K H (.ref a) (.list (ns.map .int)) := .lst h (FzA.ints ns)
/-- what the law's def must answer: True for every list of ints -/
def LawTrue (n : Nat) (m : MD) : Prop := ∀ ns : List Int, ns.length ≤ n → ∃ ts, m [.z (.list (ns.map .int))] = some (.z (.bool true), ts)
theorem walk_V {l : PySem.W.OpenLaw} {n k : Nat} {q : Program} {loose : List Str} {XP : (Str → Option Value) → Heap → Prop} {YP : World → Heap → Prop} {d : DefRec} {x : Str} {m : MD}
    (hn : l.most = some n) (hn2 : n ≤ sizeLine) (hdf : d.params.defaults = []) (hr : RoomG k callerA) (hm : LawTrue n m)
    (F : ∀ (w : World) (mg : Str → Option Value) (fa : Addr) (h : Heap), YP w h → h.Ns mainGlobals mg → mg d.name = some (.ref fa) →
      ∃ (K : Fr) (fd : FuncData), K.In h ∧ (∀ (s : Shared) (u : Value), BindsTo s fd ⟨[u], []⟩ [(x, u)]) ∧ ∀ base : Heap, FnG l.prog w K mg base CX0 k fa fd [x] (spD K m)) :
    PySem.W.WalkO q loose XP YP l.row.toRowW d [] (fun f vs => PySem.call f vs) := by
  refine Att.attach_call hn hdf fun w s₀ s₁ mg mb fa o pm cd doc a vs ns G Y ho hd hcd hmg hobj hints hlen hg => ?_
  obtain ⟨K, fd, KX, hb, hF⟩ := F w mg fa _ Y G.T.g hmg
  refine law_callV hr KX G.T.g G.T.b G.T.builtins G.T.nolimit hg hobj hints (Nat.le_trans hlen hn2) hb hF fun H fz => ?_
  obtain ⟨ts, e⟩ := hm ns hlen
  refine ⟨[.z (.list (ns.map .int))], fun _ => none, _, ts, ⟨rfl, fun i t e => ?_⟩, e, fun v H' own' _ _ r => ?_⟩
  · cases i with
    | zero => cases e; exact ⟨_, rfl, fz_ints fz⟩
    | succ i => simp at e
  · have r' : Fz K H' v (.bool true) := r
    cases r'; rfl
end VL

set_option Elab.async false
set_option linter.all false
set_option maxRecDepth 100000
set_option maxHeartbeats 4000000
namespace VL
open PySem PySem.Spec PyProof.Rows L2
/-! ### rules with their small premises found by themselves -/
theorem RoomG.u {k : Nat} {A : Around} (r : RoomG k A) : A.units + 65 < cLine := by have := r.rm.un; omega
theorem RoomG.u' {k : Nat} {A : Around} (r : RoomG k A) : A.units + 64 < cLine := by have := r.rm.un; omega
theorem oth {n i : Nat} {vs : List Nat} (h : vs.contains i = true) : (others n vs).contains i = false := by
  cases q : (others n vs).contains i with
  | false => rfl
  | true =>
    have := List.contains_iff_mem.mp q
    unfold others at this
    have := (List.mem_filter.mp this).2
    rw [h] at this
    cases this
section
variable {X : Cx} {pin : List Nat} {x : Str} {pos pos' : Pos} {e : Expr} {p : ME}
theorem pgn (i : Nat) (nd : X.N.Nodup) (hi : X.N[i]? = some x := by rfl) (hx : Loc X.env.scope x := by first | exact Or.inl rfl | exact Or.inr rfl) (hf : X.fn x = true ∨ X.env.scope.names.lookup x = some .local := by first | exact .inl rfl | exact .inr rfl) : PG X (.Name x pos) (gName i) := pg_name nd hi hx hf
theorem st_set (i : Nat) (nd : X.N.Nodup) (he : PX X e p) (hi : X.N[i]? = some x := by rfl) (hx : Loc X.env.scope x := by first | exact Or.inl rfl | exact Or.inr rfl) (hsw : swapsWith e (some (.Name x pos')) pos.line X.env = pure false := by rfl)
    (hf : X.fn x = true ∨ X.env.scope.names.lookup x = some .local := by first | exact .inl rfl | exact .inr rfl) (hp : pin.contains i = false := by rfl) : PSt X pin (.Assign [.Name x pos'] e pos) (sSet i p) := ps_set' (fun t ht => ps_set nd hi hx ht hsw hf) hp he
theorem tg_n (i : Nat) (nd : X.N.Nodup) (hp : pin.contains i = false := by rfl) (hi : X.N[i]? = some x := by rfl) (hx : Loc X.env.scope x := by first | exact Or.inl rfl | exact Or.inr rfl) (hf : X.fn x = true ∨ X.env.scope.names.lookup x = some .local := by first | exact .inl rfl | exact .inr rfl) : PTg X pin (.Name x pos) (gN i) := ptg_n (pg_name nd hi hx hf) hp
theorem th_n (i : Nat) (nd : X.N.Nodup) (hp : pin.contains i = false := by rfl) (hi : X.N[i]? = some x := by rfl) (hx : Loc X.env.scope x := by first | exact Or.inl rfl | exact Or.inr rfl) (hf : X.fn x = true ∨ X.env.scope.names.lookup x = some .local := by first | exact .inl rfl | exact .inr rfl) : PTh X pin (.Name x pos) (gN i) := pth_n (pg_name nd hi hx hf) hp
theorem st_par {y : Str} {a b : Expr} (i j : Nat) {ma : MA} {px py pt : Pos} {kt k2 pt2} (nd : X.N.Nodup) (ha : PAr X [a, b] ma) (hc : X.calm = true := by rfl) (hi : X.N[i]? = some x := by rfl) (hj : X.N[j]? = some y := by rfl) (hij : i ≠ j := by decide)
    (hx : X.env.scope.names.lookup x = some .local := by rfl) (hy : X.env.scope.names.lookup y = some .local := by rfl) (hpi : pin.contains i = false := by rfl) (hpj : pin.contains j = false := by rfl)
    (hw : swappedStores [.Tuple [.Name x px, .Name y py] kt pt] (.Tuple [a, b] k2 pt2) X.env = pure (some [x, y]) := by rfl)
    (hs : swapsWithSole [.Tuple [.Name x px, .Name y py] kt pt] (.Tuple [a, b] k2 pt2) pos.line X.env = pure false := by rfl) :
    PSt X pin (.Assign [.Tuple [.Name x px, .Name y py] kt pt] (.Tuple [a, b] k2 pt2) pos) (sPar i j ma) := ps_par' hc nd hi hj hij hx hy hpi hpj ha hw hs
theorem st_par3 {y z : Str} {a b c : Expr} (i j l : Nat) {ma : MA} {px py pz pt : Pos} {kt k2 pt2} (nd : X.N.Nodup) (ha : PAr X [a, b, c] ma) (hc : X.calm = true := by rfl) (hi : X.N[i]? = some x := by rfl) (hj : X.N[j]? = some y := by rfl) (hl : X.N[l]? = some z := by rfl) (hij : i ≠ j := by decide) (hil : i ≠ l := by decide) (hjl : j ≠ l := by decide)
    (hx : X.env.scope.names.lookup x = some .local := by rfl) (hy : X.env.scope.names.lookup y = some .local := by rfl) (hz : X.env.scope.names.lookup z = some .local := by rfl) (hpi : pin.contains i = false := by rfl) (hpj : pin.contains j = false := by rfl) (hpl : pin.contains l = false := by rfl)
    (hw : swappedStores [.Tuple [.Name x px, .Name y py, .Name z pz] kt pt] (.Tuple [a, b, c] k2 pt2) X.env = pure (some [x, y, z]) := by rfl)
    (hs : swapsWithSole [.Tuple [.Name x px, .Name y py, .Name z pz] kt pt] (.Tuple [a, b, c] k2 pt2) pos.line X.env = pure false := by rfl) :
    PSt X pin (.Assign [.Tuple [.Name x px, .Name y py, .Name z pz] kt pt] (.Tuple [a, b, c] k2 pt2) pos) (sPar3 i j l ma) := ps_par3' hc nd hi hj hl hij hil hjl hx hy hz hpi hpj hpl ha hw hs
theorem st_lc {elt tg iter : Expr} {ifs : List Expr} {scope : Scope} {mi : MI} {mg : MG} {mt : MB} {me : ME} {py spos : Pos} {y : Str} {vs : List Nat} (ow : List (Str × Nat)) (i : Nat) (nd : X.N.Nodup) (hi : PIt X tg iter mi) (ok : BlkOk X.N X.env.scope scope ow)
    (hg : ∀ (n : Nat) (s : Shared) (H : Hp) (C : Addr) (cl : List (Str × Addr)) (fp : List Addr), PTg (X.blk s H scope (compEnvC scope cl C X.env) fp) (others n vs) tg mg)
    (ht : ∀ (s : Shared) (H : Hp) (C : Addr) (cl : List (Str × Addr)) (fp : List Addr), PTs' (X.blk s H scope (compEnvC scope cl C X.env) fp) ifs mt)
    (he : ∀ (s : Shared) (H : Hp) (C : Addr) (cl : List (Str × Addr)) (fp : List Addr), PX (X.blk s H scope (compEnvC scope cl C X.env) fp) elt me) (hv : ow.map (·.2) = vs := by rfl)
    (hc : X.calm = true := by rfl) (hy : X.N[i]? = some y := by rfl) (hyl : X.env.scope.names.lookup y = some .local := by rfl)
    (hsw : swapsWith (.ListComp elt [⟨tg, iter, ifs, 0⟩] scope pos) (some (.Name y py)) spos.line X.env = pure true := by rfl) (hpin : pin.contains i = false := by rfl) (hs : ∀ x, foldedSetIterable iter X.env x = pure x := by intro _; rfl) :
    PSt X pin (.Assign [.Name y py] (.ListComp elt [⟨tg, iter, ifs, 0⟩] scope pos) spos) (sSet i (mLC mi mg mt me vs)) := by
  subst hv
  exact ps_lc hc nd hy hyl hsw hpin hi ok hg ht he hs
theorem px_lc' {elt tg iter : Expr} {ifs : List Expr} {scope : Scope} {mi : MI} {mg : MG} {mt : MB} {me : ME} {vs : List Nat} (ow : List (Str × Nat)) (nd : X.N.Nodup) (hi : PIt X tg iter mi) (ok : BlkOk X.N X.env.scope scope ow)
    (hg : ∀ (n : Nat) (s : Shared) (H : Hp) (C : Addr) (cl : List (Str × Addr)) (fp : List Addr), PTg (X.blk s H scope (compEnvC scope cl C X.env) fp) (others n vs) tg mg)
    (ht : ∀ (s : Shared) (H : Hp) (C : Addr) (cl : List (Str × Addr)) (fp : List Addr), PTs' (X.blk s H scope (compEnvC scope cl C X.env) fp) ifs mt)
    (he : ∀ (s : Shared) (H : Hp) (C : Addr) (cl : List (Str × Addr)) (fp : List Addr), PX (X.blk s H scope (compEnvC scope cl C X.env) fp) elt me) (hv : ow.map (·.2) = vs := by rfl)
    (hc : X.calm = true := by rfl) (hs : ∀ x, foldedSetIterable iter X.env x = pure x := by intro _; rfl) :
    PX X (.ListComp elt [⟨tg, iter, ifs, 0⟩] scope pos) (mLC mi mg mt me vs) := by
  subst hv
  exact px_lc hc nd hi ok hg ht he hs
end
/-! ### keywords -/
def gk (n m : Nat) (perm : List Nat) {α : Type} (us ws : List α) : List α := if us.length = n ∧ ws.length = m then perm.filterMap fun i => (us ++ ws)[i]? else []
theorem vals_pick {vs : List V} {us : List Value} (r : Vals vs us) : ∀ perm : List Nat, Vals (perm.filterMap fun i => vs[i]?) (perm.filterMap fun i => us[i]?)
  | [] => .nil
  | i :: perm => by
    rw [List.filterMap_cons, List.filterMap_cons]
    cases e : vs[i]? with
    | none =>
      have e2 : us[i]? = none := by rw [List.getElem?_eq_none_iff, ← r.length]; exact List.getElem?_eq_none_iff.mp e
      rw [e2]
      exact vals_pick r perm
    | some v =>
      obtain ⟨u, e2, q⟩ := r.get e
      rw [e2]
      exact .cons q (vals_pick r perm)
theorem fza_pick {K : Fr} {H : Hp} {vs : List V} {us : List D} (r : FzA K H vs us) : ∀ perm : List Nat, FzA K H (perm.filterMap fun i => vs[i]?) (perm.filterMap fun i => us[i]?)
  | [] => .nil
  | i :: perm => by
    rw [List.filterMap_cons, List.filterMap_cons]
    cases e : vs[i]? with
    | none =>
      have e2 : us[i]? = none := by rw [List.getElem?_eq_none_iff, ← r.length]; exact List.getElem?_eq_none_iff.mp e
      rw [e2]
      exact fza_pick r perm
    | some v =>
      obtain ⟨u, e2, q⟩ := r.getV i e
      rw [e2]
      exact .cons q (fza_pick r perm)
theorem gk_vals {n m : Nat} {perm : List Nat} {vs zs : List V} {us ws : List Value} (r : Vals vs us) (q : Vals zs ws) : Vals (gk n m perm vs zs) (gk n m perm us ws) := by
  unfold gk
  rw [r.length, q.length]
  by_cases h : us.length = n ∧ ws.length = m
  · rw [if_pos h, if_pos h]; exact vals_pick (r.append q) perm
  · rw [if_neg h, if_neg h]; exact .nil
theorem gk_fz {n m : Nat} {perm : List Nat} {K : Fr} {H : Hp} {vs zs : List V} {us ws : List D} (r : FzA K H vs us) (q : FzA K H zs ws) : FzA K H (gk n m perm vs zs) (gk n m perm us ws) := by
  unfold gk
  rw [r.length, q.length]
  by_cases h : us.length = n ∧ ws.length = m
  · rw [if_pos h, if_pos h]; exact fza_pick (r.append q) perm
  · rw [if_neg h, if_neg h]; exact .nil
theorem kb_of {K : Fr} {x qual : Str} {params : Arguments} {body : List Stmt} {scope : Scope} {f : Addr} {fd : FuncData} {ps ks : List Str} (F : FunD K x qual params body scope [] [] f fd) (n m : Nat) (perm : List Nat) (hp : ps.length ≠ 0)
    (h : ∀ (kV doc pm : Value) (an : Option Addr) (cdv ct : Value) (us ws : List Value), us.length = n → ws.length = m → bindArgs (PySem.W.fnOf x qual params body scope .none kV doc pm an cdv ct) ⟨us, ks.zip ws⟩ = pure (ps.zip (gk n m perm us ws))) : KBinds K fd ps ks (gk n m perm) (gk n m perm) := by
  obtain ⟨oc, od, dV, kV, doc, pm, an, cdv, ct, osl, rfl, lk, hcd, hD, hK⟩ := F.ex
  rcases hD with ⟨_, rfl⟩ | ⟨e, _⟩
  · refine ⟨fun s us ws _ hl => ?_, fun r q => gk_vals r q⟩
    have hh : us.length = n ∧ ws.length = m := Classical.byContradiction fun z => by
      unfold gk at hl
      rw [if_neg z] at hl
      exact hp hl.symm
    exact .of_eq (h kV doc pm an cdv ct us ws hh.1 hh.2)
  · exact absurd rfl e
/-! ### what the top's facts give -/
/-- names of the module that stand for built-in functions (from math import gcd) -/
def bltB (K : Fr) (l : List (Str × Value)) : Bool := l.all fun p => decide (PySem.W.nsIn K mainGlobals p.1 = some (some p.2))
abbrev AlV : Type := He.AlD × Bool
def obsV (n : Nat) (fa : List He.Fa) (fn : List He.DefD) (bl : List (Str × Value)) (g : Addr → Option Obj) : AlV := (He.obsDG n fa fn g, bltB (He.frG g (He.asD g n)) bl)
def hookV (n : Nat) (fa : List He.Fa) (fn : List He.DefD) (bl : List (Str × Value)) : PySem.W.Hook where
  α := AlV
  obs := fun s => obsV n fa fn bl s.heap.get?
  val := fun _ => (He.valD fn, true)
  says := fun _ h => ∃ K : Fr, K.In h ∧ He.SaysD fa fn K ∧ bltB K bl = true
  of := fun _ _ e => ⟨_, He.frG_in, congrArg Prod.fst e, congrArg Prod.snd e⟩
  keeps := fun _ _ _ ⟨K, hK, c⟩ k => ⟨K, PySem.W.Frag.In.keeps hK k, c⟩
theorem obsV_eq {n : Nat} {fa : List He.Fa} {fn : List He.DefD} {bl : List (Str × Value)} {g : Addr → Option Obj} {s : Shared} (h : ∀ a, g a = s.heap.get? a) : obsV n fa fn bl g = (hookV n fa fn bl).obs s := by
  have e : g = s.heap.get? := funext h
  rw [e]; rfl
structure Gd (fa : List He.Fa) (fn : List He.DefD) (bl : List (Str × Value)) (K : Fr) (mg : Str → Option Value) : Prop where
  ex : ∃ h : Heap, K.In h ∧ h.Ns mainGlobals mg
  c : He.SaysD fa fn K
  b : bltB K bl = true
section
variable {fa : List He.Fa} {fn : List He.DefD} {bl : List (Str × Value)} {K : Fr} {mg : Str → Option Value} (g : Gd fa fn bl K mg)
include g
theorem Gd.free (i : Nat) {x : Str} (h : fa[i]? = some (.free x) := by rfl) : mg x = none := by
  obtain ⟨_, X, G⟩ := g.ex
  exact He.free_ok X G (g.c.fact i h)
theorem Gd.int (i : Nat) {x : Str} {n : Int} (h : fa[i]? = some (.int x n) := by rfl) : ∃ t, mg x = some (.int n t) := by
  obtain ⟨_, X, G⟩ := g.ex
  exact He.int_ok X G (g.c.fact i h)
theorem Gd.str (i : Nat) {x z : Str} (h : fa[i]? = some (.str x z) := by rfl) : ∃ t, mg x = some (.str z t) := by
  obtain ⟨_, X, G⟩ := g.ex
  exact He.str_ok X G (g.c.fact i h)
theorem Gd.glo (i : Nat) {x : Str} (h : fa[i]? = some (.glo x) := by rfl) : mg x = some (.ref (He.ga K x)) := by
  obtain ⟨_, X, G⟩ := g.ex
  exact He.glo_ok X G (g.c.fact i h)
theorem Gd.blt (i : Nat) {x : Str} {v : Value} (h : bl[i]? = some (x, v) := by rfl) : mg x = some v := by
  obtain ⟨_, X, G⟩ := g.ex
  exact PySem.W.mg_of X G (of_decide_eq_true (List.all_eq_true.mp g.b (x, v) (List.mem_of_getElem? h)))
end
/-- f(e, ..), f a module's name of a built-in function -/
theorem px_cf {X : Cx} {x : Str} {id : String} {es : List Expr} {e : Expr} {g : List D → Option T} {ms : MA} {p pos : Pos} (hc : CallD X (.builtin id) g) (hg : Gl X x) (hm : X.mg x = some (.builtin id)) (ha : PAr X (e :: es) ms) (hdb : (x == ("__debug__" : Str)) = false := by decide)
    (he : starEach (e :: es) X.env = (false, eval e X.env) :: starEach es X.env := by rfl) (hpl : (backTo pos (starEach es X.env)).any (·.1) = false := by rfl) : PX X (.Call (.Name x p) (e :: es) [] pos) (mCB g ms) :=
  ⟨(pe_callBfun hc hg hm ha.pa hdb he hpl).of fun σ H Q q => tE_cb (fun _ _ _ h => h) q⟩
end VL

set_option Elab.async false
set_option linter.all false
set_option maxRecDepth 100000
set_option maxHeartbeats 4000000
/-! VX1: x[::-1] of a list or a tuple -/
namespace VL
open PySem PySem.Spec PyProof.Rows L2
section
variable {prog : Program} {w : World} {A : Around} {E : Value → Shared → Prop} {s : Shared}
theorem places_back (n : Nat) : Builtin.Slice.slicePlaces ((n : Int) - 1) (-1) (-1) = n := by
  unfold Builtin.Slice.slicePlaces
  have c : ¬ ((-1 : Int) > 0) := by decide
  simp only [c, if_false, show (- -1 : Int) = 1 by decide, Int.ediv_one]
  split <;> omega
theorem adjust_back (n : Nat) : Builtin.Slice.sliceAdjust none none (-1) (n : Int) = ((n : Int) - 1, -1) := by
  unfold Builtin.Slice.sliceAdjust
  simp
theorem pick_back (xs : Array Value) : (List.range xs.size).filterMap (fun m : Nat => xs[((xs.size : Int) - 1 + (m : Int) * (-1)).toNat]?) = xs.toList.reverse := by
  have e1 : (List.range xs.size).filterMap (fun m : Nat => xs[((xs.size : Int) - 1 + (m : Int) * (-1)).toNat]?) = (List.range xs.size).filterMap (fun m : Nat => xs[xs.size - 1 - m]?) := by
    have f : (fun m : Nat => xs[((xs.size : Int) - 1 + (m : Int) * (-1)).toNat]?) = fun m : Nat => xs[xs.size - 1 - m]? := by
      funext m
      rw [show ((xs.size : Int) - 1 + (m : Int) * (-1)).toNat = xs.size - 1 - m by omega]
    rw [f]
  rw [e1]
  have e2 : (List.range xs.size).filterMap (fun m : Nat => xs[xs.size - 1 - m]?) = ((List.range xs.size).map fun k => xs.size - 1 - k).filterMap (xs[·]?) := by rw [List.filterMap_map]; rfl
  rw [e2, PySem.W.krv_range, List.filterMap_reverse, PySem.W.krv_all]
/-- what a slice by steps of -1 is applied as -/
theorem applied_back {sl : Addr} {vl vu vs : Value} {n : Nat} {Q : Int × Int × Nat → Shared → Prop} (hs : s.heap.IsSliceOf sl vl vu vs) (pl : IsPart vl none) (pu : IsPart vu none) (ps : IsPart vs (some (-1)))
    (h : Q ((n : Int) - 1, -1, n) s) : wpAny (model prog w) A (Builtin.Slice.sliceApplied (.ref sl) (pure (n : Int))) Q E s := by
  obtain ⟨o, ho, hcl, hdt⟩ := id hs
  unfold Builtin.Slice.sliceApplied Builtin.Slice.sliceFields
  refine wpAny_bind (wpAny_bind (wpAny_field ho hdt (x := vl) rfl ?_))
  refine wpAny_bind (wpAny_field ho hdt (x := vu) rfl ?_)
  refine wpAny_bind (wpAny_field ho hdt (x := vs) rfl (wpAny_pure ?_))
  refine wpAny_bind (HT.slicePart_ ps ?_)
  show wpAny _ _ (if ((-1 : Int) == 0) = true then _ else _) _ _ s
  rw [if_neg (by decide)]
  refine wpAny_bind (HT.slicePart_ pl ?_)
  refine wpAny_bind (HT.slicePart_ pu ?_)
  refine wpAny_bind (wpAny_pure ?_)
  show wpAny _ _ (match Builtin.Slice.sliceAdjust none none (-1) (n : Int) with | (lo, hi) => pure (lo, (-1 : Int), Builtin.Slice.slicePlaces lo hi (-1))) _ _ s
  rw [adjust_back]
  show wpAny _ _ (pure ((n : Int) - 1, (-1 : Int), Builtin.Slice.slicePlaces ((n : Int) - 1) (-1) (-1))) _ _ s
  rw [places_back]
  exact wpAny_pure h
theorem tup_back {t sl : Addr} {items : Array Value} {vl vu vs : Value} {Q : Value → Shared → Prop} (ht : IsTup s.heap t items) (hs : s.heap.IsSliceOf sl vl vu vs) (pl : IsPart vl none) (pu : IsPart vu none) (ps : IsPart vs (some (-1))) (hz : items.size ≤ sizeLine)
    (h : Q (.ref s.heap.objs.size) { s with heap := s.heap.push { cls := .type "tuple", data := .seq items.toList.reverse.toArray } }) : wpAny (model prog w) A (getItem (.ref t) (.ref sl)) Q E s := by
  have fits : sizeOk (.seq items.toList.reverse.toArray) := by
    show items.toList.reverse.toArray.size ≤ sizeLine
    rw [List.size_toArray, List.length_reverse, Array.length_toList]
    exact hz
  have isSl : s.TypeIs (.ref sl) "slice" := let ⟨o, ho, hc, _⟩ := hs; ⟨o, ho, hc⟩
  unfold getItem
  try with_reducible refine wpAny_holding ?_
  first | refine wpAny_bind (wpAny_pure ?_) | skip
  refine wpAny_bind (wpAny_sequenceKey ht.typeIs (by decide) ?_)
  refine wpAny_bind (wpAny_callSpecial?_slot (name := Str.ofString "__getitem__") ht.typeIs PyProof.Rows.slot_tuple_getitem ?_)
  refine wpAny_call_entry PyProof.Rows.slot_tuple_getitem ht.typeIs entry_tuple_getitem ?_ (args_tuple_getitem _ _)
  show wpAny _ _ (Builtin.Tuple.tupleItemsOf (.ref t) >>= _) _ _ s
  refine wpAny_bind (tupleItemsOf_ ht (wpAny_bind (wpAny_typeOf isSl ?_)))
  rw [if_pos (by decide)]
  refine wpAny_bind (applied_back hs pl pu ps ?_)
  show wpAny _ _ (if (((items.size : Int) - 1) == 0 && ((-1 : Int) == 1) && items.size == items.size) = true then _ else _) _ _ s
  rw [if_neg (by simp), pick_back]
  first
    | exact wpAny_bind (m := Builtin.Tuple.tupleExact _) (wpAny_newObj_type (wpAny_pure ⟨_, rfl, wpAny_pure h⟩) fits)
    | exact wpAny_bind (wpAny_bind (m := Builtin.Tuple.tupleExact _) (wpAny_newObj_type (wpAny_pure (wpAny_pure ⟨_, rfl, wpAny_pure h⟩)) fits))
end
def gRev : D → Option T
  | .list a => some (.l a.reverse)
  | .tuple a => some (.z (.tuple a.reverse))
  | _ => none
def mRev (m : MO) : ME := fun ρ => (m ρ).bind fun p => (p.1.get p.2).bind fun t => (gRev t.data).map fun r => (r, p.2)
section
variable {X : Cx} {e : Expr} {m : MO} {k : Nat} {p1 p2 p3 pos : Pos}
def tRev (K : Fr) (te : TE) : TE := fun σ H Q => te σ H fun x H1 => ∃ d t, Rp K H1 x d ∧ gRev d = some t ∧ ∀ v H', Fresh K H1 H' v t → Q v H'
theorem pe_rev {te : TE} (he : PE X e te) : PE X (.Subscript e (.Slice none none (some (.UnaryOp .USub (.Constant (.int 1) k p1) p2)) p3) pos) (tRev X.K te) := by
  refine ⟨fun pins s σ H Q I h => Subscript_ (thn (he.run pins s σ H _ I h) fun v s1 ⟨x, H1, I1, r1, d, t, rd, eg, q⟩ => ?_)⟩
  have step : L2.PO X (some (.UnaryOp .USub (.Constant (.int 1) k p1) p2)) (tPart (tUn (rU fun i => .int (-i)) (tC (.int 1)))) := po_some (pe_un un_neg pe_int)
  refine wpAny_Slice (thn (po_none.run pins s1 σ H1 (fun o H2 => o = none ∧ H2 = H1) I1 ⟨rfl, rfl⟩) fun vl s2 ⟨l, H2, I2, pl, hl, hh⟩ => ?_)
  cases hl; cases hh
  refine thn (po_none.run pins s2 σ H1 (fun o H3 => o = none ∧ H3 = H1) I2 ⟨rfl, rfl⟩) fun vu s3 ⟨u, H3, I3, pu, hu, hh⟩ => ?_
  cases hu; cases hh
  refine thn (step.run pins s3 σ H1 (fun o H4 => o = some (-1) ∧ H4 = H1) I3 ⟨1, rfl, -1, rfl, rfl, rfl⟩) fun vs s4 ⟨o, H4, I4, ps, ho, hh⟩ => ?_
  cases ho; cases hh
  have I5 : Inv X pins σ H1 { s4 with heap := s4.heap.push { cls := .type "slice", data := .fields #[vl, vu, vs] } } := I4.kept (t' := s4.toks) fun b ob q => Heap.get?_push_of_some _ q
  show wpAny (model X.prog X.w) X.A (subscriptTail e (.Slice none none (some (.UnaryOp .USub (.Constant (.int 1) k p1) p2)) p3) v (.ref s4.heap.objs.size)) (EP X pins σ Q) X.xe { s4 with heap := s4.heap.push { cls := .type "slice", data := .fields #[vl, vu, vs] } }
  unfold gRev at eg
  split at eg
  · cases eg
    obtain ⟨a, xs, rfl, hx, f⟩ := rd.list
    cases r1
    obtain ⟨its, r, ht, hz⟩ := I5.list hx
    have len := r.length
    refine tail_any (ops := [.ref a, .ref s4.heap.objs.size]) ht.isList.typeIs (PySem.slot_list_getitem.lookup) ?_ (by with_unfolding_all rfl)
    refine wpAny_getItem_list_slice ht.isList (Heap.IsSliceOf.new _ vl vu vs) pl pu ps (by decide) ?_ (by rw [List.size_toArray]; omega)
    rw [PySem.W.krv_pick]
    have nw : ObjOk X.prog X.w (upd H1 (s4.heap.push { cls := .type "slice", data := .fields #[vl, vu, vs] }).objs.size (.lst xs.reverse)) ((s4.heap.push { cls := .type "slice", data := .fields #[vl, vu, vs] }).push { cls := .type "list", data := .seq its.reverse.toArray }) (s4.heap.push { cls := .type "slice", data := .fields #[vl, vu, vs] }).objs.size (.lst xs.reverse) :=
      ⟨by rw [List.length_reverse]; exact hz, _, 0, r.reverse, Heap.get?_push_size _ rfl⟩
    exact ⟨.ref _, _, I5.laid (t' := s4.toks) (o := .lst xs.reverse) (fun b ob q => Heap.get?_push_of_some _ q) (Nat.le_refl _) nw, rfl, q _ _ (.lst (I5.hok.fresh (Nat.le_refl _)) f.reverse)⟩
  · cases eg
    obtain ⟨a, xs, rfl, hx, f⟩ := rd.tuple
    cases r1
    obtain ⟨its, r, ht, hz⟩ := I5.tuple hx
    have len := r.length
    refine tail_any (ops := [.ref a, .ref s4.heap.objs.size]) ht.typeIs PyProof.Rows.slot_tuple_getitem.lookup ?_ (by with_unfolding_all rfl)
    refine tup_back ht (Heap.IsSliceOf.new _ vl vu vs) pl pu ps (by rw [List.size_toArray]; omega) ?_
    refine ⟨.ref _, _, I5.laid (t' := s4.toks) (o := .tup xs.reverse) (fun b ob q => Heap.get?_push_of_some _ q) (Nat.le_refl _) ?_, rfl, q _ _ (.tup (I5.hok.fresh (Nat.le_refl _)) f.reverse)⟩
    exact ⟨by rw [List.length_reverse]; exact hz, _, r.reverse, IsTup.new _ _⟩
  · cases eg
theorem px_rev (ha : PO X e m) : PX X (.Subscript e (.Slice none none (some (.UnaryOp .USub (.Constant (.int 1) k p1) p2)) p3) pos) (mRev m) := ⟨(pe_rev ha.pe).of fun σ H Q q => by
  obtain ⟨B, ρ, own, t, ρ', hB, es, e, k⟩ := q
  obtain ⟨⟨a, ρ1⟩, e1, e2⟩ := Option.bind_eq_some_iff.mp (show (m ρ).bind _ = some (t, ρ') from e)
  obtain ⟨u, e3, e4⟩ := Option.bind_eq_some_iff.mp e2
  obtain ⟨w, e5, e6⟩ := Option.map_eq_some_iff.mp e4
  cases e6
  refine ⟨B, ρ, own, a, ρ1, hB, es, e1, fun v H1 own1 st1 es1 r1 => ?_⟩
  exact ⟨u.data, _, argRp es1 r1 e3, e5, fun v2 H2 f => k v2 H2 _ (st1.trans f.step) (f.es es1) f.rep'⟩⟩
end
end VL

set_option Elab.async false
set_option linter.all false
set_option maxRecDepth 100000
set_option maxHeartbeats 4000000
/-! VX2: max, min, in, sorted, extend -/
namespace VL
open PySem PySem.Spec PyProof.Rows L2
/-! ### in, not in -/
def gIn : D → D → Option T
  | d, .list xs => if PyData.canLay0 (.list xs) = true ∧ PyData.canLay0 d = true ∧ min (PyData.depthAll xs) d.depth ≤ 60 then bo (xs.any fun y => PyData.eqv y d) else none
  | d, .tuple xs => if PyData.canLay0 (.tuple xs) = true ∧ PyData.canLay0 d = true ∧ min (PyData.depthAll xs) d.depth ≤ 60 then bo (xs.any fun y => PyData.eqv y d) else none
  | _, _ => none
def gNin : D → D → Option T
  | d, .list xs => if PyData.canLay0 (.list xs) = true ∧ PyData.canLay0 d = true ∧ min (PyData.depthAll xs) d.depth ≤ 60 then bo (!xs.any fun y => PyData.eqv y d) else none
  | d, .tuple xs => if PyData.canLay0 (.tuple xs) = true ∧ PyData.canLay0 d = true ∧ min (PyData.depthAll xs) d.depth ≤ 60 then bo (!xs.any fun y => PyData.eqv y d) else none
  | _, _ => none
section
variable {X : Cx}
theorem od_in (hu : X.A.units + 65 < cLine) : OpD X (compareOp .In) gIn := by
  intro pins s σ H x y v u Q I rx ry ⟨d, e, t, r1, r2, e1, k⟩
  unfold gIn at e1
  split at e1
  · obtain ⟨⟨h1, h2, h3⟩, rfl⟩ := ite_some' e1
    obtain ⟨as, q1⟩ := Dp.reads I _ _ _ r1.dp rx
    obtain ⟨bs, q2⟩ := Dp.reads I _ _ _ r2.dp ry
    exact PySem.SeqAt.in_list_reads q2 q1 h1 h2 (by omega) ⟨.bl _, H, I, rfl, k_bl k⟩
  · obtain ⟨⟨h1, h2, h3⟩, rfl⟩ := ite_some' e1
    obtain ⟨as, q1⟩ := Dp.reads I _ _ _ r1.dp rx
    obtain ⟨bs, q2⟩ := Dp.reads I _ _ _ r2.dp ry
    exact PySem.SeqAt.in_tuple_reads q2 q1 h1 h2 (by omega) ⟨.bl _, H, I, rfl, k_bl k⟩
  · cases e1
theorem od_nin (hu : X.A.units + 65 < cLine) : OpD X (compareOp .NotIn) gNin := by
  intro pins s σ H x y v u Q I rx ry ⟨d, e, t, r1, r2, e1, k⟩
  unfold gNin at e1
  split at e1
  · obtain ⟨⟨h1, h2, h3⟩, rfl⟩ := ite_some' e1
    obtain ⟨as, q1⟩ := Dp.reads I _ _ _ r1.dp rx
    obtain ⟨bs, q2⟩ := Dp.reads I _ _ _ r2.dp ry
    exact PySem.SeqAt.notIn_list_reads q2 q1 h1 h2 (by omega) ⟨.bl _, H, I, rfl, k_bl k⟩
  · obtain ⟨⟨h1, h2, h3⟩, rfl⟩ := ite_some' e1
    obtain ⟨as, q1⟩ := Dp.reads I _ _ _ r1.dp rx
    obtain ⟨bs, q2⟩ := Dp.reads I _ _ _ r2.dp ry
    exact PySem.SeqAt.notIn_tuple_reads q2 q1 h1 h2 (by omega) ⟨.bl _, H, I, rfl, k_bl k⟩
  · cases e1
end
/-! ### max, min of ints -/
def gMaxS (a : List D) : Option T := match ints? a with
  | some (n :: ns) => io (ns.foldl max n)
  | _ => none
def gMinS (a : List D) : Option T := match ints? a with
  | some (n :: ns) => io (ns.foldl min n)
  | _ => none
def gMax : List D → Option T
  | [.list a] => gMaxS a
  | [.tuple a] => gMaxS a
  | _ => none
def gMin : List D → Option T
  | [.list a] => gMinS a
  | [.tuple a] => gMinS a
  | _ => none
theorem ints?_eq : ∀ {a : List D} {ns : List Int}, ints? a = some ns → a = ns.map .int
  | [], _, h => by cases h; rfl
  | .int i :: ds, ns, h => by
    obtain ⟨l, e1, rfl⟩ := Option.map_eq_some_iff.mp (show (ints? ds).map _ = some ns from h)
    rw [ints?_eq e1]; rfl
  | .none :: _, _, e => by cases e
  | .bool _ :: _, _, e => by cases e
  | .str _ :: _, _, e => by cases e
  | .list _ :: _, _, e => by cases e
  | .tuple _ :: _, _, e => by cases e
  | .dict _ :: _, _, e => by cases e
theorem alike_ints (ns : List Int) : PySem.W.AlikeAll (ns.map .int) := by
  refine ⟨fun x hx y hy => ?_, fun x hx => ?_⟩
  · obtain ⟨i, _, rfl⟩ := List.mem_map.mp hx
    obtain ⟨j, _, rfl⟩ := List.mem_map.mp hy
    rfl
  · obtain ⟨i, _, rfl⟩ := List.mem_map.mp hx
    exact fun z => by cases z
theorem reads_int {h : Heap} {v : Value} {i : Int} {as : List Addr} (r : Reads h v (.int i) as) : ∃ t, v = .int i t := by cases r; exact ⟨_, rfl⟩
section
variable {X : Cx}
theorem depth_ints0 (ns : List Int) : PyData.depthAll (ns.map .int) = 0 := PySem.W.depth_ints ns
theorem cd_max (hc : X.calm = true) (hu : X.A.units + 65 < cLine) : CallD X (.builtin "max") gMax := by
  intro pins s σ H xs us Q I rs ⟨ds, t, r, e1, k⟩
  have fin : ∀ (i : Int) (v : Value) (h' : Heap) (tk : Nat) (bs : List Addr), Reads h' v (.int i) bs → (∀ b o, s.heap.get? b = some o → h'.get? b = some o) → (∀ v H', Fresh X.K H H' v (.z (.int i)) → Q v H') → EP X pins σ Q v { s with heap := h', toks := tk } := fun i v h' tk bs rd kp k => by
    obtain ⟨u, rfl⟩ := reads_int rd
    exact ⟨.int i, H, I.kept kp, ⟨_, rfl⟩, k_int k⟩
  unfold gMax gMaxS at e1
  split at e1
  · split at e1
    · rename_i a n ns e2
      cases e1
      obtain ⟨v, rfl, r1⟩ := rpA1 r
      cases ints?_eq e2
      obtain ⟨u, rfl, rx⟩ := vals1 rs
      obtain ⟨as, rd⟩ := Dp.reads I _ _ _ r1.dp rx
      obtain ⟨l, ys, rfl, q1, f1⟩ := r1.list
      cases rx
      obtain ⟨its, rv, pl, hz⟩ := I.list q1
      obtain ⟨bs, rr⟩ := Dp.readsAll I _ _ its (FzA.dp _ _ f1) rv
      have := PySem.W.max_list_data (A := X.A) (vs := its.toArray) (x := .int n) (xs := ns.map .int) (I.ok.hd hc) pl.isList rr (alike_ints (n :: ns)) (by rw [show PyData.depthAll (PyData.int n :: ns.map .int) = 0 from depth_ints0 (n :: ns)]; omega) (Q := EP X pins σ Q) (E := X.xe) (prog := X.prog) (w := X.w) (fun i v h' tk bs hv rd kp => by
        rw [PySem.W.maxD_ints] at rd
        exact fin _ v h' tk bs rd kp k)
      exact this
    · cases e1
  · split at e1
    · rename_i a n ns e2
      cases e1
      obtain ⟨v, rfl, r1⟩ := rpA1 r
      cases ints?_eq e2
      obtain ⟨u, rfl, rx⟩ := vals1 rs
      obtain ⟨l, ys, rfl, q1, f1⟩ := r1.tuple
      cases rx
      obtain ⟨its, rv, pl, hz⟩ := I.tuple q1
      obtain ⟨bs, rr⟩ := Dp.readsAll I _ _ its (FzA.dp _ _ f1) rv
      exact PySem.W.max_tuple_data (A := X.A) (vs := its.toArray) (x := .int n) (xs := ns.map .int) (I.ok.hd hc) pl rr (alike_ints (n :: ns)) (by rw [show PyData.depthAll (PyData.int n :: ns.map .int) = 0 from depth_ints0 (n :: ns)]; omega) (fun i v h' tk bs hv rd kp => by
        rw [PySem.W.maxD_ints] at rd
        exact fin _ v h' tk bs rd kp k)
    · cases e1
  · cases e1
theorem cd_min (hc : X.calm = true) (hu : X.A.units + 65 < cLine) : CallD X (.builtin "min") gMin := by
  intro pins s σ H xs us Q I rs ⟨ds, t, r, e1, k⟩
  have fin : ∀ (i : Int) (v : Value) (h' : Heap) (tk : Nat) (bs : List Addr), Reads h' v (.int i) bs → (∀ b o, s.heap.get? b = some o → h'.get? b = some o) → (∀ v H', Fresh X.K H H' v (.z (.int i)) → Q v H') → EP X pins σ Q v { s with heap := h', toks := tk } := fun i v h' tk bs rd kp k => by
    obtain ⟨u, rfl⟩ := reads_int rd
    exact ⟨.int i, H, I.kept kp, ⟨_, rfl⟩, k_int k⟩
  unfold gMin gMinS at e1
  split at e1
  · split at e1
    · rename_i a n ns e2
      cases e1
      obtain ⟨v, rfl, r1⟩ := rpA1 r
      cases ints?_eq e2
      obtain ⟨u, rfl, rx⟩ := vals1 rs
      obtain ⟨l, ys, rfl, q1, f1⟩ := r1.list
      cases rx
      obtain ⟨its, rv, pl, hz⟩ := I.list q1
      obtain ⟨bs, rr⟩ := Dp.readsAll I _ _ its (FzA.dp _ _ f1) rv
      exact PySem.W.min_list_data (A := X.A) (vs := its.toArray) (x := .int n) (xs := ns.map .int) (I.ok.hd hc) pl.isList rr (alike_ints (n :: ns)) (by rw [show PyData.depthAll (PyData.int n :: ns.map .int) = 0 from depth_ints0 (n :: ns)]; omega) (fun i v h' tk bs hv rd kp => by
        rw [PySem.W.minD_ints] at rd
        exact fin _ v h' tk bs rd kp k)
    · cases e1
  · split at e1
    · rename_i a n ns e2
      cases e1
      obtain ⟨v, rfl, r1⟩ := rpA1 r
      cases ints?_eq e2
      obtain ⟨u, rfl, rx⟩ := vals1 rs
      obtain ⟨l, ys, rfl, q1, f1⟩ := r1.tuple
      cases rx
      obtain ⟨its, rv, pl, hz⟩ := I.tuple q1
      obtain ⟨bs, rr⟩ := Dp.readsAll I _ _ its (FzA.dp _ _ f1) rv
      exact PySem.W.min_tuple_data (A := X.A) (vs := its.toArray) (x := .int n) (xs := ns.map .int) (I.ok.hd hc) pl rr (alike_ints (n :: ns)) (by rw [show PyData.depthAll (PyData.int n :: ns.map .int) = 0 from depth_ints0 (n :: ns)]; omega) (fun i v h' tk bs hv rd kp => by
        rw [PySem.W.minD_ints] at rd
        exact fin _ v h' tk bs rd kp k)
    · cases e1
  · cases e1
end
/-! ### sorted -/
def tupNE : D → Bool
  | .tuple (_ :: _) => true
  | _ => false
def flatK : D → Bool
  | .none => false
  | .tuple _ => false
  | _ => true
def canSort (ds : List D) : Bool := (ds.all fun a => ds.all fun b => PySem.W.alike a b) && (ds.all tupNE || ds.all flatK) && (ds.all fun d => decide (d.depth ≤ 60)) && decide (ds.length ≤ 100000)
def leD (a b : D) : Bool := !PySem.W.dataLt b a
def gSorted : List D → Option T
  | [.list ds] => if canSort ds = true then some (.l (ds.mergeSort leD)) else none
  | _ => none
theorem each_of {K : Fr} {H : Hp} : ∀ {ds : List D} {xs : List V} {us : List Value}, FzA K H xs ds → Vals xs us → PySem.W.EachIs (fun u d => ∃ x : V, L2.RelV x u ∧ Fz K H x d) us ds
  | [], _, _, f, r => by cases f; cases r; exact .nil
  | d :: ds, _, _, f, r => by
    cases f with
    | cons a b =>
      cases r with
      | cons p q => exact .cons ⟨_, p, a⟩ (each_of b q)
theorem of_each {K : Fr} {H : Hp} : ∀ {ds : List D} {us : List Value}, PySem.W.EachIs (fun u d => ∃ x : V, L2.RelV x u ∧ Fz K H x d) us ds → ∃ xs : List V, FzA K H xs ds ∧ Vals xs us
  | _, _, .nil => ⟨[], .nil, .nil⟩
  | _, _, .cons ⟨x, p, a⟩ t => by
    obtain ⟨xs, f, r⟩ := of_each t
    exact ⟨x :: xs, .cons a f, .cons p r⟩
theorem map_id' (ds : List D) : ds.map (fun d => d) = ds := by simp
section
variable {X : Cx}
theorem cd_sorted (hu : X.A.units + 65 < cLine) : CallD X (.builtin "sorted") gSorted := by
  intro pins s σ H xs us Q I rs ⟨ds, t, r, e1, k⟩
  unfold gSorted at e1
  split at e1
  · rename_i ds
    obtain ⟨ok, rfl⟩ := ite_some' e1
    obtain ⟨v, rfl, r1⟩ := rpA1 r
    obtain ⟨u, rfl, rx⟩ := vals1 rs
    obtain ⟨l, ys, rfl, q1, f1⟩ := r1.list
    cases rx
    obtain ⟨its, rv, pl, hz⟩ := I.list q1
    unfold canSort at ok
    simp only [Bool.and_eq_true, decide_eq_true_eq, List.all_eq_true, Bool.or_eq_true] at ok
    obtain ⟨⟨⟨h1, h2⟩, h3⟩, h4⟩ := ok
    have al : PySem.W.AllAlike (ds.map fun d => d) := by rw [map_id']; exact h1
    have so : PySem.W.Sortable (ds.map fun d => d) := by
      rw [map_id']
      rcases h2 with h2 | h2
      · refine .inl fun d hd => ?_
        have := h2 d hd
        cases d with
        | tuple zs => cases zs with
          | nil => cases this
          | cons a b => exact ⟨a, b, rfl⟩
        | _ => cases this
      · refine .inr fun d hd => ?_
        have := h2 d hd
        cases d with
        | none => cases this
        | tuple _ => cases this
        | bool _ => exact ⟨(fun z => nomatch z), (fun _ z => nomatch z)⟩
        | int _ => exact ⟨(fun z => nomatch z), (fun _ z => nomatch z)⟩
        | str _ => exact ⟨(fun z => nomatch z), (fun _ z => nomatch z)⟩
        | list _ => exact ⟨(fun z => nomatch z), (fun _ z => nomatch z)⟩
        | dict _ => exact ⟨(fun z => nomatch z), (fun _ z => nomatch z)⟩
    have ea := each_of f1 rv
    have er : PySem.W.EachIs (fun v b => ∃ as, Reads s.heap v ((fun d => d) b) as) its ds := ea.mono fun u d ⟨x, p, a⟩ => Dp.reads I d x u (Fz.dp d x a) p
    refine PySem.W.sorted_data (vs := its) (enc := fun d => d) pl.isList ea er al so (lim h4) (fun b hb => by have := h3 b hb; omega) fun out ho eo => ?_
    obtain ⟨zs, fz, vz⟩ := of_each eo
    have le : zs.length ≤ sizeLine := by rw [vz.length, ho]; exact lim h4
    have eq : ds.mergeSort (PySem.W.dataLe false fun d => d) = ds.mergeSort leD := rfl
    rw [eq] at fz
    obtain ⟨c, hc⟩ := PyProof.Rows.sortedAll_at s.heap its out.toArray
    have new : H (s.heap.objs.size + 1) = none := I.hok.fresh (Nat.le_succ _)
    refine ⟨.ref (s.heap.objs.size + 1), upd H (s.heap.objs.size + 1) (.lst zs), ?_, rfl, k _ _ (.lst new fz)⟩
    exact I.laid (t' := s.toks) (fun b o e => PyProof.Rows.sortedAll_old e) (Nat.le_succ _) ⟨le, out, c, vz, hc⟩
  · cases e1
end
/-! ### xs.extend(ys), ys a list that is made for it -/
def mExt (i : Nat) (m : ME) : ME := fun ρ => match slotT ρ i with
  | some (.l _) => (m ρ).bind fun p => match p.1, slotT p.2 i with
    | .l es, some (.l ds) => if ds.length + es.length ≤ 100000 then some (.z .none, p.2.set i (some (.l (ds ++ es)))) else none
    | _, _ => none
  | _ => none
section
variable {X : Cx} {i : Nat} {e : Expr} {x : Str} {npos apos cpos : Pos} {m : ME}
theorem px_ext (hn : PE X (.Name x npos) (tVar i)) (he : PX X e m) (hbase : attributeBase (.Name x npos) "extend" X.env (eval (.Name x npos) X.env) = eval (.Name x npos) X.env := by rfl)
    (hfew : ((backTo cpos (starEach [e] X.env)).all (fun x => !x.1) && (backToKw cpos (keywordEach [] X.env)).all (fun x => x.1.isSome)
      && decide (([e] : List Expr).length + ([] : List Keyword).length + (if ([] : List Keyword).isEmpty then 0 else 1) < 30)) = true := by rfl)
    (hline : (apos.endLine == cpos.line) = true := by rfl) (hs : starEach [e] X.env = (false, eval e X.env) :: starEach [] X.env := by rfl) (hplain : (backTo cpos (starEach [] X.env)).any (·.1) = false := by rfl) :
    PX X (.Call (.Attribute (.Name x npos) "extend" apos) [e] [] cpos) (mExt i m) :=
  ⟨(pe_bm F.plainAttrs_list F.slot_list_extend (by kernel_rfl) mt_extend (po_n hn).pe (pa_cons he.pe pa_nil hs) hbase hfew hline hs hplain).of fun σ H Q q => by
    obtain ⟨B, ρ, own, t, ρ', hB, es, e, k⟩ := q
    unfold mExt at e
    split at e
    · rename_i ds0 es0
      obtain ⟨⟨t1, ρ1⟩, e1, e2⟩ := Option.bind_eq_some_iff.mp e
      split at e2
      · rename_i es' ds eq1 es1'
        obtain ⟨hl, e3⟩ := ite_some' e2
        cases e3
        refine ⟨B, ρ, own, .slot i, ρ, hB, es, by unfold oN; rw [es0]; rfl, fun v H1 own1 st1 es1 r1 => ?_⟩
        have r1' : σ[i]? = some (some v) := r1
        obtain ⟨w, q1, a, xs, rfl, sa, hl1, f⟩ := es1.rep i _ (slotT_some es0)
        rw [r1'] at q1
        cases q1
        refine ⟨.inl ⟨rfl, xs, SqL.of hl1⟩, B, ρ, own1, t1, ρ1, hB, es1, e1, fun u H2 own2 st2 es2 r2 => ?_⟩
        have hi : i < σ.length := (List.getElem?_eq_some_iff.mp r1').1
        obtain ⟨w2, q2, a2, xs2, rfl, sa2, hl2, f2⟩ := es2.rep i _ (slotT_some es1')
        rw [r1'] at q2
        cases q2
        simp only at eq1
        subst eq1
        obtain ⟨b, zs, rfl, sb, hb, fb⟩ := r2
        refine ⟨a, b, xs2, zs, rfl, rfl, hl2, hb, by rw [f2.length, fb.length]; exact lim hl, ?_⟩
        exact k .non _ own2 ((st1.trans st2).trans (write_step hi sa2 hl2)) (es2.write hi r1' sa2 hl2 (f2.append fb)) .non
      · cases e2
    · cases e⟩
end
end VL

set_option Elab.async false
set_option linter.all false
set_option maxRecDepth 100000
set_option maxHeartbeats 4000000
/-! VX3: sorted(set(rows)), rows: tuples of ints -/
namespace VL
open PySem PySem.Spec PyProof.Rows L2
/-! ### the order of rows -/
abbrev rowT (r : List Int) : D := .tuple (r.map .int)
def ltI : List Int → List Int → Bool
  | [], [] => false
  | [], _ :: _ => true
  | _ :: _, [] => false
  | x :: a, y :: b => if x = y then ltI a b else decide (x < y)
theorem lt_rows : ∀ a b : List Int, PySem.W.dataLt (rowT a) (rowT b) = ltI a b := by
  have key : ∀ a b : List Int, PyProof.Rows.lexLt PyProof.Rows.itemOrd (PySem.W.keyToksAll (a.map .int)) (PySem.W.keyToksAll (b.map .int)) = ltI a b := by
    intro a
    induction a with
    | nil =>
      intro b
      cases b with
      | nil => rfl
      | cons y b => rfl
    | cons x a ih =>
      intro b
      cases b with
      | nil => rfl
      | cons y b =>
        by_cases h : x = y
        · subst h
          rw [List.map_cons, List.map_cons, PySem.W.dataLt_all_yes rfl (by simp [PyData.eqv]), ih b]
          simp [ltI]
        · rw [List.map_cons, List.map_cons, PySem.W.dataLt_all_no rfl (by simp [PyData.eqv, h])]
          simp only [ltI, if_neg h]
          show (decide (x < y) || (!decide (y < x) && false)) = _
          simp
  intro a b
  rw [PySem.W.dataLt_tuple, key]
theorem ltI_irr : ∀ a : List Int, ltI a a = false
  | [] => rfl
  | x :: a => by simp [ltI, ltI_irr a]
theorem ltI_trans : ∀ a b c : List Int, ltI a b = true → ltI b c = true → ltI a c = true
  | [], [], _, h, _ => by cases h
  | [], _ :: _, [], _, h => by cases h
  | [], _ :: _, _ :: _, _, _ => rfl
  | _ :: _, [], _, h, _ => by cases h
  | _ :: _, _ :: _, [], _, h => by cases h
  | x :: a, y :: b, z :: c, h1, h2 => by
    simp only [ltI] at h1 h2 ⊢
    by_cases e1 : x = y
    · by_cases e2 : y = z
      · subst e1 e2
        simp at h1 h2 ⊢
        exact ltI_trans a b c h1 h2
      · subst e1
        simp [e2] at h1 h2 ⊢
        exact h2
    · by_cases e2 : y = z
      · subst e2
        simp [e1] at h1 h2 ⊢
        exact h1
      · simp [e1, e2] at h1 h2
        have : x < z := by omega
        have ne : x ≠ z := by omega
        simp [ne, this]
theorem ltI_tri : ∀ a b : List Int, ltI a b = false → ltI b a = false → a = b
  | [], [], _, _ => rfl
  | [], _ :: _, h, _ => by cases h
  | _ :: _, [], _, h => by cases h
  | x :: a, y :: b, h1, h2 => by
    simp only [ltI] at h1 h2
    by_cases e : x = y
    · subst e
      simp at h1 h2
      rw [ltI_tri a b h1 h2]
    · have e' : ¬ y = x := fun z => e z.symm
      simp [e, e'] at h1 h2
      omega
/-- the order that sorted keeps, on rows -/
def leI (a b : List Int) : Bool := !ltI b a
theorem leD_rows (a b : List Int) : leD (rowT a) (rowT b) = leI a b := by unfold leD leI; rw [lt_rows]
theorem leI_total (a b : List Int) : leI a b = true ∨ leI b a = true := by
  unfold leI
  cases h : ltI b a with
  | false => exact .inl rfl
  | true =>
    refine .inr ?_
    cases h2 : ltI a b with
    | false => rfl
    | true =>
      have := ltI_trans a b a h2 h
      rw [ltI_irr] at this
      cases this
theorem leI_trans (a b c : List Int) (h1 : leI a b = true) (h2 : leI b c = true) : leI a c = true := by
  unfold leI at *
  cases h : ltI c a with
  | false => rfl
  | true =>
    -- c < a; not b < a, not c < b
    cases q : ltI c b with
    | true => rw [q] at h2; cases h2
    | false =>
      cases q2 : ltI b c with
      | false =>
        have := ltI_tri b c q2 q
        subst this
        rw [h] at h1; cases h1
      | true =>
        have := ltI_trans b c a q2 h
        rw [this] at h1; cases h1
theorem leI_anti (a b : List Int) (h1 : leI a b = true) (h2 : leI b a = true) : a = b := by
  unfold leI at *
  exact ltI_tri a b (by simpa using h2) (by simpa using h1)
theorem sorted_unique {α : Type} {le : α → α → Prop} (anti : ∀ a b, le a b → le b a → a = b) : ∀ {l m : List α}, l.Pairwise le → m.Pairwise le → l.Perm m → l = m
  | [], m, _, _, p => (List.Perm.nil_eq p)
  | a :: l, [], _, _, p => by have := p.length_eq; simp at this
  | a :: l, b :: m, hl, hm, p => by
    have e : a = b := by
      have h1 : a ∈ b :: m := p.mem_iff.mp (List.mem_cons_self ..)
      have h2 : b ∈ a :: l := p.mem_iff.mpr (List.mem_cons_self ..)
      rcases List.mem_cons.mp h1 with h1 | h1
      · exact h1
      · rcases List.mem_cons.mp h2 with h2 | h2
        · exact h2.symm
        · exact anti a b (List.rel_of_pairwise_cons hl h2) (List.rel_of_pairwise_cons hm h1)
    subst e
    rw [sorted_unique anti hl.of_cons hm.of_cons (List.Perm.cons_inv p)]
theorem ints?_ints' : ∀ ns : List Int, ints? (ns.map PyData.int) = some ns
  | [] => rfl
  | n :: ns => by show (ints? (ns.map PyData.int)).map _ = _; rw [ints?_ints' ns]; rfl
/-! ### sets of rows -/
def nub : List (List Int) → List (List Int)
  | [] => []
  | x :: l => if x ∈ l then nub l else x :: nub l
theorem mem_nub : ∀ {l : List (List Int)} {x : List Int}, x ∈ nub l ↔ x ∈ l
  | [], x => Iff.rfl
  | y :: l, x => by
    unfold nub
    by_cases h : y ∈ l
    · rw [if_pos h, mem_nub, List.mem_cons]
      exact ⟨.inr, fun z => z.elim (fun e => e ▸ h) id⟩
    · rw [if_neg h, List.mem_cons, List.mem_cons, mem_nub]
theorem nub_nodup : ∀ l : List (List Int), (nub l).Nodup
  | [] => .nil
  | y :: l => by
    unfold nub
    by_cases h : y ∈ l
    · rw [if_pos h]; exact nub_nodup l
    · rw [if_neg h]; exact List.nodup_cons.mpr ⟨fun z => h (mem_nub.mp z), nub_nodup l⟩
/-- the rows of a set, in order -/
def sortI (l : List (List Int)) : List (List Int) := l.mergeSort leI
theorem sortI_pw (l : List (List Int)) : (sortI l).Pairwise fun a b => leI a b = true := List.pairwise_mergeSort leI_trans (fun a b => Bool.or_eq_true_iff.mpr (leI_total a b)) l
theorem sortI_eq {l m : List (List Int)} (h : m.Pairwise fun a b => leI a b = true) (p : m.Perm l) : m = sortI l :=
  sorted_unique leI_anti h (sortI_pw l) (p.trans (List.mergeSort_perm l leI).symm)
theorem sortI_perm {l m : List (List Int)} (p : l.Perm m) : sortI l = sortI m := sortI_eq (sortI_pw l) ((List.mergeSort_perm l leI).trans p)
def rows? : List D → Option (List (List Int))
  | [] => some []
  | .tuple a :: ds => (ints? a).bind fun r => (rows? ds).map fun rs => r :: rs
  | _ :: _ => none
theorem rows?_eq : ∀ {ds : List D} {rs : List (List Int)}, rows? ds = some rs → ds = rs.map rowT
  | [], _, h => by cases h; rfl
  | .tuple a :: ds, rs, h => by
    obtain ⟨r, e1, e2⟩ := Option.bind_eq_some_iff.mp (show (ints? a).bind _ = some rs from h)
    obtain ⟨rs', e3, rfl⟩ := Option.map_eq_some_iff.mp e2
    rw [rows?_eq e3, ints?_eq e1]; rfl
  | .none :: _, _, h => by cases h
  | .bool _ :: _, _, h => by cases h
  | .int _ :: _, _, h => by cases h
  | .str _ :: _, _, h => by cases h
  | .list _ :: _, _, h => by cases h
  | .dict _ :: _, _, h => by cases h
theorem rows_fz {K : Fr} {H : Hp} : ∀ {rs : List (List Int)} {xs : List V}, FzA K H xs (rs.map rowT) → ∃ ks : List (Addr × List Int), xs = ks.map (fun p => V.ref p.1) ∧ ks.map (·.2) = rs ∧ ∀ p ∈ ks, SqT K H p.1 (p.2.map V.int)
  | [], _, f => by cases f; exact ⟨[], rfl, rfl, fun p hp => by cases hp⟩
  | r :: rs, _, f => by
    cases f with
    | cons a b =>
      obtain ⟨ks, e1, e2, h⟩ := rows_fz (rs := rs) b
      cases a with
      | @tup ad ys _ sq fa =>
        have e : ys = r.map V.int := ints?_fz (ints?_ints' r) fa
        subst e
        exact ⟨(ad, r) :: ks, by rw [e1]; rfl, by rw [← e2]; rfl, fun p hp => by
          rcases List.mem_cons.mp hp with rfl | hp
          · exact sq
          · exact h p hp⟩
theorem perm_map_inv {α β : Type} {f : α → β} : ∀ {l m : List β}, l.Perm m → ∀ {L : List α}, m = L.map f → ∃ L1 : List α, L1.Perm L ∧ l = L1.map f := by
  intro l m p
  induction p with
  | nil =>
    intro L e
    cases L with
    | nil => exact ⟨[], .nil, rfl⟩
    | cons => cases e
  | cons x _ ih =>
    intro L e
    cases L with
    | nil => cases e
    | cons b L =>
      rw [List.map_cons] at e
      obtain ⟨e1, e2⟩ := List.cons.inj e
      obtain ⟨L1, p1, h1⟩ := ih e2
      exact ⟨b :: L1, p1.cons b, by rw [List.map_cons, e1, h1]⟩
  | swap x y l =>
    intro L e
    cases L with
    | nil => cases e
    | cons b L =>
      cases L with
      | nil => cases e
      | cons c L =>
        rw [List.map_cons, List.map_cons] at e
        obtain ⟨e1, e2⟩ := List.cons.inj e
        obtain ⟨e3, e4⟩ := List.cons.inj e2
        exact ⟨c :: b :: L, .swap .., by rw [List.map_cons, List.map_cons, e1, e3, e4]⟩
  | trans _ _ ih1 ih2 =>
    intro L e
    obtain ⟨L2, p2, e2⟩ := ih2 e
    obtain ⟨L1, p1, e1⟩ := ih1 e2
    exact ⟨L1, p1.trans p2, e1⟩
theorem readsAll_row {h : Heap} : ∀ {k : List Int} {vs : List Value}, IntsAre vs k → ReadsAll h vs (k.map .int) []
  | _, _, .nil => .nil
  | _, _, .cons n t r => ReadsAll.cons (as := []) (bs := []) (.int n t) (readsAll_row r)
theorem each_refs {β : Type} {f : β → Value} : ∀ L : List β, PySem.W.EachIs (fun u q => u = f q) (L.map f) L
  | [] => .nil
  | _ :: L => .cons rfl (each_refs L)
theorem refs_each {β : Type} {f : β → Value} : ∀ {us : List Value} {L : List β}, PySem.W.EachIs (fun u q => u = f q) us L → us = L.map f
  | _, _, .nil => rfl
  | _, _, .cons e t => by rw [e, refs_each t]; rfl
theorem each_reads {h : Heap} {a : Addr} {β : Type} {f : β → Value} {enc : β → D} : ∀ {L : List β}, (∀ q ∈ L, Reads h (f q) (enc q) []) → PySem.W.EachIs (fun v b => ∃ as, Reads h v (enc b) as ∧ a ∉ as) (L.map f) L
  | [], _ => .nil
  | q :: L, hq => .cons ⟨[], hq q (List.mem_cons_self ..), List.not_mem_nil⟩ (each_reads fun r hr => hq r (List.mem_cons_of_mem _ hr))
section
variable {P : Program} {w : World} {A : Around} {E : Value → Shared → Prop} {s : Shared}
theorem reads_row {h : Heap} {k : List Int} {b : Addr} (x : IsT P w h k b) : Reads h (.ref b) (rowT k) [] := by
  obtain ⟨o, its, n, ho, hc, hd, hi⟩ := x
  exact .tuple ho hc hd (readsAll_row (ints_of_items hi))
def encR (q : Addr × List Int) : D := rowT q.2
theorem le_encR : PySem.W.dataLe false encR = fun a b => leI a.2 b.2 := by
  funext a b
  exact leD_rows a.2 b.2
theorem alikeAll_ints : ∀ a b : List Int, PySem.W.alike (rowT a) (rowT b) = true := by
  intro a b
  unfold PySem.W.alike
  show PySem.W.alikeAll (a.map .int) (b.map .int) = true
  induction a generalizing b with
  | nil => cases b <;> rfl
  | cons x a ih => cases b with
    | nil => rfl
    | cons y b =>
      show (PySem.W.alike (.int x) (.int y) && PySem.W.alikeAll (a.map .int) (b.map .int)) = true
      rw [ih b]; rfl
theorem depth_row (k : List Int) : PyData.depth (rowT k) = 1 := by
  show PyData.depthAll (k.map .int) + 1 = 1
  rw [depth_ints0]
/-- sorted(set), at the library's level: rows of any numbers -/
theorem sorted_rows {a : Addr} {L : List (Addr × List Int)} {es : Array (Int × Value)} {ep : Nat} {t : SetTable} {Q : Value → Shared → Prop} (R : SetTR P w s.heap a L es ep t) (hh : A.handled = none) (hu : A.units + 65 < cLine) (hne : ∀ p ∈ L, p.2 ≠ [])
    (hQ : ∀ (s' : Shared) (p : Addr) (c : Nat) (L' : List (Addr × List Int)), (∀ b o, s.heap.get? b = some o → s'.heap.get? b = some o) → s'.gens = s.gens → s'.os = s.os → s.heap.objs.size ≤ p →
      s'.heap.get? p = some (seqObj "list" (L'.map fun q => Value.ref q.1).toArray c) → (∀ q ∈ L', q ∈ L) → L'.map (·.2) = sortI (L.map (·.2)) → L'.length = L.length → Q (.ref p) s') :
    wpAny (model P w) A (call (.builtin "sorted") [.ref a]) Q E s := by
  obtain ⟨o, ho, ex, hd⟩ := R.ob
  have size := R.size
  have few := R.few
  refine Calls.call_function_entry kind_sorted plain_sorted entry_sorted (args_sorted1 _) ?_
  unfold Builtin.«sorted»
  refine wpAny_bind (m := checkCount "sorted" 1 1 _) (wpAny_pure (wpAny_bind ?_))
  refine collect_set (A := A.in1) hh ⟨o, ho, ex.1, hd⟩ R.fits (by unfold scanBound; omega) R.tab.ris R.led fun s1 vs kp sz g1 o1 pm => ?_
  have rows : es.toList.map (·.2) = L.map fun q => Value.ref q.1 := by
    rw [R.rows]; unfold rowsOf; rw [List.map_map]; rfl
  rw [rows] at pm
  obtain ⟨L1, p1, rfl⟩ := perm_map_inv pm rfl
  have len : L1.length = L.length := p1.length_eq
  refine wpAny_bind (wpAny_newList ?_ (by rw [List.length_map, sizeLine_eq]; omega))
  have at1 : (s1.heap.push (seqObj "list" (L1.map fun q => Value.ref q.1).toArray 0)).get? s1.heap.objs.size = some (seqObj "list" (L1.map fun q => Value.ref q.1).toArray 0) := Heap.get?_push_size _ rfl
  have old : ∀ b u, s.heap.get? b = some u → (s1.heap.push (seqObj "list" (L1.map fun q => Value.ref q.1).toArray 0)).get? b = some u := fun b u e => Heap.get?_push_of_some _ (kp b u e)
  have rd : ∀ q ∈ L1, Reads (s1.heap.push (seqObj "list" (L1.map fun q => Value.ref q.1).toArray 0)) (Value.ref q.1) (encR q) [] := fun q hq => reads_row (P := P) (w := w) (isT_keep (R.tup q (p1.mem_iff.mp hq)) fun b u e => old b u e)
  have al : PySem.W.AllAlike (L1.map encR) := fun d hd d' hd' => by
    obtain ⟨q, _, rfl⟩ := List.mem_map.mp hd
    obtain ⟨q', _, rfl⟩ := List.mem_map.mp hd'
    exact alikeAll_ints q.2 q'.2
  have so : PySem.W.Sortable (L1.map encR) := .inl fun d hd => by
    obtain ⟨q, hq, rfl⟩ := List.mem_map.mp hd
    have ne := hne q (p1.mem_iff.mp hq)
    unfold encR
    cases e : q.2 with
    | nil => exact absurd e ne
    | cons x r => exact ⟨.int x, r.map .int, rfl⟩
  refine wpAny_bind (wpAny_holding (PySem.W.list_sort_data (s := { s1 with heap := s1.heap.push (seqObj "list" (L1.map fun q => Value.ref q.1).toArray 0) }) (enc := encR) at1 (each_refs L1) (each_reads rd) al so (by rw [sizeLine_eq]; omega) (fun b _ => by show A.units + 1 + 1 + PyData.depth (rowT b.2) < _; rw [depth_row]; omega) fun out ho eo => ?_))
  have eo' := refs_each eo
  subst eo'
  obtain ⟨c, hc⟩ := sortedHeap_at (vs := L1.map fun q => Value.ref q.1) (out := ((L1.mergeSort (PySem.W.dataLe false encR)).map fun q => Value.ref q.1).toArray) at1
  refine wpAny_pure ⟨_, rfl, hQ _ s1.heap.objs.size c (L1.mergeSort (PySem.W.dataLe false encR)) (fun b u e => ?_) g1 o1 sz hc (fun q hq => ?_) ?_ ?_⟩
  · have q := kp b u e
    have lt := Heap.lt_size q
    show (sortedHeap (s1.heap.push (seqObj "list" (L1.map fun q => Value.ref q.1).toArray 0)) s1.heap.objs.size _ _).get? b = some u
    rw [sortedHeap_old (Nat.ne_of_lt lt) (by rw [size_push']; exact Nat.lt_succ_of_lt lt)]
    exact Heap.get?_push_of_some _ q
  · exact p1.mem_iff.mp ((List.mergeSort_perm _ _).mem_iff.mp hq)
  · rw [le_encR]
    refine sortI_eq ?_ (((List.mergeSort_perm _ _).trans p1).map _)
    exact List.pairwise_map.mpr (List.pairwise_mergeSort (le := fun a b : Addr × List Int => leI a.2 b.2) (fun a b c => leI_trans a.2 b.2 c.2) (fun a b => Bool.or_eq_true_iff.mpr (leI_total a.2 b.2)) L1)
  · rw [List.length_mergeSort, len]
end
def rSortedR (K : Fr) (P : Program) (w : World) : List V → Hp → VK → Prop := fun vs H Q => ∃ (a : Addr) (L : List (Addr × List Int)), vs = [V.ref a] ∧ H a = some (SetTO P w a L) ∧ (∀ p ∈ L, SqT K H p.1 (p.2.map V.int)) ∧ (∀ p ∈ L, p.2 ≠ []) ∧
  ∀ (p : Addr) (zs : List V), H p = none → (L.map (·.2)).Nodup → FzA K H zs ((sortI (L.map (·.2))).map rowT) → Q (.ref p) (upd H p (.lst zs))
section
variable {X : Cx}
theorem refs_fz {K : Fr} {H : Hp} : ∀ {L : List (Addr × List Int)}, (∀ q ∈ L, SqT K H q.1 (q.2.map V.int)) → FzA K H (L.map fun q => V.ref q.1) ((L.map (·.2)).map rowT)
  | [], _ => .nil
  | q :: L, h => .cons (.tup (h q (List.mem_cons_self ..)) (FzA.ints q.2)) (refs_fz fun r hr => h r (List.mem_cons_of_mem _ hr))
theorem cr_sortedR (hc : X.calm = true) (hu : X.A.units + 65 < cLine) : CallR X (.builtin "sorted") (rSortedR X.K X.prog X.w) := by
  intro pins s σ H vs us Q I r h
  obtain ⟨a, L, rfl, ha, hk, hne, q⟩ := h
  have R0 : SetT0 X.prog X.w s.heap a L := (I.hok a _ ha).1
  obtain ⟨es, ep, t, R⟩ := R0.full fun p hp => I.isT (hk p hp)
  rw [Vals.ref1 r]
  refine sorted_rows R (I.ok.hd hc) hu hne fun s' p c L' kp g o hp hg sub eq len => ?_
  have few := R.few
  have lz : (L'.map fun q => V.ref q.1).length ≤ sizeLine := by rw [List.length_map, sizeLine_eq]; omega
  have new : H p = none := I.hok.fresh hp
  have fz := refs_fz (K := X.K) (H := H) (L := L') fun q hq => hk q (sub q hq)
  rw [eq] at fz
  have J : Inv X pins σ (upd H p (.lst (L'.map fun q => V.ref q.1))) { s with heap := s'.heap, gens := s'.gens, drawn := s'.drawn, toks := s'.toks } :=
    I.call (ch := []) (Un.laid kp hp new) (I.hok.laid kp hp ⟨lz, _, c, vals_of_refs L', hg⟩) (by rw [g]; exact I.bare) (fun _ z => nomatch z)
  have same : s' = { s with heap := s'.heap, gens := s'.gens, drawn := s'.drawn, toks := s'.toks } := by
    obtain ⟨h1, h2, h3, h4, h5⟩ := s'
    cases o
    rfl
  rw [same]
  exact ⟨.ref p, _, J, rfl, q p _ new R.nd fz⟩
def gSS : D → Option T
  | .list ds => match rows? ds with
    | some rs => if rs.length < 64 ∧ [] ∉ rs then some (.l ((sortI (nub rs)).map rowT)) else none
    | none => none
  | _ => none
def mSS (m : MO) : ME := fun ρ => (m ρ).bind fun p => (p.1.get p.2).bind fun t => (gSS t.data).map fun r => (r, p.2)
variable {e : Expr} {m : MO} {p p2 pos pos2 : Pos}
/-- sorted(set(e)), e a list of rows -/
theorem px_ss (hc : X.calm = true) (hu : X.A.units + 65 < cLine) (hg : Gl X "sorted") (hm : X.mg "sorted" = none) (hg2 : Gl X "set") (hm2 : X.mg "set" = none) (ha : PO X e m)
    (hs : starEach [e] X.env = (false, eval e X.env) :: starEach [] X.env := by rfl) (hpl : (backTo pos2 (starEach [] X.env)).any (·.1) = false := by rfl)
    (hs2 : starEach [.Call (.Name "set" p2) [e] [] pos2] X.env = (false, eval (.Call (.Name "set" p2) [e] [] pos2) X.env) :: starEach [] X.env := by rfl) (hpl2 : (backTo pos (starEach [] X.env)).any (·.1) = false := by rfl) :
    PX X (.Call (.Name "sorted" p) [.Call (.Name "set" p2) [e] [] pos2] [] pos) (mSS m) :=
  ⟨(pe_callB (cr_sortedR hc hu) hg hm (by decide +kernel) (pa_cons (pe_callTy (cr_setOfT (X := X) hc (by omega)) hg2 hm2 (by decide +kernel) (pa_cons ha.pe pa_nil hs) (he := hs) (hpl := hpl)) pa_nil hs2) (he := hs2) (hpl := hpl2)).of fun σ H Q q => by
    obtain ⟨B, ρ, own, t, ρ', hB, es, e1, k⟩ := q
    obtain ⟨⟨a, ρ1⟩, e2, e3⟩ := Option.bind_eq_some_iff.mp (show (m ρ).bind _ = some (t, ρ') from e1)
    obtain ⟨u, e4, e5⟩ := Option.bind_eq_some_iff.mp e3
    obtain ⟨z, e6, e7⟩ := Option.map_eq_some_iff.mp e5
    cases e7
    refine ⟨B, ρ, own, a, _, hB, es, e2, fun v H1 own1 st1 es1 r1 => ?_⟩
    have rd := argRp es1 r1 e4
    unfold gSS at e6
    split at e6
    · rename_i ds eq
      rw [eq] at rd
      split at e6
      · rename_i rs er
        obtain ⟨⟨few, ne⟩, rfl⟩ := ite_some' e6
        cases rows?_eq er
        obtain ⟨l, xs, rfl, sq, f⟩ := rd.list
        obtain ⟨ks, rfl, ek, hk⟩ := rows_fz f
        refine ⟨l, ks, rfl, sq, hk, by rw [← List.length_map (f := (·.2)), ek]; exact few, fun A L hA sub all => ?_⟩
        have up : ∀ b o, H1 b = some o → upd H1 A (SetTO X.prog X.w A L) b = some o := fun b o e => by rw [upd_ne (ne_of_none e hA)]; exact e
        have pk1 : PK H1 (upd H1 A (SetTO X.prog X.w A L)) := .new hA
        refine ⟨A, L, rfl, upd_same, fun q hq => sqT_mono pk1 (hk q (sub q hq)), fun q hq z => ?_, fun P zs hP nd fz => ?_⟩
        · refine ne ?_
          rw [← ek, ← z]
          exact List.mem_map.mpr ⟨q, sub q hq, rfl⟩
        · have hP1 : H1 P = none := by
            cases y : H1 P with
            | none => rfl
            | some o => rw [up P o y] at hP; cases hP
          have mem : ∀ x, x ∈ L.map (·.2) ↔ x ∈ rs := fun x => ⟨fun hx => by
            obtain ⟨q, hq, rfl⟩ := List.mem_map.mp hx
            rw [← ek]; exact List.mem_map.mpr ⟨q, sub q hq, rfl⟩, fun hx => by
            rw [← ek] at hx
            obtain ⟨q, hq, rfl⟩ := List.mem_map.mp hx
            exact all q hq⟩
          have e : sortI (L.map (·.2)) = sortI (nub rs) := sortI_perm ((List.perm_ext_iff_of_nodup nd (nub_nodup rs)).mpr fun x => (mem x).trans mem_nub.symm)
          rw [e] at fz
          have fr : Fresh X.K H1 (upd (upd H1 A (SetTO X.prog X.w A L)) P (.lst zs)) (.ref P) (.l ((sortI (nub rs)).map rowT)) :=
            ⟨fun b o y => by rw [upd_ne (ne_of_none (up b o y) hP)]; exact up b o y, ⟨P, zs, rfl, hP1, upd_same, fz.mono (.new hP)⟩⟩
          exact k _ _ _ (st1.trans fr.step) (fr.es es1) fr.rep'
      · cases e6
    · cases e6⟩
end
end VL

set_option Elab.async false
set_option linter.all false
set_option maxRecDepth 100000
set_option maxHeartbeats 4000000
/-! VD1: dicts that a local owns; keys are tuples (of whole numbers, bools, None, such tuples), or whole numbers -/
namespace VL
open PySem PySem.Spec PyProof.Rows L2

/-! ### on data -/
/-- the class of a key: true: a tuple; false: a whole number -/
def kcls : D → Option Bool
  | .tuple ds => match nkey (.tuple ds) with
    | some k => if k.depth ≤ 8 then some true else none
    | none => none
  | .int _ => some false
  | _ => none
def dcls (kvs : List (D × D)) (k : D) : Bool := (kcls k).isSome && kvs.all fun p => decide (kcls p.1 = kcls k)
def dfind (k : Option NestedKey) : List (D × D) → Option D
  | [] => none
  | p :: r => if nkey p.1 = k then some p.2 else dfind k r
def dput (kvs : List (D × D)) (k v : D) : List (D × D) := if (dfind (nkey k) kvs).isSome then kvs.map fun p => if nkey p.1 = nkey k then (p.1, v) else p else kvs ++ [(k, v)]
def gDIn (kvs : List (D × D)) (k : D) : Option T := if dcls kvs k then some (.z (.bool (dfind (nkey k) kvs).isSome)) else none
def gDNin (kvs : List (D × D)) (k : D) : Option T := if dcls kvs k then some (.z (.bool (!(dfind (nkey k) kvs).isSome))) else none
def gDIx (kvs : List (D × D)) (k : D) : Option T := if dcls kvs k then (dfind (nkey k) kvs).map .z else none
def gDSet (kvs : List (D × D)) (k v : D) : Option (List (D × D)) := if dcls kvs k ∧ kvs.length < 100000 then some (dput kvs k v) else none
theorem dput_nodup {kvs : List (D × D)} {k v : D} (h : (kvs.map fun p => nkey p.1).Nodup) : ((dput kvs k v).map fun p => nkey p.1).Nodup := by
  unfold dput
  split
  · rw [List.map_map]
    have e : ((fun p : D × D => nkey p.1) ∘ fun p : D × D => if nkey p.1 = nkey k then (p.1, v) else p) = fun p => nkey p.1 := by
      funext p
      simp only [Function.comp]
      split <;> rfl
    rw [e]; exact h
  · rename_i hn
    rw [List.map_append, List.nodup_append]
    refine ⟨h, by simp, ?_⟩
    intro a ha b hb e
    have hb' : b = nkey k := by simpa using hb
    subst e
    rw [hb'] at ha
    clear hb hb' h
    apply hn
    induction kvs with
    | nil => simp at ha
    | cons p r ih =>
      unfold dfind
      by_cases q : nkey p.1 = nkey k
      · rw [if_pos q]; rfl
      · rw [if_neg q]
        refine ih (fun z => hn ?_) ?_
        · unfold dfind; rw [if_neg q]; exact z
        · rw [List.map_cons] at ha
          rcases List.mem_cons.mp ha with z | z
          · exact absurd z.symm q
          · exact z
mutual
theorem nkey_hash (w w' : World) : ∀ (d : D) (k : NestedKey), nkey d = some k → k.hash w = k.hash w'
  | .none, k, h => by cases h; rfl
  | .bool b, k, h => by cases h; rfl
  | .int i, k, h => by cases h; rfl
  | .tuple ds, k, h => by
    obtain ⟨ks, e, rfl⟩ := Option.map_eq_some_iff.mp (show (nkeys ds).map NestedKey.tup = some k from h)
    show reduceHash _ = reduceHash _
    rw [nkeys_hash w w' ds ks e]
  | .str _, k, h => by cases h
  | .list _, k, h => by cases h
  | .dict _, k, h => by cases h
theorem nkeys_hash (w w' : World) : ∀ (ds : List D) (ks : List NestedKey), nkeys ds = some ks → NestedKey.hashes w ks = NestedKey.hashes w' ks
  | [], ks, h => by cases h; rfl
  | d :: ds, ks, h => by
    obtain ⟨k, e1, e2⟩ := Option.bind_eq_some_iff.mp (show (nkey d).bind _ = some ks from h)
    obtain ⟨ks', e3, rfl⟩ := Option.map_eq_some_iff.mp e2
    show _ :: _ = _ :: _
    rw [nkey_hash w w' d k e1, nkeys_hash w w' ds ks' e3]
end

/-! ### data as keys -/
section
variable {X : Cx} {pins : List (Addr × Obj)} {σ : St} {H : Hp} {s : Shared}
mutual
theorem nestedOf (I : Inv X pins σ H s) : ∀ (d : D) (v : V) (u : Value) (k : NestedKey), Fz X.K H v d → nkey d = some k → RelV v u → NestedIs s.heap k u
  | .none, v, u, k, f, h, r => by cases f; cases h; cases r; exact .none
  | .bool b, v, u, k, f, h, r => by cases f; cases h; cases r; exact .bool rfl
  | .int i, v, u, k, f, h, r => by
    cases f; cases h
    obtain ⟨t, rfl⟩ := r
    exact .int i t
  | .tuple ds, v, u, k, f, h, r => by
    obtain ⟨ks, e, rfl⟩ := Option.map_eq_some_iff.mp (show (nkeys ds).map NestedKey.tup = some k from h)
    cases f with
    | tup q g =>
      obtain ⟨its, rv, o, ho, hc, n, hd⟩ := invSeq (k := .t) I q
      cases r
      exact .tup ho hc hd (by simpa using nestedAllOf I ds _ its ks g e rv)
  | .str _, v, u, k, f, h, r => by cases h
  | .list _, v, u, k, f, h, r => by cases h
  | .dict _, v, u, k, f, h, r => by cases h
theorem nestedAllOf (I : Inv X pins σ H s) : ∀ (ds : List D) (vs : List V) (us : List Value) (ks : List NestedKey), FzA X.K H vs ds → nkeys ds = some ks → Vals vs us → NestedAll s.heap ks us
  | [], vs, us, ks, f, h, r => by cases f; cases h; cases r; exact .nil
  | d :: ds, vs, us, ks, f, h, r => by
    obtain ⟨k, e1, e2⟩ := Option.bind_eq_some_iff.mp (show (nkey d).bind _ = some ks from h)
    obtain ⟨ks', e3, rfl⟩ := Option.map_eq_some_iff.mp e2
    cases f with
    | cons a b =>
      cases r with
      | cons c e => exact .cons (nestedOf I d _ _ k a e1 c) (nestedAllOf I ds _ _ ks' b e3 e)
end
theorem kcls_t (ds : List D) : kcls (.tuple ds) = match nkey (.tuple ds) with
    | some k => if k.depth ≤ 8 then some true else none
    | none => none := rfl
theorem kcls_tup {d : D} (h : kcls d = some true) : ∃ ds k, d = .tuple ds ∧ nkey d = some k ∧ k.depth ≤ 8 := by
  cases d with
  | tuple ds =>
    rw [kcls_t] at h
    cases q : nkey (.tuple ds) with
    | none => rw [q] at h; cases h
    | some k =>
      rw [q] at h
      by_cases z : k.depth ≤ 8
      · exact ⟨ds, k, rfl, rfl, z⟩
      · simp only [if_neg z] at h; cases h
  | _ => cases h
theorem kcls_int {d : D} (h : kcls d = some false) : ∃ i, d = .int i := by
  cases d with
  | tuple ds =>
    rw [kcls_t] at h
    cases q : nkey (.tuple ds) with
    | none => rw [q] at h; cases h
    | some k =>
      rw [q] at h
      by_cases z : k.depth ≤ 8
      · simp only [if_pos z] at h; cases h
      · simp only [if_neg z] at h; cases h
  | int i => exact ⟨i, rfl⟩
  | _ => cases h

/-! ### entries whose keys are tuples -/
abbrev XE := NestedKey × Addr × Value
structure TP (K : Fr) (H : Hp) (x : XE) (p : D × D) : Prop where
  key : nkey p.1 = some x.1
  kf : Fz K H (.ref x.2.1) p.1
  dp : x.1.depth ≤ 8
  val : ∃ y, RelV y x.2.2 ∧ Fz K H y p.2
theorem entT (w : World) {K : Fr} {H : Hp} : ∀ {es : List DictEntry} {kvs : List (D × D)}, EntA K H es kvs → (∀ p ∈ kvs, kcls p.1 = some true) → ∃ xs : List XE, es = xs.map (fun x => ⟨x.1.hash w, .ref x.2.1, x.2.2⟩) ∧ Paired (TP K H) xs kvs
  | _, _, .nil, _ => ⟨[], rfl, .nil⟩
  | _, _, @EntA.cons _ _ e es k d kvs x y a b c g hh f, h => by
    obtain ⟨xs, e1, e2⟩ := entT w f fun p hp => h p (List.mem_cons_of_mem _ hp)
    obtain ⟨ds, nk, hk, e3, e4⟩ := kcls_tup (h _ (List.mem_cons_self ..))
    obtain ⟨nk', e5, e6⟩ := hh
    obtain ⟨eh, ek, ev⟩ := e
    simp only at a b e6 hk e3
    subst hk
    rw [e3] at e5
    cases e5
    cases c with
    | tup q1 q2 =>
      rename_i ad xs'
      cases (show ek = .ref ad from a)
      refine ⟨(nk, ad, ev) :: xs, ?_, .cons ⟨e3, .tup q1 q2, e4, y, b, g⟩ e2⟩
      rw [List.map_cons, ← e1, e6 w]
theorem entT_back (w : World) {K : Fr} {H : Hp} : ∀ {xs : List XE} {kvs : List (D × D)}, Paired (TP K H) xs kvs → EntA K H (xs.map fun x => ⟨x.1.hash w, .ref x.2.1, x.2.2⟩) kvs
  | _, _, .nil => .nil
  | _, _, .cons h t => by
    obtain ⟨y, hy, fy⟩ := h.val
    exact .cons (show RelV (.ref _) (.ref _) from rfl) hy h.kf fy ⟨_, h.key, fun w' => nkey_hash w' w _ _ h.key⟩ (entT_back w t)
theorem TP.keys {K : Fr} {H : Hp} : ∀ {xs : List XE} {kvs : List (D × D)}, Paired (TP K H) xs kvs → kvs.map (fun p => nkey p.1) = xs.map fun x => some x.1
  | _, _, .nil => rfl
  | _, _, .cons h t => by rw [List.map_cons, List.map_cons, h.key, TP.keys t]
theorem TP.nodup {K : Fr} {H : Hp} {xs : List XE} {kvs : List (D × D)} (h : Paired (TP K H) xs kvs) (n : (kvs.map fun p => nkey p.1).Nodup) : (xs.map (·.1)).Nodup := by
  rw [TP.keys h] at n
  refine List.pairwise_map.mpr ((List.pairwise_map.mp n).imp fun {a b} q e => q (congrArg some e))
theorem TP.find {K : Fr} {H : Hp} {k : NestedKey} : ∀ {xs : List XE} {kvs : List (D × D)}, Paired (TP K H) xs kvs → (atKey xs k = none ∧ dfind (some k) kvs = none) ∨ ∃ p d y, atKey xs k = some p ∧ dfind (some k) kvs = some d ∧ RelV y p.2 ∧ Fz K H y d
  | _, _, .nil => .inl ⟨rfl, rfl⟩
  | x :: xs, p :: kvs, .cons h t => by
    obtain ⟨y, hy, fy⟩ := h.val
    by_cases e : x.1 = k
    · refine .inr ⟨x.2, p.2, y, ?_, ?_, hy, fy⟩
      · simp [atKey, List.find?_cons, e]
      · unfold dfind; rw [if_pos (by rw [h.key, e])]
    · have a : atKey (x :: xs) k = atKey xs k := by simp [atKey, List.find?_cons, e]
      have b : dfind (some k) (p :: kvs) = dfind (some k) kvs := by
        conv => lhs; unfold dfind
        rw [if_neg (by rw [h.key]; intro z; exact e (Option.some.inj z))]
      rw [a, b]
      exact TP.find t
theorem TP.repl {K : Fr} {H : Hp} {k : NestedKey} {kd v : D} {y : V} {u : Value} (hk : nkey kd = some k) (ry : RelV y u) (fy : Fz K H y v) : ∀ {xs : List XE} {kvs : List (D × D)}, Paired (TP K H) xs kvs →
    Paired (TP K H) (xs.map (putAt k u)) (kvs.map fun p => if nkey p.1 = nkey kd then (p.1, v) else p)
  | _, _, .nil => .nil
  | x :: xs, p :: kvs, .cons h t => by
    rw [List.map_cons, List.map_cons]
    refine .cons ?_ (TP.repl hk ry fy t)
    unfold putAt
    by_cases e : x.1 = k
    · rw [if_pos e, if_pos (by rw [h.key, hk, e])]
      exact ⟨h.key, h.kf, h.dp, y, ry, fy⟩
    · rw [if_neg e, if_neg (by rw [h.key, hk]; intro z; exact e (Option.some.inj z))]
      exact h
theorem TP.put {K : Fr} {H : Hp} {k : NestedKey} {kd v : D} {b : Addr} {y : V} {u : Value} (hk : nkey kd = some k) (dk : k.depth ≤ 8) (fk : Fz K H (.ref b) kd) (ry : RelV y u) (fy : Fz K H y v) {xs : List XE} {kvs : List (D × D)} (h : Paired (TP K H) xs kvs) :
    Paired (TP K H) (storedH xs k b u) (dput kvs kd v) := by
  unfold storedH dput
  rw [hk]
  rcases TP.find (k := k) h with ⟨a, c⟩ | ⟨p, d, z, a, c, _, _⟩
  · rw [a, c]
    exact Paired.snoc h ⟨hk, fk, dk, y, ry, fy⟩
  · rw [a, c]
    have q := TP.repl (kd := kd) hk ry fy h
    rw [hk] at q
    exact q
theorem TP.mono {K : Fr} {H H' : Hp} (p : PK H H') {xs : List XE} {kvs : List (D × D)} (h : Paired (TP K H) xs kvs) : Paired (TP K H') xs kvs :=
  Paired.mapP h fun x q z => ⟨z.key, Fz.mono p _ _ z.kf, z.dp, let ⟨y, a, b⟩ := z.val; ⟨y, a, Fz.mono p _ _ b⟩⟩
theorem TP.is (I : Inv X pins σ H s) : ∀ {xs : List XE} {kvs : List (D × D)}, Paired (TP X.K H) xs kvs → ∀ x ∈ xs, (nestedKind X.prog X.w).is s.heap x.1 x.2.1
  | _, _, .nil, x, hx => by cases hx
  | _, _, .cons h t, x, hx => by
    rcases List.mem_cons.mp hx with rfl | hx
    · exact ⟨nestedOf I _ _ _ _ h.kf h.key rfl, h.dp⟩
    · exact TP.is I t x hx
end
end VL

set_option Elab.async false
set_option linter.all false
set_option maxRecDepth 100000
set_option maxHeartbeats 4000000
namespace VL
open PySem PySem.Spec PyProof.Rows L2
/-! ### entries whose keys are whole numbers -/
structure IP (K : Fr) (H : Hp) (x : Int × Value) (p : D × D) : Prop where
  key : p.1 = .int x.1
  val : ∃ y, RelV y x.2 ∧ Fz K H y p.2
theorem entI (P : Program) (w : World) {K : Fr} {H : Hp} : ∀ {es : List DictEntry} {kvs : List (D × D)}, EntA K H es kvs → (∀ p ∈ kvs, kcls p.1 = some false) → ∃ vs : List (Int × Value), Pairs (intKind P w) es vs ∧ (∀ e ∈ es, ∃ k, (intKind P w).is k e.key = true ∧ e.hash = (intKind P w).hash k) ∧ Paired (IP K H) vs kvs
  | _, _, .nil, _ => ⟨[], .nil, (fun e he => by cases he), .nil⟩
  | _, _, @EntA.cons _ _ e es k d kvs x y a b c g hh f, h => by
    obtain ⟨vs, e1, e2, e3⟩ := entI P w f fun p hp => h p (List.mem_cons_of_mem _ hp)
    obtain ⟨i, hk⟩ := kcls_int (h _ (List.mem_cons_self ..))
    obtain ⟨nk', e5, e6⟩ := hh
    simp only at hk
    subst hk
    cases e5
    cases c
    obtain ⟨t, ht⟩ := (show ∃ t, e.key = Value.int i t from a)
    have is : (intKind P w).is i e.key = true := by rw [ht]; exact intKind_is P w i t
    refine ⟨(i, e.val) :: vs, .cons is rfl e1, ?_, .cons ⟨rfl, y, b, g⟩ e3⟩
    intro e' he'
    rcases List.mem_cons.mp he' with rfl | he'
    · exact ⟨i, is, (e6 w).symm⟩
    · exact e2 e' he'
theorem entI_back (P : Program) (w : World) {K : Fr} {H : Hp} : ∀ {es : List DictEntry} {vs : List (Int × Value)} {kvs : List (D × D)}, Pairs (intKind P w) es vs → (∀ e ∈ es, ∃ k, (intKind P w).is k e.key = true ∧ e.hash = (intKind P w).hash k) → Paired (IP K H) vs kvs → EntA K H es kvs
  | _, _, _, .nil, _, .nil => .nil
  | _, _, _, @Pairs.cons _ _ _ _ _ e kv es kvs hk hv t, h, @Paired.cons _ _ _ _ p _ ps ih it => by
    obtain ⟨k', i1, i2⟩ := h e (List.mem_cons_self ..)
    obtain ⟨y, hy, fy⟩ := ih.val
    have ek : k' = kv.1 := (intKind P w).inj e.key _ _ i1 hk
    subst ek
    obtain ⟨t', ht⟩ := Value.isInt_shape hk
    obtain ⟨p1, p2⟩ := p
    have hp : p1 = .int kv.1 := ih.key
    subst hp
    refine .cons (x := .int kv.1) ?_ (by rw [hv]; exact hy) (.int _) fy ⟨_, rfl, fun w' => i2.symm⟩ (entI_back P w t (fun e' he' => h e' (List.mem_cons_of_mem _ he')) it)
    exact ⟨t', ht⟩
theorem IP.nodup {K : Fr} {H : Hp} : ∀ {xs : List (Int × Value)} {kvs : List (D × D)}, Paired (IP K H) xs kvs → kvs.map (fun p => nkey p.1) = xs.map fun x => some (.num x.1)
  | _, _, .nil => rfl
  | _, _, .cons h t => by rw [List.map_cons, List.map_cons, h.key, IP.nodup t]; rfl
theorem IP.nd {K : Fr} {H : Hp} {xs : List (Int × Value)} {kvs : List (D × D)} (h : Paired (IP K H) xs kvs) (n : (kvs.map fun p => nkey p.1).Nodup) : (xs.map (·.1)).Nodup := by
  rw [IP.nodup h] at n
  refine List.pairwise_map.mpr ((List.pairwise_map.mp n).imp fun {a b} q e => q (by rw [e]))
theorem IP.find {K : Fr} {H : Hp} {k : Int} : ∀ {xs : List (Int × Value)} {kvs : List (D × D)}, Paired (IP K H) xs kvs → (valueAt xs k = none ∧ dfind (some (.num k)) kvs = none) ∨ ∃ p d y, valueAt xs k = some p ∧ dfind (some (.num k)) kvs = some d ∧ RelV y p ∧ Fz K H y d
  | _, _, .nil => .inl ⟨rfl, rfl⟩
  | x :: xs, p :: kvs, .cons h t => by
    obtain ⟨y, hy, fy⟩ := h.val
    have hn : nkey p.1 = some (.num x.1) := by rw [h.key]; rfl
    by_cases e : x.1 = k
    · refine .inr ⟨x.2, p.2, y, ?_, ?_, hy, fy⟩
      · simp [valueAt, List.find?_cons, e]
      · unfold dfind; rw [if_pos (by rw [hn, e])]
    · have a : valueAt (x :: xs) k = valueAt xs k := by simp [valueAt, List.find?_cons, e]
      have b : dfind (some (.num k)) (p :: kvs) = dfind (some (.num k)) kvs := by
        conv => lhs; unfold dfind
        rw [if_neg (by rw [hn]; intro z; injection z with z; injection z with z; exact e z)]
      rw [a, b]
      exact IP.find t
theorem IP.any {K : Fr} {H : Hp} {k : Int} {xs : List (Int × Value)} {kvs : List (D × D)} (h : Paired (IP K H) xs kvs) : xs.any (fun kv => kv.1 = k) = (dfind (some (.num k)) kvs).isSome := by
  have q : xs.any (fun kv => kv.1 = k) = (valueAt xs k).isSome := by
    unfold valueAt
    rw [Option.isSome_map, Bool.eq_iff_iff, List.any_eq_true, List.find?_isSome]
  rw [q]
  rcases IP.find (k := k) h with ⟨a, c⟩ | ⟨p, d, z, a, c, _, _⟩
  · rw [a, c]; rfl
  · rw [a, c]; rfl
theorem IP.put {K : Fr} {H : Hp} {k : Int} {v : D} {y : V} {u : Value} (ry : RelV y u) (fy : Fz K H y v) {xs : List (Int × Value)} {kvs : List (D × D)} (h : Paired (IP K H) xs kvs) : Paired (IP K H) (stored xs k u) (dput kvs (.int k) v) := by
  unfold stored dput
  rw [IP.any h]
  show Paired (IP K H) _ (if (dfind (some (.num k)) kvs).isSome = true then _ else _)
  cases q : (dfind (some (.num k)) kvs).isSome with
  | false => exact Paired.snoc h ⟨rfl, y, ry, fy⟩
  | true =>
    clear q
    show Paired (IP K H) (xs.map _) (kvs.map _)
    induction h with
    | nil => exact .nil
    | @cons x p xs kvs h t ih =>
      rw [List.map_cons, List.map_cons]
      refine .cons ?_ ih
      have hn : nkey p.1 = some (.num x.1) := by rw [h.key]; rfl
      by_cases e : x.1 = k
      · rw [if_pos e, if_pos (by rw [hn, e]; rfl)]; exact ⟨h.key, y, ry, fy⟩
      · rw [if_neg e, if_neg (by rw [hn]; intro z; injection z with z; injection z with z; exact e z)]; exact h
theorem IP.mono {K : Fr} {H H' : Hp} (p : PK H H') {xs : List (Int × Value)} {kvs : List (D × D)} (h : Paired (IP K H) xs kvs) : Paired (IP K H') xs kvs :=
  Paired.mapP h fun x q z => ⟨z.key, let ⟨y, a, b⟩ := z.val; ⟨y, a, Fz.mono p _ _ b⟩⟩

/-! ### a dict in the heap -/
structure Dc (K : Fr) (H : Hp) (x : V) (a : Addr) (es : List DictEntry) (kvs : List (D × D)) : Prop where
  ref : x = .ref a
  obj : H a = some (dicO a es)
  ent : EntA K H es kvs
  nd : (kvs.map fun p => nkey p.1).Nodup
theorem RepT.dc {K : Fr} {H : Hp} {v : V} {kvs : List (D × D)} {S : Addr → Prop} (h : RepT K H v (.dc kvs) S) : ∃ a es, Dc K H v a es kvs ∧ S a := by
  obtain ⟨a, es, e, s, q, f, nd⟩ := h
  exact ⟨a, es, ⟨e, q, f, nd⟩, s⟩
section
variable {X : Cx} {pins : List (Addr × Obj)} {σ : St} {H : Hp} {s : Shared} {x : V} {a : Addr} {es : List DictEntry} {kvs : List (D × D)}
theorem Dc.raw (I : Inv X pins σ H s) (d : Dc X.K H x a es kvs) : (a == sysModules) = false ∧ ∃ ep, s.heap.DictRaw a es.toArray ep := (I.hok a _ d.obj).1
theorem Dc.typeIs (I : Inv X pins σ H s) (d : Dc X.K H x a es kvs) : s.TypeIs (.ref a) "dict" := let ⟨_, _, h⟩ := d.raw I; h.typeIs
theorem Dc.tup (I : Inv X pins σ H s) (d : Dc X.K H x a es kvs) (h : ∀ p ∈ kvs, kcls p.1 = some true) : ∃ xs, Paired (TP X.K H) xs kvs ∧ s.heap.DictOfH (nestedKind X.prog X.w) a xs := by
  obtain ⟨xs, e, t⟩ := entT X.w d.ent h
  obtain ⟨_, ep, o, ho, hc, hd⟩ := d.raw I
  exact ⟨xs, t, o, _, ep, ho, hc, hd, (show es.toArray.toList = _ from by rw [List.toList_toArray]; exact e), TP.is I t, TP.nodup t d.nd⟩
theorem Dc.ints (I : Inv X pins σ H s) (d : Dc X.K H x a es kvs) (h : ∀ p ∈ kvs, kcls p.1 = some false) : ∃ vs, Paired (IP X.K H) vs kvs ∧ s.heap.DictOf (intKind X.prog X.w) a vs := by
  obtain ⟨vs, e, k, t⟩ := entI X.prog X.w d.ent h
  obtain ⟨_, ep, o, ho, hc, hd⟩ := d.raw I
  exact ⟨vs, t, o, _, ep, ho, hc, hd, fun e' he' => k e' (by simpa using he'), by simpa using e, IP.nd t d.nd⟩
theorem dcls_some {kvs : List (D × D)} {k : D} (h : dcls kvs k = true) : (kcls k = some true ∧ ∀ p ∈ kvs, kcls p.1 = some true) ∨ (kcls k = some false ∧ ∀ p ∈ kvs, kcls p.1 = some false) := by
  unfold dcls at h
  rw [Bool.and_eq_true, List.all_eq_true] at h
  obtain ⟨h1, h2⟩ := h
  cases q : kcls k with
  | none => rw [q] at h1; cases h1
  | some b =>
    have h3 : ∀ p ∈ kvs, kcls p.1 = some b := fun p hp => by have := h2 p hp; rw [decide_eq_true_eq] at this; rw [this, q]
    cases b with
    | true => exact .inl ⟨rfl, h3⟩
    | false => exact .inr ⟨rfl, h3⟩
theorem Rp.fzT {K : Fr} {H : Hp} {v : V} {ds : List D} (h : Rp K H v (.tuple ds)) : Fz K H v (.tuple ds) := by
  rcases h with h | ⟨a, xs, es, rfl, e, q, f⟩
  · exact h
  · cases e
end
end VL

set_option Elab.async false
set_option linter.all false
set_option maxRecDepth 100000
set_option maxHeartbeats 4000000
namespace VL
open PySem PySem.Spec PyProof.Rows L2
/-! ### operations by values -/
/-- a dict at the right, a value at the left -/
def rDR (K : Fr) (g : List (D × D) → D → Option T) : R2 := fun x y H Q => ∃ a es kvs k t, Dc K H y a es kvs ∧ Rp K H x k ∧ g kvs k = some t ∧ ∀ v H', Fresh K H H' v t → Q v H'
def rDL (K : Fr) (g : List (D × D) → D → Option T) : R2 := fun x y H Q => rDR K g y x H Q
section
variable {X : Cx}
theorem room_n (hu : X.A.units + 65 < cLine) : (nestedKind X.prog X.w).room X.A.in1 := by show X.A.in1.units + 8 < cLine; show X.A.units + 1 + 8 < cLine; omega
theorem ite_s {p : Prop} [Decidable p] {α : Type} {x : Option α} {y : α} (h : (if p then x else none) = some y) : p ∧ x = some y := by
  by_cases c : p
  · rw [if_pos c] at h; exact ⟨c, h⟩
  · rw [if_neg c] at h; cases h
/-- what is found under a key -/
theorem dc_in {pins : List (Addr × Obj)} {σ : St} {H : Hp} {s : Shared} {x y : V} {a : Addr} {es : List DictEntry} {kvs : List (D × D)} {k : D} {u : Value} {Q : Value → Shared → Prop} {E : Value → Shared → Prop} (hu : X.A.units + 65 < cLine) (I : Inv X pins σ H s) (d : Dc X.K H x a es kvs) (rk : Rp X.K H y k) (ry : RelV y u) (hc : dcls kvs k = true)
    (h : ∀ s', Inv X pins σ H s' → Q (.bool (dfind (nkey k) kvs).isSome) s') : wpAny (model X.prog X.w) X.A (compareOp .In u (.ref a)) Q E s := by
  obtain ⟨hd, _⟩ := d.raw I
  rcases dcls_some hc with ⟨c1, c2⟩ | ⟨c1, c2⟩
  · obtain ⟨ds, nk, rfl, e1, e2⟩ := kcls_tup c1
    obtain ⟨xs, t, dd⟩ := d.tup I c2
    obtain ⟨b, ys, rfl, q1, f1⟩ := rk.tuple
    cases (show u = .ref b from ry)
    refine wpAny_in_heap (room_n hu) ⟨nestedOf I _ _ _ _ rk.fzT e1 rfl, e2⟩ hd dd ?_
    have q : (atKey xs nk).isSome = (dfind (nkey (.tuple ds)) kvs).isSome := by
      rw [e1]
      rcases TP.find (k := nk) t with ⟨z1, z2⟩ | ⟨p, d', y, z1, z2, _, _⟩ <;> rw [z1, z2] <;> rfl
    rw [q]
    exact h _ (I.tok _)
  · obtain ⟨i, rfl⟩ := kcls_int c1
    obtain ⟨vs, t, dd⟩ := d.ints I c2
    cases rk.int
    obtain ⟨tk, rfl⟩ := ry
    refine wpAny_in_of (intKind_is X.prog X.w i tk) hd dd.mapOf ?_
    have q : (valueAt vs i).isSome = (dfind (nkey (.int i)) kvs).isSome := by
      show _ = (dfind (some (.num i)) kvs).isSome
      rcases IP.find (k := i) t with ⟨z1, z2⟩ | ⟨p, d', y, z1, z2, _, _⟩ <;> rw [z1, z2] <;> rfl
    rw [q]
    exact h _ (I.tok _)
theorem dc_nin {pins : List (Addr × Obj)} {σ : St} {H : Hp} {s : Shared} {x y : V} {a : Addr} {es : List DictEntry} {kvs : List (D × D)} {k : D} {u : Value} {Q : Value → Shared → Prop} {E : Value → Shared → Prop} (hu : X.A.units + 65 < cLine) (I : Inv X pins σ H s) (d : Dc X.K H x a es kvs) (rk : Rp X.K H y k) (ry : RelV y u) (hc : dcls kvs k = true)
    (h : ∀ s', Inv X pins σ H s' → Q (.bool (!(dfind (nkey k) kvs).isSome)) s') : wpAny (model X.prog X.w) X.A (compareOp .NotIn u (.ref a)) Q E s := by
  obtain ⟨hd, _⟩ := d.raw I
  rcases dcls_some hc with ⟨c1, c2⟩ | ⟨c1, c2⟩
  · obtain ⟨ds, nk, rfl, e1, e2⟩ := kcls_tup c1
    obtain ⟨xs, t, dd⟩ := d.tup I c2
    obtain ⟨b, ys, rfl, q1, f1⟩ := rk.tuple
    cases (show u = .ref b from ry)
    refine wpAny_notIn_heap (room_n hu) ⟨nestedOf I _ _ _ _ rk.fzT e1 rfl, e2⟩ hd dd ?_
    have q : (atKey xs nk).isSome = (dfind (nkey (.tuple ds)) kvs).isSome := by
      rw [e1]
      rcases TP.find (k := nk) t with ⟨z1, z2⟩ | ⟨p, d', y, z1, z2, _, _⟩ <;> rw [z1, z2] <;> rfl
    rw [q]
    exact h _ (I.tok _)
  · obtain ⟨i, rfl⟩ := kcls_int c1
    obtain ⟨vs, t, dd⟩ := d.ints I c2
    cases rk.int
    obtain ⟨tk, rfl⟩ := ry
    refine wpAny_notIn_of (intKind_is X.prog X.w i tk) hd dd.mapOf ?_
    have q : (valueAt vs i).isSome = (dfind (nkey (.int i)) kvs).isSome := by
      show _ = (dfind (some (.num i)) kvs).isSome
      rcases IP.find (k := i) t with ⟨z1, z2⟩ | ⟨p, d', y, z1, z2, _, _⟩ <;> rw [z1, z2] <;> rfl
    rw [q]
    exact h _ (I.tok _)
theorem dc_get {pins : List (Addr × Obj)} {σ : St} {H : Hp} {s : Shared} {x y : V} {a : Addr} {es : List DictEntry} {kvs : List (D × D)} {k d' : D} {u : Value} {Q : Value → Shared → Prop} {E : Value → Shared → Prop} (hu : X.A.units + 65 < cLine) (I : Inv X pins σ H s) (d : Dc X.K H x a es kvs) (rk : Rp X.K H y k) (ry : RelV y u) (hc : dcls kvs k = true)
    (hf : dfind (nkey k) kvs = some d') (h : ∀ z w s', Inv X pins σ H s' → RelV z w → Fz X.K H z d' → Q w s') : wpAny (model X.prog X.w) X.A (getItem (.ref a) u) Q E s := by
  rcases dcls_some hc with ⟨c1, c2⟩ | ⟨c1, c2⟩
  · obtain ⟨ds, nk, rfl, e1, e2⟩ := kcls_tup c1
    obtain ⟨xs, t, dd⟩ := d.tup I c2
    obtain ⟨b, ys, rfl, q1, f1⟩ := rk.tuple
    cases (show u = .ref b from ry)
    rw [e1] at hf
    rcases TP.find (k := nk) t with ⟨z1, z2⟩ | ⟨p, d2, y, z1, z2, ry, fy⟩
    · rw [z2] at hf; cases hf
    · rw [z2] at hf; cases hf
      exact wpAny_getItem_heap (room_n hu) ⟨nestedOf I _ _ _ _ rk.fzT e1 rfl, e2⟩ dd z1 (h _ _ _ (I.tok _) ry fy)
  · obtain ⟨i, rfl⟩ := kcls_int c1
    obtain ⟨vs, t, dd⟩ := d.ints I c2
    cases rk.int
    obtain ⟨tk, rfl⟩ := ry
    rcases IP.find (k := i) t with ⟨z1, z2⟩ | ⟨p, d2, y, z1, z2, ry, fy⟩
    · rw [show nkey (.int i) = some (.num i) from rfl, z2] at hf; cases hf
    · rw [show nkey (.int i) = some (.num i) from rfl, z2] at hf; cases hf
      exact wpAny_getItem_of (intKind_is X.prog X.w i tk) dd.mapOf z1 (h _ _ _ (I.tok _) ry fy)
theorem dput_len (kvs : List (D × D)) (k v : D) : (dput kvs k v).length ≤ kvs.length + 1 := by
  unfold dput
  split <;> simp
theorem dc_put {pins : List (Addr × Obj)} {σ : St} {H : Hp} {s : Shared} {x y z : V} {a : Addr} {es : List DictEntry} {kvs : List (D × D)} {k d' : D} {u w : Value} {Q : Unit → Shared → Prop} {E : Value → Shared → Prop} (hu : X.A.units + 65 < cLine) (I : Inv X pins σ H s) (d : Dc X.K H x a es kvs) (rk : Rp X.K H y k) (ry : RelV y u) (rz : RelV z w) (fz : Fz X.K H z d') (hc : dcls kvs k = true) (hl : kvs.length < 100000)
    (h : ∀ es' s', Dc X.K (upd H a (dicO a es')) x a es' (dput kvs k d') → Inv X pins σ (upd H a (dicO a es')) s' → Q () s') : wpAny (model X.prog X.w) X.A (setItem (.ref a) u w) Q E s := by
  obtain ⟨hd, _⟩ := d.raw I
  have mu : Mut (H a) := by rw [d.obj]; exact True.intro
  have pk : ∀ es', PK H (upd H a (dicO a es')) := fun es' => .mut d.obj trivial
  rcases dcls_some hc with ⟨c1, c2⟩ | ⟨c1, c2⟩
  · obtain ⟨ds, nk, rfl, e1, e2⟩ := kcls_tup c1
    obtain ⟨xs, t, dd⟩ := d.tup I c2
    obtain ⟨b, ys, rfl, q1, f1⟩ := rk.tuple
    cases (show u = .ref b from ry)
    have hz : xs.length ≤ sizeLine := by rw [Paired.length t]; exact Nat.le_trans (Nat.le_of_lt hl) (by decide)
    refine wpAny_setItem_heap (hsz := hz) (room_n hu) ⟨nestedOf I _ _ _ _ rk.fzT e1 rfl, e2⟩ dd fun h' dd' hs => ?_
    obtain ⟨q, es', ep, hq, h2, h3, h4, _, h5⟩ := dd'
    have tp := TP.put e1 e2 rk.fzT rz fz t
    have ent : EntA X.K H es'.toList (dput kvs (.tuple ds) d') := by
      rw [h4]; exact entT_back X.w tp
    refine h es'.toList _ ⟨d.ref, upd_same, ent.mono (pk _), dput_nodup d.nd⟩ (d_write I mu hs ⟨q, hq⟩ ?_)
    refine ⟨⟨hd, ep, q, hq, h2, by simpa using h3⟩, ⟨q, hq⟩, fun h1 h2 p st => ?_⟩
    obtain ⟨p1, ep, p2⟩ := p
    exact ⟨p1, ep, p2.at st⟩
  · obtain ⟨i, rfl⟩ := kcls_int c1
    obtain ⟨vs, t, dd⟩ := d.ints I c2
    cases rk.int
    obtain ⟨tk, rfl⟩ := ry
    have hz : vs.length ≤ sizeLine := by rw [Paired.length t]; exact Nat.le_trans (Nat.le_of_lt hl) (by decide)
    refine wpAny_setItem_pairs (hsz := hz) (intKind_is X.prog X.w i tk) dd fun h' dd' hs => ?_
    obtain ⟨q, es', ep, hq, h2, h3, h4, h5, _⟩ := dd'
    have ent : EntA X.K H es'.toList (dput kvs (.int i) d') := entI_back X.prog X.w h5 (fun e he => h4 e (by simpa using he)) (IP.put rz fz t)
    refine h es'.toList _ ⟨d.ref, upd_same, ent.mono (pk _), dput_nodup d.nd⟩ (d_write I mu hs ⟨q, hq⟩ ?_)
    refine ⟨⟨hd, ep, q, hq, h2, by simpa using h3⟩, ⟨q, hq⟩, fun h1 h2 p st => ?_⟩
    obtain ⟨p1, ep, p2⟩ := p
    exact ⟨p1, ep, p2.at st⟩
theorem od_din (hu : X.A.units + 65 < cLine) : OpR X (compareOp .In) (rDR X.K gDIn) := by
  intro pins s σ H x y v u Q I rx ry ⟨a, es, kvs, k, t, d, rk, e, h⟩
  obtain ⟨hc, e2⟩ := ite_s (show (if dcls kvs k = true then some _ else none) = some t from e)
  cases e2
  have er := d.ref
  subst er
  cases (show u = .ref a from ry)
  exact dc_in hu I d rk rx hc fun s' I' => ⟨.bl _, H, I', rfl, h _ _ (.z (.bl _))⟩
theorem od_dnin (hu : X.A.units + 65 < cLine) : OpR X (compareOp .NotIn) (rDR X.K gDNin) := by
  intro pins s σ H x y v u Q I rx ry ⟨a, es, kvs, k, t, d, rk, e, h⟩
  obtain ⟨hc, e2⟩ := ite_s (show (if dcls kvs k = true then some _ else none) = some t from e)
  cases e2
  have er := d.ref
  subst er
  cases (show u = .ref a from ry)
  exact dc_nin hu I d rk rx hc fun s' I' => ⟨.bl _, H, I', rfl, h _ _ (.z (.bl _))⟩
theorem id_dix (hu : X.A.units + 65 < cLine) : IxR X (rDL X.K gDIx) := by
  intro value slice pins s σ H x y v u Q I rx ry ⟨a, es, kvs, k, t, d, rk, e, h⟩ hs
  obtain ⟨hc, e2⟩ := ite_s (show (if dcls kvs k = true then _ else none) = some t from e)
  obtain ⟨d', e3, rfl⟩ := Option.map_eq_some_iff.mp e2
  have er := d.ref
  subst er
  cases (show v = .ref a from rx)
  exact tail_any (d.typeIs I) PySem.F.slot_dict_getitem.lookup (dc_get hu I d rk ry hc e3 fun z w s' I' rz fz => ⟨z, H, I', rz, h _ _ (.z fz)⟩) hs
end
end VL

set_option Elab.async false
set_option linter.all false
set_option maxRecDepth 100000
set_option maxHeartbeats 4000000
namespace VL
open PySem PySem.Spec PyProof.Rows L2
/-! ### mirrors: an operand may be a dict -/
def mDR (g : D → D → Option T) (gd : List (D × D) → D → Option T) (m m' : MO) : ME := fun ρ => (m ρ).bind fun p => (m' p.2).bind fun q => (p.1.get q.2).bind fun t => match q.1.raw q.2 with
  | some (.dc kvs) => (gd kvs t.data).map fun r => (r, q.2)
  | some (.z d) => (g t.data d).map fun r => (r, q.2)
  | some (.l ds) => (g t.data (.list ds)).map fun r => (r, q.2)
  | none => none
def mDL (g : D → D → Option T) (gd : List (D × D) → D → Option T) (m m' : MO) : ME := fun ρ => (m ρ).bind fun p => (m' p.2).bind fun q => (q.1.get q.2).bind fun t => match p.1.raw q.2 with
  | some (.dc kvs) => (gd kvs t.data).map fun r => (r, q.2)
  | some (.z d) => (g d t.data).map fun r => (r, q.2)
  | some (.l ds) => (g (.list ds) t.data).map fun r => (r, q.2)
  | none => none
/-- a call of a builtin with one argument, which may be a dict -/
def mCD (g : List D → Option T) (gd : List (D × D) → Option T) (m : MO) : ME := fun ρ => (m ρ).bind fun p => match p.1.raw p.2 with
  | some (.dc kvs) => (gd kvs).map fun r => (r, p.2)
  | some (.z d) => (g [d]).map fun r => (r, p.2)
  | some (.l ds) => (g [.list ds]).map fun r => (r, p.2)
  | none => none
def gDLen (kvs : List (D × D)) : Option T := if kvs.length < 100000 then some (.z (.int (kvs.length : Nat))) else none
def gDLst (kvs : List (D × D)) : Option T := if kvs.length < 100000 then some (.l (kvs.map (·.1))) else none
def mD0 : ME := fun ρ => some (.dc [], ρ)
def mD1 (mk mv : ME) : ME := fun ρ => (mk ρ).bind fun p => (mv p.2).bind fun q => match p.1, q.1 with
  | .z k, .z d => if kcls k = some true then some (.dc [(k, d)], q.2) else none
  | _, _ => none
theorem rawRp {K : Fr} {H : Hp} {σ : St} {ρ : Env} {own : Ow} {j : Nat} {v : V} {a : Arg} {t : T} (es : ES K H σ ρ own) (r : ArgRep K H σ own j v a) (g : a.raw ρ = some t) : ∃ S, RepT K H v t S := by
  cases a with
  | val u =>
    cases (Option.some.inj g : u = t)
    exact ⟨_, r⟩
  | slot i =>
    obtain ⟨w, e, q⟩ := es.rep i t (slotT_some g)
    have r' : σ[i]? = some (some v) := r
    rw [e] at r'
    cases r'
    exact ⟨_, q⟩
section
variable {X : Cx} {a b : Expr} {m m' : MO} {pos : Pos}
theorem tE_DR {K : Fr} {g : D → D → Option T} {gd : List (D × D) → D → Option T} {σ : St} {H : Hp} {Q : VK} (q : tE K (mDR g gd m m') σ H Q) : tOp (fun x y H Q => rD2 K g x y H Q ∨ rDR K gd x y H Q) (tO K m) (tO K m') σ H Q := by
  obtain ⟨B, ρ, own, t, ρ', hB, es, e, k⟩ := q
  obtain ⟨⟨a, ρ1⟩, e1, e2⟩ := Option.bind_eq_some_iff.mp (show (m ρ).bind _ = some (t, ρ') from e)
  obtain ⟨⟨b, ρ2⟩, e3, e4⟩ := Option.bind_eq_some_iff.mp e2
  obtain ⟨u, e5, e6⟩ := Option.bind_eq_some_iff.mp e4
  refine ⟨B, ρ, own, a, ρ1, hB, es, e1, fun v H1 own1 st1 es1 r1 => ?_⟩
  refine ⟨B + 1, ρ1, own1, b, ρ2, Nat.le_succ_of_le hB, es1, e3, fun v2 H2 own2 st2 es2 r2 => ?_⟩
  have r1' := argStep (K := K) (σ := σ) (v := v) (a := a) st2 hB (Nat.lt_succ_self B) r1
  have ru := argRp es2 r1' e5
  have fin : ∀ z, (∃ w, (w, ρ2) = (t, ρ') ∧ z = w) → ∀ v3 H3, Fresh K H2 H3 v3 z → Q v3 H3 := by
    rintro z ⟨w, h, rfl⟩ v3 H3 f
    cases h
    exact k v3 H3 _ ((st1.trans (st2.down (Nat.le_succ B))).trans f.step) (f.es es2) f.rep'
  split at e6
  · rename_i kvs er
    obtain ⟨z, e9, e10⟩ := Option.map_eq_some_iff.mp e6
    obtain ⟨S, rr⟩ := rawRp es2 r2 er
    obtain ⟨ad, en, d, _⟩ := rr.dc
    exact .inr ⟨ad, en, kvs, u.data, z, d, ru, e9, fun v3 H3 f => fin z ⟨z, e10, rfl⟩ v3 H3 f⟩
  · rename_i d er
    obtain ⟨z, e9, e10⟩ := Option.map_eq_some_iff.mp e6
    obtain ⟨S, rr⟩ := rawRp es2 r2 er
    exact .inl ⟨u.data, d, z, ru, rr.rp rfl, e9, fun v3 H3 f => fin z ⟨z, e10, rfl⟩ v3 H3 f⟩
  · rename_i d er
    obtain ⟨z, e9, e10⟩ := Option.map_eq_some_iff.mp e6
    obtain ⟨S, rr⟩ := rawRp es2 r2 er
    exact .inl ⟨u.data, .list d, z, ru, rr.rp rfl, e9, fun v3 H3 f => fin z ⟨z, e10, rfl⟩ v3 H3 f⟩
  · cases e6
theorem tE_DL {K : Fr} {g : D → D → Option T} {gd : List (D × D) → D → Option T} {σ : St} {H : Hp} {Q : VK} (q : tE K (mDL g gd m m') σ H Q) : tOp (fun x y H Q => rD2 K g x y H Q ∨ rDL K gd x y H Q) (tO K m) (tO K m') σ H Q := by
  obtain ⟨B, ρ, own, t, ρ', hB, es, e, k⟩ := q
  obtain ⟨⟨a, ρ1⟩, e1, e2⟩ := Option.bind_eq_some_iff.mp (show (m ρ).bind _ = some (t, ρ') from e)
  obtain ⟨⟨b, ρ2⟩, e3, e4⟩ := Option.bind_eq_some_iff.mp e2
  obtain ⟨u, e5, e6⟩ := Option.bind_eq_some_iff.mp e4
  refine ⟨B, ρ, own, a, ρ1, hB, es, e1, fun v H1 own1 st1 es1 r1 => ?_⟩
  refine ⟨B + 1, ρ1, own1, b, ρ2, Nat.le_succ_of_le hB, es1, e3, fun v2 H2 own2 st2 es2 r2 => ?_⟩
  have r1' := argStep (K := K) (σ := σ) (v := v) (a := a) st2 hB (Nat.lt_succ_self B) r1
  have ru := argRp es2 r2 e5
  have fin : ∀ z, (∃ w, (w, ρ2) = (t, ρ') ∧ z = w) → ∀ v3 H3, Fresh K H2 H3 v3 z → Q v3 H3 := by
    rintro z ⟨w, h, rfl⟩ v3 H3 f
    cases h
    exact k v3 H3 _ ((st1.trans (st2.down (Nat.le_succ B))).trans f.step) (f.es es2) f.rep'
  split at e6
  · rename_i kvs er
    obtain ⟨z, e9, e10⟩ := Option.map_eq_some_iff.mp e6
    obtain ⟨S, rr⟩ := rawRp es2 r1' er
    obtain ⟨ad, en, d, _⟩ := rr.dc
    exact .inr ⟨ad, en, kvs, u.data, z, d, ru, e9, fun v3 H3 f => fin z ⟨z, e10, rfl⟩ v3 H3 f⟩
  · rename_i d er
    obtain ⟨z, e9, e10⟩ := Option.map_eq_some_iff.mp e6
    obtain ⟨S, rr⟩ := rawRp es2 r1' er
    exact .inl ⟨d, u.data, z, rr.rp rfl, ru, e9, fun v3 H3 f => fin z ⟨z, e10, rfl⟩ v3 H3 f⟩
  · rename_i d er
    obtain ⟨z, e9, e10⟩ := Option.map_eq_some_iff.mp e6
    obtain ⟨S, rr⟩ := rawRp es2 r1' er
    exact .inl ⟨.list d, u.data, z, rr.rp rfl, ru, e9, fun v3 H3 f => fin z ⟨z, e10, rfl⟩ v3 H3 f⟩
  · cases e6
theorem px_din (hu : X.A.units + 65 < cLine) (ha : PO X a m) (hb : PO X b m') (hm : behindInMarks .In b = false) : PX X (.Compare a [.In] [b] pos) (mDR gIn gDIn m m') := ⟨(pe_cmpR (OpR.or (od_in hu) (od_din hu)) ha.pe hb.pe hm).of fun σ H Q q => tE_DR q⟩
theorem px_dnin (hu : X.A.units + 65 < cLine) (ha : PO X a m) (hb : PO X b m') (hm : behindInMarks .NotIn b = false) : PX X (.Compare a [.NotIn] [b] pos) (mDR gNin gDNin m m') := ⟨(pe_cmpR (OpR.or (od_nin hu) (od_dnin hu)) ha.pe hb.pe hm).of fun σ H Q q => tE_DR q⟩
theorem pb_din (hu : X.A.units + 65 < cLine) (ha : PO X a m) (hb : PO X b m') (hm : behindInMarks .In b = false) : PB X (.Compare a [.In] [b] pos) (bV (mDR gIn gDIn m m')) := ⟨(pt_cmpR (OpR.or (od_in hu) (od_din hu)) ha.pe hb.pe hm).of fun σ H Q q => tE_DR (tB_of q)⟩
theorem pb_dnin (hu : X.A.units + 65 < cLine) (ha : PO X a m) (hb : PO X b m') (hm : behindInMarks .NotIn b = false) : PB X (.Compare a [.NotIn] [b] pos) (bV (mDR gNin gDNin m m')) := ⟨(pt_cmpR (OpR.or (od_nin hu) (od_dnin hu)) ha.pe hb.pe hm).of fun σ H Q q => tE_DR (tB_of q)⟩
theorem px_dix (hu : X.A.units + 65 < cLine) (ha : PO X a m) (hb : PO X b m') (hs : PlainIx b := by intro _ _; rfl) : PX X (.Subscript a b pos) (mDL gIx gDIx m m') := ⟨(pe_ix (IxR.or id_ix (id_dix hu)) ha.pe hb.pe hs).of fun σ H Q q => tE_DL q⟩

/-! ### {} -/
theorem dic_empty {P : Program} {w : World} {H : Hp} (h : Heap) (hb : sysModules < h.objs.size) : ObjOk P w H (h.push { cls := .type "dict", data := .dict #[] }) h.objs.size (dicO h.objs.size []) := by
  refine ⟨⟨beq_eq_false_iff_ne.mpr (Ne.symm (Nat.ne_of_lt hb)), 0, _, Heap.get?_push_size _ rfl, ⟨rfl, rfl, rfl⟩, rfl⟩, ⟨_, Heap.get?_push_size _ rfl⟩, fun h1 h2 p st => ?_⟩
  obtain ⟨p1, ep, p2⟩ := p
  exact ⟨p1, ep, p2.at st⟩
theorem pe_d0 : PE X (.Dict [] [] pos) fun _ H Q => ∀ p, H p = none → Q (.ref p) (upd H p (dicO p [])) := ⟨fun pins s σ H Q I h =>
  wpAny_Dict_empty ⟨.ref s.heap.objs.size, _, I.laid (a := s.heap.objs.size) (o := dicO s.heap.objs.size []) (t' := s.toks) (fun _ _ q => Heap.get?_push_of_some _ q) (Nat.le_refl _) (dic_empty s.heap I.big), rfl, h _ (I.hok.fresh (Nat.le_refl _))⟩⟩
theorem Fresh.dc0 {K : Fr} {H : Hp} {p : Addr} (h : H p = none) : Fresh K H (upd H p (dicO p [])) (.ref p) (.dc []) :=
  ⟨fun b o e => by rw [upd_ne (ne_of_none e h)]; exact e, ⟨p, [], rfl, h, upd_same, .nil, by simp⟩⟩
theorem px_d0 : PX X (.Dict [] [] pos) mD0 := ⟨pe_d0.of fun σ H Q q => by
  obtain ⟨B, ρ, own, t, ρ', hB, es, e, k⟩ := q
  cases e
  intro p hp
  have f : Fresh X.K H _ _ _ := .dc0 hp
  exact k _ _ _ f.step (f.es es) f.rep'⟩

/-! ### len(d), list(d) -/
def rCD (K : Fr) (g : List D → Option T) (gd : List (D × D) → Option T) : List V → Hp → VK → Prop := fun xs H Q => rDA K g xs H Q ∨ ∃ x a es kvs t, xs = [x] ∧ Dc K H x a es kvs ∧ gd kvs = some t ∧ ∀ v H', Fresh K H H' v t → Q v H'
theorem tE_CD {K : Fr} {g : List D → Option T} {gd : List (D × D) → Option T} {σ : St} {H : Hp} {Q : VK} (q : tE K (mCD g gd m) σ H Q) : tCB (rCD K g gd) (tA K (aCons m aNil)) σ H Q := by
  obtain ⟨B, ρ, own, t, ρ', hB, es, e, k⟩ := q
  obtain ⟨⟨a, ρ1⟩, e1, e2⟩ := Option.bind_eq_some_iff.mp (show (m ρ).bind _ = some (t, ρ') from e)
  refine ⟨B, ρ, own, [a], ρ1, hB, es, by show (m ρ).bind _ = _; rw [e1]; rfl, fun vs H1 own1 st1 es1 r1 => ?_⟩
  cases vs with
  | nil => exact False.elim r1
  | cons v vs =>
    obtain ⟨r1, r2⟩ := r1
    cases vs with
    | cons _ _ => exact False.elim r2
    | nil =>
      have fin : ∀ z, (∃ w, (w, ρ1) = (t, ρ') ∧ z = w) → ∀ v3 H3, Fresh K H1 H3 v3 z → Q v3 H3 := by
        rintro z ⟨w, h, rfl⟩ v3 H3 f
        cases h
        exact k v3 H3 _ (st1.trans f.step) (f.es es1) f.rep'
      simp only at e2
      split at e2
      · rename_i kvs er
        obtain ⟨z, e9, e10⟩ := Option.map_eq_some_iff.mp e2
        obtain ⟨S, rr⟩ := rawRp es1 r1 er
        obtain ⟨ad, en, d, _⟩ := rr.dc
        exact .inr ⟨v, ad, en, kvs, z, rfl, d, e9, fun v3 H3 f => fin z ⟨z, e10, rfl⟩ v3 H3 f⟩
      · rename_i d er
        obtain ⟨z, e9, e10⟩ := Option.map_eq_some_iff.mp e2
        obtain ⟨S, rr⟩ := rawRp es1 r1 er
        exact .inl ⟨[d], z, .cons (rr.rp rfl) .nil, e9, fun v3 H3 f => fin z ⟨z, e10, rfl⟩ v3 H3 f⟩
      · rename_i d er
        obtain ⟨z, e9, e10⟩ := Option.map_eq_some_iff.mp e2
        obtain ⟨S, rr⟩ := rawRp es1 r1 er
        exact .inl ⟨[.list d], z, .cons (rr.rp rfl) .nil, e9, fun v3 H3 f => fin z ⟨z, e10, rfl⟩ v3 H3 f⟩
      · cases e2
theorem cd_dlen : CallR X (.builtin "len") (rCD X.K gLen gDLen) := by
  refine CallR.or cd_len ?_
  intro pins s σ H xs us Q I r h
  obtain ⟨x, a, es, kvs, t, rfl, d, e, k⟩ := h
  obtain ⟨hl, e2⟩ := ite_s e
  cases e2
  obtain ⟨u, rfl, ru⟩ := vals1 r
  have er := d.ref
  subst er
  cases (show u = .ref a from ru)
  obtain ⟨hd, ep, raw⟩ := d.raw I
  have hn : es.toArray.size = kvs.length := by rw [List.size_toArray, d.ent.length]
  have big : (sizeLine : Nat) = 16777216 := sizeLine_eq
  refine PyProof.Rows.call_len_slot (n := kvs.length) raw.typeIs F.slot_dict_len (fun Q' hq => call_len_raw hd raw (by rw [hn]; exact hq)) (by omega) (by omega) ?_
  exact ⟨.int kvs.length, H, I.tok _, ⟨_, rfl⟩, k _ _ (.z (.int _))⟩
theorem EntA.keys {K : Fr} {H : Hp} : ∀ {es : List DictEntry} {kvs : List (D × D)}, EntA K H es kvs → ∃ xs, Vals xs (es.map (·.key)) ∧ FzA K H xs (kvs.map (·.1))
  | _, _, .nil => ⟨[], .nil, .nil⟩
  | _, _, .cons a b c d e f => by
    obtain ⟨xs, h1, h2⟩ := EntA.keys f
    exact ⟨_ :: xs, .cons a h1, .cons c h2⟩
theorem cd_dlst (hc : X.calm = true) : CallR X (.type "list") (rCD X.K gLst gDLst) := by
  refine CallR.or cd_lst ?_
  intro pins s σ H xs us Q I r h
  obtain ⟨x, a, es, kvs, t, rfl, d, e, k⟩ := h
  obtain ⟨hl, e2⟩ := ite_s e
  cases e2
  obtain ⟨u, rfl, ru⟩ := vals1 r
  have er := d.ref
  subst er
  cases (show u = .ref a from ru)
  obtain ⟨hd, ep, raw⟩ := d.raw I
  have hn : es.toArray.size = kvs.length := by rw [List.size_toArray, d.ent.length]
  refine PySem.W.kdl_call (PySem.KdlSrc.rawDict hd) (I.ok.hd hc) raw (by rw [hn]; exact Nat.le_trans (Nat.le_of_lt hl) (by decide)) fun h' tk acc c hk hS hacc => ?_
  obtain ⟨ks, hv, fk⟩ := d.ent.keys
  have ea : acc.toList = es.map (·.key) := by
    refine List.ext_getElem? fun j => ?_
    rw [Array.getElem?_toList, List.getElem?_map]
    obtain ⟨h1, h2⟩ := hacc
    by_cases hj : j < acc.size
    · obtain ⟨hi, e3⟩ := h2 j _ (Array.getElem?_eq_getElem hj)
      rw [Array.getElem?_eq_getElem hj, e3]
      have hi' : j < es.length := by simpa using hi
      rw [List.getElem?_eq_getElem hi']
      simp
    · have hj2 : ¬ j < es.length := by rw [h1] at hj; simpa using hj
      rw [Array.getElem?_eq_none (by omega), List.getElem?_eq_none (by omega)]
      rfl
  have new : H s.heap.objs.size = none := I.hok.fresh (Nat.le_refl _)
  have kl : ks.length ≤ sizeLine := by rw [fk.length, List.length_map]; exact Nat.le_trans (Nat.le_of_lt hl) (by decide)
  refine ⟨.ref s.heap.objs.size, upd H s.heap.objs.size (.lst ks), ?_, rfl, k _ _ (.lst new fk)⟩
  exact I.laid (t' := tk) (fun b o e => hk b o e) (Nat.le_refl _) ⟨kl, acc.toList, c, by rw [ea]; exact hv, by rw [hS]⟩
theorem px_dlen {x : Str} {p : Pos} (hg : Gl X x) (hm : X.mg x = none) (hv : bootBuiltins x = some (.builtin "len")) (ha : PO X a m)
    (hn : x ≠ "__name__" := by decide) (hdb : (x == ("__debug__" : Str)) = false := by decide) (hs : starEach [a] X.env = (false, eval a X.env) :: starEach [] X.env := by rfl) (hpl : (backTo pos (starEach [] X.env)).any (·.1) = false := by rfl) : PX X (.Call (.Name x p) [a] [] pos) (mCD gLen gDLen m) :=
  ⟨(pe_callB cd_dlen hg hm hv (pa_c ha pa_0 hs).pa hn hdb hs hpl).of fun σ H Q q => tE_CD q⟩
theorem px_dlst {x : Str} {p : Pos} (hc : X.calm = true) (hg : Gl X x) (hm : X.mg x = none) (hv : bootBuiltins x = some (.type "list")) (ha : PO X a m)
    (hn : x ≠ "__name__" := by decide) (hdb : (x == ("__debug__" : Str)) = false := by decide) (hs : starEach [a] X.env = (false, eval a X.env) :: starEach [] X.env := by rfl) (hpl : (backTo pos (starEach [] X.env)).any (·.1) = false := by rfl) : PX X (.Call (.Name x p) [a] [] pos) (mCD gLst gDLst m) :=
  ⟨(pe_callTy (cd_dlst hc) hg hm hv (pa_c ha pa_0 hs).pa hn hdb hs hpl).of fun σ H Q q => tE_CD q⟩
end
end VL

set_option Elab.async false
set_option linter.all false
set_option maxRecDepth 100000
set_option maxHeartbeats 4000000
namespace VL
open PySem PySem.Spec PyProof.Rows L2
/-! ### d[k] = v -/
def rSetDc (K : Fr) : TSet := fun o i v H Q => ∃ a es kvs k d, Dc K H o a es kvs ∧ Rp K H i k ∧ Fz K H v d ∧ dcls kvs k = true ∧ kvs.length < 100000 ∧ ∀ es', Dc K (upd H a (dicO a es')) o a es' (dput kvs k d) → Q (upd H a (dicO a es'))
def gSD (i : Nat) (mi : MO) : MG := fun d ρ => match slotT ρ i with
  | some (.l _) => gS i mi d ρ
  | some (.dc _) => (mi ρ).bind fun q => (q.1.get q.2).bind fun t => match slotT q.2 i with
    | some (.dc kvs) => (gDSet kvs t.data d).map fun kvs' => q.2.set i (some (.dc kvs'))
    | _ => none
  | _ => none
theorem ES.writeD {K : Fr} {H : Hp} {σ : St} {ρ : Env} {own : Ow} {i : Nat} {a : Addr} {es es' : List DictEntry} {kvs' : List (D × D)} {x : V} (Es : ES K H σ ρ own) (hi : i < σ.length) (hs : σ[i]? = some (some x)) (ho : own a = some i) (hl : H a = some (dicO a es)) (f : Dc K (upd H a (dicO a es')) x a es' kvs') :
    ES K (upd H a (dicO a es')) σ (ρ.set i (some (.dc kvs'))) own := by
  have pk : PK H (upd H a (dicO a es')) := .mut hl trivial
  refine ⟨by simpa using Es.len, fun k u e => ?_⟩
  by_cases hk : k = i
  · subst hk
    rw [List.getElem?_set_self (by rw [Es.len]; exact hi)] at e
    cases e
    exact ⟨_, hs, a, es', f.ref, ho, f.obj, f.ent, f.nd⟩
  · rw [List.getElem?_set_ne (Ne.symm hk)] at e
    obtain ⟨w, e1, r⟩ := Es.rep k u e
    refine ⟨w, e1, r.mono pk fun b o sa qa => ⟨?_, sa⟩⟩
    rw [upd_ne (fun z => by subst z; rw [ho] at sa; cases sa; exact hk rfl)]
    exact qa
theorem writeD_step {n B : Nat} {own : Ow} {H : Hp} {a : Addr} {es es' : List DictEntry} (ho : Act n B (own a)) (hl : H a = some (dicO a es)) : Step n B own H own (upd H a (dicO a es')) :=
  ⟨fun b o e na => ⟨by rw [upd_ne (fun z => na (by rw [z]; exact ho))]; exact e, rfl⟩, fun b q => .inl q, .mut hl trivial⟩
section
variable {X : Cx} {pin : List Nat} {i : Nat} {x : Str} {pos npos : Pos} {mi : MO} {ix : Expr}
theorem set_dc (hu : X.A.units + 65 < cLine) : PSet X (rSetDc X.K) := by
  intro pins s σ H o i v ov iv u Q I ro ri rv h
  obtain ⟨a, es, kvs, k, d, dd, rk, fz, hc, hl, q⟩ := h
  have er := dd.ref
  subst er
  cases (show ov = Value.ref a from ro)
  exact dc_put hu I dd rk ri rv fz hc hl fun es' s' dc' I' => ⟨_, I', q es' dc'⟩
theorem PSet.or {t t' : TSet} (h : PSet X t) (h' : PSet X t') : PSet X (fun o i v H Q => t o i v H Q ∨ t' o i v H Q) := by
  intro pins s σ H o i v ov iv u Q I ro ri rv q
  rcases q with q | q
  · exact h pins s σ H o i v ov iv u Q I ro ri rv q
  · exact h' pins s σ H o i v ov iv u Q I ro ri rv q
theorem pth_sd (hu : X.A.units + 65 < cLine) (hn : PE X (.Name x npos) (tVar i)) (hx : PO X ix mi)
    (ha : ∀ v, assign (.Subscript (.Name x npos) ix pos) X.env v = (do
      let ov ← holding [v] (eval (.Name x npos) X.env)
      let iv ← holding [v, ov] (eval ix X.env)
      standAt pos
      holding [v, ov, iv] (setItem ov iv v)
      release [v, ov, iv] []) := by intro _; rfl) : PTh X pin (.Subscript (.Name x npos) ix pos) (gSD i mi) := ⟨(pg_sub (po_n hn).pe hx.pe (PSet.or set_list (set_dc hu)) ha).of fun v σ H Q q => by
  obtain ⟨B, d, ρ, own, ρ', hB, f, es, e, k⟩ := q
  unfold gSD at e
  split at e
  · unfold gS at e
    split at e
    · rename_i ds0 es0
      obtain ⟨⟨a, ρ1⟩, e1, e2⟩ := Option.bind_eq_some_iff.mp e
      obtain ⟨t, e3, e4⟩ := Option.bind_eq_some_iff.mp e2
      split at e4
      · rename_i kk ds es1'
        obtain ⟨j, e5, e6⟩ := Option.map_eq_some_iff.mp e4
        cases e6
        refine ⟨B, ρ, own, .slot i, ρ, hB, es, by unfold oN; rw [es0]; rfl, fun o H1 own1 st1 es1 r1 => ?_⟩
        have r1' : σ[i]? = some (some o) := r1
        refine ⟨B, ρ, own1, a, ρ1, hB, es1, e1, fun y H2 own2 st2 es2 r2 => ?_⟩
        obtain ⟨w2, q2, l, xs2, rfl, sa2, hl2, f2⟩ := es2.rep i _ (slotT_some es1')
        rw [r1'] at q2
        cases q2
        have hi : i < σ.length := (List.getElem?_eq_some_iff.mp r1').1
        have ry := argRp es2 r2 e3
        cases (show y = .int kk from ry.int)
        have fv := Fz.step st2 (Fz.step st1 f)
        refine .inl ⟨l, xs2, kk, j, rfl, rfl, hl2, by rw [f2.length]; exact e5, ?_⟩
        exact k σ _ own2 rfl (fun _ _ => rfl) ((st1.trans st2).trans (write_step hi sa2 hl2)) (es2.write hi r1' sa2 hl2 (f2.set fv j))
      · cases e4
    · cases e
  · rename_i ds0 es0
    obtain ⟨⟨a, ρ1⟩, e1, e2⟩ := Option.bind_eq_some_iff.mp e
    obtain ⟨t, e3, e4⟩ := Option.bind_eq_some_iff.mp e2
    split at e4
    · rename_i kvs es1'
      obtain ⟨kvs', e5, e6⟩ := Option.map_eq_some_iff.mp e4
      cases e6
      refine ⟨B, ρ, own, .slot i, ρ, hB, es, by unfold oN; rw [es0]; rfl, fun o H1 own1 st1 es1 r1 => ?_⟩
      have r1' : σ[i]? = some (some o) := r1
      refine ⟨B, ρ, own1, a, ρ1, hB, es1, e1, fun y H2 own2 st2 es2 r2 => ?_⟩
      obtain ⟨w2, q2, rr⟩ := es2.rep i _ (slotT_some es1')
      rw [r1'] at q2
      cases q2
      obtain ⟨ad, en, dd, sa⟩ := rr.dc
      have hi : i < σ.length := (List.getElem?_eq_some_iff.mp r1').1
      have ry := argRp es2 r2 e3
      have fv := Fz.step st2 (Fz.step st1 f)
      obtain ⟨⟨hc, hl⟩, e7⟩ := ite_s e5
      cases e7
      refine .inr ⟨ad, en, kvs, _, d, dd, ry, fv, hc, hl, fun es' dc' => ?_⟩
      exact k σ _ own2 rfl (fun _ _ => rfl) ((st1.trans st2).trans (writeD_step (by rw [sa, Act.some]; exact .inl hi) dd.obj)) (es2.writeD hi r1' sa dd.obj dc')
    · cases e4
  · cases e⟩
end

/-! ### {k: v} -/
def rD1' (K : Fr) (p : Addr) (x y : V) (H : Hp) (Q : VK) : Prop := ∃ kd d, Rp K H x kd ∧ Fz K H y d ∧ kcls kd = some true ∧ H p = some (dicO p []) ∧ ∀ es, Dc K (upd H p (dicO p es)) (.ref p) p es [(kd, d)] → Q (.ref p) (upd H p (dicO p es))
def tD1 (K : Fr) (tk tv : TE) : TE := fun σ H Q => ∀ p, H p = none → tk σ (upd H p (dicO p [])) fun x H1 => tv σ H1 fun y H2 => rD1' K p x y H2 Q
section
variable {X : Cx} {k v : Expr} {tk tv : TE} {pos : Pos}
theorem pe_d1 (hu : X.A.units + 65 < cLine) (hk : PE X k tk) (hv : PE X v tv) : PE X (.Dict [some k] [v] pos) (tD1 X.K tk tv) := ⟨fun pins s σ H Q I q => by
  have I1 := I.laid (a := s.heap.objs.size) (o := dicO s.heap.objs.size []) (t' := s.toks) (fun _ _ q => Heap.get?_push_of_some _ q) (Nat.le_refl _) (dic_empty s.heap I.big)
  have q1 := q _ (I.hok.fresh (Nat.le_refl _))
  rw [arm_eval_Dict, zip_pairTrees [some k] [v] X.env pos rfl rfl, dictDisplay_pairs _ (by simp [pairTrees]) (by simp [pairTrees])]
  refine wpAny_bind (wpAny_standAt (wpAny_bind (wpAny_subDictH (knd := nestedKind X.prog X.w) (Q := fun d s' => wpAny (model X.prog X.w) X.A (pure (Value.ref d)) (EP X pins σ Q) X.xe s') (show X.A.units + 8 < cLine by omega) (by simp [pairTrees]) ?_)))
  refine pairTrees_cons_walk (thn (hk.run pins _ σ _ _ I1 q1) fun u s1 ⟨x, H1, J1, rx, q2⟩ => thn (hv.run pins s1 σ H1 _ J1 q2) fun w s2 ⟨y, H2, J2, ry, q3⟩ => pairTrees_nil_walk ?_)
  obtain ⟨kd, d, rk, fz, hc, hp, q4⟩ := q3
  obtain ⟨ds, nk, rfl, e1, e2⟩ := kcls_tup hc
  obtain ⟨b, ys, rfl, _, _⟩ := rk.tuple
  cases (show u = .ref b from rx)
  have dd : Dc X.K H2 (.ref s.heap.objs.size) s.heap.objs.size [] [] := ⟨rfl, hp, .nil, by simp⟩
  obtain ⟨hd, _⟩ := dd.raw J2
  obtain ⟨xs, t, dof⟩ := dd.tup J2 (fun p hp => by cases hp)
  cases t
  refine ⟨[(nk, b, w)], ⟨rfl, rfl, ⟨nestedOf J2 _ _ _ _ rk.fzT e1 rfl, e2⟩, trivial⟩, dof, fun h' tk dd' hs => wpAny_pure ?_⟩
  obtain ⟨q, es', ep, hq, h2, h3, h4, _, h5⟩ := dd'
  have mu : Mut (H2 s.heap.objs.size) := by rw [hp]; exact True.intro
  have pk : PK H2 (upd H2 s.heap.objs.size (dicO s.heap.objs.size es'.toList)) := .mut hp trivial
  have ent : EntA X.K H2 es'.toList [(.tuple ds, d)] := by
    rw [h4]
    exact entT_back X.w (.cons ⟨e1, rk.fzT, e2, y, ry, fz⟩ .nil)
  refine ⟨.ref s.heap.objs.size, _, d_write J2 mu hs ⟨q, hq⟩ ?_, rfl, q4 es'.toList ⟨rfl, upd_same, ent.mono pk, by simp⟩⟩
  refine ⟨⟨hd, ep, q, hq, h2, by simpa using h3⟩, ⟨q, hq⟩, fun h1 h2 p st => ?_⟩
  obtain ⟨p1, ep, p2⟩ := p
  exact ⟨p1, ep, p2.at st⟩⟩
theorem px_d1 {mk mv : ME} (hu : X.A.units + 65 < cLine) (hk : PX X k mk) (hv : PX X v mv) : PX X (.Dict [some k] [v] pos) (mD1 mk mv) := ⟨(pe_d1 hu hk.pe hv.pe).of fun σ H Q q => by
  obtain ⟨B, ρ, own, t, ρ', hB, es, e, k⟩ := q
  obtain ⟨⟨a, ρ1⟩, e1, e2⟩ := Option.bind_eq_some_iff.mp (show (mk ρ).bind _ = some (t, ρ') from e)
  obtain ⟨⟨b, ρ2⟩, e3, e4⟩ := Option.bind_eq_some_iff.mp e2
  intro p hp
  have f : Fresh X.K H (upd H p (dicO p [])) (.ref p) (.dc []) := .dc0 hp
  have st0 : Step σ.length B own H (born B H own) (upd H p (dicO p [])) := f.step
  have op : born B H own p = some B := born_new hp
  refine ⟨B + 1, ρ, born B H own, a, ρ1, Nat.le_succ_of_le hB, f.es es, e1, fun x H1 own1 st1 es1 r1 => ?_⟩
  refine ⟨B + 2, ρ1, own1, b, ρ2, by omega, es1, e3, fun y H2 own2 st2 es2 r2 => ?_⟩
  have n0 : ¬ Act σ.length (B + 1) (born B H own p) := by rw [op, Act.some]; omega
  obtain ⟨hp1, op1⟩ := st1.keep p _ upd_same n0
  have n1 : ¬ Act σ.length (B + 2) (own1 p) := by rw [op1, op, Act.some]; omega
  obtain ⟨hp2, op2⟩ := st2.keep p _ hp1 n1
  cases a with
  | l _ => cases e4
  | dc _ => cases e4
  | z kd =>
    cases b with
    | l _ => cases e4
    | dc _ => cases e4
    | z d =>
      obtain ⟨hc, e5⟩ := ite_s e4
      cases e5
      have ob : own2 p = some B := op2.trans (op1.trans op)
      have fx : Fz X.K H2 x kd := Fz.step st2 r1
      refine ⟨kd, d, .inl fx, r2, hc, hp2, fun es' dd => ?_⟩
      have pk : PK H2 (upd H2 p (dicO p es')) := .mut hp2 trivial
      have stw : Step σ.length B own2 H2 own2 (upd H2 p (dicO p es')) := writeD_step (by rw [ob, Act.some]; exact .inr (Nat.le_refl B)) hp2
      refine k _ _ own2 (((st0.trans (st1.down (by omega))).trans (st2.down (by omega))).trans stw) (es2.same pk fun c o i hi hl hc => ⟨?_, hi⟩) ⟨p, es', rfl, ob, dd.obj, dd.ent, dd.nd⟩
      rw [upd_ne (fun z => by subst z; rw [ob] at hi; cases hi; omega)]
      exact hc⟩
end
end VL

set_option Elab.async false
set_option linter.all false
set_option maxRecDepth 100000
set_option maxHeartbeats 4000000
/-! VM: reading mirrors, with no program in sight -/
namespace VL
open PySem
abbrev iz (i : Int) : Option T := some (.z (.int i))
abbrev rowD (r : List Int) : D := .tuple (r.map .int)
/-! ### comprehensions -/
theorem lc_map {α : Type} {mg : MG} {me : ME} {vs : List Nat} (g f : α → D) {ρ : Env} : ∀ (as : List α) (acc : List D), (∀ a ∈ as, ∃ ρ1 ρ3, mg (g a) ρ = some ρ1 ∧ me ρ1 = some (.z (f a), ρ3) ∧ wipeE ρ3 vs = ρ) →
    lcGo mg bYes me vs (as.map g) ρ acc = some (acc ++ as.map f, ρ)
  | [], acc, _ => by simp [lcGo]
  | a :: as, acc, h => by
    obtain ⟨ρ1, ρ3, e1, e2, e3⟩ := h a (List.mem_cons_self ..)
    have ih := lc_map g f as (acc ++ [f a]) fun b hb => h b (List.mem_cons_of_mem _ hb)
    show (mg (g a) ρ).bind _ = _
    rw [e1]
    show (me ρ1).bind _ = _
    rw [e2]
    show lcGo mg bYes me vs (as.map g) (wipeE ρ3 vs) (acc ++ [f a]) = _
    rw [e3, ih]
    simp
theorem lc_filter {α : Type} {mg : MG} {mt : MB} {me : ME} {vs : List Nat} (g f : α → D) (p : α → Bool) {ρ : Env} : ∀ (as : List α) (acc : List D), (∀ a ∈ as, ∃ ρ1 ρ2 ρ3, mg (g a) ρ = some ρ1 ∧ mt ρ1 = some (p a, ρ2) ∧ (p a = false → wipeE ρ2 vs = ρ) ∧ (p a = true → me ρ2 = some (.z (f a), ρ3) ∧ wipeE ρ3 vs = ρ)) →
    lcGo mg mt me vs (as.map g) ρ acc = some (acc ++ (as.filter p).map f, ρ)
  | [], acc, _ => by simp [lcGo]
  | a :: as, acc, h => by
    obtain ⟨ρ1, ρ2, ρ3, e1, e2, e3, e4⟩ := h a (List.mem_cons_self ..)
    have h' : ∀ b ∈ as, _ := fun b hb => h b (List.mem_cons_of_mem _ hb)
    show (mg (g a) ρ).bind _ = _
    rw [e1]
    show (mt ρ1).bind _ = _
    rw [e2]
    cases q : p a with
    | false =>
      show lcGo mg mt me vs (as.map g) (wipeE ρ2 vs) acc = _
      rw [e3 q, lc_filter g f p as acc h']
      simp [q]
    | true =>
      show (me ρ2).bind _ = _
      obtain ⟨e5, e6⟩ := e4 q
      rw [e5]
      show lcGo mg mt me vs (as.map g) (wipeE ρ3 vs) (acc ++ [f a]) = _
      rw [e6, lc_filter g f p as (acc ++ [f a]) h']
      simp [q]
/-- a comprehension whose turns change the locals (draws): P is kept, each item is good -/
theorem lc_rel {mg : MG} {me : ME} {vs : List Nat} (P : Env → Prop) (G : D → D → Prop) : ∀ (ds : List D) (ρ : Env) (acc : List D), P ρ → (∀ d ∈ ds, ∀ ρ, P ρ → ∃ ρ1 y ρ3, mg d ρ = some ρ1 ∧ me ρ1 = some (.z y, ρ3) ∧ G d y ∧ P (wipeE ρ3 vs)) →
    ∃ ys ρ', lcGo mg bYes me vs ds ρ acc = some (acc ++ ys, ρ') ∧ P ρ' ∧ ys.length = ds.length ∧ (∀ p ∈ ds.zip ys, G p.1 p.2)
  | [], ρ, acc, h, _ => ⟨[], ρ, by simp [lcGo], h, rfl, by simp⟩
  | d :: ds, ρ, acc, h, k => by
    obtain ⟨ρ1, y, ρ3, e1, e2, gy, e3⟩ := k d (List.mem_cons_self ..) ρ h
    obtain ⟨ys, ρ', e4, h4, l, gs⟩ := lc_rel P G ds _ (acc ++ [y]) e3 fun b hb => k b (List.mem_cons_of_mem _ hb)
    refine ⟨y :: ys, ρ', ?_, h4, by simp [l], ?_⟩
    · show (mg d ρ).bind _ = _
      rw [e1]
      show (me ρ1).bind _ = _
      rw [e2]
      show lcGo mg bYes me vs ds (wipeE ρ3 vs) (acc ++ [y]) = _
      rw [e4]
      simp
    · intro p hp
      rw [List.zip_cons_cons] at hp
      rcases List.mem_cons.mp hp with rfl | hp
      · exact gy
      · exact gs p hp
theorem mLC_map {mi : MI} {mg : MG} {me : ME} {vs : List Nat} {ρ ρ1 : Env} {α : Type} {g f : α → D} {as : List α} (hi : mi ρ = some (as.map g, ρ1))
    (h : ∀ a ∈ as, ((mg (g a) (wipeE ρ1 vs)).bind me).map (fun p => (p.1, wipeE p.2 vs)) = some (.z (f a), wipeE ρ1 vs)) : mLC mi mg bYes me vs ρ = some (.l (as.map f), restE ρ1 (wipeE ρ1 vs) vs) := by
  have e := lc_map g f (mg := mg) (me := me) (vs := vs) (ρ := wipeE ρ1 vs) as [] fun a ha => by
    obtain ⟨⟨t, ρ3⟩, e1, e2⟩ := Option.map_eq_some_iff.mp (h a ha)
    obtain ⟨ρ2, e3, e4⟩ := Option.bind_eq_some_iff.mp e1
    have e5 : t = .z (f a) := congrArg Prod.fst e2
    have e6 : wipeE ρ3 vs = wipeE ρ1 vs := congrArg Prod.snd e2
    subst e5
    exact ⟨ρ2, ρ3, e3, e4, e6⟩
  show (mi ρ).bind _ = _
  rw [hi]
  show (lcGo mg bYes me vs (as.map g) (wipeE ρ1 vs) []).map _ = _
  rw [e]
  rfl
theorem mLC_filter {mi : MI} {mg : MG} {mt : MB} {me : ME} {vs : List Nat} {ρ ρ1 : Env} {α : Type} {g f : α → D} {p : α → Bool} {as : List α} (hi : mi ρ = some (as.map g, ρ1))
    (h : ∀ a ∈ as, ((mg (g a) (wipeE ρ1 vs)).bind fun ρ2 => (mt ρ2).bind fun b => match b.1 with
      | false => some (none, wipeE b.2 vs)
      | true => (me b.2).map fun q => (some q.1, wipeE q.2 vs)) = some (if p a then some (.z (f a)) else none, wipeE ρ1 vs)) : mLC mi mg mt me vs ρ = some (.l ((as.filter p).map f), restE ρ1 (wipeE ρ1 vs) vs) := by
  have e := lc_filter g f p (mg := mg) (mt := mt) (me := me) (vs := vs) (ρ := wipeE ρ1 vs) as [] fun a ha => by
    obtain ⟨ρ2, e1, e2⟩ := Option.bind_eq_some_iff.mp (h a ha)
    obtain ⟨⟨b, ρ3⟩, e3, e4⟩ := Option.bind_eq_some_iff.mp e2
    cases b with
    | false =>
      cases q : p a with
      | false =>
        rw [q] at e4
        have e5 : wipeE ρ3 vs = wipeE ρ1 vs := congrArg Prod.snd (Option.some.inj e4)
        exact ⟨ρ2, ρ3, [], e1, e3, fun _ => e5, fun z => by cases z⟩
      | true =>
        rw [q] at e4
        have e5 := congrArg Prod.fst (Option.some.inj e4)
        cases e5
    | true =>
      obtain ⟨⟨t, ρ4⟩, e5, e6⟩ := Option.map_eq_some_iff.mp (show (me ρ3).map _ = _ from e4)
      cases q : p a with
      | false =>
        rw [q] at e6
        have e7 := congrArg Prod.fst e6
        cases e7
      | true =>
        rw [q] at e6
        have e7 : some t = some (.z (f a)) := congrArg Prod.fst e6
        have e8 : wipeE ρ4 vs = wipeE ρ1 vs := congrArg Prod.snd e6
        cases e7
        exact ⟨ρ2, ρ3, ρ4, e1, e3, fun z => by (cases z), fun _ => ⟨e5, e8⟩⟩
  show (mi ρ).bind _ = _
  rw [hi]
  show (lcGo mg mt me vs (as.map g) (wipeE ρ1 vs) []).map _ = _
  rw [e]
  rfl
theorem mLC_rel {mi : MI} {mg : MG} {me : ME} {vs : List Nat} {ρ ρ1 : Env} {ds : List D} (P : Env → Prop) (G : D → D → Prop) (hi : mi ρ = some (ds, ρ1)) (h0 : P (wipeE ρ1 vs))
    (h : ∀ d ∈ ds, ∀ ρ, P ρ → ∃ y ρ3, (mg d ρ).bind me = some (.z y, ρ3) ∧ G d y ∧ P (wipeE ρ3 vs)) : ∃ ys ρ', mLC mi mg bYes me vs ρ = some (.l ys, restE ρ1 ρ' vs) ∧ P ρ' ∧ ys.length = ds.length ∧ (∀ p ∈ ds.zip ys, G p.1 p.2) := by
  obtain ⟨ys, ρ', e, p, l, g⟩ := lc_rel P G (mg := mg) (me := me) (vs := vs) ds _ [] h0 fun d hd ρ hp => by
    obtain ⟨y, ρ3, e1, g1, p1⟩ := h d hd ρ hp
    obtain ⟨ρ2, e2, e3⟩ := Option.bind_eq_some_iff.mp e1
    exact ⟨ρ2, y, ρ3, e2, e3, g1, p1⟩
  refine ⟨ys, ρ', ?_, p, l, g⟩
  show (mi ρ).bind _ = _
  rw [hi]
  show (lcGo mg bYes me vs ds (wipeE ρ1 vs) []).map _ = _
  rw [e]
  rfl
/-! ### loops -/
theorem for_rel {mg : MG} {mb : MS} (P : List D → Env → Prop) (R : Flow → Env → Prop) : ∀ (ds : List D) (ρ : Env), P ds ρ → (∀ ρ, P [] ρ → R .nx ρ) → (∀ d ds ρ, P (d :: ds) ρ → ∃ ρ1 f ρ2, mg d ρ = some ρ1 ∧ mb ρ1 = some (f, ρ2) ∧ match f with
      | .nx => P ds ρ2
      | .ct => P ds ρ2
      | .bk => R .nx ρ2
      | .ret t => R (.ret t) ρ2) → ∃ f ρ', forGo mg mb ds ρ = some (f, ρ') ∧ R f ρ'
  | [], ρ, h, e, _ => ⟨.nx, ρ, rfl, e ρ h⟩
  | d :: ds, ρ, h, e, k => by
    obtain ⟨ρ1, f, ρ2, e1, e2, q⟩ := k d ds ρ h
    cases f with
    | nx =>
      obtain ⟨f, ρ', e3, r⟩ := for_rel P R ds ρ2 q e k
      refine ⟨f, ρ', ?_, r⟩
      show (mg d ρ).bind _ = _
      rw [e1]; show (mb ρ1).bind _ = _; rw [e2]; exact e3
    | ct =>
      obtain ⟨f, ρ', e3, r⟩ := for_rel P R ds ρ2 q e k
      refine ⟨f, ρ', ?_, r⟩
      show (mg d ρ).bind _ = _
      rw [e1]; show (mb ρ1).bind _ = _; rw [e2]; exact e3
    | bk =>
      refine ⟨.nx, ρ2, ?_, q⟩
      show (mg d ρ).bind _ = _
      rw [e1]; show (mb ρ1).bind _ = _; rw [e2]; rfl
    | ret t =>
      refine ⟨.ret t, ρ2, ?_, q⟩
      show (mg d ρ).bind _ = _
      rw [e1]; show (mb ρ1).bind _ = _; rw [e2]; rfl
/-- for with an invariant: turn by turn -/
theorem sFor_rel {mi : MI} {mg : MG} {mb : MS} {ρ ρ1 : Env} {ds : List D} (P : List D → Env → Prop) (R : Flow → Env → Prop) (hi : mi ρ = some (ds, ρ1)) (h0 : P ds ρ1) (h1 : ∀ ρ, P [] ρ → R .nx ρ) (h : ∀ d ds ρ, P (d :: ds) ρ → ∃ f ρ2, (mg d ρ).bind mb = some (f, ρ2) ∧ match f with
      | .nx => P ds ρ2
      | .ct => P ds ρ2
      | .bk => R .nx ρ2
      | .ret t => R (.ret t) ρ2) : ∃ f ρ', sFor mi mg mb ρ = some (f, ρ') ∧ R f ρ' := by
  obtain ⟨f, ρ', e, r⟩ := for_rel P R (mg := mg) (mb := mb) ds ρ1 h0 h1 fun d ds ρ hp => by
    obtain ⟨f, ρ2, e1, c⟩ := h d ds ρ hp
    obtain ⟨ρ3, e2, e3⟩ := Option.bind_eq_some_iff.mp e1
    exact ⟨ρ3, f, ρ2, e2, e3, c⟩
  refine ⟨f, ρ', ?_, r⟩
  show (mi ρ).bind _ = _
  rw [hi]
  exact e
theorem wh_rel {n : MB} {m : MS} (P : Nat → Env → Prop) (R : Flow → Env → Prop) (h : ∀ k ρ, P k ρ → ∃ b ρ1, n ρ = some (b, ρ1) ∧ match b with
      | false => R .nx ρ1
      | true => ∃ f ρ2, m ρ1 = some (f, ρ2) ∧ match f with
        | .nx => ∃ j, j < k ∧ P j ρ2
        | .ct => ∃ j, j < k ∧ P j ρ2
        | .bk => R .nx ρ2
        | .ret t => R (.ret t) ρ2) : ∀ (fuel k : Nat) (ρ : Env), k < fuel → P k ρ → ∃ f ρ', sWh n m fuel ρ = some (f, ρ') ∧ R f ρ'
  | 0, _, _, q, _ => absurd q (by omega)
  | fuel + 1, k, ρ, q, p => by
    obtain ⟨b, ρ1, e1, c⟩ := h k ρ p
    cases b with
    | false => exact ⟨.nx, ρ1, by show (n ρ).bind _ = _; rw [e1]; rfl, c⟩
    | true =>
      obtain ⟨f, ρ2, e2, c⟩ := c
      cases f with
      | nx =>
        obtain ⟨j, hj, pj⟩ := c
        obtain ⟨f, ρ', e3, r⟩ := wh_rel P R h fuel j ρ2 (by omega) pj
        refine ⟨f, ρ', ?_, r⟩
        show (n ρ).bind _ = _
        rw [e1]; show (m ρ1).bind _ = _; rw [e2]; exact e3
      | ct =>
        obtain ⟨j, hj, pj⟩ := c
        obtain ⟨f, ρ', e3, r⟩ := wh_rel P R h fuel j ρ2 (by omega) pj
        refine ⟨f, ρ', ?_, r⟩
        show (n ρ).bind _ = _
        rw [e1]; show (m ρ1).bind _ = _; rw [e2]; exact e3
      | bk => exact ⟨.nx, ρ2, by show (n ρ).bind _ = _; rw [e1]; show (m ρ1).bind _ = _; rw [e2]; rfl, c⟩
      | ret t => exact ⟨.ret t, ρ2, by show (n ρ).bind _ = _; rw [e1]; show (m ρ1).bind _ = _; rw [e2]; rfl, c⟩
/-! ### data -/
theorem ints?_ints : ∀ ns : List Int, ints? (ns.map PyData.int) = some ns
  | [] => rfl
  | n :: ns => by show (ints? (ns.map PyData.int)).map _ = _; rw [ints?_ints ns]; rfl
theorem bools?_bools : ∀ ns : List Bool, bools? (ns.map PyData.bool) = some ns
  | [] => rfl
  | n :: ns => by show (bools? (ns.map PyData.bool)).map _ = _; rw [bools?_bools ns]; rfl
theorem eqv_int (i j : Int) : PyData.eqv (.int i) (.int j) = decide (i = j) := by
  unfold PyData.eqv
  by_cases h : i = j
  · simp [h]
  · simp [h]
theorem eqvAll_ints : ∀ a b : List Int, PyData.eqvAll (a.map .int) (b.map .int) = decide (a = b)
  | [], [] => by simp [PyData.eqvAll]
  | [], _ :: _ => by simp [PyData.eqvAll]
  | _ :: _, [] => by simp [PyData.eqvAll]
  | x :: a, y :: b => by
    simp only [List.map_cons, PyData.eqvAll, eqv_int, eqvAll_ints a b]
    by_cases h : x = y <;> by_cases h2 : a = b <;> simp [h, h2]
theorem eqv_row (a b : List Int) : PyData.eqv (rowD a) (rowD b) = decide (a = b) := by
  show PyData.eqv (.tuple _) (.tuple _) = _
  unfold PyData.eqv
  exact eqvAll_ints a b
theorem eqv_str (a b : Str) : PyData.eqv (.str a) (.str b) = (a == b) := by unfold PyData.eqv; rfl
theorem str_beq (a : Str) : (a == a) = true := by
  rw [← eqv_str]
  simp [PyData.eqv]
theorem shaped_int (i : Int) : SeqAt.shaped (.int i) = true := rfl
theorem shaped_none : SeqAt.shaped .none = true := rfl
theorem shaped_bool (i : Bool) : SeqAt.shaped (.bool i) = true := rfl
end VL

set_option Elab.async false
set_option linter.all false
set_option maxRecDepth 100000
set_option maxHeartbeats 4000000
namespace VL
open PySem
/-! ### what repr shows within the sizes -/
def okD : Nat → D → Bool
  | _, .none => true
  | _, .bool _ => true
  | _, .int i => decide (i.natAbs < 10 ^ 12)
  | _, .str x => x.cps.toList.all fun c => decide (c < 16 ^ 8)
  | 0, _ => false
  | n + 1, .list ds => ds.all (okD n)
  | n + 1, .tuple ds => ds.all (okD n)
  | _, .dict _ => false
theorem okAll {ds : List D} {n : Nat} (ih : ∀ d, okD n d = true → d.showable = true ∧ d.leavesShort 13 = true ∧ d.hasDict = false ∧ d.depth ≤ n) (h : ds.all (okD n) = true) :
    PyData.showableAll ds = true ∧ PyData.leavesShortAll 13 ds = true ∧ PyData.hasDictAll ds = false ∧ PyData.depthAll ds ≤ n := by
  induction ds with
  | nil => exact ⟨rfl, rfl, rfl, Nat.zero_le _⟩
  | cons d ds ihd =>
    simp only [List.all_cons, Bool.and_eq_true] at h
    obtain ⟨a1, a2, a3, a4⟩ := ih d h.1
    obtain ⟨b1, b2, b3, b4⟩ := ihd h.2
    refine ⟨by simp [PyData.showableAll, a1, b1], by simp [PyData.leavesShortAll, a2, b2], by simp [PyData.hasDictAll, a3, b3], ?_⟩
    show max (PyData.depth d) (PyData.depthAll ds) ≤ n
    omega
theorem log_le {n : Nat} (h : n < 10 ^ 12) : n.log2 < 1920 := by
  by_cases h0 : n = 0
  · subst h0; decide
  · rw [Nat.log2_lt h0]
    exact Nat.lt_of_lt_of_le h (by decide)
theorem okD_all : ∀ (n : Nat) (d : D), okD n d = true → d.showable = true ∧ d.leavesShort 13 = true ∧ d.hasDict = false ∧ d.depth ≤ n
  | n, .none, _ => ⟨rfl, rfl, rfl, Nat.zero_le _⟩
  | n, .bool _, _ => ⟨rfl, rfl, rfl, Nat.zero_le _⟩
  | n, .int i, h => by
    have h' : i.natAbs < 10 ^ 12 := by cases n <;> exact of_decide_eq_true h
    exact ⟨decide_eq_true (log_le h'), decide_eq_true (PyData.shown_int_le h'), rfl, Nat.zero_le _⟩
  | n, .str x, h => by
    have h' : (x.cps.toList.all fun c => decide (c < 16 ^ 8)) = true := by cases n <;> exact h
    exact ⟨rfl, h', rfl, Nat.zero_le _⟩
  | 0, .list _, h => by cases h
  | 0, .tuple _, h => by cases h
  | 0, .dict _, h => by cases h
  | n + 1, .dict _, h => by cases h
  | n + 1, .list ds, h => by
    obtain ⟨a, b, c, d⟩ := okAll (okD_all n) (show ds.all (okD n) = true from h)
    exact ⟨a, b, c, Nat.succ_le_succ d⟩
  | n + 1, .tuple ds, h => by
    obtain ⟨a, b, c, d⟩ := okAll (okD_all n) (show ds.all (okD n) = true from h)
    exact ⟨a, b, c, Nat.succ_le_succ d⟩
theorem okShow_of {d : D} {n : Nat} (h : okD n d = true) (hn : n ≤ 60) (hb : d.bulk ≤ 2 ^ 20) : okShow d = true := by
  obtain ⟨a, b, c, e⟩ := okD_all n d h
  unfold okShow
  simp only [Bool.and_eq_true, decide_eq_true_eq, Bool.not_eq_true']
  exact ⟨⟨⟨⟨a, b⟩, hb⟩, c⟩, by omega⟩
theorem okD_row {r : List Int} {n : Nat} (h : ∀ a ∈ r, a.natAbs < 10 ^ 12) : okD (n + 1) (rowD r) = true := by
  show (r.map PyData.int).all (okD n) = true
  rw [List.all_map, List.all_eq_true]
  intro a ha
  show okD n (.int a) = true
  cases n <;> exact decide_eq_true (h a ha)
theorem bulk_row (r : List Int) : PyData.bulk (rowD r) = r.length := by
  show PyData.bulkAll (r.map .int) = _
  induction r with
  | nil => rfl
  | cons a r ih =>
    show PyData.bulk (.int a) + 1 + PyData.bulkAll (r.map .int) = _
    rw [ih]
    show 0 + 1 + r.length = r.length + 1
    omega
theorem okShow_int {i : Int} (h : i.natAbs < 10 ^ 12) : okShow (.int i) = true := okShow_of (n := 0) (decide_eq_true h) (by omega) (by show 0 ≤ _; omega)
theorem okShow_bool (b : Bool) : okShow (.bool b) = true := okShow_of (n := 0) rfl (by omega) (by show 0 ≤ _; omega)
theorem okShow_none : okShow .none = true := okShow_of (n := 0) rfl (by omega) (by show 0 ≤ _; omega)
/-! ### rows and pairs of rows, compared -/
theorem zipW_map {α β γ : Type} (f : α → β → γ) (x : List α) (y : List β) : List.zipWith f x y = (x.zip y).map fun p => f p.1 p.2 := by
  induction x generalizing y with
  | nil => rfl
  | cons a x ih => cases y with
    | nil => rfl
    | cons b y => simp [ih]
theorem ints?_map {α : Type} (f : α → Int) (l : List α) : ints? (l.map fun a => PyData.int (f a)) = some (l.map f) := by
  rw [show (l.map fun a => PyData.int (f a)) = (l.map f).map PyData.int by simp]; exact ints?_ints _
theorem bools?_map {α : Type} (f : α → Bool) (l : List α) : bools? (l.map fun a => PyData.bool (f a)) = some (l.map f) := by
  rw [show (l.map fun a => PyData.bool (f a)) = (l.map f).map PyData.bool by simp]; exact bools?_bools _
theorem shaped_row (r : List Int) : SeqAt.shaped (rowD r) = true := PySem.W.shaped_ints r
theorem eq_row (a b : List Int) : gEq (rowD a) (rowD b) = bo (decide (a = b)) := by
  show (if SeqAt.shaped (rowD a) = true ∧ SeqAt.shaped (rowD b) = true then bo (PyData.eqv (rowD a) (rowD b)) else none) = _
  rw [if_pos ⟨shaped_row a, shaped_row b⟩, eqv_row]
theorem ne_row (a b : List Int) : gNe (rowD a) (rowD b) = bo (!decide (a = b)) := by
  show (if SeqAt.shaped (rowD a) = true ∧ SeqAt.shaped (rowD b) = true then bo (!PyData.eqv (rowD a) (rowD b)) else none) = _
  rw [if_pos ⟨shaped_row a, shaped_row b⟩, eqv_row]
theorem depth_rowD (k : List Int) : PyData.depth (rowD k) = 1 := depth_row k
theorem lt_row (a b : List Int) : gLt (rowD a) (rowD b) = bo (ltI a b) := by
  show (if PySem.W.alike (rowD a) (rowD b) = true ∧ isNon (rowD a) = false ∧ min (PyData.depth (rowD a)) (PyData.depth (rowD b)) ≤ 60 then bo (PySem.W.dataLt (rowD a) (rowD b)) else none) = _
  rw [if_pos ⟨alikeAll_ints a b, rfl, by rw [depth_rowD, depth_rowD]; decide⟩, lt_rows]
theorem gt_row (a b : List Int) : gGt (rowD a) (rowD b) = bo (ltI b a) := by
  show (if PySem.W.alike (rowD a) (rowD b) = true ∧ isNon (rowD a) = false ∧ min (PyData.depth (rowD a)) (PyData.depth (rowD b)) ≤ 60 then bo (PySem.W.dataLt (rowD b) (rowD a)) else none) = _
  rw [if_pos ⟨alikeAll_ints a b, rfl, by rw [depth_rowD, depth_rowD]; decide⟩, lt_rows]
theorem lt_cons_int (x y : Int) (xs ys : List D) : PyProof.Rows.lexLt PyProof.Rows.itemOrd (PySem.W.keyToksAll (.int x :: xs)) (PySem.W.keyToksAll (.int y :: ys)) = if x = y then PyProof.Rows.lexLt PyProof.Rows.itemOrd (PySem.W.keyToksAll xs) (PySem.W.keyToksAll ys) else decide (x < y) := by
  by_cases h : x = y
  · subst h
    rw [PySem.W.dataLt_all_yes rfl (by simp [PyData.eqv]), if_pos rfl]
  · rw [PySem.W.dataLt_all_no rfl (by simp [PyData.eqv, h]), if_neg h]
    show (decide (x < y) || (!decide (y < x) && false)) = _
    simp
theorem lt_cons_row (a b : List Int) (xs ys : List D) : PyProof.Rows.lexLt PyProof.Rows.itemOrd (PySem.W.keyToksAll (rowD a :: xs)) (PySem.W.keyToksAll (rowD b :: ys)) = if a = b then PyProof.Rows.lexLt PyProof.Rows.itemOrd (PySem.W.keyToksAll xs) (PySem.W.keyToksAll ys) else ltI a b := by
  by_cases h : a = b
  · subst h
    rw [PySem.W.dataLt_all_yes (alikeAll_ints a a) (by rw [eqv_row]; simp), if_pos rfl]
  · rw [PySem.W.dataLt_all_no (alikeAll_ints a b) (by rw [eqv_row]; simp [h]), if_neg h]
    exact lt_rows a b
/-- a pair of rows -/
abbrev prD (p : List Int × List Int) : D := .tuple [rowD p.1, rowD p.2]
def ltP (p q : List Int × List Int) : Bool := if p.1 = q.1 then ltI p.2 q.2 else ltI p.1 q.1
theorem lt_prs (p q : List Int × List Int) : PySem.W.dataLt (prD p) (prD q) = ltP p q := by
  rw [PySem.W.dataLt_tuple, lt_cons_row, lt_cons_row]
  unfold ltP
  by_cases h : p.1 = q.1
  · rw [if_pos h, if_pos h]
    by_cases h2 : p.2 = q.2
    · rw [if_pos h2, h2, ltI_irr]; rfl
    · rw [if_neg h2]
  · rw [if_neg h, if_neg h]
theorem alike_prs (p q : List Int × List Int) : PySem.W.alike (prD p) (prD q) = true := by
  unfold PySem.W.alike
  simp only [PySem.W.alikeAll, alikeAll_ints p.1 q.1, alikeAll_ints p.2 q.2, Bool.and_self]
theorem depth_pr (p : List Int × List Int) : PyData.depth (prD p) = 2 := by
  show PyData.depthAll [rowD p.1, rowD p.2] + 1 = 2
  simp only [PyData.depthAll, depth_rowD]
  rfl
theorem lt_pr (p q : List Int × List Int) : gLt (prD p) (prD q) = bo (ltP p q) := by
  show (if PySem.W.alike (prD p) (prD q) = true ∧ isNon (prD p) = false ∧ min (PyData.depth (prD p)) (PyData.depth (prD q)) ≤ 60 then bo (PySem.W.dataLt (prD p) (prD q)) else none) = _
  rw [if_pos ⟨alike_prs p q, rfl, by rw [depth_pr, depth_pr]; decide⟩, lt_prs]
theorem ltP_irr (p : List Int × List Int) : ltP p p = false := by unfold ltP; rw [if_pos rfl, ltI_irr]
theorem ltP_tri (p q : List Int × List Int) (h1 : ltP p q = false) (h2 : ltP q p = false) : p = q := by
  unfold ltP at h1 h2
  by_cases h : p.1 = q.1
  · rw [if_pos h] at h1
    rw [if_pos h.symm] at h2
    exact Prod.ext h (ltI_tri _ _ h1 h2)
  · rw [if_neg h] at h1
    rw [if_neg fun z => h z.symm] at h2
    exact absurd (ltI_tri _ _ h1 h2) h
theorem ltP_trans (p q r : List Int × List Int) (h1 : ltP p q = true) (h2 : ltP q r = true) : ltP p r = true := by
  unfold ltP at *
  by_cases a : p.1 = q.1
  · by_cases b : q.1 = r.1
    · rw [if_pos a] at h1; rw [if_pos b] at h2; rw [if_pos (a.trans b)]
      exact ltI_trans _ _ _ h1 h2
    · rw [if_neg b] at h2; rw [if_neg (by rw [a]; exact b), a]; exact h2
  · by_cases b : q.1 = r.1
    · rw [if_neg a] at h1; rw [if_neg (by rw [← b]; exact a), ← b]; exact h1
    · rw [if_neg a] at h1; rw [if_neg b] at h2
      have t := ltI_trans _ _ _ h1 h2
      have ne : p.1 ≠ r.1 := fun z => by rw [z, ltI_irr] at t; cases t
      rw [if_neg ne]; exact t
def leP (p q : List Int × List Int) : Bool := !ltP q p
theorem leD_prs (p q : List Int × List Int) : leD (prD p) (prD q) = leP p q := by unfold leD leP; rw [lt_prs]
theorem leP_total (a b : List Int × List Int) : leP a b = true ∨ leP b a = true := by
  unfold leP
  cases h : ltP b a with
  | false => exact .inl rfl
  | true =>
    refine .inr ?_
    cases h2 : ltP a b with
    | false => rfl
    | true =>
      have := ltP_trans a b a h2 h
      rw [ltP_irr] at this
      cases this
theorem leP_trans (a b c : List Int × List Int) (h1 : leP a b = true) (h2 : leP b c = true) : leP a c = true := by
  unfold leP at *
  cases h : ltP c a with
  | false => rfl
  | true =>
    cases q : ltP c b with
    | true => rw [q] at h2; cases h2
    | false =>
      cases q2 : ltP b c with
      | false =>
        have := ltP_tri b c q2 q
        subst this
        rw [h] at h1; cases h1
      | true =>
        have := ltP_trans b c a q2 h
        rw [this] at h1; cases h1
end VL

set_option Elab.async false
set_option linter.all false
set_option maxRecDepth 100000
set_option maxHeartbeats 4000000
/-! VN2: dicts, read as association lists -/
namespace VL
open PySem
section
variable {κ : Type} [DecidableEq κ]
/-- data that serve as keys -/
structure KeyF (kd : κ → D) where
  nk : κ → NestedKey
  spec : ∀ k, nkey (kd k) = some (nk k)
  inj : ∀ a b, nk a = nk b → a = b
  cls : ∀ a, kcls (kd a) = some true
def aget : List (κ × D) → κ → Option D
  | [], _ => none
  | p :: r, k => if p.1 = k then some p.2 else aget r k
def aput (l : List (κ × D)) (k : κ) (v : D) : List (κ × D) := if (aget l k).isSome then l.map fun p => if p.1 = k then (p.1, v) else p else l ++ [(k, v)]
abbrev aD (kd : κ → D) (l : List (κ × D)) : List (D × D) := l.map fun p => (kd p.1, p.2)
variable {kd : κ → D}
theorem KeyF.iff (f : KeyF kd) (a b : κ) : nkey (kd a) = nkey (kd b) ↔ a = b := by
  rw [f.spec, f.spec]
  exact ⟨fun h => f.inj _ _ (Option.some.inj h), fun h => by rw [h]⟩
theorem KeyF.find (f : KeyF kd) (k : κ) : ∀ l : List (κ × D), dfind (nkey (kd k)) (aD kd l) = aget l k
  | [] => rfl
  | p :: l => by
    show (if nkey (kd p.1) = nkey (kd k) then some p.2 else dfind (nkey (kd k)) (aD kd l)) = if p.1 = k then some p.2 else aget l k
    rw [f.find k l]
    by_cases h : p.1 = k
    · rw [if_pos h, if_pos ((f.iff _ _).mpr h)]
    · rw [if_neg h, if_neg (fun z => h ((f.iff _ _).mp z))]
theorem KeyF.dcls (f : KeyF kd) (k : κ) (l : List (κ × D)) : dcls (aD kd l) (kd k) = true := by
  unfold VL.dcls
  rw [f.cls]
  simp only [Option.isSome_some, Bool.true_and, List.all_eq_true, List.mem_map, decide_eq_true_eq]
  rintro _ ⟨p, _, rfl⟩
  exact f.cls _
theorem KeyF.put (f : KeyF kd) (k : κ) (v : D) (l : List (κ × D)) : dput (aD kd l) (kd k) v = aD kd (aput l k v) := by
  unfold dput aput
  rw [f.find k l]
  split
  · unfold aD
    rw [List.map_map, List.map_map]
    refine List.map_congr_left fun p _ => ?_
    show (if nkey (kd p.1) = nkey (kd k) then (kd p.1, v) else (kd p.1, p.2)) = (kd (if p.1 = k then (p.1, v) else p).1, (if p.1 = k then (p.1, v) else p).2)
    by_cases h : p.1 = k
    · rw [if_pos h, if_pos ((f.iff _ _).mpr h)]
    · rw [if_neg h, if_neg (fun z => h ((f.iff _ _).mp z))]
  · simp [aD]
theorem KeyF.gIn (f : KeyF kd) (k : κ) (l : List (κ × D)) : gDIn (aD kd l) (kd k) = some (.z (.bool (aget l k).isSome)) := by
  unfold gDIn; rw [f.dcls, f.find]; rfl
theorem KeyF.gNin (f : KeyF kd) (k : κ) (l : List (κ × D)) : gDNin (aD kd l) (kd k) = some (.z (.bool (!(aget l k).isSome))) := by
  unfold gDNin; rw [f.dcls, f.find]; rfl
theorem KeyF.gIx (f : KeyF kd) (k : κ) (l : List (κ × D)) : gDIx (aD kd l) (kd k) = (aget l k).map .z := by
  unfold gDIx; rw [f.dcls, f.find]; rfl
theorem KeyF.gSet (f : KeyF kd) (k : κ) (v : D) (l : List (κ × D)) (h : l.length < 100000) : gDSet (aD kd l) (kd k) v = some (aD kd (aput l k v)) := by
  unfold gDSet
  rw [f.dcls, f.put, if_pos ⟨rfl, by simpa using h⟩]
theorem aput_len (l : List (κ × D)) (k : κ) (v : D) : (aput l k v).length ≤ l.length + 1 := by
  unfold aput; split <;> simp
theorem aput_new {l : List (κ × D)} {k : κ} (h : aget l k = none) (v : D) : aput l k v = l ++ [(k, v)] := by
  unfold aput; rw [h]; rfl
theorem aget_mem {k : κ} : ∀ {l : List (κ × D)}, (aget l k).isSome = true ↔ k ∈ l.map (·.1)
  | [] => by simp [aget]
  | p :: l => by
    unfold aget
    by_cases h : p.1 = k
    · rw [if_pos h]; simp [h]
    · rw [if_neg h, aget_mem (l := l)]
      simp only [List.map_cons, List.mem_cons]
      exact ⟨.inr, fun z => z.resolve_left fun e => h e.symm⟩
theorem aget_none {k : κ} {l : List (κ × D)} : aget l k = none ↔ k ∉ l.map (·.1) := by
  rw [← aget_mem]
  cases aget l k <;> simp
theorem aget_of {k : κ} (g : κ → D) : ∀ {l : List κ}, k ∈ l → aget (l.map fun r => (r, g r)) k = some (g k)
  | [], h => by cases h
  | p :: l, h => by
    show (if p = k then some (g p) else aget (l.map fun r => (r, g r)) k) = _
    by_cases e : p = k
    · rw [if_pos e, e]
    · rw [if_neg e]
      exact aget_of g (by rcases List.mem_cons.mp h with z | z; exact absurd z.symm e; exact z)
theorem aput_same {k : κ} (g : κ → D) {l : List κ} (h : k ∈ l) : aput (l.map fun r => (r, g r)) k (g k) = l.map fun r => (r, g r) := by
  unfold aput
  rw [aget_of g h]
  show (l.map fun r => (r, g r)).map _ = _
  rw [List.map_map]
  refine List.map_congr_left fun p _ => ?_
  show (if p = k then (p, g k) else (p, g p)) = _
  by_cases e : p = k
  · rw [if_pos e, e]
  · rw [if_neg e]
end
/-! ### loops as folds -/
theorem for_fold {α β γ : Type} {mg : MG} {mb : MS} (g : α → D) (env : β → γ → Env) (step : β → α → β) (I : Nat → β → Prop) : ∀ (as : List α) (n : Nat) (b : β) (c : γ), I n b → (∀ a ∈ as, ∀ n' b c, n' < n + as.length → I n' b → I (n' + 1) (step b a) ∧ ∃ c', (mg (g a) (env b c)).bind mb = some (.nx, env (step b a) c')) →
    ∃ c', forGo mg mb (as.map g) (env b c) = some (.nx, env (as.foldl step b) c') ∧ I (n + as.length) (as.foldl step b)
  | [], n, b, c, h, _ => ⟨c, rfl, h⟩
  | a :: as, n, b, c, h, k => by
    obtain ⟨h1, c1, e1⟩ := k a (List.mem_cons_self ..) n b c (by simp) h
    obtain ⟨ρ1, e2, e3⟩ := Option.bind_eq_some_iff.mp e1
    obtain ⟨c2, e4, h2⟩ := for_fold g env step I as (n + 1) (step b a) c1 h1 fun a' ha' n' b' c' hn => k a' (List.mem_cons_of_mem _ ha') n' b' c' (by simp; omega)
    refine ⟨c2, ?_, by rw [List.length_cons, show n + (as.length + 1) = n + 1 + as.length by omega]; exact h2⟩
    show (mg (g a) (env b c)).bind _ = _
    rw [e2]
    show (mb ρ1).bind _ = _
    rw [e3]
    exact e4
/-- a for loop as a fold; I: what holds behind so many turns -/
theorem sFor_fold {α β γ : Type} {mi : MI} {mg : MG} {mb : MS} (g : α → D) (env : β → γ → Env) (step : β → α → β) (I : Nat → β → Prop) (as : List α) (b : β) (c : γ) {ρ : Env} (hi : mi ρ = some (as.map g, env b c)) (h : I 0 b) (k : ∀ a ∈ as, ∀ n b c, n < as.length → I n b → I (n + 1) (step b a) ∧ ∃ c', (mg (g a) (env b c)).bind mb = some (.nx, env (step b a) c')) :
    ∃ c', sFor mi mg mb ρ = some (.nx, env (as.foldl step b) c') ∧ I as.length (as.foldl step b) := by
  obtain ⟨c', e, h'⟩ := for_fold g env step I as 0 b c h (by simpa using k)
  refine ⟨c', ?_, by simpa using h'⟩
  show (mi ρ).bind _ = _
  rw [hi]
  exact e
/-- first comers -/
def addU {κ : Type} [DecidableEq κ] (s : List κ) (r : κ) : List κ := if r ∈ s then s else s ++ [r]
def uniq {κ : Type} [DecidableEq κ] (l : List κ) : List κ := l.foldl addU []
theorem addU_put {κ : Type} [DecidableEq κ] (g : κ → D) (s : List κ) (r : κ) : aput (s.map fun r => (r, g r)) r (g r) = (addU s r).map fun r => (r, g r) := by
  unfold addU
  by_cases h : r ∈ s
  · rw [if_pos h, aput_same g h]
  · rw [if_neg h, aput_new (aget_none.mpr (by simpa using h))]
    simp
theorem addU_len {κ : Type} [DecidableEq κ] (s : List κ) (r : κ) : (addU s r).length ≤ s.length + 1 := by
  unfold addU; split <;> simp
theorem foldl_addU {κ : Type} [DecidableEq κ] : ∀ (l s : List κ), s.Nodup → ((l.foldl addU s).Nodup ∧ ∀ x, x ∈ l.foldl addU s ↔ x ∈ s ∨ x ∈ l)
  | [], s, h => ⟨h, fun x => by simp⟩
  | a :: l, s, h => by
    have h1 : (addU s a).Nodup := by
      unfold addU
      by_cases q : a ∈ s
      · rw [if_pos q]; exact h
      · rw [if_neg q]
        rw [List.nodup_append]
        exact ⟨h, by simp, fun x hx y hy e => q (by simp at hy; rw [← hy, ← e]; exact hx)⟩
    have h2 : ∀ x, x ∈ addU s a ↔ x ∈ s ∨ x = a := fun x => by
      unfold addU
      by_cases q : a ∈ s
      · rw [if_pos q]; exact ⟨.inl, fun z => z.elim id fun e => e ▸ q⟩
      · rw [if_neg q]; simp
    obtain ⟨h3, h4⟩ := foldl_addU l (addU s a) h1
    refine ⟨h3, fun x => ?_⟩
    show x ∈ l.foldl addU (addU s a) ↔ _
    rw [h4, h2, List.mem_cons, or_assoc]
theorem uniq_nodup {κ : Type} [DecidableEq κ] (l : List κ) : (uniq l).Nodup := (foldl_addU l [] List.nodup_nil).1
theorem mem_uniq {κ : Type} [DecidableEq κ] {l : List κ} {x : κ} : x ∈ uniq l ↔ x ∈ l := by
  have := (foldl_addU l [] List.nodup_nil).2 x
  unfold uniq
  rw [this]; simp
/-! ### rows as keys -/
theorem nkeys_ints : ∀ r : List Int, nkeys (r.map .int) = some (r.map .num)
  | [] => rfl
  | i :: r => by
    show (nkey (.int i)).bind _ = _
    rw [nkeys_ints r]; rfl
theorem num_inj : ∀ {a b : List Int}, a.map NestedKey.num = b.map NestedKey.num → a = b
  | [], [], _ => rfl
  | [], _ :: _, h => by simp at h
  | _ :: _, [], h => by simp at h
  | x :: a, y :: b, h => by
    rw [List.map_cons, List.map_cons] at h
    injection h with h1 h2
    injection h1 with h1
    rw [h1, num_inj h2]
theorem depthAll_num : ∀ r : List Int, NestedKey.depthAll (r.map .num) = 0
  | [] => rfl
  | i :: r => by
    show max (NestedKey.depth (.num i)) (NestedKey.depthAll (r.map .num)) = 0
    rw [depthAll_num r]; rfl
theorem nkey_row (r : List Int) : nkey (rowD r) = some (.tup (r.map .num)) := by
  show (nkeys (r.map .int)).map NestedKey.tup = _
  rw [nkeys_ints]; rfl
theorem kcls_of {ds : List D} {k : NestedKey} (h : nkey (.tuple ds) = some k) (hd : k.depth ≤ 8) : kcls (.tuple ds) = some true := by
  rw [kcls_t, h]
  show (if k.depth ≤ 8 then some true else none) = _
  rw [if_pos hd]
def rowKey : KeyF rowD where
  nk := fun r => .tup (r.map .num)
  spec := nkey_row
  inj := fun a b h => by injection h with h; exact num_inj h
  cls := fun r => kcls_of (nkey_row r) (by show NestedKey.depthAll (r.map .num) + 1 ≤ 8; rw [depthAll_num]; omega)
/-! ### == of lists and tuples of data -/
theorem canLayAll_map {α : Type} (f : α → D) : ∀ l : List α, (∀ a ∈ l, SeqAt.shaped (f a) = true) → PyData.canLayAll0 (l.map f) = true
  | [], _ => rfl
  | a :: l, h => by
    show (PyData.canLay0 (f a) && PyData.canLayAll0 (l.map f)) = true
    rw [SeqAt.canLay_of_shaped (h a (List.mem_cons_self ..)), canLayAll_map f l fun b hb => h b (List.mem_cons_of_mem _ hb)]; rfl
theorem depthAll_map {α : Type} {k : Nat} (f : α → D) : ∀ l : List α, (∀ a ∈ l, PyData.depth (f a) ≤ k) → PyData.depthAll (l.map f) ≤ k
  | [], _ => Nat.zero_le _
  | a :: l, h => by
    show max (PyData.depth (f a)) (PyData.depthAll (l.map f)) ≤ k
    have h1 := h a (List.mem_cons_self ..)
    have h2 := depthAll_map f l fun b hb => h b (List.mem_cons_of_mem _ hb)
    omega
theorem shaped_map {α : Type} {k : Nat} (f : α → D) (l : List α) (h : ∀ a ∈ l, SeqAt.shaped (f a) = true) (hd : ∀ a ∈ l, PyData.depth (f a) ≤ k) (hk : k ≤ 60) : SeqAt.shaped (.list (l.map f)) = true ∧ SeqAt.shaped (.tuple (l.map f)) = true := by
  have h1 := canLayAll_map f l h
  have h2 := depthAll_map f l hd
  have e1 : PyData.depth (.list (l.map f)) = PyData.depthAll (l.map f) + 1 := rfl
  have e2 : PyData.depth (.tuple (l.map f)) = PyData.depthAll (l.map f) + 1 := rfl
  constructor
  · show (PyData.canLay0 (.list (l.map f)) && decide (PyData.depth (.list (l.map f)) ≤ 64)) = true
    rw [Bool.and_eq_true]
    exact ⟨by simp only [PyData.canLay0]; exact h1, decide_eq_true (by omega)⟩
  · show (PyData.canLay0 (.tuple (l.map f)) && decide (PyData.depth (.tuple (l.map f)) ≤ 64)) = true
    rw [Bool.and_eq_true]
    exact ⟨by simp only [PyData.canLay0]; exact h1, decide_eq_true (by omega)⟩
theorem eqvAll_map {α : Type} [DecidableEq α] (f : α → D) (h : ∀ a b, PyData.eqv (f a) (f b) = decide (a = b)) : ∀ l m : List α, PyData.eqvAll (l.map f) (m.map f) = decide (l = m)
  | [], [] => by simp [PyData.eqvAll]
  | [], _ :: _ => by simp [PyData.eqvAll]
  | _ :: _, [] => by simp [PyData.eqvAll]
  | x :: a, y :: b => by
    simp only [List.map_cons, PyData.eqvAll, h, eqvAll_map f h a b]
    by_cases h1 : x = y <;> by_cases h2 : a = b <;> simp [h1, h2]
theorem gEq_lists {α : Type} [DecidableEq α] {k : Nat} (f : α → D) (he : ∀ a b, PyData.eqv (f a) (f b) = decide (a = b)) (h : ∀ a, SeqAt.shaped (f a) = true) (hd : ∀ a, PyData.depth (f a) ≤ k) (hk : k ≤ 60) (l m : List α) : gEq (.list (l.map f)) (.list (m.map f)) = bo (decide (l = m)) := by
  show (if SeqAt.shaped (.list (l.map f)) = true ∧ SeqAt.shaped (.list (m.map f)) = true then bo (PyData.eqv (.list (l.map f)) (.list (m.map f))) else none) = _
  rw [if_pos ⟨(shaped_map f l (fun a _ => h a) (fun a _ => hd a) hk).1, (shaped_map f m (fun a _ => h a) (fun a _ => hd a) hk).1⟩]
  have : PyData.eqv (.list (l.map f)) (.list (m.map f)) = PyData.eqvAll (l.map f) (m.map f) := by rw [PyData.eqv]
  rw [this, eqvAll_map f he]
theorem gEq_tuples {α : Type} [DecidableEq α] {k : Nat} (f : α → D) (he : ∀ a b, PyData.eqv (f a) (f b) = decide (a = b)) (h : ∀ a, SeqAt.shaped (f a) = true) (hd : ∀ a, PyData.depth (f a) ≤ k) (hk : k ≤ 60) (l m : List α) : gEq (.tuple (l.map f)) (.tuple (m.map f)) = bo (decide (l = m)) := by
  show (if SeqAt.shaped (.tuple (l.map f)) = true ∧ SeqAt.shaped (.tuple (m.map f)) = true then bo (PyData.eqv (.tuple (l.map f)) (.tuple (m.map f))) else none) = _
  rw [if_pos ⟨(shaped_map f l (fun a _ => h a) (fun a _ => hd a) hk).2, (shaped_map f m (fun a _ => h a) (fun a _ => hd a) hk).2⟩]
  have : PyData.eqv (.tuple (l.map f)) (.tuple (m.map f)) = PyData.eqvAll (l.map f) (m.map f) := by rw [PyData.eqv]
  rw [this, eqvAll_map f he]
theorem gEq_rows (l m : List (List Int)) : gEq (.list (l.map rowD)) (.list (m.map rowD)) = bo (decide (l = m)) := gEq_lists (k := 1) rowD eqv_row shaped_row (fun r => by rw [depth_rowD]; omega) (by decide) l m
theorem okD_rows {rs : List (List Int)} {n : Nat} (h : ∀ r ∈ rs, ∀ a ∈ r, a.natAbs < 10 ^ 12) : okD (n + 2) (.list (rs.map rowD)) = true ∧ okD (n + 2) (.tuple (rs.map rowD)) = true := by
  have : (rs.map rowD).all (okD (n + 1)) = true := by
    rw [List.all_eq_true]
    intro d hd
    obtain ⟨r, hr, rfl⟩ := List.mem_map.mp hd
    exact okD_row (h r hr)
  exact ⟨this, this⟩
theorem bulkAll_rows {k : Nat} : ∀ {rs : List (List Int)}, (∀ r ∈ rs, r.length ≤ k) → PyData.bulkAll (rs.map rowD) ≤ (k + 1) * rs.length
  | [], _ => Nat.zero_le _
  | r :: rs, h => by
    have ih := bulkAll_rows (rs := rs) fun q hq => h q (List.mem_cons_of_mem _ hq)
    have h1 := h r (List.mem_cons_self ..)
    show PyData.bulk (rowD r) + 1 + PyData.bulkAll (rs.map rowD) ≤ _
    rw [bulk_row, List.length_cons, Nat.mul_succ]
    omega
/-! ### slices -/
theorem cutD_to (xs : List D) (k : Nat) : cutD xs none (some (k : Int)) = xs.take k := by
  unfold cutD
  rw [HT.sIx_nat, HT.sIx_none, List.drop_zero, Nat.sub_zero]
  by_cases h : k ≤ xs.length
  · rw [Nat.min_eq_left h]
  · rw [Nat.min_eq_right (by omega), List.take_length, List.take_of_length_le (by omega)]
theorem cutD_from (xs : List D) (k : Nat) : cutD xs (some (k : Int)) none = xs.drop k := by
  unfold cutD
  rw [HT.sIx_nat, HT.sIx_none]
  by_cases h : k ≤ xs.length
  · rw [Nat.min_eq_left h, List.take_of_length_le (by simp)]
  · rw [Nat.min_eq_right (by omega), List.drop_length, List.drop_eq_nil_of_le (by omega)]; simp
end VL

set_option maxHeartbeats 0
namespace My
open PySem PySem.Spec PyProof.Rows L2
def top (i : Nat) : Stmt := PySem.Challenge.pw_sumroads_k32_whole_orders.main.body.getD i (.Pass ⟨0, 0, 0, 0⟩)
abbrev s_TableError_Dinit : Stmt := inClass (top 1) 0
abbrev s_is_integer : Stmt := top 5
abbrev s_is_count : Stmt := top 6
abbrev s_is_list : Stmt := top 7
abbrev s_are_counts_to : Stmt := top 14
abbrev s_is_monomial_of : Stmt := top 15
abbrev s_is_order_value : Stmt := top 16
abbrev s_want_order : Stmt := top 17
abbrev s_want_monomial : Stmt := top 18
abbrev s_order_key : Stmt := top 19
abbrev s_is_greater : Stmt := top 20
abbrev s_greater : Stmt := top 21
abbrev s_sorted_by : Stmt := top 22
abbrev s_L_pot : Stmt := top 24
abbrev s_L_draw : Stmt := top 25
abbrev s_L_weights : Stmt := top 26
abbrev s_L_compared : Stmt := top 27
abbrev s_L_monomial : Stmt := top 28
abbrev s_L_beside : Stmt := top 29
abbrev s_L_sorted : Stmt := top 30
abbrev s_L_right : Stmt := top 31
abbrev s_law : Stmt := top 32
section
def d_TableError_Dinit : He.DefD := ⟨("TableError", some "__init__"), "__init__", "TableError.__init__", defArgs s_TableError_Dinit, defBody s_TableError_Dinit, defScope s_TableError_Dinit, [.non], []⟩
def d_is_integer : He.DefD := ⟨("is_integer", none), "is_integer", "is_integer", defArgs s_is_integer, defBody s_is_integer, defScope s_is_integer, [], []⟩
def d_is_count : He.DefD := ⟨("is_count", none), "is_count", "is_count", defArgs s_is_count, defBody s_is_count, defScope s_is_count, [], []⟩
def d_is_list : He.DefD := ⟨("is_list", none), "is_list", "is_list", defArgs s_is_list, defBody s_is_list, defScope s_is_list, [], []⟩
def d_are_counts_to : He.DefD := ⟨("are_counts_to", none), "are_counts_to", "are_counts_to", defArgs s_are_counts_to, defBody s_are_counts_to, defScope s_are_counts_to, [], []⟩
def d_is_monomial_of : He.DefD := ⟨("is_monomial_of", none), "is_monomial_of", "is_monomial_of", defArgs s_is_monomial_of, defBody s_is_monomial_of, defScope s_is_monomial_of, [], []⟩
def d_is_order_value : He.DefD := ⟨("is_order_value", none), "is_order_value", "is_order_value", defArgs s_is_order_value, defBody s_is_order_value, defScope s_is_order_value, [], []⟩
def d_want_order : He.DefD := ⟨("want_order", none), "want_order", "want_order", defArgs s_want_order, defBody s_want_order, defScope s_want_order, [], []⟩
def d_want_monomial : He.DefD := ⟨("want_monomial", none), "want_monomial", "want_monomial", defArgs s_want_monomial, defBody s_want_monomial, defScope s_want_monomial, [], []⟩
def d_order_key : He.DefD := ⟨("order_key", none), "order_key", "order_key", defArgs s_order_key, defBody s_order_key, defScope s_order_key, [], []⟩
def d_is_greater : He.DefD := ⟨("is_greater", none), "is_greater", "is_greater", defArgs s_is_greater, defBody s_is_greater, defScope s_is_greater, [], []⟩
def d_greater : He.DefD := ⟨("greater", none), "greater", "greater", defArgs s_greater, defBody s_greater, defScope s_greater, [], []⟩
def d_sorted_by : He.DefD := ⟨("sorted_by", none), "sorted_by", "sorted_by", defArgs s_sorted_by, defBody s_sorted_by, defScope s_sorted_by, [], []⟩
def d_L_pot : He.DefD := ⟨("_law_pot", none), "_law_pot", "_law_pot", defArgs s_L_pot, defBody s_L_pot, defScope s_L_pot, [], []⟩
def d_L_draw : He.DefD := ⟨("_law_draw", none), "_law_draw", "_law_draw", defArgs s_L_draw, defBody s_L_draw, defScope s_L_draw, [], []⟩
def d_L_weights : He.DefD := ⟨("_law_weights", none), "_law_weights", "_law_weights", defArgs s_L_weights, defBody s_L_weights, defScope s_L_weights, [], []⟩
def d_L_compared : He.DefD := ⟨("_law_compared", none), "_law_compared", "_law_compared", defArgs s_L_compared, defBody s_L_compared, defScope s_L_compared, [], []⟩
def d_L_monomial : He.DefD := ⟨("_law_monomial", none), "_law_monomial", "_law_monomial", defArgs s_L_monomial, defBody s_L_monomial, defScope s_L_monomial, [], []⟩
def d_L_beside : He.DefD := ⟨("_law_beside", none), "_law_beside", "_law_beside", defArgs s_L_beside, defBody s_L_beside, defScope s_L_beside, [], []⟩
def d_L_sorted : He.DefD := ⟨("_law_sorted", none), "_law_sorted", "_law_sorted", defArgs s_L_sorted, defBody s_L_sorted, defScope s_L_sorted, [], []⟩
def d_L_right : He.DefD := ⟨("_law_right", none), "_law_right", "_law_right", defArgs s_L_right, defBody s_L_right, defScope s_L_right, [], []⟩
def d_law : He.DefD := ⟨("law", none), "law", "law", defArgs s_law, defBody s_law, defScope s_law, [], []⟩
end
def fn : List He.DefD := [d_TableError_Dinit, d_is_integer, d_is_count, d_is_list, d_are_counts_to, d_is_monomial_of, d_is_order_value, d_want_order, d_want_monomial, d_order_key, d_is_greater, d_greater, d_sorted_by, d_L_pot, d_L_draw, d_L_weights, d_L_compared, d_L_monomial, d_L_beside, d_L_sorted, d_L_right, d_law]
def fa : List He.Fa := [.glo "is_integer", .glo "is_count", .glo "is_list", .glo "are_counts_to", .glo "is_monomial_of", .glo "is_order_value", .glo "want_order", .glo "want_monomial", .glo "order_key", .glo "is_greater", .glo "greater", .glo "sorted_by", .glo "_law_pot", .glo "_law_draw", .glo "_law_weights", .glo "_law_compared", .glo "_law_monomial", .glo "_law_beside", .glo "_law_sorted", .glo "_law_right", .glo "law", .free "ValueError", .free "abs", .free "all", .free "bool", .free "divmod", .free "int", .free "isinstance", .free "len", .free "list", .free "max", .free "range", .free "repr", .free "sorted", .free "str", .free "sum", .free "tuple", .free "zip", .int "MOST_LETTERS" 40, .int "MOST_WEIGHT" 99, .int "MOST_COUNT" 20000, .int "MOST_SORTED" 400, .str "ORDER" "order"]
abbrev R : PySem.W.OpenRow := PySem.W.OpenLaw.row PySem.Challenge.rw_sumroads_k32_whole_orders
def bl : List (PySem.Str × Value) := []
abbrev hk : PySem.W.Hook := VL.hookV 4 fa fn bl
def ob (s : PySem.W.SharedT) : VL.AlV := VL.obsV 4 fa fn bl (HandSHeadRun.getT s)
theorem ob_eq (s : PySem.W.SharedT) : ob s = hk.obs s.abs := VL.obsV_eq (HandSHeadRun.getT_eq s)
def loose0 : List PySem.Str := ["InvalidMonomial", "InvalidOrder", "MOST_COUNT", "MOST_LETTERS", "MOST_SORTED", "MOST_WEIGHT", "ORDER", "TableError", "_law_beside", "_law_compared", "_law_draw", "_law_monomial", "_law_pot", "_law_right", "_law_sorted", "_law_weights", "are_counts_to", "greater", "is_count", "is_greater", "is_integer", "is_list", "is_monomial_of", "is_order_value", "order_key", "sorted_by", "want_monomial", "want_order"]
def loose : List PySem.Str := loose0
theorem run (w : World) : HandSHeadRun.RunEq R (PySem.W.view R.prog [32]) hk ob 4000 loose w := by
  intro os
  kernel_rfl

open VL PySem PySem.Spec PyProof.Rows L2
abbrev Gg (K : Fr) (mg : Str → Option Value) : Prop := Gd fa fn bl K mg
/-! ### is_integer -/
def m_is_integer : MD := defM 1 [false] ((sRet (mAnd (mIsi "int" (oN 0)) (mNot (mIsi "bool" (oN 0))))))
theorem sc_is_integer : FnScope ["value"] ["value"] (defScope s_is_integer) := ⟨rfl, rfl, rfl, by decide +kernel, rfl, by decide +kernel, by decide +kernel⟩
section
variable {P : Program} {w : World} {K : Fr} {mg : Str → Option Value} {base : Heap}
noncomputable def fd_is_integer (g : Gg K mg) : FuncData := Classical.choose (g.c.def_ 1 (d := d_is_integer) rfl)
theorem F_is_integer (g : Gg K mg) : FunD K "is_integer" "is_integer" (defArgs s_is_integer) (defBody s_is_integer) (defScope s_is_integer) [] [] (He.ga K "is_integer") (fd_is_integer g) := Classical.choose_spec (g.c.def_ 1 (d := d_is_integer) rfl)
theorem b_is_integer (g : Gg K mg) : Binds K (fd_is_integer g) ["value"] [] := (F_is_integer g).bindsN fun _ _ _ _ _ _ us hl => match us, hl with | [_], _ => rfl
theorem t_is_integer (g : Gg K mg) : FnG P w K mg base CX0 1 (He.ga K "is_integer") (fd_is_integer g) ["value"] (spD K m_is_integer) := fn_d (F_is_integer g) sc_is_integer rfl fun cdv A outer s H E hr =>
    (pst_1 (ps_ret' (px_and (px_isi isTy_int rfl (g.free 27) (po_n (pv 0)) rfl (g.free 26)) (px_one (px_not (px_isi isTy_bool rfl (g.free 27) (po_n (pv 0)) rfl (g.free 24)))))))
end
/-! ### is_count -/
def m_is_count : MD := defM 1 [false] ((sRet (mAnd (mCallD m_is_integer [false] [] (aCons (oE (mZ 0)) aNil)) (mBin gGe (oN 0) (oE (mC (.int 0)))))))
theorem sc_is_count : FnScope ["value"] ["value"] (defScope s_is_count) := ⟨rfl, rfl, rfl, by decide +kernel, rfl, by decide +kernel, by decide +kernel⟩
section
variable {P : Program} {w : World} {K : Fr} {mg : Str → Option Value} {base : Heap}
noncomputable def fd_is_count (g : Gg K mg) : FuncData := Classical.choose (g.c.def_ 2 (d := d_is_count) rfl)
theorem F_is_count (g : Gg K mg) : FunD K "is_count" "is_count" (defArgs s_is_count) (defBody s_is_count) (defScope s_is_count) [] [] (He.ga K "is_count") (fd_is_count g) := Classical.choose_spec (g.c.def_ 2 (d := d_is_count) rfl)
theorem b_is_count (g : Gg K mg) : Binds K (fd_is_count g) ["value"] [] := (F_is_count g).bindsN fun _ _ _ _ _ _ us hl => match us, hl with | [_], _ => rfl
theorem t_is_count (g : Gg K mg) : FnG P w K mg base CX0 2 (He.ga K "is_count") (fd_is_count g) ["value"] (spD K m_is_count) := fn_d (F_is_count g) sc_is_count rfl fun cdv A outer s H E hr =>
    (pst_1 (ps_ret' (px_and (px_call (t_is_integer g) defM_Len (hr.mono (by decide)) rfl (g.glo 0) (F_is_integer g).kp (b_is_integer g) (pa_c (PX.po (px_z (pv 0))) pa_0)) (px_one (px_cmp od_ge (po_n (pv 0)) (PX.po px_int) (nomark _))))))
end
/-! ### is_list -/
def m_is_list : MD := defM 1 [false] ((sRet (mIsi2 "list" "tuple" (oN 0))))
theorem sc_is_list : FnScope ["value"] ["value"] (defScope s_is_list) := ⟨rfl, rfl, rfl, by decide +kernel, rfl, by decide +kernel, by decide +kernel⟩
section
variable {P : Program} {w : World} {K : Fr} {mg : Str → Option Value} {base : Heap}
noncomputable def fd_is_list (g : Gg K mg) : FuncData := Classical.choose (g.c.def_ 3 (d := d_is_list) rfl)
theorem F_is_list (g : Gg K mg) : FunD K "is_list" "is_list" (defArgs s_is_list) (defBody s_is_list) (defScope s_is_list) [] [] (He.ga K "is_list") (fd_is_list g) := Classical.choose_spec (g.c.def_ 3 (d := d_is_list) rfl)
theorem b_is_list (g : Gg K mg) : Binds K (fd_is_list g) ["value"] [] := (F_is_list g).bindsN fun _ _ _ _ _ _ us hl => match us, hl with | [_], _ => rfl
theorem t_is_list (g : Gg K mg) : FnG P w K mg base CX0 1 (He.ga K "is_list") (fd_is_list g) ["value"] (spD K m_is_list) := fn_d (F_is_list g) sc_is_list rfl fun cdv A outer s H E hr =>
    (pst_1 (ps_ret' (px_isi2 isTy_list isTy_tuple rfl (g.free 27) (po_n (pv 0)) rfl (g.free 29) rfl (g.free 36))))
end
/-! ### are_counts_to -/
def l_are_counts_to_1 : ME := mLC (iV (mZ 1)) (gN 2) bYes (mAnd (mCallD m_is_count [false] [] (aCons (oE (mZ 2)) aNil)) (mBin gLe (oN 2) (oN 0))) [2]
def m_are_counts_to : MD := defM 3 [false, false] ((sRet (mAnd (mIsi "tuple" (oN 1)) (mCB gAll (aCons (oE l_are_counts_to_1) aNil)))))
theorem sc_are_counts_to : FnScope ["most", "value", "one"] ["most", "value"] (defScope s_are_counts_to) := ⟨rfl, rfl, rfl, by decide +kernel, rfl, by decide +kernel, by decide +kernel⟩
section
variable {P : Program} {w : World} {K : Fr} {mg : Str → Option Value} {base : Heap}
noncomputable def fd_are_counts_to (g : Gg K mg) : FuncData := Classical.choose (g.c.def_ 4 (d := d_are_counts_to) rfl)
theorem F_are_counts_to (g : Gg K mg) : FunD K "are_counts_to" "are_counts_to" (defArgs s_are_counts_to) (defBody s_are_counts_to) (defScope s_are_counts_to) [] [] (He.ga K "are_counts_to") (fd_are_counts_to g) := Classical.choose_spec (g.c.def_ 4 (d := d_are_counts_to) rfl)
theorem b_are_counts_to (g : Gg K mg) : Binds K (fd_are_counts_to g) ["most", "value"] [] := (F_are_counts_to g).bindsN fun _ _ _ _ _ _ us hl => match us, hl with | [_, _], _ => rfl
theorem t_are_counts_to (g : Gg K mg) : FnG P w K mg base CX0 3 (He.ga K "are_counts_to") (fd_are_counts_to g) ["most", "value"] (spD K m_are_counts_to) := fn_d (F_are_counts_to g) sc_are_counts_to rfl fun cdv A outer s H E hr =>
    (pst_1 (ps_ret' (px_and (px_isi isTy_tuple rfl (g.free 27) (po_n (pv 1)) rfl (g.free 36)) (px_one (px_cb (cd_all rfl) rfl (g.free 23) (by decide +kernel) (pa_c (PX.po (px_lc' [("one", 2)] sc_are_counts_to.nd (pit_v (px_z (pv 1))) (blkOk_by (by rfl)) (fun n s H C cl fp => (tg_n 2 sc_are_counts_to.nd (oth (by rfl)))) (fun s H C cl fp => pts_0) (fun s H C cl fp => (px_and (px_call (t_is_count g) defM_Len (hr.mono (by decide)) rfl (g.glo 1) (F_is_count g).kp (b_is_count g) (pa_c (PX.po (px_z (pv 2))) pa_0)) (px_one (px_cmp od_le (po_n (pv 2)) (po_n (pv 0)) (nomark _))))))) pa_0))))))
end
/-! ### is_monomial_of -/
def m_is_monomial_of : MD := defM 2 [false, false] ((sRet (mAnd (mCallD m_are_counts_to [false, false] [] (aCons (oE (mC (.int 20000))) (aCons (oE (mZ 1)) aNil))) (mBin gEq (oE (mCB gLen (aCons (oN 1) aNil))) (oN 0)))))
theorem sc_is_monomial_of : FnScope ["many", "value"] ["many", "value"] (defScope s_is_monomial_of) := ⟨rfl, rfl, rfl, by decide +kernel, rfl, by decide +kernel, by decide +kernel⟩
section
variable {P : Program} {w : World} {K : Fr} {mg : Str → Option Value} {base : Heap}
noncomputable def fd_is_monomial_of (g : Gg K mg) : FuncData := Classical.choose (g.c.def_ 5 (d := d_is_monomial_of) rfl)
theorem F_is_monomial_of (g : Gg K mg) : FunD K "is_monomial_of" "is_monomial_of" (defArgs s_is_monomial_of) (defBody s_is_monomial_of) (defScope s_is_monomial_of) [] [] (He.ga K "is_monomial_of") (fd_is_monomial_of g) := Classical.choose_spec (g.c.def_ 5 (d := d_is_monomial_of) rfl)
theorem b_is_monomial_of (g : Gg K mg) : Binds K (fd_is_monomial_of g) ["many", "value"] [] := (F_is_monomial_of g).bindsN fun _ _ _ _ _ _ us hl => match us, hl with | [_, _], _ => rfl
theorem t_is_monomial_of (g : Gg K mg) : FnG P w K mg base CX0 4 (He.ga K "is_monomial_of") (fd_is_monomial_of g) ["many", "value"] (spD K m_is_monomial_of) := fn_d (F_is_monomial_of g) sc_is_monomial_of rfl fun cdv A outer s H E hr =>
    (pst_1 (ps_ret' (px_and (px_call (t_are_counts_to g) defM_Len (hr.mono (by decide)) rfl (g.glo 3) (F_are_counts_to g).kp (b_are_counts_to g) (pa_c (PX.po (px_gint rfl (g.int 40))) (pa_c (PX.po (px_z (pv 1))) pa_0))) (px_one (px_cmp (od_eq hr.u') (PX.po (px_cb cd_len rfl (g.free 28) (by decide +kernel) (pa_c (po_n (pv 1)) pa_0))) (po_n (pv 0)) (nomark _))))))
end
/-! ### is_order_value -/
def m_is_order_value : MD := defM 1 [false] ((sSeq
    (sIf (bOr (bNot (bT (oE (mIsi "tuple" (oN 0))))) (bOr (bV (mBin gNe (oE (mCB gLen (aCons (oN 0) aNil))) (oE (mC (.int 2))))) (bOr (bNot (bT (oE (mIsi "str" (oE (mBin gIx (oN 0) (oE (mC (.int 0))))))))) (bV (mBin gNe (oE (mBin gIx (oN 0) (oE (mC (.int 0))))) (oE (mC (.str "order")))))))) (sRet (mC (.bool false))) sNx)
    (sRet (mAnd (mCallD m_are_counts_to [false, false] [] (aCons (oE (mC (.int 99))) (aCons (oE (mBin gIx (oN 0) (oE (mC (.int 1))))) aNil))) (mChain gLe gLe (oE (mC (.int 1))) (oE (mCB gLen (aCons (oE (mBin gIx (oN 0) (oE (mC (.int 1))))) aNil))) (oE (mC (.int 40))))))))
theorem sc_is_order_value : FnScope ["value"] ["value"] (defScope s_is_order_value) := ⟨rfl, rfl, rfl, by decide +kernel, rfl, by decide +kernel, by decide +kernel⟩
section
variable {P : Program} {w : World} {K : Fr} {mg : Str → Option Value} {base : Heap}
noncomputable def fd_is_order_value (g : Gg K mg) : FuncData := Classical.choose (g.c.def_ 6 (d := d_is_order_value) rfl)
theorem F_is_order_value (g : Gg K mg) : FunD K "is_order_value" "is_order_value" (defArgs s_is_order_value) (defBody s_is_order_value) (defScope s_is_order_value) [] [] (He.ga K "is_order_value") (fd_is_order_value g) := Classical.choose_spec (g.c.def_ 6 (d := d_is_order_value) rfl)
theorem b_is_order_value (g : Gg K mg) : Binds K (fd_is_order_value g) ["value"] [] := (F_is_order_value g).bindsN fun _ _ _ _ _ _ us hl => match us, hl with | [_], _ => rfl
theorem t_is_order_value (g : Gg K mg) : FnG P w K mg base CX0 4 (He.ga K "is_order_value") (fd_is_order_value g) ["value"] (spD K m_is_order_value) := fn_d (F_is_order_value g) sc_is_order_value rfl fun cdv A outer s H E hr =>
    (pst_c
      (ps_if' (PBw.pb (pbw_or (pb_not (pb_t (PX.po (px_isi isTy_tuple rfl (g.free 27) (po_n (pv 0)) rfl (g.free 36))))) (pbw_or (pb_cmp (od_ne hr.u') (PX.po (px_cb cd_len rfl (g.free 28) (by decide +kernel) (pa_c (po_n (pv 0)) pa_0))) (PX.po px_int) (nomark _)) (pbw_or (pb_not (pb_t (PX.po (px_isi isTy_str rfl (g.free 27) (PX.po (px_ix (po_n (pv 0)) (PX.po px_int))) rfl (g.free 34))))) (pbw_or1 (pb_cmp (od_ne hr.u') (PX.po (px_ix (po_n (pv 0)) (PX.po px_int))) (PX.po (px_gstr rfl (g.str 42))) (nomark _))))))) (pst_1 (ps_ret' px_bl)) pst_0)
    (pst_1 (ps_ret' (px_and (px_call (t_are_counts_to g) defM_Len (hr.mono (by decide)) rfl (g.glo 3) (F_are_counts_to g).kp (b_are_counts_to g) (pa_c (PX.po (px_gint rfl (g.int 39))) (pa_c (PX.po (px_ix (po_n (pv 0)) (PX.po px_int))) pa_0))) (px_one (px_chain od_le od_le (PX.po px_int) (PX.po (px_cb cd_len rfl (g.free 28) (by decide +kernel) (pa_c (PX.po (px_ix (po_n (pv 0)) (PX.po px_int))) pa_0))) (PX.po (px_gint rfl (g.int 38)))))))))
end
/-! ### want_order -/
def m_want_order : MD := defM 1 [false] ((sSeq
    (sIf (bNot (bT (oE (mCallD m_is_order_value [false] [] (aCons (oE (mZ 0)) aNil))))) sNo sNx)
    (sRet (mM 0))))
theorem sc_want_order : FnScope ["value"] ["value"] (defScope s_want_order) := ⟨rfl, rfl, rfl, by decide +kernel, rfl, by decide +kernel, by decide +kernel⟩
section
variable {P : Program} {w : World} {K : Fr} {mg : Str → Option Value} {base : Heap}
noncomputable def fd_want_order (g : Gg K mg) : FuncData := Classical.choose (g.c.def_ 7 (d := d_want_order) rfl)
theorem F_want_order (g : Gg K mg) : FunD K "want_order" "want_order" (defArgs s_want_order) (defBody s_want_order) (defScope s_want_order) [] [] (He.ga K "want_order") (fd_want_order g) := Classical.choose_spec (g.c.def_ 7 (d := d_want_order) rfl)
theorem b_want_order (g : Gg K mg) : Binds K (fd_want_order g) ["value"] [] := (F_want_order g).bindsN fun _ _ _ _ _ _ us hl => match us, hl with | [_], _ => rfl
theorem t_want_order (g : Gg K mg) : FnG P w K mg base CX0 5 (He.ga K "want_order") (fd_want_order g) ["value"] (spD K m_want_order) := fn_d (F_want_order g) sc_want_order rfl fun cdv A outer s H E hr =>
    (pst_c
      (ps_if' (pb_not (pb_t (PX.po (px_call (t_is_order_value g) defM_Len (hr.mono (by decide)) rfl (g.glo 5) (F_is_order_value g).kp (b_is_order_value g) (pa_c (PX.po (px_z (pv 0))) pa_0))))) (pst_1 ps_no) pst_0)
    (pst_1 (ps_ret' (px_m (pv 0)))))
end
/-! ### want_monomial -/
def m_want_monomial : MD := defM 2 [false, false] ((sSeq
    (sIf (bNot (bT (oE (mCallD m_is_monomial_of [false, false] [] (aCons (oE (mZ 0)) (aCons (oE (mZ 1)) aNil)))))) sNo sNx)
    (sRet (mM 1))))
theorem sc_want_monomial : FnScope ["many", "value"] ["many", "value"] (defScope s_want_monomial) := ⟨rfl, rfl, rfl, by decide +kernel, rfl, by decide +kernel, by decide +kernel⟩
section
variable {P : Program} {w : World} {K : Fr} {mg : Str → Option Value} {base : Heap}
noncomputable def fd_want_monomial (g : Gg K mg) : FuncData := Classical.choose (g.c.def_ 8 (d := d_want_monomial) rfl)
theorem F_want_monomial (g : Gg K mg) : FunD K "want_monomial" "want_monomial" (defArgs s_want_monomial) (defBody s_want_monomial) (defScope s_want_monomial) [] [] (He.ga K "want_monomial") (fd_want_monomial g) := Classical.choose_spec (g.c.def_ 8 (d := d_want_monomial) rfl)
theorem b_want_monomial (g : Gg K mg) : Binds K (fd_want_monomial g) ["many", "value"] [] := (F_want_monomial g).bindsN fun _ _ _ _ _ _ us hl => match us, hl with | [_, _], _ => rfl
theorem t_want_monomial (g : Gg K mg) : FnG P w K mg base CX0 5 (He.ga K "want_monomial") (fd_want_monomial g) ["many", "value"] (spD K m_want_monomial) := fn_d (F_want_monomial g) sc_want_monomial rfl fun cdv A outer s H E hr =>
    (pst_c
      (ps_if' (pb_not (pb_t (PX.po (px_call (t_is_monomial_of g) defM_Len (hr.mono (by decide)) rfl (g.glo 4) (F_is_monomial_of g).kp (b_is_monomial_of g) (pa_c (PX.po (px_z (pv 0))) (pa_c (PX.po (px_z (pv 1))) pa_0)))))) (pst_1 ps_no) pst_0)
    (pst_1 (ps_ret' (px_m (pv 1)))))
end
/-! ### order_key -/
def l_order_key_1 : ME := mLC (iV (mF (mRev (oN 1)))) (gN 4) bYes (mUn gNeg (oN 4)) [4]
def l_order_key_2 : ME := mLC (iZ zip2D (aCons (oE (mZ 0)) (aCons (oE (mZ 1)) aNil))) (gT 2 (gsC (gN 3) (gsC (gN 4) gs0))) bYes (mF (mBin gMul (oN 3) (oN 4))) [3, 4]
def m_order_key : MD := defM 5 [false, false] ((sSeq
    (sSet 2 (mCB gSum (aCons (oE l_order_key_2) aNil)))
    (sRet (mTup (aCons (oE (mZ 2)) (aCons (oE (mCB gSum (aCons (oN 1) aNil))) (aCons (oE (mCB gTup (aCons (oE l_order_key_1) aNil))) aNil)))))))
theorem sc_order_key : FnScope ["weights", "monomial", "weighed", "weight", "count"] ["weights", "monomial"] (defScope s_order_key) := ⟨rfl, rfl, rfl, by decide +kernel, rfl, by decide +kernel, by decide +kernel⟩
section
variable {P : Program} {w : World} {K : Fr} {mg : Str → Option Value} {base : Heap}
noncomputable def fd_order_key (g : Gg K mg) : FuncData := Classical.choose (g.c.def_ 9 (d := d_order_key) rfl)
theorem F_order_key (g : Gg K mg) : FunD K "order_key" "order_key" (defArgs s_order_key) (defBody s_order_key) (defScope s_order_key) [] [] (He.ga K "order_key") (fd_order_key g) := Classical.choose_spec (g.c.def_ 9 (d := d_order_key) rfl)
theorem b_order_key (g : Gg K mg) : Binds K (fd_order_key g) ["weights", "monomial"] [] := (F_order_key g).bindsN fun _ _ _ _ _ _ us hl => match us, hl with | [_, _], _ => rfl
theorem t_order_key (g : Gg K mg) : FnG P w K mg base CX0 1 (He.ga K "order_key") (fd_order_key g) ["weights", "monomial"] (spD K m_order_key) := fn_d (F_order_key g) sc_order_key rfl fun cdv A outer s H E hr =>
    (pst_c
      (st_set 2 sc_order_key.nd (px_cb (cd_sum rfl) rfl (g.free 35) (by decide +kernel) (pa_c (PX.po (px_lc' [("weight", 3), ("count", 4)] sc_order_key.nd (pit_zip2 rfl (g.free 37) (pa_c (PX.po (px_z (pv 0))) (pa_c (PX.po (px_z (pv 1))) pa_0))) (blkOk_by (by rfl)) (fun n s H C cl fp => (ptg_t (n := 2) rfl (ptgs_c (tg_n 3 sc_order_key.nd (oth (by rfl))) (ptgs_c (tg_n 4 sc_order_key.nd (oth (by rfl))) ptgs_0)))) (fun s H C cl fp => pts_0) (fun s H C cl fp => (px_f (px_op od_mul (po_n (pv 3)) (po_n (pv 4))))))) pa_0)))
    (pst_1 (ps_ret' (px_tup (pa_c (PX.po (px_z (pv 2))) (pa_c (PX.po (px_cb (cd_sum rfl) rfl (g.free 35) (by decide +kernel) (pa_c (po_n (pv 1)) pa_0))) (pa_c (PX.po (px_ct cd_tup rfl (g.free 36) (by decide +kernel) (pa_c (PX.po (px_lc' [("count", 4)] sc_order_key.nd (pit_v (px_f (px_rev (po_n (pv 1))))) (blkOk_by (by rfl)) (fun n s H C cl fp => (tg_n 4 sc_order_key.nd (oth (by rfl)))) (fun s H C cl fp => pts_0) (fun s H C cl fp => (px_un ud_neg (po_n (pv 4)))))) pa_0))) pa_0)))))))
end
/-! ### is_greater -/
def m_is_greater : MD := defM 3 [false, false, false] ((sRet (mBin gGt (oE (mCallD m_order_key [false, false] [] (aCons (oE (mZ 0)) (aCons (oE (mZ 1)) aNil)))) (oE (mCallD m_order_key [false, false] [] (aCons (oE (mZ 0)) (aCons (oE (mZ 2)) aNil)))))))
theorem sc_is_greater : FnScope ["weights", "one", "other"] ["weights", "one", "other"] (defScope s_is_greater) := ⟨rfl, rfl, rfl, by decide +kernel, rfl, by decide +kernel, by decide +kernel⟩
section
variable {P : Program} {w : World} {K : Fr} {mg : Str → Option Value} {base : Heap}
noncomputable def fd_is_greater (g : Gg K mg) : FuncData := Classical.choose (g.c.def_ 10 (d := d_is_greater) rfl)
theorem F_is_greater (g : Gg K mg) : FunD K "is_greater" "is_greater" (defArgs s_is_greater) (defBody s_is_greater) (defScope s_is_greater) [] [] (He.ga K "is_greater") (fd_is_greater g) := Classical.choose_spec (g.c.def_ 10 (d := d_is_greater) rfl)
theorem b_is_greater (g : Gg K mg) : Binds K (fd_is_greater g) ["weights", "one", "other"] [] := (F_is_greater g).bindsN fun _ _ _ _ _ _ us hl => match us, hl with | [_, _, _], _ => rfl
theorem t_is_greater (g : Gg K mg) : FnG P w K mg base CX0 2 (He.ga K "is_greater") (fd_is_greater g) ["weights", "one", "other"] (spD K m_is_greater) := fn_d (F_is_greater g) sc_is_greater rfl fun cdv A outer s H E hr =>
    (pst_1 (ps_ret' (px_cmp (od_gt hr.u) (PX.po (px_call (t_order_key g) defM_Len (hr.mono (by decide)) rfl (g.glo 8) (F_order_key g).kp (b_order_key g) (pa_c (PX.po (px_z (pv 0))) (pa_c (PX.po (px_z (pv 1))) pa_0)))) (PX.po (px_call (t_order_key g) defM_Len (hr.mono (by decide)) rfl (g.glo 8) (F_order_key g).kp (b_order_key g) (pa_c (PX.po (px_z (pv 0))) (pa_c (PX.po (px_z (pv 2))) pa_0)))) (nomark _))))
end
/-! ### greater -/
def k_greater_1 : MS := (sSet 3 (mBin gIx (oE (mCallD m_want_order [false] [] (aCons (oE (mZ 0)) aNil))) (oE (mC (.int 1)))))
def k_greater_2 : MS := (sDrop (mCallD m_want_monomial [false, false] [] (aCons (oE (mCB gLen (aCons (oN 3) aNil))) (aCons (oE (mZ 1)) aNil))))
def k_greater_3 : MS := (sDrop (mCallD m_want_monomial [false, false] [] (aCons (oE (mCB gLen (aCons (oN 3) aNil))) (aCons (oE (mZ 2)) aNil))))
def k_greater_4 : MS := (sIf (bV (mBin gEq (oN 1) (oN 2))) (sRet (mC (.int 0))) sNx)
def k_greater_5 : MS := (sRet (mIf (bT (oE (mCallD m_is_greater [false, false, false] [] (aCons (oE (mZ 3)) (aCons (oE (mZ 1)) (aCons (oE (mZ 2)) aNil)))))) (mC (.int 1)) (mUn gNeg (oE (mC (.int 1))))))
def m_greater : MD := defM 4 [false, false, false] ((sSeq k_greater_1 (sSeq k_greater_2 (sSeq k_greater_3 (sSeq k_greater_4 k_greater_5)))))
theorem sc_greater : FnScope ["order", "one", "other", "weights"] ["order", "one", "other"] (defScope s_greater) := ⟨rfl, rfl, rfl, by decide +kernel, rfl, by decide +kernel, by decide +kernel⟩
section
variable {P : Program} {w : World} {K : Fr} {mg : Str → Option Value} {base : Heap}
noncomputable def fd_greater (g : Gg K mg) : FuncData := Classical.choose (g.c.def_ 11 (d := d_greater) rfl)
theorem F_greater (g : Gg K mg) : FunD K "greater" "greater" (defArgs s_greater) (defBody s_greater) (defScope s_greater) [] [] (He.ga K "greater") (fd_greater g) := Classical.choose_spec (g.c.def_ 11 (d := d_greater) rfl)
theorem b_greater (g : Gg K mg) : Binds K (fd_greater g) ["order", "one", "other"] [] := (F_greater g).bindsN fun _ _ _ _ _ _ us hl => match us, hl with | [_, _, _], _ => rfl
theorem kb_greater_0 {K : Fr} {mg : Str → Option Value} (g : Gg K mg) : KBinds K (fd_greater g) ["order", "one", "other"] ["other", "one", "order"] (gk 0 3 [2, 1, 0]) (gk 0 3 [2, 1, 0]) := kb_of (F_greater g) 0 3 [2, 1, 0] (by decide) fun _ _ _ _ _ _ us ws h1 h2 => match us, ws, h1, h2 with | [], [_, _, _], _, _ => rfl
theorem t_greater (g : Gg K mg) : FnG P w K mg base CX0 6 (He.ga K "greater") (fd_greater g) ["order", "one", "other"] (spD K m_greater) := fn_d (F_greater g) sc_greater rfl fun cdv A outer s H E hr =>
    (pst_c
      (st_set 3 sc_greater.nd (px_ix (PX.po (px_call (t_want_order g) defM_Len (hr.mono (by decide)) rfl (g.glo 6) (F_want_order g).kp (b_want_order g) (pa_c (PX.po (px_z (pv 0))) pa_0))) (PX.po px_int)))
    (pst_c
      (ps_ex (px_call (t_want_monomial g) defM_Len (hr.mono (by decide)) rfl (g.glo 7) (F_want_monomial g).kp (b_want_monomial g) (pa_c (PX.po (px_cb cd_len rfl (g.free 28) (by decide +kernel) (pa_c (po_n (pv 3)) pa_0))) (pa_c (PX.po (px_z (pv 1))) pa_0))))
    (pst_c
      (ps_ex (px_call (t_want_monomial g) defM_Len (hr.mono (by decide)) rfl (g.glo 7) (F_want_monomial g).kp (b_want_monomial g) (pa_c (PX.po (px_cb cd_len rfl (g.free 28) (by decide +kernel) (pa_c (po_n (pv 3)) pa_0))) (pa_c (PX.po (px_z (pv 2))) pa_0))))
    (pst_c
      (ps_if' (pb_cmp (od_eq hr.u') (po_n (pv 1)) (po_n (pv 2)) (nomark _)) (pst_1 (ps_ret' px_int)) pst_0)
    (pst_1 (ps_ret' (px_if (pb_t (PX.po (px_call (t_is_greater g) defM_Len (hr.mono (by decide)) rfl (g.glo 9) (F_is_greater g).kp (b_is_greater g) (pa_c (PX.po (px_z (pv 3))) (pa_c (PX.po (px_z (pv 1))) (pa_c (PX.po (px_z (pv 2))) pa_0)))))) px_int (px_un ud_neg (PX.po px_int)))))))))
end
/-! ### sorted_by -/
def k_sorted_by_1 : MS := (sSet 2 (mBin gIx (oE (mCallD m_want_order [false] [] (aCons (oE (mZ 0)) aNil))) (oE (mC (.int 1)))))
def k_sorted_by_2 : MS := (sIf (bOr (bNot (bT (oE (mCallD m_is_list [false] [] (aCons (oE (mZ 1)) aNil))))) (bV (mBin gGt (oE (mCB gLen (aCons (oN 1) aNil))) (oE (mC (.int 400)))))) sNo sNx)
def k_sorted_by_3 : MS := (sSet 3 mD0)
def l_sorted_by_1 : MS := sFor (iV (mZ 1)) (gN 4) (sSeq
    (sDrop (mCallD m_want_monomial [false, false] [] (aCons (oE (mCB gLen (aCons (oN 2) aNil))) (aCons (oE (mZ 4)) aNil))))
    (sAsg (mZ 4) (gSD 3 (oE (mCallD m_order_key [false, false] [] (aCons (oE (mZ 2)) (aCons (oE (mZ 4)) aNil)))))))
def l_sorted_by_2 : ME := mLC (iV (mF (mCB gSorted (aCons (oE (mCD gLst gDLst (oN 3))) aNil)))) (gN 5) bYes (mDL gIx gDIx (oN 3) (oN 5)) [5]
def k_sorted_by_5 : MS := (sRet l_sorted_by_2)
def m_sorted_by : MD := defM 6 [false, false] ((sSeq k_sorted_by_1 (sSeq k_sorted_by_2 (sSeq k_sorted_by_3 (sSeq l_sorted_by_1 k_sorted_by_5)))))
theorem sc_sorted_by : FnScope ["order", "monomials", "weights", "keys", "one", "key"] ["order", "monomials"] (defScope s_sorted_by) := ⟨rfl, rfl, rfl, by decide +kernel, rfl, by decide +kernel, by decide +kernel⟩
section
variable {P : Program} {w : World} {K : Fr} {mg : Str → Option Value} {base : Heap}
noncomputable def fd_sorted_by (g : Gg K mg) : FuncData := Classical.choose (g.c.def_ 12 (d := d_sorted_by) rfl)
theorem F_sorted_by (g : Gg K mg) : FunD K "sorted_by" "sorted_by" (defArgs s_sorted_by) (defBody s_sorted_by) (defScope s_sorted_by) [] [] (He.ga K "sorted_by") (fd_sorted_by g) := Classical.choose_spec (g.c.def_ 12 (d := d_sorted_by) rfl)
theorem b_sorted_by (g : Gg K mg) : Binds K (fd_sorted_by g) ["order", "monomials"] [] := (F_sorted_by g).bindsN fun _ _ _ _ _ _ us hl => match us, hl with | [_, _], _ => rfl
theorem kb_sorted_by_0 {K : Fr} {mg : Str → Option Value} (g : Gg K mg) : KBinds K (fd_sorted_by g) ["order", "monomials"] ["monomials", "order"] (gk 0 2 [1, 0]) (gk 0 2 [1, 0]) := kb_of (F_sorted_by g) 0 2 [1, 0] (by decide) fun _ _ _ _ _ _ us ws h1 h2 => match us, ws, h1, h2 with | [], [_, _], _, _ => rfl
theorem t_sorted_by (g : Gg K mg) : FnG P w K mg base CX0 6 (He.ga K "sorted_by") (fd_sorted_by g) ["order", "monomials"] (spD K m_sorted_by) := fn_d (F_sorted_by g) sc_sorted_by rfl fun cdv A outer s H E hr =>
    (pst_c
      (st_set 2 sc_sorted_by.nd (px_ix (PX.po (px_call (t_want_order g) defM_Len (hr.mono (by decide)) rfl (g.glo 6) (F_want_order g).kp (b_want_order g) (pa_c (PX.po (px_z (pv 0))) pa_0))) (PX.po px_int)))
    (pst_c
      (ps_if' (PBw.pb (pbw_or (pb_not (pb_t (PX.po (px_call (t_is_list g) defM_Len (hr.mono (by decide)) rfl (g.glo 2) (F_is_list g).kp (b_is_list g) (pa_c (PX.po (px_z (pv 1))) pa_0))))) (pbw_or1 (pb_cmp (od_gt hr.u) (PX.po (px_cb cd_len rfl (g.free 28) (by decide +kernel) (pa_c (po_n (pv 1)) pa_0))) (PX.po (px_gint rfl (g.int 41))) (nomark _))))) (pst_1 ps_no) pst_0)
    (pst_c
      (st_set 3 sc_sorted_by.nd px_d0)
    (pst_c
      (ps_for' PassesOwn.never rfl (pit_v (px_z (pv 1))) (tg_n 4 sc_sorted_by.nd) (pst_c
      (ps_ex (px_call (t_want_monomial g) defM_Len (hr.mono (by decide)) rfl (g.glo 7) (F_want_monomial g).kp (b_want_monomial g) (pa_c (PX.po (px_cb cd_len rfl (g.free 28) (by decide +kernel) (pa_c (po_n (pv 2)) pa_0))) (pa_c (PX.po (px_z (pv 4))) pa_0))))
    (pst_1 (ps_asgT (px_z (pv 4)) (pth_sd hr.u (pv 3) (PX.po (px_call (t_order_key g) defM_Len (hr.mono (by decide)) rfl (g.glo 8) (F_order_key g).kp (b_order_key g) (pa_c (PX.po (px_z (pv 2))) (pa_c (PX.po (px_z (pv 4))) pa_0)))))))))
    (pst_1 (ps_ret' (px_lc' [("key", 5)] sc_sorted_by.nd (pit_v (px_f (px_cb (cd_sorted hr.u) rfl (g.free 33) (by decide +kernel) (pa_c (PX.po (px_dlst rfl rfl (g.free 29) (by decide +kernel) (po_n (pv 3)))) pa_0)))) (blkOk_by (by rfl)) (fun n s H C cl fp => (tg_n 5 sc_sorted_by.nd (oth (by rfl)))) (fun s H C cl fp => pts_0) (fun s H C cl fp => (px_dix hr.u (po_n (pv 3)) (po_n (pv 5)))))))))))
end
/-! ### _law_pot -/
def m_L_pot : MD := defM 3 [false, false] ((sSeq
    (sSet 2 (mIf (bV (mBin gLt (oN 1) (oE (mCB gLen (aCons (oN 0) aNil))))) (mCB gAbs (aCons (oE (mBin gIx (oN 0) (oN 1))) aNil)) (mBin gAdd (oE (mBin gMul (oE (mC (.int 1291))) (oN 1))) (oE (mC (.int 1117))))))
    (sRet (mLst (aCons (oE (mCB gMax2 (aCons (oE (mC (.int 0))) (aCons (oE (mBin gSub (oN 2) (oE (mBin gPow (oE (mC (.int 10))) (oE (mC (.int 18))))))) aNil)))) (aCons (oE (mBin gAdd (oE (mBin gMod (oE (mCB gInt (aCons (oE (mBin gAdd (oE (mBin gAdd (oE (mBin gMul (oE (mBin gMod (oE (mCB gInt (aCons (oN 2) aNil))) (oE (mC (.int 2147483549))))) (oE (mC (.int 48271))))) (oE (mBin gMul (oE (mC (.int 28044))) (oN 1))))) (oE (mC (.int 1033))))) aNil))) (oE (mC (.int 2147483563))))) (oE (mC (.int 1))))) aNil))))))
theorem sc_L_pot : FnScope ["_law_script", "_law_k", "_law_cell"] ["_law_script", "_law_k"] (defScope s_L_pot) := ⟨rfl, rfl, rfl, by decide +kernel, rfl, by decide +kernel, by decide +kernel⟩
section
variable {P : Program} {w : World} {K : Fr} {mg : Str → Option Value} {base : Heap}
noncomputable def fd_L_pot (g : Gg K mg) : FuncData := Classical.choose (g.c.def_ 13 (d := d_L_pot) rfl)
theorem F_L_pot (g : Gg K mg) : FunD K "_law_pot" "_law_pot" (defArgs s_L_pot) (defBody s_L_pot) (defScope s_L_pot) [] [] (He.ga K "_law_pot") (fd_L_pot g) := Classical.choose_spec (g.c.def_ 13 (d := d_L_pot) rfl)
theorem b_L_pot (g : Gg K mg) : Binds K (fd_L_pot g) ["_law_script", "_law_k"] [] := (F_L_pot g).bindsN fun _ _ _ _ _ _ us hl => match us, hl with | [_, _], _ => rfl
theorem t_L_pot (g : Gg K mg) : FnG P w K mg base CX0 1 (He.ga K "_law_pot") (fd_L_pot g) ["_law_script", "_law_k"] (spD K m_L_pot) := fn_d (F_L_pot g) sc_L_pot rfl fun cdv A outer s H E hr =>
    (pst_c
      (st_set 2 sc_L_pot.nd (px_if (pb_cmp (od_lt hr.u) (po_n (pv 1)) (PX.po (px_cb cd_len rfl (g.free 28) (by decide +kernel) (pa_c (po_n (pv 0)) pa_0))) (nomark _)) (px_cb cd_abs rfl (g.free 22) (by decide +kernel) (pa_c (PX.po (px_ix (po_n (pv 0)) (po_n (pv 1)))) pa_0)) (px_op od_add (PX.po (px_op od_mul (PX.po px_int) (po_n (pv 1)))) (PX.po px_int))))
    (pst_1 (ps_ret' (px_lst (pa_c (PX.po (px_cb (cd_max2 rfl) rfl (g.free 30) (by decide +kernel) (pa_c (PX.po px_int) (pa_c (PX.po (px_op od_sub (po_n (pv 2)) (PX.po (px_op od_pow (PX.po px_int) (PX.po px_int))))) pa_0)))) (pa_c (PX.po (px_op od_add (PX.po (px_op od_mod (PX.po (px_ct cd_int rfl (g.free 26) (by decide +kernel) (pa_c (PX.po (px_op od_add (PX.po (px_op od_add (PX.po (px_op od_mul (PX.po (px_op od_mod (PX.po (px_ct cd_int rfl (g.free 26) (by decide +kernel) (pa_c (po_n (pv 2)) pa_0))) (PX.po px_int))) (PX.po px_int))) (PX.po (px_op od_mul (PX.po px_int) (po_n (pv 1)))))) (PX.po px_int))) pa_0))) (PX.po px_int))) (PX.po px_int))) pa_0))))))
end
/-! ### _law_draw -/
def m_L_draw : MD := defM 3 [true, false] ((sSeq
    (sIf (bV (mBin gGt (oE (mBin gIx (oN 0) (oE (mC (.int 0))))) (oE (mC (.int 0))))) (sSeq
    (sAsg (mCB gDivmod (aCons (oE (mBin gIx (oN 0) (oE (mC (.int 0))))) (aCons (oN 1) aNil))) (gT 2 (gsC (gS 0 (oE (mC (.int 0)))) (gsC (gN 2) gs0))))
    (sRet (mM 2))) sNx)
    (sSeq
    (sAsg (mBin gMod (oE (mCB gInt (aCons (oE (mBin gAdd (oE (mBin gMul (oE (mBin gIx (oN 0) (oE (mC (.int 1))))) (oE (mC (.int 39373))))) (oE (mC (.int 1033))))) aNil))) (oE (mC (.int 2147483587)))) (gS 0 (oE (mC (.int 1)))))
    (sRet (mBin gMod (oE (mCB gInt (aCons (oE (mBin gFdiv (oE (mBin gMod (oE (mCB gInt (aCons (oE (mBin gMul (oE (mBin gIx (oN 0) (oE (mC (.int 1))))) (oE (mBin gIx (oN 0) (oE (mC (.int 1))))))) aNil))) (oE (mC (.int 2147483563))))) (oE (mC (.int 17))))) aNil))) (oN 1))))))
theorem sc_L_draw : FnScope ["_law_pot_here", "_law_many", "_law_digit"] ["_law_pot_here", "_law_many"] (defScope s_L_draw) := ⟨rfl, rfl, rfl, by decide +kernel, rfl, by decide +kernel, by decide +kernel⟩
section
variable {P : Program} {w : World} {K : Fr} {mg : Str → Option Value} {base : Heap}
noncomputable def fd_L_draw (g : Gg K mg) : FuncData := Classical.choose (g.c.def_ 14 (d := d_L_draw) rfl)
theorem F_L_draw (g : Gg K mg) : FunD K "_law_draw" "_law_draw" (defArgs s_L_draw) (defBody s_L_draw) (defScope s_L_draw) [] [] (He.ga K "_law_draw") (fd_L_draw g) := Classical.choose_spec (g.c.def_ 14 (d := d_L_draw) rfl)
theorem b_L_draw (g : Gg K mg) : Binds K (fd_L_draw g) ["_law_pot_here", "_law_many"] [] := (F_L_draw g).bindsN fun _ _ _ _ _ _ us hl => match us, hl with | [_, _], _ => rfl
theorem t_L_draw (g : Gg K mg) : FnG P w K mg base CX0 1 (He.ga K "_law_draw") (fd_L_draw g) ["_law_pot_here", "_law_many"] (spD K m_L_draw) := fn_d (F_L_draw g) sc_L_draw rfl fun cdv A outer s H E hr =>
    (pst_c
      (ps_if' (pb_cmp (od_gt hr.u) (PX.po (px_ix (po_n (pv 0)) (PX.po px_int))) (PX.po px_int) (nomark _)) (pst_c
      (ps_asgT (px_cb cd_divmod rfl (g.free 25) (by decide +kernel) (pa_c (PX.po (px_ix (po_n (pv 0)) (PX.po px_int))) (pa_c (po_n (pv 1)) pa_0))) (pth_t (n := 2) rfl (pths_c (pth_s (pv 0) (PX.po px_int)) (pths_c (th_n 2 sc_L_draw.nd) pths_0))))
    (pst_1 (ps_ret' (px_m (pv 2))))) pst_0)
    (pst_c
      (ps_asgT (px_op od_mod (PX.po (px_ct cd_int rfl (g.free 26) (by decide +kernel) (pa_c (PX.po (px_op od_add (PX.po (px_op od_mul (PX.po (px_ix (po_n (pv 0)) (PX.po px_int))) (PX.po px_int))) (PX.po px_int))) pa_0))) (PX.po px_int)) (pth_s (pv 0) (PX.po px_int)))
    (pst_1 (ps_ret' (px_op od_mod (PX.po (px_ct cd_int rfl (g.free 26) (by decide +kernel) (pa_c (PX.po (px_op od_fdiv (PX.po (px_op od_mod (PX.po (px_ct cd_int rfl (g.free 26) (by decide +kernel) (pa_c (PX.po (px_op od_mul (PX.po (px_ix (po_n (pv 0)) (PX.po px_int))) (PX.po (px_ix (po_n (pv 0)) (PX.po px_int))))) pa_0))) (PX.po px_int))) (PX.po px_int))) pa_0))) (po_n (pv 1)))))))
end
/-! ### _law_weights -/
def l_L_weights_1 : ME := mLC (iR rangeD1 (aCons (oN 1) aNil)) (gN 3) bYes (mF (mCallD m_L_draw [true, false] [] (aCons (oN 0) (aCons (oE (mIf (bV (mBin gLt (oN 2) (oE (mC (.int 3))))) (mC (.int 3)) (mC (.int 100)))) aNil)))) [3]
def m_L_weights : MD := defM 4 [true, false] ((sSeq
    (sSet 2 (mCallD m_L_draw [true, false] [] (aCons (oN 0) (aCons (oE (mC (.int 4))) aNil))))
    (sSeq
    (sIf (bV (mBin gEq (oN 2) (oE (mC (.int 0))))) (sRet (mBin gMul (oE (mTup (aCons (oE (mC (.int 0))) aNil))) (oN 1))) sNx)
    (sRet (mCB gTup (aCons (oE l_L_weights_1) aNil))))))
theorem sc_L_weights : FnScope ["_law_pot_here", "_law_many", "_law_way", "_law_letter"] ["_law_pot_here", "_law_many"] (defScope s_L_weights) := ⟨rfl, rfl, rfl, by decide +kernel, rfl, by decide +kernel, by decide +kernel⟩
section
variable {P : Program} {w : World} {K : Fr} {mg : Str → Option Value} {base : Heap}
noncomputable def fd_L_weights (g : Gg K mg) : FuncData := Classical.choose (g.c.def_ 15 (d := d_L_weights) rfl)
theorem F_L_weights (g : Gg K mg) : FunD K "_law_weights" "_law_weights" (defArgs s_L_weights) (defBody s_L_weights) (defScope s_L_weights) [] [] (He.ga K "_law_weights") (fd_L_weights g) := Classical.choose_spec (g.c.def_ 15 (d := d_L_weights) rfl)
theorem b_L_weights (g : Gg K mg) : Binds K (fd_L_weights g) ["_law_pot_here", "_law_many"] [] := (F_L_weights g).bindsN fun _ _ _ _ _ _ us hl => match us, hl with | [_, _], _ => rfl
theorem t_L_weights (g : Gg K mg) : FnG P w K mg base CX0 2 (He.ga K "_law_weights") (fd_L_weights g) ["_law_pot_here", "_law_many"] (spD K m_L_weights) := fn_d (F_L_weights g) sc_L_weights rfl fun cdv A outer s H E hr =>
    (pst_c
      (st_set 2 sc_L_weights.nd (px_call (t_L_draw g) defM_Len (hr.mono (by decide)) rfl (g.glo 13) (F_L_draw g).kp (b_L_draw g) (pa_c (po_n (pv 0)) (pa_c (PX.po px_int) pa_0))))
    (pst_c
      (ps_if' (pb_cmp (od_eq hr.u') (po_n (pv 2)) (PX.po px_int) (nomark _)) (pst_1 (ps_ret' (px_op od_mul (PX.po (px_tup (pa_c (PX.po px_int) pa_0))) (po_n (pv 1))))) pst_0)
    (pst_1 (ps_ret' (px_ct cd_tup rfl (g.free 36) (by decide +kernel) (pa_c (PX.po (px_lc' [("_law_letter", 3)] sc_L_weights.nd (pit_r1 rfl (g.free 31) (pa_c (po_n (pv 1)) pa_0)) (blkOk_by (by rfl)) (fun n s H C cl fp => (tg_n 3 sc_L_weights.nd (oth (by rfl)))) (fun s H C cl fp => pts_0) (fun s H C cl fp => (px_f (px_call (t_L_draw g) defM_Len (hr.mono (by decide)) rfl (g.glo 13) (F_L_draw g).kp (b_L_draw g) (pa_c (po_n (pv 0)) (pa_c (PX.po (px_if (pb_cmp (od_lt hr.u) (po_n (pv 2)) (PX.po px_int) (nomark _)) px_int px_int)) pa_0))))))) pa_0))))))
end
/-! ### _law_compared -/
def l_L_compared_1 : ME := mLC (iZ zip3D (aCons (oE (mZ 0)) (aCons (oE (mZ 1)) (aCons (oE (mZ 2)) aNil)))) (gT 3 (gsC (gN 5) (gsC (gN 6) (gsC (gN 7) gs0)))) bYes (mF (mBin gMul (oN 5) (oE (mBin gSub (oN 6) (oN 7))))) [5, 6, 7]
def k_L_compared_1 : MS := (sSet 3 (mCB gSum (aCons (oE l_L_compared_1) aNil)))
def k_L_compared_2 : MS := (sIf (bV (mBin gEq (oN 3) (oE (mC (.int 0))))) (sSet 3 (mBin gSub (oE (mCB gSum (aCons (oN 1) aNil))) (oE (mCB gSum (aCons (oN 2) aNil))))) sNx)
def l_L_compared_2 : ME := mLC (iZ zip2D (aCons (oE (mZ 1)) (aCons (oE (mZ 2)) aNil))) (gT 2 (gsC (gN 6) (gsC (gN 7) gs0))) (bV (mBin gNe (oN 6) (oN 7))) (mBin gSub (oN 7) (oN 6)) [6, 7]
def k_L_compared_3 : MS := (sSet 4 l_L_compared_2)
def k_L_compared_4 : MS := (sIf (bAnd (bV (mBin gEq (oN 3) (oE (mC (.int 0))))) (bV (mBin gNe (oN 4) (oE (mLst aNil))))) (sSet 3 (mBin gIx (oN 4) (oE (mUn gNeg (oE (mC (.int 1))))))) sNx)
def k_L_compared_5 : MS := (sRet (mBin gSub (oE (mBin gGt (oN 3) (oE (mC (.int 0))))) (oE (mBin gLt (oN 3) (oE (mC (.int 0)))))))
def m_L_compared : MD := defM 8 [false, false, false] ((sSeq k_L_compared_1 (sSeq k_L_compared_2 (sSeq k_L_compared_3 (sSeq k_L_compared_4 k_L_compared_5)))))
theorem sc_L_compared : FnScope ["_law_weights_here", "_law_one", "_law_other", "_law_more", "_law_unlike", "_law_weight", "_law_near", "_law_far"] ["_law_weights_here", "_law_one", "_law_other"] (defScope s_L_compared) := ⟨rfl, rfl, rfl, by decide +kernel, rfl, by decide +kernel, by decide +kernel⟩
section
variable {P : Program} {w : World} {K : Fr} {mg : Str → Option Value} {base : Heap}
noncomputable def fd_L_compared (g : Gg K mg) : FuncData := Classical.choose (g.c.def_ 16 (d := d_L_compared) rfl)
theorem F_L_compared (g : Gg K mg) : FunD K "_law_compared" "_law_compared" (defArgs s_L_compared) (defBody s_L_compared) (defScope s_L_compared) [] [] (He.ga K "_law_compared") (fd_L_compared g) := Classical.choose_spec (g.c.def_ 16 (d := d_L_compared) rfl)
theorem b_L_compared (g : Gg K mg) : Binds K (fd_L_compared g) ["_law_weights_here", "_law_one", "_law_other"] [] := (F_L_compared g).bindsN fun _ _ _ _ _ _ us hl => match us, hl with | [_, _, _], _ => rfl
theorem t_L_compared (g : Gg K mg) : FnG P w K mg base CX0 1 (He.ga K "_law_compared") (fd_L_compared g) ["_law_weights_here", "_law_one", "_law_other"] (spD K m_L_compared) := fn_d (F_L_compared g) sc_L_compared rfl fun cdv A outer s H E hr =>
    (pst_c
      (st_set 3 sc_L_compared.nd (px_cb (cd_sum rfl) rfl (g.free 35) (by decide +kernel) (pa_c (PX.po (px_lc' [("_law_weight", 5), ("_law_near", 6), ("_law_far", 7)] sc_L_compared.nd (pit_zip3 rfl (g.free 37) (pa_c (PX.po (px_z (pv 0))) (pa_c (PX.po (px_z (pv 1))) (pa_c (PX.po (px_z (pv 2))) pa_0)))) (blkOk_by (by rfl)) (fun n s H C cl fp => (ptg_t (n := 3) rfl (ptgs_c (tg_n 5 sc_L_compared.nd (oth (by rfl))) (ptgs_c (tg_n 6 sc_L_compared.nd (oth (by rfl))) (ptgs_c (tg_n 7 sc_L_compared.nd (oth (by rfl))) ptgs_0))))) (fun s H C cl fp => pts_0) (fun s H C cl fp => (px_f (px_op od_mul (po_n (pv 5)) (PX.po (px_op od_sub (po_n (pv 6)) (po_n (pv 7))))))))) pa_0)))
    (pst_c
      (ps_if' (pb_cmp (od_eq hr.u') (po_n (pv 3)) (PX.po px_int) (nomark _)) (pst_1 (st_set 3 sc_L_compared.nd (px_op od_sub (PX.po (px_cb (cd_sum rfl) rfl (g.free 35) (by decide +kernel) (pa_c (po_n (pv 1)) pa_0))) (PX.po (px_cb (cd_sum rfl) rfl (g.free 35) (by decide +kernel) (pa_c (po_n (pv 2)) pa_0)))))) pst_0)
    (pst_c
      (st_lc [("_law_near", 6), ("_law_far", 7)] 4 sc_L_compared.nd (pit_zip2 rfl (g.free 37) (pa_c (PX.po (px_z (pv 1))) (pa_c (PX.po (px_z (pv 2))) pa_0))) (blkOk_by (by rfl)) (fun n s H C cl fp => (ptg_t (n := 2) rfl (ptgs_c (tg_n 6 sc_L_compared.nd (oth (by rfl))) (ptgs_c (tg_n 7 sc_L_compared.nd (oth (by rfl))) ptgs_0)))) (fun s H C cl fp => (pts_1 (pb_cmp (od_ne hr.u') (po_n (pv 6)) (po_n (pv 7)) (nomark _)))) (fun s H C cl fp => (px_op od_sub (po_n (pv 7)) (po_n (pv 6)))))
    (pst_c
      (ps_if' (PBw.pb (pbw_and (pb_cmp (od_eq hr.u') (po_n (pv 3)) (PX.po px_int) (nomark _)) (pbw_and1 (pb_cmp (od_ne hr.u') (po_n (pv 4)) (PX.po (px_lst pa_0)) (nomark _))))) (pst_1 (st_set 3 sc_L_compared.nd (px_ix (po_n (pv 4)) (PX.po (px_un ud_neg (PX.po px_int)))))) pst_0)
    (pst_1 (ps_ret' (px_op od_sub (PX.po (px_cmp (od_gt hr.u) (po_n (pv 3)) (PX.po px_int) (nomark _))) (PX.po (px_cmp (od_lt hr.u) (po_n (pv 3)) (PX.po px_int) (nomark _))))))))))
end
/-! ### _law_monomial -/
def l_L_monomial_1 : ME := mLC (iR rangeD1 (aCons (oN 1) aNil)) (gN 3) bYes (mF (mCallD m_L_draw [true, false] [] (aCons (oN 0) (aCons (oE (mIf (bV (mBin gLt (oN 2) (oE (mC (.int 5))))) (mC (.int 4)) (mC (.int 2)))) aNil)))) [3]
def l_L_monomial_2 : ME := mLC (iR rangeD1 (aCons (oN 1) aNil)) (gN 3) bYes (mF (mCallD m_L_draw [true, false] [] (aCons (oN 0) (aCons (oE (mC (.int 20001))) aNil)))) [3]
def m_L_monomial : MD := defM 4 [true, false] ((sSeq
    (sSet 2 (mCallD m_L_draw [true, false] [] (aCons (oN 0) (aCons (oE (mC (.int 8))) aNil))))
    (sSeq
    (sIf (bV (mBin gEq (oN 2) (oE (mC (.int 0))))) (sRet (mCB gTup (aCons (oE l_L_monomial_2) aNil))) sNx)
    (sRet (mCB gTup (aCons (oE l_L_monomial_1) aNil))))))
theorem sc_L_monomial : FnScope ["_law_pot_here", "_law_many", "_law_way", "_law_letter"] ["_law_pot_here", "_law_many"] (defScope s_L_monomial) := ⟨rfl, rfl, rfl, by decide +kernel, rfl, by decide +kernel, by decide +kernel⟩
section
variable {P : Program} {w : World} {K : Fr} {mg : Str → Option Value} {base : Heap}
noncomputable def fd_L_monomial (g : Gg K mg) : FuncData := Classical.choose (g.c.def_ 17 (d := d_L_monomial) rfl)
theorem F_L_monomial (g : Gg K mg) : FunD K "_law_monomial" "_law_monomial" (defArgs s_L_monomial) (defBody s_L_monomial) (defScope s_L_monomial) [] [] (He.ga K "_law_monomial") (fd_L_monomial g) := Classical.choose_spec (g.c.def_ 17 (d := d_L_monomial) rfl)
theorem b_L_monomial (g : Gg K mg) : Binds K (fd_L_monomial g) ["_law_pot_here", "_law_many"] [] := (F_L_monomial g).bindsN fun _ _ _ _ _ _ us hl => match us, hl with | [_, _], _ => rfl
theorem t_L_monomial (g : Gg K mg) : FnG P w K mg base CX0 2 (He.ga K "_law_monomial") (fd_L_monomial g) ["_law_pot_here", "_law_many"] (spD K m_L_monomial) := fn_d (F_L_monomial g) sc_L_monomial rfl fun cdv A outer s H E hr =>
    (pst_c
      (st_set 2 sc_L_monomial.nd (px_call (t_L_draw g) defM_Len (hr.mono (by decide)) rfl (g.glo 13) (F_L_draw g).kp (b_L_draw g) (pa_c (po_n (pv 0)) (pa_c (PX.po px_int) pa_0))))
    (pst_c
      (ps_if' (pb_cmp (od_eq hr.u') (po_n (pv 2)) (PX.po px_int) (nomark _)) (pst_1 (ps_ret' (px_ct cd_tup rfl (g.free 36) (by decide +kernel) (pa_c (PX.po (px_lc' [("_law_letter", 3)] sc_L_monomial.nd (pit_r1 rfl (g.free 31) (pa_c (po_n (pv 1)) pa_0)) (blkOk_by (by rfl)) (fun n s H C cl fp => (tg_n 3 sc_L_monomial.nd (oth (by rfl)))) (fun s H C cl fp => pts_0) (fun s H C cl fp => (px_f (px_call (t_L_draw g) defM_Len (hr.mono (by decide)) rfl (g.glo 13) (F_L_draw g).kp (b_L_draw g) (pa_c (po_n (pv 0)) (pa_c (PX.po px_int) pa_0))))))) pa_0)))) pst_0)
    (pst_1 (ps_ret' (px_ct cd_tup rfl (g.free 36) (by decide +kernel) (pa_c (PX.po (px_lc' [("_law_letter", 3)] sc_L_monomial.nd (pit_r1 rfl (g.free 31) (pa_c (po_n (pv 1)) pa_0)) (blkOk_by (by rfl)) (fun n s H C cl fp => (tg_n 3 sc_L_monomial.nd (oth (by rfl)))) (fun s H C cl fp => pts_0) (fun s H C cl fp => (px_f (px_call (t_L_draw g) defM_Len (hr.mono (by decide)) rfl (g.glo 13) (F_L_draw g).kp (b_L_draw g) (pa_c (po_n (pv 0)) (pa_c (PX.po (px_if (pb_cmp (od_lt hr.u) (po_n (pv 2)) (PX.po px_int) (nomark _)) px_int px_int)) pa_0))))))) pa_0))))))
end
/-! ### _law_beside -/
def k_L_beside_1 : MS := (sPar 2 3 (aCons (oE (mCallD m_L_draw [true, false] [] (aCons (oN 0) (aCons (oE (mCB gLen (aCons (oN 1) aNil))) aNil)))) (aCons (oE (mCallD m_L_draw [true, false] [] (aCons (oN 0) (aCons (oE (mCB gLen (aCons (oN 1) aNil))) aNil)))) aNil)))
def k_L_beside_2 : MS := (sSet 4 (mCB gLst (aCons (oN 1) aNil)))
def k_L_beside_3 : MS := (sIf (bAnd (bV (mBin gNe (oN 2) (oN 3))) (bAnd (bV (mBin gGt (oE (mBin gIx (oN 4) (oN 2))) (oE (mC (.int 0))))) (bV (mBin gLt (oE (mBin gIx (oN 4) (oN 3))) (oE (mC (.int 20000))))))) (sAsg (mTup (aCons (oE (mBin gSub (oE (mBin gIx (oN 4) (oN 2))) (oE (mC (.int 1))))) (aCons (oE (mBin gAdd (oE (mBin gIx (oN 4) (oN 3))) (oE (mC (.int 1))))) aNil))) (gT 2 (gsC (gS 4 (oN 2)) (gsC (gS 4 (oN 3)) gs0)))) sNx)
def k_L_beside_4 : MS := (sRet (mCB gTup (aCons (oN 4) aNil)))
def m_L_beside : MD := defM 5 [true, false] ((sSeq k_L_beside_1 (sSeq k_L_beside_2 (sSeq k_L_beside_3 k_L_beside_4))))
theorem sc_L_beside : FnScope ["_law_pot_here", "_law_monomial_here", "_law_near", "_law_far", "_law_found"] ["_law_pot_here", "_law_monomial_here"] (defScope s_L_beside) := ⟨rfl, rfl, rfl, by decide +kernel, rfl, by decide +kernel, by decide +kernel⟩
section
variable {P : Program} {w : World} {K : Fr} {mg : Str → Option Value} {base : Heap}
noncomputable def fd_L_beside (g : Gg K mg) : FuncData := Classical.choose (g.c.def_ 18 (d := d_L_beside) rfl)
theorem F_L_beside (g : Gg K mg) : FunD K "_law_beside" "_law_beside" (defArgs s_L_beside) (defBody s_L_beside) (defScope s_L_beside) [] [] (He.ga K "_law_beside") (fd_L_beside g) := Classical.choose_spec (g.c.def_ 18 (d := d_L_beside) rfl)
theorem b_L_beside (g : Gg K mg) : Binds K (fd_L_beside g) ["_law_pot_here", "_law_monomial_here"] [] := (F_L_beside g).bindsN fun _ _ _ _ _ _ us hl => match us, hl with | [_, _], _ => rfl
theorem t_L_beside (g : Gg K mg) : FnG P w K mg base CX0 2 (He.ga K "_law_beside") (fd_L_beside g) ["_law_pot_here", "_law_monomial_here"] (spD K m_L_beside) := fn_d (F_L_beside g) sc_L_beside rfl fun cdv A outer s H E hr =>
    (pst_c
      (st_par 2 3 sc_L_beside.nd (pa_c (PX.po (px_call (t_L_draw g) defM_Len (hr.mono (by decide)) rfl (g.glo 13) (F_L_draw g).kp (b_L_draw g) (pa_c (po_n (pv 0)) (pa_c (PX.po (px_cb cd_len rfl (g.free 28) (by decide +kernel) (pa_c (po_n (pv 1)) pa_0))) pa_0)))) (pa_c (PX.po (px_call (t_L_draw g) defM_Len (hr.mono (by decide)) rfl (g.glo 13) (F_L_draw g).kp (b_L_draw g) (pa_c (po_n (pv 0)) (pa_c (PX.po (px_cb cd_len rfl (g.free 28) (by decide +kernel) (pa_c (po_n (pv 1)) pa_0))) pa_0)))) pa_0)))
    (pst_c
      (st_set 4 sc_L_beside.nd (px_ct cd_lst rfl (g.free 29) (by decide +kernel) (pa_c (po_n (pv 1)) pa_0)))
    (pst_c
      (ps_if' (PBw.pb (pbw_and (pb_cmp (od_ne hr.u') (po_n (pv 2)) (po_n (pv 3)) (nomark _)) (pbw_and (pb_cmp (od_gt hr.u) (PX.po (px_ix (po_n (pv 4)) (po_n (pv 2)))) (PX.po px_int) (nomark _)) (pbw_and1 (pb_cmp (od_lt hr.u) (PX.po (px_ix (po_n (pv 4)) (po_n (pv 3)))) (PX.po px_int) (nomark _)))))) (pst_1 (ps_asgT (px_tup (pa_c (PX.po (px_op od_sub (PX.po (px_ix (po_n (pv 4)) (po_n (pv 2)))) (PX.po px_int))) (pa_c (PX.po (px_op od_add (PX.po (px_ix (po_n (pv 4)) (po_n (pv 3)))) (PX.po px_int))) pa_0))) (pth_t (n := 2) rfl (pths_c (pth_s (pv 4) (po_n (pv 2))) (pths_c (pth_s (pv 4) (po_n (pv 3))) pths_0))))) pst_0)
    (pst_1 (ps_ret' (px_ct cd_tup rfl (g.free 36) (by decide +kernel) (pa_c (po_n (pv 4)) pa_0)))))))
end
/-! ### _law_sorted -/
def l_L_sorted_1 : MS := sWh (bAnd (bV (mBin gLt (oN 4) (oE (mCB gLen (aCons (oN 2) aNil))))) (bV (mBin gLt (oE (mCallD m_L_compared [false, false, false] [] (aCons (oE (mZ 0)) (aCons (oE (mBin gIx (oN 2) (oN 4))) (aCons (oE (mZ 3)) aNil))))) (oE (mC (.int 0)))))) (sSet 4 (mBin gAdd (oN 4) (oE (mC (.int 1))))) 1000000
def l_L_sorted_2 : MS := sFor (iV (mZ 1)) (gN 3) (sSeq
    (sSet 4 (mC (.int 0)))
    (sSeq
    l_L_sorted_1
    (sIf (bOr (bV (mBin gEq (oN 4) (oE (mCB gLen (aCons (oN 2) aNil))))) (bV (mBin gNe (oE (mBin gIx (oN 2) (oN 4))) (oN 3)))) (sDrop (mBM 2 gInsert (aCons (oE (mZ 4)) (aCons (oE (mZ 3)) aNil)))) sNx)))
def m_L_sorted : MD := defM 5 [false, false] ((sSeq
    (sSet 2 (mLst aNil))
    (sSeq
    l_L_sorted_2
    (sRet (mM 2)))))
theorem sc_L_sorted : FnScope ["_law_weights_here", "_law_some", "_law_found", "_law_one", "_law_at"] ["_law_weights_here", "_law_some"] (defScope s_L_sorted) := ⟨rfl, rfl, rfl, by decide +kernel, rfl, by decide +kernel, by decide +kernel⟩
section
variable {P : Program} {w : World} {K : Fr} {mg : Str → Option Value} {base : Heap}
noncomputable def fd_L_sorted (g : Gg K mg) : FuncData := Classical.choose (g.c.def_ 19 (d := d_L_sorted) rfl)
theorem F_L_sorted (g : Gg K mg) : FunD K "_law_sorted" "_law_sorted" (defArgs s_L_sorted) (defBody s_L_sorted) (defScope s_L_sorted) [] [] (He.ga K "_law_sorted") (fd_L_sorted g) := Classical.choose_spec (g.c.def_ 19 (d := d_L_sorted) rfl)
theorem b_L_sorted (g : Gg K mg) : Binds K (fd_L_sorted g) ["_law_weights_here", "_law_some"] [] := (F_L_sorted g).bindsN fun _ _ _ _ _ _ us hl => match us, hl with | [_, _], _ => rfl
theorem t_L_sorted (g : Gg K mg) : FnG P w K mg base CX0 2 (He.ga K "_law_sorted") (fd_L_sorted g) ["_law_weights_here", "_law_some"] (spD K m_L_sorted) := fn_d (F_L_sorted g) sc_L_sorted rfl fun cdv A outer s H E hr =>
    (pst_c
      (st_set 2 sc_L_sorted.nd (px_lst pa_0))
    (pst_c
      (ps_for' PassesOwn.never rfl (pit_v (px_z (pv 1))) (tg_n 3 sc_L_sorted.nd) (pst_c
      (st_set 4 sc_L_sorted.nd px_int)
    (pst_c
      (ps_wh 1000000 PassesOwn.never (PBw.pb (pbw_and (pb_cmp (od_lt hr.u) (po_n (pv 4)) (PX.po (px_cb cd_len rfl (g.free 28) (by decide +kernel) (pa_c (po_n (pv 2)) pa_0))) (nomark _)) (pbw_and1 (pb_cmp (od_lt hr.u) (PX.po (px_call (t_L_compared g) defM_Len (hr.mono (by decide)) rfl (g.glo 15) (F_L_compared g).kp (b_L_compared g) (pa_c (PX.po (px_z (pv 0))) (pa_c (PX.po (px_ix (po_n (pv 2)) (po_n (pv 4)))) (pa_c (PX.po (px_z (pv 3))) pa_0))))) (PX.po px_int) (nomark _))))) (pst_1 (st_set 4 sc_L_sorted.nd (px_op od_add (po_n (pv 4)) (PX.po px_int)))))
    (pst_1 (ps_if' (PBw.pb (pbw_or (pb_cmp (od_eq hr.u') (po_n (pv 4)) (PX.po (px_cb cd_len rfl (g.free 28) (by decide +kernel) (pa_c (po_n (pv 2)) pa_0))) (nomark _)) (pbw_or1 (pb_cmp (od_ne hr.u') (PX.po (px_ix (po_n (pv 2)) (po_n (pv 4)))) (po_n (pv 3)) (nomark _))))) (pst_1 (ps_ex (px_bm md_insert F.slot_list_insert (by kernel_rfl) (pv 2) (pa_c (PX.po (px_z (pv 4))) (pa_c (PX.po (px_z (pv 3))) pa_0))))) pst_0)))))
    (pst_1 (ps_ret' (px_m (pv 2))))))
end
/-! ### _law_right -/
def k_L_right_1 : MS := (sSet 1 (mBin gAdd (oE (mC (.int 1))) (oE (mCallD m_L_draw [true, false] [] (aCons (oN 0) (aCons (oE (mC (.int 5))) aNil))))))
def k_L_right_2 : MS := (sSet 2 (mCallD m_L_weights [true, false] [] (aCons (oN 0) (aCons (oE (mZ 1)) aNil))))
def k_L_right_3 : MS := (sPar 3 4 (aCons (oE (mTup (aCons (oE (mC (.str "order"))) (aCons (oE (mZ 2)) aNil)))) (aCons (oE (mLst aNil)) aNil)))
def l_L_right_1 : MS := sFor (iR rangeD1 (aCons (oE (mC (.int 4))) aNil)) (gN 5) (sSeq
    (sDrop (mBM 4 gAppend (aCons (oE (mF (mCallD m_L_monomial [true, false] [] (aCons (oN 0) (aCons (oE (mZ 1)) aNil))))) aNil)))
    (sDrop (mBM 4 gAppend (aCons (oE (mF (mCallD m_L_beside [true, false] [] (aCons (oN 0) (aCons (oE (mBin gIx (oN 4) (oE (mUn gNeg (oE (mC (.int 1))))))) aNil))))) aNil))))
def l_L_right_2 : MS := sFor (iV (mZ 4)) (gN 7) (sSeq
    (sSet 8 (mCallD m_L_compared [false, false, false] [] (aCons (oE (mZ 2)) (aCons (oE (mZ 6)) (aCons (oE (mZ 7)) aNil)))))
    (sIf (bV (mBin gNe (oE (mCB gRepr (aCons (oE (mCallD m_greater [false, false, false] [] (aCons (oE (mZ 3)) (aCons (oE (mZ 6)) (aCons (oE (mZ 7)) aNil))))) aNil))) (oE (mCB gRepr (aCons (oN 8) aNil))))) (sRet (mC (.bool false))) sNx))
def l_L_right_3 : MS := sFor (iV (mF (mSl (oN 4) none (some (oE (mC (.int 4))))))) (gN 6) l_L_right_2
def l_L_right_4 : ME := mLC (iR rangeD1 (aCons (oN 1) aNil)) (gN 14) bYes (mF (mCallD m_L_draw [true, false] [] (aCons (oN 0) (aCons (oE (mC (.int 3))) aNil)))) [14]
def k_L_right_6 : MS := (sPar3 6 7 9 (aCons (oE (mBin gIx (oN 4) (oE (mC (.int 0))))) (aCons (oE (mBin gIx (oN 4) (oE (mC (.int 1))))) (aCons (oE (mCB gTup (aCons (oE l_L_right_4) aNil))) aNil))))
def k_L_right_7 : MS := (sSet 8 (mCallD m_L_compared [false, false, false] [] (aCons (oE (mZ 2)) (aCons (oE (mZ 6)) (aCons (oE (mZ 7)) aNil)))))
def l_L_right_5 : ME := mLC (iZ zip2D (aCons (oE (mZ 6)) (aCons (oE (mZ 9)) aNil))) (gT 2 (gsC (gN 15) (gsC (gN 16) gs0))) bYes (mF (mBin gAdd (oN 15) (oN 16))) [15, 16]
def l_L_right_6 : ME := mLC (iZ zip2D (aCons (oE (mZ 7)) (aCons (oE (mZ 9)) aNil))) (gT 2 (gsC (gN 15) (gsC (gN 16) gs0))) bYes (mF (mBin gAdd (oN 15) (oN 16))) [15, 16]
def k_L_right_8 : MS := (sPar 10 11 (aCons (oE (mCB gTup (aCons (oE l_L_right_5) aNil))) (aCons (oE (mCB gTup (aCons (oE l_L_right_6) aNil))) aNil)))
def k_L_right_9 : MS := (sIf (bAnd (bV (mBin gLe (oE (mCB gMax (aCons (oE (mBin gAdd (oN 10) (oN 11))) aNil))) (oE (mC (.int 20000))))) (bV (mBin gNe (oE (mCallK m_greater [false, false, false] (gk 0 3 [2, 1, 0]) aNil (aCons (oE (mZ 11)) (aCons (oE (mZ 10)) (aCons (oE (mZ 3)) aNil))))) (oN 8)))) (sRet (mC (.bool false))) sNx)
def k_L_right_10 : MS := (sPar 12 13 (aCons (oE (mCB gRepr (aCons (oN 4) aNil))) (aCons (oE (mCallD m_sorted_by [false, false] [] (aCons (oE (mZ 3)) (aCons (oE (mF (mBin gAdd (oN 4) (oE (mSl (oN 4) none (some (oE (mC (.int 3))))))))) aNil)))) aNil)))
def k_L_right_11 : MS := (sIf (bOr (bV (mBin gNe (oE (mCB gRepr (aCons (oN 13) aNil))) (oE (mCB gRepr (aCons (oE (mCallD m_L_sorted [false, false] [] (aCons (oE (mZ 2)) (aCons (oE (mZ 4)) aNil)))) aNil))))) (bV (mBin gNe (oE (mCB gRepr (aCons (oN 4) aNil))) (oN 12)))) (sRet (mC (.bool false))) sNx)
def k_L_right_12 : MS := (sDrop (mBM 13 gAppend (aCons (oE (mC .none)) aNil)))
def k_L_right_13 : MS := (sRet (mBin gEq (oE (mCallK m_sorted_by [false, false] (gk 0 2 [1, 0]) aNil (aCons (oE (mCB gTup (aCons (oE (mRev (oN 4))) aNil))) (aCons (oE (mZ 3)) aNil)))) (oE (mCallD m_L_sorted [false, false] [] (aCons (oE (mZ 2)) (aCons (oE (mZ 4)) aNil))))))
def m_L_right : MD := defM 17 [true] ((sSeq k_L_right_1 (sSeq k_L_right_2 (sSeq k_L_right_3 (sSeq l_L_right_1 (sSeq l_L_right_3 (sSeq k_L_right_6 (sSeq k_L_right_7 (sSeq k_L_right_8 (sSeq k_L_right_9 (sSeq k_L_right_10 (sSeq k_L_right_11 (sSeq k_L_right_12 k_L_right_13)))))))))))))
theorem sc_L_right : FnScope ["_law_pot_here", "_law_many", "_law_weights_here", "_law_order", "_law_some", "_law_turn", "_law_one", "_law_other", "_law_due", "_law_more", "_law_near", "_law_far", "_law_shown", "_law_told", "_law_letter", "_law_a", "_law_b"] ["_law_pot_here"] (defScope s_L_right) := ⟨rfl, rfl, rfl, by decide +kernel, rfl, by decide +kernel, by decide +kernel⟩
section
variable {P : Program} {w : World} {K : Fr} {mg : Str → Option Value} {base : Heap}
noncomputable def fd_L_right (g : Gg K mg) : FuncData := Classical.choose (g.c.def_ 20 (d := d_L_right) rfl)
theorem F_L_right (g : Gg K mg) : FunD K "_law_right" "_law_right" (defArgs s_L_right) (defBody s_L_right) (defScope s_L_right) [] [] (He.ga K "_law_right") (fd_L_right g) := Classical.choose_spec (g.c.def_ 20 (d := d_L_right) rfl)
theorem b_L_right (g : Gg K mg) : Binds K (fd_L_right g) ["_law_pot_here"] [] := (F_L_right g).bindsN fun _ _ _ _ _ _ us hl => match us, hl with | [_], _ => rfl
theorem t_L_right (g : Gg K mg) : FnG P w K mg base CX0 7 (He.ga K "_law_right") (fd_L_right g) ["_law_pot_here"] (spD K m_L_right) := fn_d (F_L_right g) sc_L_right rfl fun cdv A outer s H E hr =>
    (pst_c
      (st_set 1 sc_L_right.nd (px_op od_add (PX.po px_int) (PX.po (px_call (t_L_draw g) defM_Len (hr.mono (by decide)) rfl (g.glo 13) (F_L_draw g).kp (b_L_draw g) (pa_c (po_n (pv 0)) (pa_c (PX.po px_int) pa_0))))))
    (pst_c
      (st_set 2 sc_L_right.nd (px_call (t_L_weights g) defM_Len (hr.mono (by decide)) rfl (g.glo 14) (F_L_weights g).kp (b_L_weights g) (pa_c (po_n (pv 0)) (pa_c (PX.po (px_z (pv 1))) pa_0))))
    (pst_c
      (st_par 3 4 sc_L_right.nd (pa_c (PX.po (px_tup (pa_c (PX.po px_str) (pa_c (PX.po (px_z (pv 2))) pa_0)))) (pa_c (PX.po (px_lst pa_0)) pa_0)))
    (pst_c
      (ps_for' PassesOwn.never rfl (pit_r1 rfl (g.free 31) (pa_c (PX.po px_int) pa_0)) (tg_n 5 sc_L_right.nd) (pst_c
      (ps_ex (px_bm md_append F.slot_list_append (by kernel_rfl) (pv 4) (pa_c (PX.po (px_f (px_call (t_L_monomial g) defM_Len (hr.mono (by decide)) rfl (g.glo 16) (F_L_monomial g).kp (b_L_monomial g) (pa_c (po_n (pv 0)) (pa_c (PX.po (px_z (pv 1))) pa_0))))) pa_0)))
    (pst_1 (ps_ex (px_bm md_append F.slot_list_append (by kernel_rfl) (pv 4) (pa_c (PX.po (px_f (px_call (t_L_beside g) defM_Len (hr.mono (by decide)) rfl (g.glo 17) (F_L_beside g).kp (b_L_beside g) (pa_c (po_n (pv 0)) (pa_c (PX.po (px_ix (po_n (pv 4)) (PX.po (px_un ud_neg (PX.po px_int))))) pa_0))))) pa_0))))))
    (pst_c
      (ps_for' PassesOwn.never rfl (pit_v (px_f (px_sl (po_n (pv 4)) ppt_0 (ppt_1 (PX.po px_int))))) (tg_n 6 sc_L_right.nd) (pst_1 (ps_for' PassesOwn.never rfl (pit_v (px_z (pv 4))) (tg_n 7 sc_L_right.nd) (pst_c
      (st_set 8 sc_L_right.nd (px_call (t_L_compared g) defM_Len (hr.mono (by decide)) rfl (g.glo 15) (F_L_compared g).kp (b_L_compared g) (pa_c (PX.po (px_z (pv 2))) (pa_c (PX.po (px_z (pv 6))) (pa_c (PX.po (px_z (pv 7))) pa_0)))))
    (pst_1 (ps_if' (pb_cmp (od_ne hr.u') (PX.po (px_cb (cd_repr hr.gd hr.u) rfl (g.free 32) (by decide +kernel) (pa_c (PX.po (px_call (t_greater g) defM_Len (hr.mono (by decide)) rfl (g.glo 10) (F_greater g).kp (b_greater g) (pa_c (PX.po (px_z (pv 3))) (pa_c (PX.po (px_z (pv 6))) (pa_c (PX.po (px_z (pv 7))) pa_0))))) pa_0))) (PX.po (px_cb (cd_repr hr.gd hr.u) rfl (g.free 32) (by decide +kernel) (pa_c (po_n (pv 8)) pa_0))) (nomark _)) (pst_1 (ps_ret' px_bl)) pst_0))))))
    (pst_c
      (st_par3 6 7 9 sc_L_right.nd (pa_c (PX.po (px_ix (po_n (pv 4)) (PX.po px_int))) (pa_c (PX.po (px_ix (po_n (pv 4)) (PX.po px_int))) (pa_c (PX.po (px_ct cd_tup rfl (g.free 36) (by decide +kernel) (pa_c (PX.po (px_lc' [("_law_letter", 14)] sc_L_right.nd (pit_r1 rfl (g.free 31) (pa_c (po_n (pv 1)) pa_0)) (blkOk_by (by rfl)) (fun n s H C cl fp => (tg_n 14 sc_L_right.nd (oth (by rfl)))) (fun s H C cl fp => pts_0) (fun s H C cl fp => (px_f (px_call (t_L_draw g) defM_Len (hr.mono (by decide)) rfl (g.glo 13) (F_L_draw g).kp (b_L_draw g) (pa_c (po_n (pv 0)) (pa_c (PX.po px_int) pa_0))))))) pa_0))) pa_0))))
    (pst_c
      (st_set 8 sc_L_right.nd (px_call (t_L_compared g) defM_Len (hr.mono (by decide)) rfl (g.glo 15) (F_L_compared g).kp (b_L_compared g) (pa_c (PX.po (px_z (pv 2))) (pa_c (PX.po (px_z (pv 6))) (pa_c (PX.po (px_z (pv 7))) pa_0)))))
    (pst_c
      (st_par 10 11 sc_L_right.nd (pa_c (PX.po (px_ct cd_tup rfl (g.free 36) (by decide +kernel) (pa_c (PX.po (px_lc' [("_law_a", 15), ("_law_b", 16)] sc_L_right.nd (pit_zip2 rfl (g.free 37) (pa_c (PX.po (px_z (pv 6))) (pa_c (PX.po (px_z (pv 9))) pa_0))) (blkOk_by (by rfl)) (fun n s H C cl fp => (ptg_t (n := 2) rfl (ptgs_c (tg_n 15 sc_L_right.nd (oth (by rfl))) (ptgs_c (tg_n 16 sc_L_right.nd (oth (by rfl))) ptgs_0)))) (fun s H C cl fp => pts_0) (fun s H C cl fp => (px_f (px_op od_add (po_n (pv 15)) (po_n (pv 16))))))) pa_0))) (pa_c (PX.po (px_ct cd_tup rfl (g.free 36) (by decide +kernel) (pa_c (PX.po (px_lc' [("_law_a", 15), ("_law_b", 16)] sc_L_right.nd (pit_zip2 rfl (g.free 37) (pa_c (PX.po (px_z (pv 7))) (pa_c (PX.po (px_z (pv 9))) pa_0))) (blkOk_by (by rfl)) (fun n s H C cl fp => (ptg_t (n := 2) rfl (ptgs_c (tg_n 15 sc_L_right.nd (oth (by rfl))) (ptgs_c (tg_n 16 sc_L_right.nd (oth (by rfl))) ptgs_0)))) (fun s H C cl fp => pts_0) (fun s H C cl fp => (px_f (px_op od_add (po_n (pv 15)) (po_n (pv 16))))))) pa_0))) pa_0)))
    (pst_c
      (ps_if' (PBw.pb (pbw_and (pb_cmp od_le (PX.po (px_cb (cd_max rfl hr.u) rfl (g.free 30) (by decide +kernel) (pa_c (PX.po (px_op od_add (po_n (pv 10)) (po_n (pv 11)))) pa_0))) (PX.po px_int) (nomark _)) (pbw_and1 (pb_cmp (od_ne hr.u') (PX.po (px_callK0 (t_greater g) defM_Len (hr.mono (by decide)) rfl (g.glo 10) (F_greater g).kp (kb_greater_0 g) gk_fz (pkr_c (PX.po (px_z (pv 11))) (pkr_c (PX.po (px_z (pv 10))) (pkr_c (PX.po (px_z (pv 3))) pkr_0))))) (po_n (pv 8)) (nomark _))))) (pst_1 (ps_ret' px_bl)) pst_0)
    (pst_c
      (st_par 12 13 sc_L_right.nd (pa_c (PX.po (px_cb (cd_repr hr.gd hr.u) rfl (g.free 32) (by decide +kernel) (pa_c (po_n (pv 4)) pa_0))) (pa_c (PX.po (px_call (t_sorted_by g) defM_Len (hr.mono (by decide)) rfl (g.glo 11) (F_sorted_by g).kp (b_sorted_by g) (pa_c (PX.po (px_z (pv 3))) (pa_c (PX.po (px_f (px_op od_add (po_n (pv 4)) (PX.po (px_sl (po_n (pv 4)) ppt_0 (ppt_1 (PX.po px_int))))))) pa_0)))) pa_0)))
    (pst_c
      (ps_if' (PBw.pb (pbw_or (pb_cmp (od_ne hr.u') (PX.po (px_cb (cd_repr hr.gd hr.u) rfl (g.free 32) (by decide +kernel) (pa_c (po_n (pv 13)) pa_0))) (PX.po (px_cb (cd_repr hr.gd hr.u) rfl (g.free 32) (by decide +kernel) (pa_c (PX.po (px_call (t_L_sorted g) defM_Len (hr.mono (by decide)) rfl (g.glo 18) (F_L_sorted g).kp (b_L_sorted g) (pa_c (PX.po (px_z (pv 2))) (pa_c (PX.po (px_z (pv 4))) pa_0)))) pa_0))) (nomark _)) (pbw_or1 (pb_cmp (od_ne hr.u') (PX.po (px_cb (cd_repr hr.gd hr.u) rfl (g.free 32) (by decide +kernel) (pa_c (po_n (pv 4)) pa_0))) (po_n (pv 12)) (nomark _))))) (pst_1 (ps_ret' px_bl)) pst_0)
    (pst_c
      (ps_ex (px_bm md_append F.slot_list_append (by kernel_rfl) (pv 13) (pa_c (PX.po px_non) pa_0)))
    (pst_1 (ps_ret' (px_cmp (od_eq hr.u') (PX.po (px_callK0 (t_sorted_by g) defM_Len (hr.mono (by decide)) rfl (g.glo 11) (F_sorted_by g).kp (kb_sorted_by_0 g) gk_fz (pkr_c (PX.po (px_ct cd_tup rfl (g.free 36) (by decide +kernel) (pa_c (PX.po (px_rev (po_n (pv 4)))) pa_0))) (pkr_c (PX.po (px_z (pv 3))) pkr_0)))) (PX.po (px_call (t_L_sorted g) defM_Len (hr.mono (by decide)) rfl (g.glo 18) (F_L_sorted g).kp (b_L_sorted g) (pa_c (PX.po (px_z (pv 2))) (pa_c (PX.po (px_z (pv 4))) pa_0)))) (nomark _))))))))))))))))
end
/-! ### law -/
def m_law : MD := defM 1 [false] ((sRet (mCallD m_L_right [true] [] (aCons (oE (mCallD m_L_pot [false, false] [] (aCons (oE (mZ 0)) (aCons (oE (mC (.int 0))) aNil)))) aNil))))
theorem sc_law : FnScope ["_law_script"] ["_law_script"] (defScope s_law) := ⟨rfl, rfl, rfl, by decide +kernel, rfl, by decide +kernel, by decide +kernel⟩
section
variable {P : Program} {w : World} {K : Fr} {mg : Str → Option Value} {base : Heap}
noncomputable def fd_law (g : Gg K mg) : FuncData := Classical.choose (g.c.def_ 21 (d := d_law) rfl)
theorem F_law (g : Gg K mg) : FunD K "law" "law" (defArgs s_law) (defBody s_law) (defScope s_law) [] [] (He.ga K "law") (fd_law g) := Classical.choose_spec (g.c.def_ 21 (d := d_law) rfl)
theorem b_law (g : Gg K mg) : Binds K (fd_law g) ["_law_script"] [] := (F_law g).bindsN fun _ _ _ _ _ _ us hl => match us, hl with | [_], _ => rfl
theorem t_law (g : Gg K mg) : FnG P w K mg base CX0 8 (He.ga K "law") (fd_law g) ["_law_script"] (spD K m_law) := fn_d (F_law g) sc_law rfl fun cdv A outer s H E hr =>
    (pst_1 (ps_ret' (px_call (t_L_right g) defM_Len (hr.mono (by decide)) rfl (g.glo 19) (F_L_right g).kp (b_L_right g) (pa_c (PX.po (px_call (t_L_pot g) defM_Len (hr.mono (by decide)) rfl (g.glo 12) (F_L_pot g).kp (b_L_pot g) (pa_c (PX.po (px_z (pv 0))) (pa_c (PX.po px_int) pa_0)))) pa_0))))
end
end My

set_option Elab.async false
set_option maxRecDepth 100000
set_option linter.all false
set_option maxHeartbeats 1000000
namespace My
open PySem VL
abbrev rz (r : List Int) : Option T := some (.z (rowD r))
theorem all_map_id {α : Type} (f : α → Bool) (l : List α) : (l.map f).all id = l.all f := by simp
/-! ### monomials, orders -/
theorem e_is_integer (n : Int) : m_is_integer [.z (.int n)] = some (.z (.bool true), [iz n]) := by rfl
theorem e_is_count (n : Int) : m_is_count [.z (.int n)] = some (.z (.bool (decide (0 ≤ n))), [iz n]) := by
  simp [m_is_count, defM, startE, backs, sSeq, sSet, setSl, sRet, sRetN, sNx, sBk, sCt, sNo, sIf, sDrop, sPar, sPar3, sAsg, sFor, bV, bT, bAnd, bOr, bNot, truth, mAnd, mOr, mNot, mIf, mC, mZ, mM, mF, mTup, mLst, mCB, mBin, mUn, mChain, mIsi, mIsi2, mSl, mPt, mLC, mBM, mCallD, mCallK, callM, takeT, putT, slotsOf, nodupB, valsZ, gk, oN, oE, aNil, aCons, slotT, Arg.get, gets, zs, T.data, gN, gsC, gs0, gT, gS, iV, iZ, iR, seqOf, wipeE, restE, gAdd, gSub, gMul, gFdiv, gMod, gPow, gNeg, gLt, gGt, gLe, gGe, gEq, gNe, gIs, gIsN, isNon, gIx, L2.atI, L2.ixN, gLen, gTup, gLst, gSum, gAll, gAny, gAbs, gMax2, gMin2, gDivmod, gInt, gGcd, isT, gAppend, gInsert, gPop, zip2D, zip3D, enumD, gSl, mRev, gRev, mSS, gSS, gMax, gMin, gMaxS, gMinS, gIn, gNin, mExt, mDR, mDL, mCD, gDLen, gDLst, mD0, mD1, gSD, Arg.raw, e_is_integer]
def cnt (most n : Int) : Bool := decide (0 ≤ n) && decide (n ≤ most)
theorem e_counts_1 (most : Int) (r : List Int) : l_are_counts_to_1 [iz most, rz r, none] = some (.l ((r.map fun n => cnt most n).map .bool), [iz most, rz r, none]) := by
  rw [l_are_counts_to_1, mLC_map (α := Int) (g := .int) (f := fun n => .bool (cnt most n)) (as := r) (ρ1 := [iz most, rz r, none])]
  · simp [defM, startE, backs, sSeq, sSet, setSl, sRet, sRetN, sNx, sBk, sCt, sNo, sIf, sDrop, sPar, sPar3, sAsg, sFor, bV, bT, bAnd, bOr, bNot, truth, mAnd, mOr, mNot, mIf, mC, mZ, mM, mF, mTup, mLst, mCB, mBin, mUn, mChain, mIsi, mIsi2, mSl, mPt, mLC, mBM, mCallD, mCallK, callM, takeT, putT, slotsOf, nodupB, valsZ, gk, oN, oE, aNil, aCons, slotT, Arg.get, gets, zs, T.data, gN, gsC, gs0, gT, gS, iV, iZ, iR, seqOf, wipeE, restE, gAdd, gSub, gMul, gFdiv, gMod, gPow, gNeg, gLt, gGt, gLe, gGe, gEq, gNe, gIs, gIsN, isNon, gIx, L2.atI, L2.ixN, gLen, gTup, gLst, gSum, gAll, gAny, gAbs, gMax2, gMin2, gDivmod, gInt, gGcd, isT, gAppend, gInsert, gPop, zip2D, zip3D, enumD, gSl, mRev, gRev, mSS, gSS, gMax, gMin, gMaxS, gMinS, gIn, gNin, mExt, mDR, mDL, mCD, gDLen, gDLst, mD0, mD1, gSD, Arg.raw]
  · simp [defM, startE, backs, sSeq, sSet, setSl, sRet, sRetN, sNx, sBk, sCt, sNo, sIf, sDrop, sPar, sPar3, sAsg, sFor, bV, bT, bAnd, bOr, bNot, truth, mAnd, mOr, mNot, mIf, mC, mZ, mM, mF, mTup, mLst, mCB, mBin, mUn, mChain, mIsi, mIsi2, mSl, mPt, mLC, mBM, mCallD, mCallK, callM, takeT, putT, slotsOf, nodupB, valsZ, gk, oN, oE, aNil, aCons, slotT, Arg.get, gets, zs, T.data, gN, gsC, gs0, gT, gS, iV, iZ, iR, seqOf, wipeE, restE, gAdd, gSub, gMul, gFdiv, gMod, gPow, gNeg, gLt, gGt, gLe, gGe, gEq, gNe, gIs, gIsN, isNon, gIx, L2.atI, L2.ixN, gLen, gTup, gLst, gSum, gAll, gAny, gAbs, gMax2, gMin2, gDivmod, gInt, gGcd, isT, gAppend, gInsert, gPop, zip2D, zip3D, enumD, gSl, mRev, gRev, mSS, gSS, gMax, gMin, gMaxS, gMinS, gIn, gNin, mExt, mDR, mDL, mCD, gDLen, gDLst, mD0, mD1, gSD, Arg.raw]
  · intro a _
    by_cases h : 0 ≤ a <;> simp [defM, startE, backs, sSeq, sSet, setSl, sRet, sRetN, sNx, sBk, sCt, sNo, sIf, sDrop, sPar, sPar3, sAsg, sFor, bV, bT, bAnd, bOr, bNot, truth, mAnd, mOr, mNot, mIf, mC, mZ, mM, mF, mTup, mLst, mCB, mBin, mUn, mChain, mIsi, mIsi2, mSl, mPt, mLC, mBM, mCallD, mCallK, callM, takeT, putT, slotsOf, nodupB, valsZ, gk, oN, oE, aNil, aCons, slotT, Arg.get, gets, zs, T.data, gN, gsC, gs0, gT, gS, iV, iZ, iR, seqOf, wipeE, restE, gAdd, gSub, gMul, gFdiv, gMod, gPow, gNeg, gLt, gGt, gLe, gGe, gEq, gNe, gIs, gIsN, isNon, gIx, L2.atI, L2.ixN, gLen, gTup, gLst, gSum, gAll, gAny, gAbs, gMax2, gMin2, gDivmod, gInt, gGcd, isT, gAppend, gInsert, gPop, zip2D, zip3D, enumD, gSl, mRev, gRev, mSS, gSS, gMax, gMin, gMaxS, gMinS, gIn, gNin, mExt, mDR, mDL, mCD, gDLen, gDLst, mD0, mD1, gSD, Arg.raw, e_is_count, cnt, h]
theorem e_counts (most : Int) (r : List Int) : m_are_counts_to [.z (.int most), .z (rowD r)] = some (.z (.bool (r.all (cnt most))), [iz most, rz r]) := by
  have e := e_counts_1 most r
  simp only [List.map_map] at e
  simp [m_are_counts_to, defM, startE, backs, sSeq, sSet, setSl, sRet, sRetN, sNx, sBk, sCt, sNo, sIf, sDrop, sPar, sPar3, sAsg, sFor, bV, bT, bAnd, bOr, bNot, truth, mAnd, mOr, mNot, mIf, mC, mZ, mM, mF, mTup, mLst, mCB, mBin, mUn, mChain, mIsi, mIsi2, mSl, mPt, mLC, mBM, mCallD, mCallK, callM, takeT, putT, slotsOf, nodupB, valsZ, gk, oN, oE, aNil, aCons, slotT, Arg.get, gets, zs, T.data, gN, gsC, gs0, gT, gS, iV, iZ, iR, seqOf, wipeE, restE, gAdd, gSub, gMul, gFdiv, gMod, gPow, gNeg, gLt, gGt, gLe, gGe, gEq, gNe, gIs, gIsN, isNon, gIx, L2.atI, L2.ixN, gLen, gTup, gLst, gSum, gAll, gAny, gAbs, gMax2, gMin2, gDivmod, gInt, gGcd, isT, gAppend, gInsert, gPop, zip2D, zip3D, enumD, gSl, mRev, gRev, mSS, gSS, gMax, gMin, gMaxS, gMinS, gIn, gNin, mExt, mDR, mDL, mCD, gDLen, gDLst, mD0, mD1, gSD, Arg.raw, e, bools?_map, Function.comp_def]
def okM (many : Nat) (r : List Int) : Bool := r.all (cnt 20000) && decide (r.length = many)
theorem e_monomial_of (many : Nat) (r : List Int) : m_is_monomial_of [.z (.int (many : Nat)), .z (rowD r)] = some (.z (.bool (okM many r)), [iz many, rz r]) := by
  have q : ((r.length : Int) = (many : Int)) ↔ r.length = many := by omega
  cases h : r.all (cnt 20000) with
  | false => simp [m_is_monomial_of, defM, startE, backs, sSeq, sSet, setSl, sRet, sRetN, sNx, sBk, sCt, sNo, sIf, sDrop, sPar, sPar3, sAsg, sFor, bV, bT, bAnd, bOr, bNot, truth, mAnd, mOr, mNot, mIf, mC, mZ, mM, mF, mTup, mLst, mCB, mBin, mUn, mChain, mIsi, mIsi2, mSl, mPt, mLC, mBM, mCallD, mCallK, callM, takeT, putT, slotsOf, nodupB, valsZ, gk, oN, oE, aNil, aCons, slotT, Arg.get, gets, zs, T.data, gN, gsC, gs0, gT, gS, iV, iZ, iR, seqOf, wipeE, restE, gAdd, gSub, gMul, gFdiv, gMod, gPow, gNeg, gLt, gGt, gLe, gGe, gEq, gNe, gIs, gIsN, isNon, gIx, L2.atI, L2.ixN, gLen, gTup, gLst, gSum, gAll, gAny, gAbs, gMax2, gMin2, gDivmod, gInt, gGcd, isT, gAppend, gInsert, gPop, zip2D, zip3D, enumD, gSl, mRev, gRev, mSS, gSS, gMax, gMin, gMaxS, gMinS, gIn, gNin, mExt, mDR, mDL, mCD, gDLen, gDLst, mD0, mD1, gSD, Arg.raw, e_counts, okM, h]
  | true => simp [m_is_monomial_of, defM, startE, backs, sSeq, sSet, setSl, sRet, sRetN, sNx, sBk, sCt, sNo, sIf, sDrop, sPar, sPar3, sAsg, sFor, bV, bT, bAnd, bOr, bNot, truth, mAnd, mOr, mNot, mIf, mC, mZ, mM, mF, mTup, mLst, mCB, mBin, mUn, mChain, mIsi, mIsi2, mSl, mPt, mLC, mBM, mCallD, mCallK, callM, takeT, putT, slotsOf, nodupB, valsZ, gk, oN, oE, aNil, aCons, slotT, Arg.get, gets, zs, T.data, gN, gsC, gs0, gT, gS, iV, iZ, iR, seqOf, wipeE, restE, gAdd, gSub, gMul, gFdiv, gMod, gPow, gNeg, gLt, gGt, gLe, gGe, gEq, gNe, gIs, gIsN, isNon, gIx, L2.atI, L2.ixN, gLen, gTup, gLst, gSum, gAll, gAny, gAbs, gMax2, gMin2, gDivmod, gInt, gGcd, isT, gAppend, gInsert, gPop, zip2D, zip3D, enumD, gSl, mRev, gRev, mSS, gSS, gMax, gMin, gMaxS, gMinS, gIn, gNin, mExt, mDR, mDL, mCD, gDLen, gDLst, mD0, mD1, gSD, Arg.raw, e_counts, okM, h, q]
def Gw (w : List Int) : Prop := w.all (cnt 99) = true ∧ 1 ≤ w.length ∧ w.length ≤ 40
abbrev ordD (w : List Int) : D := .tuple [.str "order", rowD w]
theorem e_order_value (w : List Int) (h : Gw w) : m_is_order_value [.z (ordD w)] = some (.z (.bool true), [some (.z (ordD w))]) := by
  have h1 : (1 : Int) ≤ (w.length : Int) := by have := h.2.1; omega
  have h2 : (w.length : Int) ≤ 40 := by have := h.2.2; omega
  simp [m_is_order_value, defM, startE, backs, sSeq, sSet, setSl, sRet, sRetN, sNx, sBk, sCt, sNo, sIf, sDrop, sPar, sPar3, sAsg, sFor, bV, bT, bAnd, bOr, bNot, truth, mAnd, mOr, mNot, mIf, mC, mZ, mM, mF, mTup, mLst, mCB, mBin, mUn, mChain, mIsi, mIsi2, mSl, mPt, mLC, mBM, mCallD, mCallK, callM, takeT, putT, slotsOf, nodupB, valsZ, gk, oN, oE, aNil, aCons, slotT, Arg.get, gets, zs, T.data, gN, gsC, gs0, gT, gS, iV, iZ, iR, seqOf, wipeE, restE, gAdd, gSub, gMul, gFdiv, gMod, gPow, gNeg, gLt, gGt, gLe, gGe, gEq, gNe, gIs, gIsN, isNon, gIx, L2.atI, L2.ixN, gLen, gTup, gLst, gSum, gAll, gAny, gAbs, gMax2, gMin2, gDivmod, gInt, gGcd, isT, gAppend, gInsert, gPop, zip2D, zip3D, enumD, gSl, mRev, gRev, mSS, gSS, gMax, gMin, gMaxS, gMinS, gIn, gNin, mExt, mDR, mDL, mCD, gDLen, gDLst, mD0, mD1, gSD, Arg.raw, e_counts, h.1, h1, h2, str_beq]
theorem e_want_order (w : List Int) (h : Gw w) : m_want_order [.z (ordD w)] = some (.z (ordD w), [some (.z (ordD w))]) := by
  simp [m_want_order, defM, startE, backs, sSeq, sSet, setSl, sRet, sRetN, sNx, sBk, sCt, sNo, sIf, sDrop, sPar, sPar3, sAsg, sFor, bV, bT, bAnd, bOr, bNot, truth, mAnd, mOr, mNot, mIf, mC, mZ, mM, mF, mTup, mLst, mCB, mBin, mUn, mChain, mIsi, mIsi2, mSl, mPt, mLC, mBM, mCallD, mCallK, callM, takeT, putT, slotsOf, nodupB, valsZ, gk, oN, oE, aNil, aCons, slotT, Arg.get, gets, zs, T.data, gN, gsC, gs0, gT, gS, iV, iZ, iR, seqOf, wipeE, restE, gAdd, gSub, gMul, gFdiv, gMod, gPow, gNeg, gLt, gGt, gLe, gGe, gEq, gNe, gIs, gIsN, isNon, gIx, L2.atI, L2.ixN, gLen, gTup, gLst, gSum, gAll, gAny, gAbs, gMax2, gMin2, gDivmod, gInt, gGcd, isT, gAppend, gInsert, gPop, zip2D, zip3D, enumD, gSl, mRev, gRev, mSS, gSS, gMax, gMin, gMaxS, gMinS, gIn, gNin, mExt, mDR, mDL, mCD, gDLen, gDLst, mD0, mD1, gSD, Arg.raw, e_order_value w h]
theorem e_want_monomial (many : Nat) (r : List Int) (h : okM many r = true) : m_want_monomial [.z (.int (many : Nat)), .z (rowD r)] = some (.z (rowD r), [iz many, rz r]) := by
  simp [m_want_monomial, defM, startE, backs, sSeq, sSet, setSl, sRet, sRetN, sNx, sBk, sCt, sNo, sIf, sDrop, sPar, sPar3, sAsg, sFor, bV, bT, bAnd, bOr, bNot, truth, mAnd, mOr, mNot, mIf, mC, mZ, mM, mF, mTup, mLst, mCB, mBin, mUn, mChain, mIsi, mIsi2, mSl, mPt, mLC, mBM, mCallD, mCallK, callM, takeT, putT, slotsOf, nodupB, valsZ, gk, oN, oE, aNil, aCons, slotT, Arg.get, gets, zs, T.data, gN, gsC, gs0, gT, gS, iV, iZ, iR, seqOf, wipeE, restE, gAdd, gSub, gMul, gFdiv, gMod, gPow, gNeg, gLt, gGt, gLe, gGe, gEq, gNe, gIs, gIsN, isNon, gIx, L2.atI, L2.ixN, gLen, gTup, gLst, gSum, gAll, gAny, gAbs, gMax2, gMin2, gDivmod, gInt, gGcd, isT, gAppend, gInsert, gPop, zip2D, zip3D, enumD, gSl, mRev, gRev, mSS, gSS, gMax, gMin, gMaxS, gMinS, gIn, gNin, mExt, mDR, mDL, mCD, gDLen, gDLst, mD0, mD1, gSD, Arg.raw, e_monomial_of, h]
/-! ### keys -/
def dot (x y : List Int) : Int := ((x.zip y).map fun p => p.1 * p.2).sum
def Sm (x : List Int) : Prop := ∀ a ∈ x, a.natAbs < 2 ^ 64
theorem e_key_2 (w r : List Int) (h : Sm w) : l_order_key_2 [rz w, rz r, none, none, none] = some (.l (((w.zip r).map fun p => p.1 * p.2).map .int), [rz w, rz r, none, none, none]) := by
  rw [l_order_key_2, mLC_map (α := Int × Int) (g := fun p => .tuple [.int p.1, .int p.2]) (f := fun p => .int (p.1 * p.2)) (as := w.zip r) (ρ1 := [rz w, rz r, none, none, none])]
  · simp [defM, startE, backs, sSeq, sSet, setSl, sRet, sRetN, sNx, sBk, sCt, sNo, sIf, sDrop, sPar, sPar3, sAsg, sFor, bV, bT, bAnd, bOr, bNot, truth, mAnd, mOr, mNot, mIf, mC, mZ, mM, mF, mTup, mLst, mCB, mBin, mUn, mChain, mIsi, mIsi2, mSl, mPt, mLC, mBM, mCallD, mCallK, callM, takeT, putT, slotsOf, nodupB, valsZ, gk, oN, oE, aNil, aCons, slotT, Arg.get, gets, zs, T.data, gN, gsC, gs0, gT, gS, iV, iZ, iR, seqOf, wipeE, restE, gAdd, gSub, gMul, gFdiv, gMod, gPow, gNeg, gLt, gGt, gLe, gGe, gEq, gNe, gIs, gIsN, isNon, gIx, L2.atI, L2.ixN, gLen, gTup, gLst, gSum, gAll, gAny, gAbs, gMax2, gMin2, gDivmod, gInt, gGcd, isT, gAppend, gInsert, gPop, zip2D, zip3D, enumD, gSl, mRev, gRev, mSS, gSS, gMax, gMin, gMaxS, gMinS, gIn, gNin, mExt, mDR, mDL, mCD, gDLen, gDLst, mD0, mD1, gSD, Arg.raw]
  · simp [defM, startE, backs, sSeq, sSet, setSl, sRet, sRetN, sNx, sBk, sCt, sNo, sIf, sDrop, sPar, sPar3, sAsg, sFor, bV, bT, bAnd, bOr, bNot, truth, mAnd, mOr, mNot, mIf, mC, mZ, mM, mF, mTup, mLst, mCB, mBin, mUn, mChain, mIsi, mIsi2, mSl, mPt, mLC, mBM, mCallD, mCallK, callM, takeT, putT, slotsOf, nodupB, valsZ, gk, oN, oE, aNil, aCons, slotT, Arg.get, gets, zs, T.data, gN, gsC, gs0, gT, gS, iV, iZ, iR, seqOf, wipeE, restE, gAdd, gSub, gMul, gFdiv, gMod, gPow, gNeg, gLt, gGt, gLe, gGe, gEq, gNe, gIs, gIsN, isNon, gIx, L2.atI, L2.ixN, gLen, gTup, gLst, gSum, gAll, gAny, gAbs, gMax2, gMin2, gDivmod, gInt, gGcd, isT, gAppend, gInsert, gPop, zip2D, zip3D, enumD, gSl, mRev, gRev, mSS, gSS, gMax, gMin, gMaxS, gMinS, gIn, gNin, mExt, mDR, mDL, mCD, gDLen, gDLst, mD0, mD1, gSD, Arg.raw, zipW_map, List.zip_map, Function.comp_def]
  · intro a ha
    have hk' : a.1.natAbs < 18446744073709551616 := h _ (List.of_mem_zip (show (a.1, a.2) ∈ w.zip r from ha)).1
    simp [defM, startE, backs, sSeq, sSet, setSl, sRet, sRetN, sNx, sBk, sCt, sNo, sIf, sDrop, sPar, sPar3, sAsg, sFor, bV, bT, bAnd, bOr, bNot, truth, mAnd, mOr, mNot, mIf, mC, mZ, mM, mF, mTup, mLst, mCB, mBin, mUn, mChain, mIsi, mIsi2, mSl, mPt, mLC, mBM, mCallD, mCallK, callM, takeT, putT, slotsOf, nodupB, valsZ, gk, oN, oE, aNil, aCons, slotT, Arg.get, gets, zs, T.data, gN, gsC, gs0, gT, gS, iV, iZ, iR, seqOf, wipeE, restE, gAdd, gSub, gMul, gFdiv, gMod, gPow, gNeg, gLt, gGt, gLe, gGe, gEq, gNe, gIs, gIsN, isNon, gIx, L2.atI, L2.ixN, gLen, gTup, gLst, gSum, gAll, gAny, gAbs, gMax2, gMin2, gDivmod, gInt, gGcd, isT, gAppend, gInsert, gPop, zip2D, zip3D, enumD, gSl, mRev, gRev, mSS, gSS, gMax, gMin, gMaxS, gMinS, gIn, gNin, mExt, mDR, mDL, mCD, gDLen, gDLst, mD0, mD1, gSD, Arg.raw, hk']
theorem e_key_1 (w r : List Int) (c : Option T) : l_order_key_1 [rz w, rz r, c, none, none] = some (.l ((r.reverse.map fun n => -n).map .int), [rz w, rz r, c, none, none]) := by
  rw [l_order_key_1, mLC_map (α := Int) (g := .int) (f := fun n => .int (-n)) (as := r.reverse) (ρ1 := [rz w, rz r, c, none, none])]
  · simp [defM, startE, backs, sSeq, sSet, setSl, sRet, sRetN, sNx, sBk, sCt, sNo, sIf, sDrop, sPar, sPar3, sAsg, sFor, bV, bT, bAnd, bOr, bNot, truth, mAnd, mOr, mNot, mIf, mC, mZ, mM, mF, mTup, mLst, mCB, mBin, mUn, mChain, mIsi, mIsi2, mSl, mPt, mLC, mBM, mCallD, mCallK, callM, takeT, putT, slotsOf, nodupB, valsZ, gk, oN, oE, aNil, aCons, slotT, Arg.get, gets, zs, T.data, gN, gsC, gs0, gT, gS, iV, iZ, iR, seqOf, wipeE, restE, gAdd, gSub, gMul, gFdiv, gMod, gPow, gNeg, gLt, gGt, gLe, gGe, gEq, gNe, gIs, gIsN, isNon, gIx, L2.atI, L2.ixN, gLen, gTup, gLst, gSum, gAll, gAny, gAbs, gMax2, gMin2, gDivmod, gInt, gGcd, isT, gAppend, gInsert, gPop, zip2D, zip3D, enumD, gSl, mRev, gRev, mSS, gSS, gMax, gMin, gMaxS, gMinS, gIn, gNin, mExt, mDR, mDL, mCD, gDLen, gDLst, mD0, mD1, gSD, Arg.raw]
  · simp [defM, startE, backs, sSeq, sSet, setSl, sRet, sRetN, sNx, sBk, sCt, sNo, sIf, sDrop, sPar, sPar3, sAsg, sFor, bV, bT, bAnd, bOr, bNot, truth, mAnd, mOr, mNot, mIf, mC, mZ, mM, mF, mTup, mLst, mCB, mBin, mUn, mChain, mIsi, mIsi2, mSl, mPt, mLC, mBM, mCallD, mCallK, callM, takeT, putT, slotsOf, nodupB, valsZ, gk, oN, oE, aNil, aCons, slotT, Arg.get, gets, zs, T.data, gN, gsC, gs0, gT, gS, iV, iZ, iR, seqOf, wipeE, restE, gAdd, gSub, gMul, gFdiv, gMod, gPow, gNeg, gLt, gGt, gLe, gGe, gEq, gNe, gIs, gIsN, isNon, gIx, L2.atI, L2.ixN, gLen, gTup, gLst, gSum, gAll, gAny, gAbs, gMax2, gMin2, gDivmod, gInt, gGcd, isT, gAppend, gInsert, gPop, zip2D, zip3D, enumD, gSl, mRev, gRev, mSS, gSS, gMax, gMin, gMaxS, gMinS, gIn, gNin, mExt, mDR, mDL, mCD, gDLen, gDLst, mD0, mD1, gSD, Arg.raw]
  · intro a _; rfl
/-- the key, flat -/
def fk (w r : List Int) : List Int := dot w r :: r.sum :: r.reverse.map fun n => -n
abbrev keyD (w r : List Int) : D := .tuple [.int (dot w r), .int r.sum, rowD (r.reverse.map fun n => -n)]
theorem e_order_key (w r : List Int) (h : Sm w) : m_order_key [.z (rowD w), .z (rowD r)] = some (.z (keyD w r), [rz w, rz r]) := by
  have e2 := e_key_2 w r h
  have e1 := e_key_1 w r (iz (dot w r))
  simp only [List.map_map, Function.comp_def, dot] at e1 e2
  simp [m_order_key, defM, startE, backs, sSeq, sSet, setSl, sRet, sRetN, sNx, sBk, sCt, sNo, sIf, sDrop, sPar, sPar3, sAsg, sFor, bV, bT, bAnd, bOr, bNot, truth, mAnd, mOr, mNot, mIf, mC, mZ, mM, mF, mTup, mLst, mCB, mBin, mUn, mChain, mIsi, mIsi2, mSl, mPt, mLC, mBM, mCallD, mCallK, callM, takeT, putT, slotsOf, nodupB, valsZ, gk, oN, oE, aNil, aCons, slotT, Arg.get, gets, zs, T.data, gN, gsC, gs0, gT, gS, iV, iZ, iR, seqOf, wipeE, restE, gAdd, gSub, gMul, gFdiv, gMod, gPow, gNeg, gLt, gGt, gLe, gGe, gEq, gNe, gIs, gIsN, isNon, gIx, L2.atI, L2.ixN, gLen, gTup, gLst, gSum, gAll, gAny, gAbs, gMax2, gMin2, gDivmod, gInt, gGcd, isT, gAppend, gInsert, gPop, zip2D, zip3D, enumD, gSl, mRev, gRev, mSS, gSS, gMax, gMin, gMaxS, gMinS, gIn, gNin, mExt, mDR, mDL, mCD, gDLen, gDLst, mD0, mD1, gSD, Arg.raw, e1, e2, ints?_map, ints?_ints, Function.comp_def, dot, keyD]
theorem lt_key (w a b : List Int) : PySem.W.dataLt (keyD w a) (keyD w b) = ltI (fk w a) (fk w b) := by
  unfold fk
  rw [PySem.W.dataLt_tuple, lt_cons_int, lt_cons_int, lt_cons_row]
  simp only [ltI]
  by_cases h1 : dot w a = dot w b
  · by_cases h2 : a.sum = b.sum
    · rw [if_pos h1, if_pos h2, if_pos h1, if_pos h2]
      by_cases h3 : (a.reverse.map fun n => -n) = (b.reverse.map fun n => -n)
      · rw [if_pos h3, h3, ltI_irr]; rfl
      · rw [if_neg h3]
    · rw [if_pos h1, if_neg h2, if_pos h1, if_neg h2]
  · rw [if_neg h1, if_neg h1]
theorem alike_key (w a b : List Int) : PySem.W.alike (keyD w a) (keyD w b) = true := by
  unfold PySem.W.alike
  have h := alikeAll_ints (a.reverse.map fun n => -n) (b.reverse.map fun n => -n)
  simp only [PySem.W.alikeAll, h, Bool.and_true]
  rfl
theorem depth_key (w a : List Int) : PyData.depth (keyD w a) = 2 := by
  show PyData.depthAll [.int (dot w a), .int a.sum, rowD _] + 1 = 2
  simp only [PyData.depthAll, PyData.depth, depth_ints0]
  rfl
theorem gt_key (w a b : List Int) : gGt (keyD w a) (keyD w b) = bo (ltI (fk w b) (fk w a)) := by
  have c : PySem.W.alike (keyD w a) (keyD w b) = true ∧ isNon (keyD w a) = false ∧ min (PyData.depth (keyD w a)) (PyData.depth (keyD w b)) ≤ 60 := ⟨alike_key w a b, rfl, by rw [depth_key, depth_key]; decide⟩
  show (if PySem.W.alike (keyD w a) (keyD w b) = true ∧ isNon (keyD w a) = false ∧ min (PyData.depth (keyD w a)) (PyData.depth (keyD w b)) ≤ 60 then bo (PySem.W.dataLt (keyD w b) (keyD w a)) else none) = _
  rw [if_pos c, lt_key]
theorem e_is_greater (w a b : List Int) (h : Sm w) : m_is_greater [.z (rowD w), .z (rowD a), .z (rowD b)] = some (.z (.bool (ltI (fk w b) (fk w a))), [rz w, rz a, rz b]) := by
  have ea := e_order_key w a h
  have eb := e_order_key w b h
  have g := gt_key w a b
  generalize keyD w a = A at *
  generalize keyD w b = B at *
  simp [m_is_greater, defM, startE, backs, sRet, mBin, oE, mCallD, callM, takeT, putT, slotsOf, nodupB, aCons, aNil, mZ, slotT, Arg.get, T.data, ea, eb, g]
/-! ### greater, rules -/
theorem e_greater (w a b : List Int) (hw : Gw w) (h : Sm w) (ha : okM w.length a = true) (hb : okM w.length b = true) (hne : a ≠ b) : m_greater [.z (ordD w), .z (rowD a), .z (rowD b)] = some (.z (.int (if ltI (fk w b) (fk w a) = true then 1 else -1)), [some (.z (ordD w)), rz a, rz b]) := by
  have eq := eq_row a b
  rw [decide_eq_false hne] at eq
  have e1 := e_want_order w hw
  have e2 := e_want_monomial w.length a ha
  have e3 := e_want_monomial w.length b hb
  have eg := e_is_greater w a b h
  cases hg : ltI (fk w b) (fk w a) <;> simp only [hg] at eg <;>
  simp [m_greater, k_greater_1, k_greater_2, k_greater_3, k_greater_4, k_greater_5, defM, startE, backs, sSeq, sSet, setSl, sRet, sRetN, sNx, sBk, sCt, sNo, sIf, sDrop, sPar, sPar3, sAsg, sFor, bV, bT, bAnd, bOr, bNot, truth, mAnd, mOr, mNot, mIf, mC, mZ, mM, mF, mTup, mLst, mCB, mBin, mUn, mChain, mIsi, mIsi2, mSl, mPt, mLC, mBM, mCallD, mCallK, callM, takeT, putT, slotsOf, nodupB, valsZ, gk, oN, oE, aNil, aCons, slotT, Arg.get, gets, zs, T.data, gN, gsC, gs0, gT, gS, iV, iZ, iR, seqOf, wipeE, restE, gAdd, gSub, gMul, gFdiv, gMod, gPow, gNeg, gLt, gGt, gLe, gGe, gEq, gNe, gIs, gIsN, isNon, gIx, L2.atI, L2.ixN, gLen, gTup, gLst, gSum, gAll, gAny, gAbs, gMax2, gMin2, gDivmod, gInt, gGcd, isT, gAppend, gInsert, gPop, zip2D, zip3D, enumD, gSl, mRev, gRev, mSS, gSS, gMax, gMin, gMaxS, gMinS, gIn, gNin, mExt, mDR, mDL, mCD, gDLen, gDLst, mD0, mD1, gSD, Arg.raw, e1, e2, e3, eg, shaped_row, eqv_row, hne]
theorem ltI_asym {a b : List Int} (h : ltI a b = true) : ltI b a = false := by
  cases g : ltI b a with
  | false => rfl
  | true => have := ltI_trans _ _ _ h g; rw [ltI_irr] at this; cases this
theorem fk_inj {w a b : List Int} (h : fk w a = fk w b) : a = b := by
  simp only [fk, List.cons.injEq] at h
  have := List.map_inj_right (f := fun n : Int => -n) (by intro x y h; omega) |>.1 h.2.2
  exact List.reverse_inj.1 this
theorem e_greater' (w a b : List Int) (hw : Gw w) (h : Sm w) (ha : okM w.length a = true) (hb : okM w.length b = true) : m_greater [.z (ordD w), .z (rowD a), .z (rowD b)] = some (.z (.int (if a = b then 0 else if ltI (fk w b) (fk w a) = true then 1 else -1)), [some (.z (ordD w)), rz a, rz b]) := by
  by_cases e : a = b
  · subst e
    have e1 := e_want_order w hw
    have e2 := e_want_monomial w.length a ha
    simp [m_greater, k_greater_1, k_greater_2, k_greater_3, k_greater_4, k_greater_5, defM, startE, backs, sSeq, sSet, setSl, sRet, sRetN, sNx, sBk, sCt, sNo, sIf, sDrop, sPar, sPar3, sAsg, sFor, bV, bT, bAnd, bOr, bNot, truth, mAnd, mOr, mNot, mIf, mC, mZ, mM, mF, mTup, mLst, mCB, mBin, mUn, mChain, mIsi, mIsi2, mSl, mPt, mLC, mBM, mCallD, mCallK, callM, takeT, putT, slotsOf, nodupB, valsZ, gk, oN, oE, aNil, aCons, slotT, Arg.get, gets, zs, T.data, gN, gsC, gs0, gT, gS, iV, iZ, iR, seqOf, wipeE, restE, gAdd, gSub, gMul, gFdiv, gMod, gPow, gNeg, gLt, gGt, gLe, gGe, gEq, gNe, gIs, gIsN, isNon, gIx, L2.atI, L2.ixN, gLen, gTup, gLst, gSum, gAll, gAny, gAbs, gMax2, gMin2, gDivmod, gInt, gGcd, isT, gAppend, gInsert, gPop, zip2D, zip3D, enumD, gSl, mRev, gRev, mSS, gSS, gMax, gMin, gMaxS, gMinS, gIn, gNin, mExt, mDR, mDL, mCD, gDLen, gDLst, mD0, mD1, gSD, Arg.raw, e1, e2, shaped_row, eqv_row]
  · rw [if_neg e]; exact e_greater w a b hw h ha hb e
end My

set_option Elab.async false
set_option maxRecDepth 100000
set_option linter.all false
set_option maxHeartbeats 1000000
namespace My
open PySem VL
theorem nkey_key (w r : List Int) : nkey (keyD w r) = some (.tup [.num (dot w r), .num r.sum, .tup ((r.reverse.map fun n => -n).map .num)]) := by
  show (nkeys [.int (dot w r), .int r.sum, rowD (r.reverse.map fun n => -n)]).map NestedKey.tup = _
  have e : nkeys [.int (dot w r), .int r.sum, rowD (r.reverse.map fun n => -n)] = some [.num (dot w r), .num r.sum, .tup ((r.reverse.map fun n => -n).map .num)] := by
    show ((nkey (.int (dot w r))).bind fun k => ((nkey (.int r.sum)).bind fun k => ((nkey (rowD (r.reverse.map fun n => -n))).bind fun k => (some []).map fun ks => k :: ks).map fun ks => k :: ks).map fun ks => k :: ks) = _
    rw [nkey_row]; rfl
  rw [e]; rfl
def kF (w : List Int) : KeyF (keyD w) where
  nk := fun r => .tup [.num (dot w r), .num r.sum, .tup ((r.reverse.map fun n => -n).map .num)]
  spec := nkey_key w
  inj := fun a b h => by
    injection h with h
    injection h with h1 h
    injection h with h2 h
    injection h with h3 h
    injection h1 with h1
    injection h2 with h2
    injection h3 with h3
    exact fk_inj (w := w) (by simp only [fk]; rw [h1, h2, num_inj h3])
  cls := fun r => kcls_of (nkey_key w r) (by
    show max 0 (max 0 (max (NestedKey.depthAll ((r.reverse.map fun n => -n).map .num) + 1) 0)) + 1 ≤ 8
    rw [depthAll_num]; decide)
def leK (w a b : List Int) : Bool := !ltI (fk w b) (fk w a)
def srtK (w : List Int) (l : List (List Int)) : List (List Int) := l.mergeSort (leK w)
theorem leD_key (w a b : List Int) : leD (keyD w a) (keyD w b) = leK w a b := by unfold leD leK; rw [lt_key]
theorem sorted_keys (w : List Int) (l : List (List Int)) (hn : l.length ≤ 100000) : gSorted [.list (l.map (keyD w))] = some (.l ((srtK w l).map (keyD w))) := by
  have c : canSort (l.map (keyD w)) = true := by
    unfold canSort
    simp only [Bool.and_eq_true, Bool.or_eq_true, List.all_eq_true, List.mem_map, decide_eq_true_eq, List.length_map]
    refine ⟨⟨⟨?_, .inl ?_⟩, ?_⟩, hn⟩
    · rintro _ ⟨p, _, rfl⟩ _ ⟨q, _, rfl⟩; exact alike_key w p q
    · rintro _ ⟨p, _, rfl⟩; rfl
    · rintro _ ⟨p, _, rfl⟩; rw [depth_key]; decide
  show (if canSort (l.map (keyD w)) = true then some (T.l ((l.map (keyD w)).mergeSort leD)) else none) = _
  rw [if_pos c, srtK, List.map_mergeSort (s := leD) (fun a _ b _ => (leD_key w a b).symm)]
abbrev dk (w : List Int) (u : List (List Int)) : Option T := some (.dc (aD (keyD w) (u.map fun r => (r, rowD r))))
theorem e_sb_1 (O M : Option T) (w : List Int) (l : List (List Int)) (d : D) (hd : seqOf d = some (l.map rowD)) (h : Sm w) (ok : ∀ r ∈ l, okM w.length r = true) (hl : l.length ≤ 400) :
    ∃ c, l_sorted_by_1 [O, some (.z d), rz w, dk w [], none, none] = some (.nx, [O, some (.z d), rz w, dk w (uniq l), c, none]) := by
  obtain ⟨c', e, _⟩ := sFor_fold (mi := iV (mZ 1)) (mg := gN 4) (mb := sSeq
    (sDrop (mCallD m_want_monomial [false, false] [] (aCons (oE (mCB gLen (aCons (oN 2) aNil))) (aCons (oE (mZ 4)) aNil))))
    (sAsg (mZ 4) (gSD 3 (oE (mCallD m_order_key [false, false] [] (aCons (oE (mZ 2)) (aCons (oE (mZ 4)) aNil))))))) (ρ := [O, some (.z d), rz w, dk w [], none, none]) rowD (fun (b : List (List Int)) (c : Option T) => [O, some (.z d), rz w, dk w b, c, none]) addU (fun n b => b.length ≤ n) l [] none
    (by show (seqOf d).map _ = _; rw [hd]; rfl) (by simp) (by
      intro r hr n b c hn hb
      refine ⟨Nat.le_trans (addU_len b r) (by omega), some (.z (rowD r)), ?_⟩
      have e1 := e_want_monomial w.length r (ok r hr)
      have e2 := e_order_key w r h
      have e3 := (kF w).gSet r (rowD r) (b.map fun r => (r, rowD r)) (by simp; omega)
      rw [addU_put rowD] at e3
      simp only [dk]
      generalize aD (keyD w) (b.map fun r => (r, rowD r)) = A at *
      generalize aD (keyD w) ((addU b r).map fun r => (r, rowD r)) = B at *
      generalize keyD w r = K at *
      simp [defM, startE, backs, sSeq, sSet, setSl, sRet, sRetN, sNx, sBk, sCt, sNo, sIf, sDrop, sPar, sPar3, sAsg, sFor, bV, bT, bAnd, bOr, bNot, truth, mAnd, mOr, mNot, mIf, mC, mZ, mM, mF, mTup, mLst, mCB, mBin, mUn, mChain, mIsi, mIsi2, mSl, mPt, mLC, mBM, mCallD, mCallK, callM, takeT, putT, slotsOf, nodupB, valsZ, gk, oN, oE, aNil, aCons, slotT, Arg.get, gets, zs, T.data, gN, gsC, gs0, gT, gS, iV, iZ, iR, seqOf, wipeE, restE, gAdd, gSub, gMul, gFdiv, gMod, gPow, gNeg, gLt, gGt, gLe, gGe, gEq, gNe, gIs, gIsN, isNon, gIx, L2.atI, L2.ixN, gLen, gTup, gLst, gSum, gAll, gAny, gAbs, gMax2, gMin2, gDivmod, gInt, gGcd, isT, gAppend, gInsert, gPop, zip2D, zip3D, enumD, gSl, mRev, gRev, mSS, gSS, gMax, gMin, gMaxS, gMinS, gIn, gNin, mExt, mDR, mDL, mCD, gDLen, gDLst, mD0, mD1, gSD, Arg.raw, e1, e2, e3])
  exact ⟨c', e⟩
theorem e_sb_2 (O M c : Option T) (w : List Int) (u : List (List Int)) (hn : u.length < 100000) : l_sorted_by_2 [O, M, rz w, dk w u, c, none] = some (.l ((srtK w u).map rowD), [O, M, rz w, dk w u, c, none]) := by
  have s := sorted_keys w u (by omega)
  have e0 : (aD (keyD w) (u.map fun r => (r, rowD r))).map (·.1) = u.map (keyD w) := by simp [aD]
  have e1 : (aD (keyD w) (u.map fun r => (r, rowD r))).length = u.length := by simp [aD]
  have gi : ∀ r ∈ srtK w u, gDIx (aD (keyD w) (u.map fun r => (r, rowD r))) (keyD w r) = some (.z (rowD r)) := by
    intro r hr
    rw [(kF w).gIx, aget_of rowD ((List.mergeSort_perm u (leK w)).mem_iff.mp hr)]; rfl
  simp only [dk] at *
  generalize aD (keyD w) (u.map fun r => (r, rowD r)) = A at *
  rw [l_sorted_by_2, mLC_map (α := List Int) (g := keyD w) (f := rowD) (as := srtK w u) (ρ1 := [O, M, rz w, some (.dc A), c, none])]
  · simp [defM, startE, backs, sSeq, sSet, setSl, sRet, sRetN, sNx, sBk, sCt, sNo, sIf, sDrop, sPar, sPar3, sAsg, sFor, bV, bT, bAnd, bOr, bNot, truth, mAnd, mOr, mNot, mIf, mC, mZ, mM, mF, mTup, mLst, mCB, mBin, mUn, mChain, mIsi, mIsi2, mSl, mPt, mLC, mBM, mCallD, mCallK, callM, takeT, putT, slotsOf, nodupB, valsZ, gk, oN, oE, aNil, aCons, slotT, Arg.get, gets, zs, T.data, gN, gsC, gs0, gT, gS, iV, iZ, iR, seqOf, wipeE, restE, gAdd, gSub, gMul, gFdiv, gMod, gPow, gNeg, gLt, gGt, gLe, gGe, gEq, gNe, gIs, gIsN, isNon, gIx, L2.atI, L2.ixN, gLen, gTup, gLst, gSum, gAll, gAny, gAbs, gMax2, gMin2, gDivmod, gInt, gGcd, isT, gAppend, gInsert, gPop, zip2D, zip3D, enumD, gSl, mRev, gRev, mSS, gSS, gMax, gMin, gMaxS, gMinS, gIn, gNin, mExt, mDR, mDL, mCD, gDLen, gDLst, mD0, mD1, gSD, Arg.raw]
  · simp [defM, startE, backs, sSeq, sSet, setSl, sRet, sRetN, sNx, sBk, sCt, sNo, sIf, sDrop, sPar, sPar3, sAsg, sFor, bV, bT, bAnd, bOr, bNot, truth, mAnd, mOr, mNot, mIf, mC, mZ, mM, mF, mTup, mLst, mCB, mBin, mUn, mChain, mIsi, mIsi2, mSl, mPt, mLC, mBM, mCallD, mCallK, callM, takeT, putT, slotsOf, nodupB, valsZ, gk, oN, oE, aNil, aCons, slotT, Arg.get, gets, zs, T.data, gN, gsC, gs0, gT, gS, iV, iZ, iR, seqOf, wipeE, restE, gAdd, gSub, gMul, gFdiv, gMod, gPow, gNeg, gLt, gGt, gLe, gGe, gEq, gNe, gIs, gIsN, isNon, gIx, L2.atI, L2.ixN, gLen, gTup, gLst, gSum, gAll, gAny, gAbs, gMax2, gMin2, gDivmod, gInt, gGcd, isT, gAppend, gInsert, gPop, zip2D, zip3D, enumD, gSl, mRev, gRev, mSS, gSS, gMax, gMin, gMaxS, gMinS, gIn, gNin, mExt, mDR, mDL, mCD, gDLen, gDLst, mD0, mD1, gSD, Arg.raw, e0, e1, hn, s]
  · intro r hr
    have := gi r hr
    generalize keyD w r = K at *
    simp [defM, startE, backs, sSeq, sSet, setSl, sRet, sRetN, sNx, sBk, sCt, sNo, sIf, sDrop, sPar, sPar3, sAsg, sFor, bV, bT, bAnd, bOr, bNot, truth, mAnd, mOr, mNot, mIf, mC, mZ, mM, mF, mTup, mLst, mCB, mBin, mUn, mChain, mIsi, mIsi2, mSl, mPt, mLC, mBM, mCallD, mCallK, callM, takeT, putT, slotsOf, nodupB, valsZ, gk, oN, oE, aNil, aCons, slotT, Arg.get, gets, zs, T.data, gN, gsC, gs0, gT, gS, iV, iZ, iR, seqOf, wipeE, restE, gAdd, gSub, gMul, gFdiv, gMod, gPow, gNeg, gLt, gGt, gLe, gGe, gEq, gNe, gIs, gIsN, isNon, gIx, L2.atI, L2.ixN, gLen, gTup, gLst, gSum, gAll, gAny, gAbs, gMax2, gMin2, gDivmod, gInt, gGcd, isT, gAppend, gInsert, gPop, zip2D, zip3D, enumD, gSl, mRev, gRev, mSS, gSS, gMax, gMin, gMaxS, gMinS, gIn, gNin, mExt, mDR, mDL, mCD, gDLen, gDLst, mD0, mD1, gSD, Arg.raw, this]
theorem e_sorted_by (w : List Int) (l : List (List Int)) (d : D) (hd : d = .list (l.map rowD) ∨ d = .tuple (l.map rowD)) (hw : Gw w) (h : Sm w) (ok : ∀ r ∈ l, okM w.length r = true) (hl : l.length ≤ 400) :
    m_sorted_by [.z (ordD w), .z d] = some (.l ((srtK w (uniq l)).map rowD), [some (.z (ordD w)), some (.z d)]) := by
  have e1 := e_want_order w hw
  have hs : seqOf d = some (l.map rowD) := by rcases hd with rfl | rfl <;> rfl
  obtain ⟨c, e2⟩ := e_sb_1 (some (.z (ordD w))) none w l d hs h ok hl
  have hu : (uniq l).length ≤ 400 := by
    have : ∀ (l s : List (List Int)), (l.foldl addU s).length ≤ s.length + l.length := by
      intro l
      induction l with
      | nil => intro s; simp
      | cons a l ih => intro s; have := ih (addU s a); have := addU_len s a; simp at *; omega
    have := this l []
    simp at this
    exact Nat.le_trans this hl
  have e3 := e_sb_2 (some (.z (ordD w))) (some (.z d)) c w (uniq l) (by omega)
  have hl' : ¬ ((l.length : Int) > 400) := by omega
  have il : m_is_list [.z d] = some (.z (.bool true), [some (.z d)]) := by
    rcases hd with rfl | rfl <;> simp [m_is_list, defM, startE, backs, sSeq, sSet, setSl, sRet, sRetN, sNx, sBk, sCt, sNo, sIf, sDrop, sPar, sPar3, sAsg, sFor, bV, bT, bAnd, bOr, bNot, truth, mAnd, mOr, mNot, mIf, mC, mZ, mM, mF, mTup, mLst, mCB, mBin, mUn, mChain, mIsi, mIsi2, mSl, mPt, mLC, mBM, mCallD, mCallK, callM, takeT, putT, slotsOf, nodupB, valsZ, gk, oN, oE, aNil, aCons, slotT, Arg.get, gets, zs, T.data, gN, gsC, gs0, gT, gS, iV, iZ, iR, seqOf, wipeE, restE, gAdd, gSub, gMul, gFdiv, gMod, gPow, gNeg, gLt, gGt, gLe, gGe, gEq, gNe, gIs, gIsN, isNon, gIx, L2.atI, L2.ixN, gLen, gTup, gLst, gSum, gAll, gAny, gAbs, gMax2, gMin2, gDivmod, gInt, gGcd, isT, gAppend, gInsert, gPop, zip2D, zip3D, enumD, gSl, mRev, gRev, mSS, gSS, gMax, gMin, gMaxS, gMinS, gIn, gNin, mExt, mDR, mDL, mCD, gDLen, gDLst, mD0, mD1, gSD, Arg.raw]
  have ln : gLen [d] = some (.z (.int (l.length : Nat))) := by
    rcases hd with rfl | rfl <;> simp [gLen]
  have dk0 : dk w [] = some (.dc []) := rfl
  rw [dk0] at e2
  clear hd hs
  generalize dk w (uniq l) = A at *
  simp [m_sorted_by, k_sorted_by_1, k_sorted_by_2, k_sorted_by_3, k_sorted_by_5, defM, startE, backs, sSeq, sSet, setSl, sRet, sNx, sNo, sIf, sDrop, bV, bT, bOr, bNot, truth, mC, mZ, mCB, mBin, mCallD, callM, takeT, putT, slotsOf, nodupB, oN, oE, aNil, aCons, slotT, Arg.get, gets, T.data, gIx, L2.atI, L2.ixN, gGt, bo, mD0, e1, e2, e3, il, ln, hl']
end My

set_option Elab.async false
set_option maxRecDepth 100000
set_option linter.all false
set_option maxHeartbeats 1000000
namespace My
open PySem VL
def dif (w a b : List Int) : Int := ((w.zip (a.zip b)).map fun p => p.1 * (p.2.1 - p.2.2)).sum
def unl (a b : List Int) : List Int := ((a.zip b).filter fun p => decide (p.1 ≠ p.2)).map fun p => p.2 - p.1
abbrev nr (a : List Int) : List Int := a.reverse.map fun n => -n
theorem dif_eq : ∀ w a b : List Int, a.length = w.length → b.length = w.length → dif w a b = dot w a - dot w b
  | [], _, _, _, _ => by simp [dif, dot]
  | x :: w, [], _, h, _ => by simp at h
  | x :: w, _ :: _, [], _, h => by simp at h
  | x :: w, y :: a, z :: b, h1, h2 => by
    have ih := dif_eq w a b (by simpa using h1) (by simpa using h2)
    unfold dif dot at *
    simp only [List.zip_cons_cons, List.map_cons, List.sum_cons]
    rw [ih, Int.mul_sub]; omega
theorem ltI_snoc {x y : Int} : ∀ {u v : List Int}, u.length = v.length → ltI (u ++ [x]) (v ++ [y]) = if u = v then decide (x < y) else ltI u v
  | [], [], _ => by
    simp only [List.nil_append, if_true, ltI]
    by_cases h : x = y
    · subst h; simp
    · rw [if_neg h]
  | [], _ :: _, h => by simp at h
  | _ :: _, [], h => by simp at h
  | p :: u, q :: v, h => by
    have ih := ltI_snoc (x := x) (y := y) (u := u) (v := v) (by simpa using h)
    simp only [List.cons_append, ltI, ih]
    by_cases e : p = q
    · subst e
      by_cases e2 : u = v
      · subst e2; simp
      · simp [e2]
    · simp [e]
theorem unl_nil : ∀ {a b : List Int}, a.length = b.length → (unl a b = [] ↔ a = b)
  | [], [], _ => by simp [unl]
  | [], _ :: _, h => by simp at h
  | _ :: _, [], h => by simp at h
  | x :: a, y :: b, h => by
    have ih := unl_nil (a := a) (b := b) (by simpa using h)
    unfold unl at *
    by_cases e : x = y
    · subst e
      simpa using ih
    · simp [e]
theorem last_sign : ∀ {a b : List Int}, a.length = b.length → ∀ {l : List Int} {d : Int}, unl a b = l ++ [d] → ltI (nr b) (nr a) = decide (0 < d) ∧ d ≠ 0
  | [], [], _, l, d, e => by simp [unl] at e
  | [], _ :: _, h, _, _, _ => by simp at h
  | _ :: _, [], h, _, _, _ => by simp at h
  | x :: a, y :: b, h, l, d, e => by
    have h' : a.length = b.length := by simpa using h
    have sn : ltI (nr (y :: b)) (nr (x :: a)) = if nr b = nr a then decide (-y < -x) else ltI (nr b) (nr a) := by
      simp only [nr, List.reverse_cons, List.map_append, List.map_cons, List.map_nil]
      exact ltI_snoc (by simp [h'])
    have inj : nr b = nr a ↔ a = b := by
      constructor
      · intro q
        have := List.map_inj_right (f := fun n : Int => -n) (by intro x y h; omega) |>.1 q
        exact (List.reverse_inj.1 this).symm
      · rintro rfl; rfl
    have un : unl (x :: a) (y :: b) = if x = y then unl a b else (y - x) :: unl a b := by
      unfold unl
      by_cases q : x = y <;> simp [q]
    rw [sn]
    by_cases ab : a = b
    · rw [if_pos (inj.mpr ab)]
      have u0 : unl a b = [] := (unl_nil h').mpr ab
      rw [un, u0] at e
      by_cases q : x = y
      · rw [if_pos q] at e; simp at e
      · rw [if_neg q] at e
        have := List.append_inj_right' (s₁ := []) (s₂ := l) (t₁ := [y - x]) (t₂ := [d]) (by simpa using e) rfl
        have hd : y - x = d := by simpa using this
        refine ⟨?_, by omega⟩
        rw [← hd, decide_eq_decide]; omega
    · rw [if_neg (fun z => ab (inj.mp z))]
      cases hu : unl a b with
      | nil => exact absurd ((unl_nil h').mp hu) ab
      | cons z zs =>
        rw [un] at e
        by_cases q : x = y
        · rw [if_pos q] at e
          exact last_sign h' e
        · rw [if_neg q] at e
          cases l with
          | nil => rw [hu] at e; simp at e
          | cons p l =>
            rw [List.cons_append] at e
            injection e with e1 e2
            exact last_sign h' e2
def more (w a b : List Int) : Int :=
  let m1 := if dif w a b = 0 then a.sum - b.sum else dif w a b
  if m1 = 0 ∧ unl a b ≠ [] then (unl a b).getLastD 0 else m1
def cmpR (w a b : List Int) : Int := if a = b then 0 else if ltI (fk w b) (fk w a) = true then 1 else -1
theorem more_sign {w a b : List Int} (h1 : a.length = w.length) (h2 : b.length = w.length) : (if more w a b > 0 then (1 : Int) else 0) - (if more w a b < 0 then 1 else 0) = cmpR w a b := by
  have hd := dif_eq w a b h1 h2
  have hl : a.length = b.length := by omega
  have lf : ltI (fk w b) (fk w a) = if dot w b = dot w a then (if b.sum = a.sum then ltI (nr b) (nr a) else decide (b.sum < a.sum)) else decide (dot w b < dot w a) := by
    simp only [fk, ltI]
  unfold cmpR
  by_cases ab : a = b
  · subst ab
    have u0 : unl a a = [] := (unl_nil rfl).mpr rfl
    have : more w a a = 0 := by
      unfold more
      rw [hd, u0]; simp
    rw [this]; simp
  · rw [if_neg ab, lf]
    cases hu : unl a b with
    | nil => exact absurd ((unl_nil hl).mp hu) ab
    | cons z zs =>
      obtain ⟨l, d, hs⟩ : ∃ l d, unl a b = l ++ [d] := by
        rcases List.eq_nil_or_concat (unl a b) with q | ⟨l, d, q⟩
        · rw [q] at hu; cases hu
        · exact ⟨l, d, by simpa using q⟩
      obtain ⟨s1, s2⟩ := last_sign hl hs
      have gl : (unl a b).getLastD 0 = d := by rw [hs]; simp
      have ne : unl a b ≠ [] := by rw [hu]; simp
      unfold more
      rw [hd, gl, s1]
      by_cases c1 : dot w b = dot w a
      · rw [if_pos c1, if_pos (show dot w a - dot w b = 0 by omega)]
        by_cases c2 : b.sum = a.sum
        · rw [if_pos c2]
          simp only [ne, show a.sum - b.sum = 0 by omega, ne_eq, not_false_iff, and_self, if_true]
          by_cases c3 : 0 < d
          · simp [c3, show ¬ d < 0 by omega]
          · simp [c3, show d < 0 by omega]
        · rw [if_neg c2]
          simp only [show ¬ (a.sum - b.sum = 0) by omega, false_and, if_false]
          by_cases c3 : b.sum < a.sum
          · simp [c3, show ¬ a.sum - b.sum < 0 by omega, show a.sum - b.sum > 0 by omega]
          · simp [c3, show a.sum - b.sum < 0 by omega, show ¬ a.sum - b.sum > 0 by omega]
      · rw [if_neg c1, if_neg (show ¬ (dot w a - dot w b = 0) by omega)]
        simp only [show ¬ (dot w a - dot w b = 0) by omega, false_and, if_false]
        by_cases c3 : dot w b < dot w a
        · simp [c3, show ¬ dot w a - dot w b < 0 by omega, show dot w a - dot w b > 0 by omega]
        · simp [c3, show dot w a - dot w b < 0 by omega, show ¬ dot w a - dot w b > 0 by omega]
end My

set_option Elab.async false
set_option maxRecDepth 100000
set_option linter.all false
set_option maxHeartbeats 1000000
namespace My
open PySem VL
theorem e_cmp_1 (c3 c4 : Option T) (w a b : List Int) (h : Sm w) : l_L_compared_1 [rz w, rz a, rz b, c3, c4, none, none, none] = some (.l (((w.zip (a.zip b)).map fun p => p.1 * (p.2.1 - p.2.2)).map .int), [rz w, rz a, rz b, c3, c4, none, none, none]) := by
  rw [l_L_compared_1, mLC_map (α := Int × Int × Int) (g := fun p => .tuple [.int p.1, .int p.2.1, .int p.2.2]) (f := fun p => .int (p.1 * (p.2.1 - p.2.2))) (as := w.zip (a.zip b)) (ρ1 := [rz w, rz a, rz b, c3, c4, none, none, none])]
  · simp [defM, startE, backs, sSeq, sSet, setSl, sRet, sRetN, sNx, sBk, sCt, sNo, sIf, sDrop, sPar, sPar3, sAsg, sFor, bV, bT, bAnd, bOr, bNot, truth, mAnd, mOr, mNot, mIf, mC, mZ, mM, mF, mTup, mLst, mCB, mBin, mUn, mChain, mIsi, mIsi2, mSl, mPt, mLC, mBM, mCallD, mCallK, callM, takeT, putT, slotsOf, nodupB, valsZ, gk, oN, oE, aNil, aCons, slotT, Arg.get, gets, zs, T.data, gN, gsC, gs0, gT, gS, iV, iZ, iR, seqOf, wipeE, restE, gAdd, gSub, gMul, gFdiv, gMod, gPow, gNeg, gLt, gGt, gLe, gGe, gEq, gNe, gIs, gIsN, isNon, gIx, L2.atI, L2.ixN, gLen, gTup, gLst, gSum, gAll, gAny, gAbs, gMax2, gMin2, gDivmod, gInt, gGcd, isT, gAppend, gInsert, gPop, zip2D, zip3D, enumD, gSl, mRev, gRev, mSS, gSS, gMax, gMin, gMaxS, gMinS, gIn, gNin, mExt, mDR, mDL, mCD, gDLen, gDLst, mD0, mD1, gSD, Arg.raw]
  · simp [defM, startE, backs, sSeq, sSet, setSl, sRet, sRetN, sNx, sBk, sCt, sNo, sIf, sDrop, sPar, sPar3, sAsg, sFor, bV, bT, bAnd, bOr, bNot, truth, mAnd, mOr, mNot, mIf, mC, mZ, mM, mF, mTup, mLst, mCB, mBin, mUn, mChain, mIsi, mIsi2, mSl, mPt, mLC, mBM, mCallD, mCallK, callM, takeT, putT, slotsOf, nodupB, valsZ, gk, oN, oE, aNil, aCons, slotT, Arg.get, gets, zs, T.data, gN, gsC, gs0, gT, gS, iV, iZ, iR, seqOf, wipeE, restE, gAdd, gSub, gMul, gFdiv, gMod, gPow, gNeg, gLt, gGt, gLe, gGe, gEq, gNe, gIs, gIsN, isNon, gIx, L2.atI, L2.ixN, gLen, gTup, gLst, gSum, gAll, gAny, gAbs, gMax2, gMin2, gDivmod, gInt, gGcd, isT, gAppend, gInsert, gPop, zip2D, zip3D, enumD, gSl, mRev, gRev, mSS, gSS, gMax, gMin, gMaxS, gMinS, gIn, gNin, mExt, mDR, mDL, mCD, gDLen, gDLst, mD0, mD1, gSD, Arg.raw, zipW_map, List.zip_map, Function.comp_def]
  · intro p hp
    have hk' : p.1.natAbs < 18446744073709551616 := h _ (List.of_mem_zip (show (p.1, p.2) ∈ w.zip (a.zip b) from hp)).1
    simp [defM, startE, backs, sSeq, sSet, setSl, sRet, sRetN, sNx, sBk, sCt, sNo, sIf, sDrop, sPar, sPar3, sAsg, sFor, bV, bT, bAnd, bOr, bNot, truth, mAnd, mOr, mNot, mIf, mC, mZ, mM, mF, mTup, mLst, mCB, mBin, mUn, mChain, mIsi, mIsi2, mSl, mPt, mLC, mBM, mCallD, mCallK, callM, takeT, putT, slotsOf, nodupB, valsZ, gk, oN, oE, aNil, aCons, slotT, Arg.get, gets, zs, T.data, gN, gsC, gs0, gT, gS, iV, iZ, iR, seqOf, wipeE, restE, gAdd, gSub, gMul, gFdiv, gMod, gPow, gNeg, gLt, gGt, gLe, gGe, gEq, gNe, gIs, gIsN, isNon, gIx, L2.atI, L2.ixN, gLen, gTup, gLst, gSum, gAll, gAny, gAbs, gMax2, gMin2, gDivmod, gInt, gGcd, isT, gAppend, gInsert, gPop, zip2D, zip3D, enumD, gSl, mRev, gRev, mSS, gSS, gMax, gMin, gMaxS, gMinS, gIn, gNin, mExt, mDR, mDL, mCD, gDLen, gDLst, mD0, mD1, gSD, Arg.raw, hk']
theorem e_cmp_2 (c3 c4 : Option T) (w a b : List Int) : l_L_compared_2 [rz w, rz a, rz b, c3, c4, none, none, none] = some (.l ((unl a b).map .int), [rz w, rz a, rz b, c3, c4, none, none, none]) := by
  rw [l_L_compared_2, mLC_filter (α := Int × Int) (g := fun p => .tuple [.int p.1, .int p.2]) (f := fun p => .int (p.2 - p.1)) (p := fun p => decide (p.1 ≠ p.2)) (as := a.zip b) (ρ1 := [rz w, rz a, rz b, c3, c4, none, none, none])]
  · simp [defM, startE, backs, sSeq, sSet, setSl, sRet, sRetN, sNx, sBk, sCt, sNo, sIf, sDrop, sPar, sPar3, sAsg, sFor, bV, bT, bAnd, bOr, bNot, truth, mAnd, mOr, mNot, mIf, mC, mZ, mM, mF, mTup, mLst, mCB, mBin, mUn, mChain, mIsi, mIsi2, mSl, mPt, mLC, mBM, mCallD, mCallK, callM, takeT, putT, slotsOf, nodupB, valsZ, gk, oN, oE, aNil, aCons, slotT, Arg.get, gets, zs, T.data, gN, gsC, gs0, gT, gS, iV, iZ, iR, seqOf, wipeE, restE, gAdd, gSub, gMul, gFdiv, gMod, gPow, gNeg, gLt, gGt, gLe, gGe, gEq, gNe, gIs, gIsN, isNon, gIx, L2.atI, L2.ixN, gLen, gTup, gLst, gSum, gAll, gAny, gAbs, gMax2, gMin2, gDivmod, gInt, gGcd, isT, gAppend, gInsert, gPop, zip2D, zip3D, enumD, gSl, mRev, gRev, mSS, gSS, gMax, gMin, gMaxS, gMinS, gIn, gNin, mExt, mDR, mDL, mCD, gDLen, gDLst, mD0, mD1, gSD, Arg.raw, unl]
  · simp [defM, startE, backs, sSeq, sSet, setSl, sRet, sRetN, sNx, sBk, sCt, sNo, sIf, sDrop, sPar, sPar3, sAsg, sFor, bV, bT, bAnd, bOr, bNot, truth, mAnd, mOr, mNot, mIf, mC, mZ, mM, mF, mTup, mLst, mCB, mBin, mUn, mChain, mIsi, mIsi2, mSl, mPt, mLC, mBM, mCallD, mCallK, callM, takeT, putT, slotsOf, nodupB, valsZ, gk, oN, oE, aNil, aCons, slotT, Arg.get, gets, zs, T.data, gN, gsC, gs0, gT, gS, iV, iZ, iR, seqOf, wipeE, restE, gAdd, gSub, gMul, gFdiv, gMod, gPow, gNeg, gLt, gGt, gLe, gGe, gEq, gNe, gIs, gIsN, isNon, gIx, L2.atI, L2.ixN, gLen, gTup, gLst, gSum, gAll, gAny, gAbs, gMax2, gMin2, gDivmod, gInt, gGcd, isT, gAppend, gInsert, gPop, zip2D, zip3D, enumD, gSl, mRev, gRev, mSS, gSS, gMax, gMin, gMaxS, gMinS, gIn, gNin, mExt, mDR, mDL, mCD, gDLen, gDLst, mD0, mD1, gSD, Arg.raw, zipW_map, List.zip_map, Function.comp_def]
  · intro p _
    by_cases e : p.1 = p.2 <;> simp [defM, startE, backs, sSeq, sSet, setSl, sRet, sRetN, sNx, sBk, sCt, sNo, sIf, sDrop, sPar, sPar3, sAsg, sFor, bV, bT, bAnd, bOr, bNot, truth, mAnd, mOr, mNot, mIf, mC, mZ, mM, mF, mTup, mLst, mCB, mBin, mUn, mChain, mIsi, mIsi2, mSl, mPt, mLC, mBM, mCallD, mCallK, callM, takeT, putT, slotsOf, nodupB, valsZ, gk, oN, oE, aNil, aCons, slotT, Arg.get, gets, zs, T.data, gN, gsC, gs0, gT, gS, iV, iZ, iR, seqOf, wipeE, restE, gAdd, gSub, gMul, gFdiv, gMod, gPow, gNeg, gLt, gGt, gLe, gGe, gEq, gNe, gIs, gIsN, isNon, gIx, L2.atI, L2.ixN, gLen, gTup, gLst, gSum, gAll, gAny, gAbs, gMax2, gMin2, gDivmod, gInt, gGcd, isT, gAppend, gInsert, gPop, zip2D, zip3D, enumD, gSl, mRev, gRev, mSS, gSS, gMax, gMin, gMaxS, gMinS, gIn, gNin, mExt, mDR, mDL, mCD, gDLen, gDLst, mD0, mD1, gSD, Arg.raw, e]
theorem atI_last {α : Type} (l : List α) (x : α) : L2.atI (l ++ [x]) (-1) = some x := by
  unfold L2.atI L2.ixN
  have h : (-1 + ((l.length : Int) + 1)).toNat = l.length := by omega
  simp [h, show (1 : Int) ≤ (l.length : Int) + 1 by omega]
theorem ne_ints_nil (u : List Int) : gNe (.list (u.map PyData.int)) (.list []) = bo (decide (u ≠ [])) := by
  have s1 : SeqAt.shaped (PyData.list (u.map .int)) = true := PySem.W.shaped_ints u
  have s3 : SeqAt.shaped (PyData.list []) = true := rfl
  show (if SeqAt.shaped (.list (u.map .int)) = true ∧ SeqAt.shaped (.list []) = true then bo (!PyData.eqv (.list (u.map .int)) (.list [])) else none) = _
  rw [if_pos ⟨s1, s3⟩]
  cases u with
  | nil => rfl
  | cons a l => rfl
theorem e_cmp_4 (c0 c1 c2 : Option T) (m : Int) (u : List Int) : k_L_compared_4 [c0, c1, c2, iz m, some (.l (u.map .int)), none, none, none] = some (.nx, [c0, c1, c2, iz (if m = 0 ∧ u ≠ [] then u.getLastD 0 else m), some (.l (u.map .int)), none, none, none]) := by
  have ne := ne_ints_nil u
  by_cases hm : m = 0
  · rcases List.eq_nil_or_concat u with rfl | ⟨l, d, q⟩
    · simp only [List.map_nil] at *
      simp [k_L_compared_4, defM, startE, backs, sSeq, sSet, setSl, sRet, sNx, sIf, bV, bAnd, mC, mLst, mBin, mUn, oN, oE, aNil, slotT, Arg.get, zs, T.data, gEq, gNeg, hm, ne, bo, io]
    · have q' : u = l ++ [d] := by simpa using q
      subst q'
      have ix : gIx (.list ((l ++ [d]).map .int)) (.int (-1)) = some (.z (.int d)) := by
        show (L2.atI ((l ++ [d]).map PyData.int) (-1)).map T.z = _
        rw [List.map_append, List.map_cons, List.map_nil, atI_last]; rfl
      have gl : (l ++ [d]).getLastD 0 = d := by simp
      rw [gl]
      have c : m = 0 ∧ l ++ [d] ≠ [] := ⟨hm, by simp⟩
      rw [if_pos c, decide_eq_true c.2] at *
      generalize (l ++ [d]).map PyData.int = L at *
      simp [k_L_compared_4, defM, startE, backs, sSeq, sSet, setSl, sRet, sNx, sIf, bV, bAnd, mC, mLst, mBin, mUn, oN, oE, aNil, slotT, Arg.get, zs, T.data, gEq, gNeg, hm, ne, ix, bo, io]
  · simp [k_L_compared_4, defM, startE, backs, sSeq, sSet, setSl, sRet, sRetN, sNx, sBk, sCt, sNo, sIf, sDrop, sPar, sPar3, sAsg, sFor, bV, bT, bAnd, bOr, bNot, truth, mAnd, mOr, mNot, mIf, mC, mZ, mM, mF, mTup, mLst, mCB, mBin, mUn, mChain, mIsi, mIsi2, mSl, mPt, mLC, mBM, mCallD, mCallK, callM, takeT, putT, slotsOf, nodupB, valsZ, gk, oN, oE, aNil, aCons, slotT, Arg.get, gets, zs, T.data, gN, gsC, gs0, gT, gS, iV, iZ, iR, seqOf, wipeE, restE, gAdd, gSub, gMul, gFdiv, gMod, gPow, gNeg, gLt, gGt, gLe, gGe, gEq, gNe, gIs, gIsN, isNon, gIx, L2.atI, L2.ixN, gLen, gTup, gLst, gSum, gAll, gAny, gAbs, gMax2, gMin2, gDivmod, gInt, gGcd, isT, gAppend, gInsert, gPop, zip2D, zip3D, enumD, gSl, mRev, gRev, mSS, gSS, gMax, gMin, gMaxS, gMinS, gIn, gNin, mExt, mDR, mDL, mCD, gDLen, gDLst, mD0, mD1, gSD, Arg.raw, hm]
theorem e_L_compared (w a b : List Int) (h : Sm w) (h1 : a.length = w.length) (h2 : b.length = w.length) : m_L_compared [.z (rowD w), .z (rowD a), .z (rowD b)] = some (.z (.int (cmpR w a b)), [rz w, rz a, rz b]) := by
  have e1 := e_cmp_1 none none w a b h
  have e2 := fun c3 => e_cmp_2 c3 none w a b
  rw [← more_sign h1 h2]
  have hm : more w a b = if (if dif w a b = 0 then a.sum - b.sum else dif w a b) = 0 ∧ unl a b ≠ [] then (unl a b).getLastD 0 else (if dif w a b = 0 then a.sum - b.sum else dif w a b) := rfl
  have e4 := fun m => e_cmp_4 (rz w) (rz a) (rz b) m (unl a b)
  simp only [List.map_map] at e1
  have dd : dif w a b = ((w.zip (a.zip b)).map fun p => p.1 * (p.2.1 - p.2.2)).sum := rfl
  have k12 : (sSeq k_L_compared_1 k_L_compared_2) [rz w, rz a, rz b, none, none, none, none, none] = some (.nx, [rz w, rz a, rz b, iz (if dif w a b = 0 then a.sum - b.sum else dif w a b), none, none, none, none]) := by
    by_cases c : dif w a b = 0
    · rw [if_pos c]
      simp [k_L_compared_1, k_L_compared_2, defM, startE, backs, sSeq, sSet, setSl, sRet, sRetN, sNx, sBk, sCt, sNo, sIf, sDrop, sPar, sPar3, sAsg, sFor, bV, bT, bAnd, bOr, bNot, truth, mAnd, mOr, mNot, mIf, mC, mZ, mM, mF, mTup, mLst, mCB, mBin, mUn, mChain, mIsi, mIsi2, mSl, mPt, mLC, mBM, mCallD, mCallK, callM, takeT, putT, slotsOf, nodupB, valsZ, gk, oN, oE, aNil, aCons, slotT, Arg.get, gets, zs, T.data, gN, gsC, gs0, gT, gS, iV, iZ, iR, seqOf, wipeE, restE, gAdd, gSub, gMul, gFdiv, gMod, gPow, gNeg, gLt, gGt, gLe, gGe, gEq, gNe, gIs, gIsN, isNon, gIx, L2.atI, L2.ixN, gLen, gTup, gLst, gSum, gAll, gAny, gAbs, gMax2, gMin2, gDivmod, gInt, gGcd, isT, gAppend, gInsert, gPop, zip2D, zip3D, enumD, gSl, mRev, gRev, mSS, gSS, gMax, gMin, gMaxS, gMinS, gIn, gNin, mExt, mDR, mDL, mCD, gDLen, gDLst, mD0, mD1, gSD, Arg.raw, e1, ints?_map, ints?_ints, Function.comp_def]
      rw [dd] at c
      simp [c]
    · rw [if_neg c]
      simp [k_L_compared_1, k_L_compared_2, defM, startE, backs, sSeq, sSet, setSl, sRet, sRetN, sNx, sBk, sCt, sNo, sIf, sDrop, sPar, sPar3, sAsg, sFor, bV, bT, bAnd, bOr, bNot, truth, mAnd, mOr, mNot, mIf, mC, mZ, mM, mF, mTup, mLst, mCB, mBin, mUn, mChain, mIsi, mIsi2, mSl, mPt, mLC, mBM, mCallD, mCallK, callM, takeT, putT, slotsOf, nodupB, valsZ, gk, oN, oE, aNil, aCons, slotT, Arg.get, gets, zs, T.data, gN, gsC, gs0, gT, gS, iV, iZ, iR, seqOf, wipeE, restE, gAdd, gSub, gMul, gFdiv, gMod, gPow, gNeg, gLt, gGt, gLe, gGe, gEq, gNe, gIs, gIsN, isNon, gIx, L2.atI, L2.ixN, gLen, gTup, gLst, gSum, gAll, gAny, gAbs, gMax2, gMin2, gDivmod, gInt, gGcd, isT, gAppend, gInsert, gPop, zip2D, zip3D, enumD, gSl, mRev, gRev, mSS, gSS, gMax, gMin, gMaxS, gMinS, gIn, gNin, mExt, mDR, mDL, mCD, gDLen, gDLst, mD0, mD1, gSD, Arg.raw, e1, ints?_map, ints?_ints, Function.comp_def]
      rw [dd] at c
      simp [c, dd]
  have e2' := e2 (iz (if dif w a b = 0 then a.sum - b.sum else dif w a b))
  have e4' := e4 (if dif w a b = 0 then a.sum - b.sum else dif w a b)
  rw [← hm] at e4'
  clear e4 e2 e1 dd hm
  obtain ⟨ρ1, f1, f2⟩ : ∃ ρ1, k_L_compared_1 [rz w, rz a, rz b, none, none, none, none, none] = some (.nx, ρ1) ∧ k_L_compared_2 ρ1 = some (.nx, [rz w, rz a, rz b, iz (if dif w a b = 0 then a.sum - b.sum else dif w a b), none, none, none, none]) := by
    obtain ⟨⟨f, ρ1⟩, g1, g2⟩ := Option.bind_eq_some_iff.mp (show (k_L_compared_1 _).bind _ = some _ from k12)
    cases f with
    | nx => exact ⟨ρ1, g1, g2⟩
    | _ => cases g2
  generalize (if dif w a b = 0 then a.sum - b.sum else dif w a b) = M at *
  generalize (unl a b).map PyData.int = U at *
  generalize more w a b = R at *
  have k3 : k_L_compared_3 [rz w, rz a, rz b, iz M, none, none, none, none] = some (.nx, [rz w, rz a, rz b, iz M, some (.l U), none, none, none]) := by
    simp [k_L_compared_3, sSet, setSl, e2']
  have k5 : k_L_compared_5 [rz w, rz a, rz b, iz R, some (.l U), none, none, none] = some (.ret (.z (.int ((if R > 0 then (1 : Int) else 0) - (if R < 0 then 1 else 0)))), [rz w, rz a, rz b, iz R, some (.l U), none, none, none]) := by
    by_cases c1 : R > 0 <;> by_cases c2 : R < 0 <;> simp [k_L_compared_5, defM, startE, backs, sSeq, sSet, setSl, sRet, sRetN, sNx, sBk, sCt, sNo, sIf, sDrop, sPar, sPar3, sAsg, sFor, bV, bT, bAnd, bOr, bNot, truth, mAnd, mOr, mNot, mIf, mC, mZ, mM, mF, mTup, mLst, mCB, mBin, mUn, mChain, mIsi, mIsi2, mSl, mPt, mLC, mBM, mCallD, mCallK, callM, takeT, putT, slotsOf, nodupB, valsZ, gk, oN, oE, aNil, aCons, slotT, Arg.get, gets, zs, T.data, gN, gsC, gs0, gT, gS, iV, iZ, iR, seqOf, wipeE, restE, gAdd, gSub, gMul, gFdiv, gMod, gPow, gNeg, gLt, gGt, gLe, gGe, gEq, gNe, gIs, gIsN, isNon, gIx, L2.atI, L2.ixN, gLen, gTup, gLst, gSum, gAll, gAny, gAbs, gMax2, gMin2, gDivmod, gInt, gGcd, isT, gAppend, gInsert, gPop, zip2D, zip3D, enumD, gSl, mRev, gRev, mSS, gSS, gMax, gMin, gMaxS, gMinS, gIn, gNin, mExt, mDR, mDL, mCD, gDLen, gDLst, mD0, mD1, gSD, Arg.raw, c1, c2]
  show (((k_L_compared_1 _).bind _).bind _) = _
  rw [show startE 8 [T.z (rowD w), T.z (rowD a), T.z (rowD b)] = [rz w, rz a, rz b, none, none, none, none, none] from rfl, f1]
  simp [sSeq, f2, k3, e4', k5, backs]
end My

set_option Elab.async false
set_option maxRecDepth 100000
set_option linter.all false
set_option maxHeartbeats 1000000
namespace My
open PySem VL
def lt (w x r : List Int) : Bool := ltI (fk w x) (fk w r)
def ins (w : List Int) (s : List (List Int)) (r : List Int) : List (List Int) :=
  if (s.dropWhile fun x => lt w x r).head? = some r then s else (s.takeWhile fun x => lt w x r) ++ r :: s.dropWhile fun x => lt w x r
theorem cmp_lt {w x r : List Int} : cmpR w x r < 0 ↔ lt w x r = true := by
  unfold cmpR lt
  by_cases e : x = r
  · subst e; simp [ltI_irr]
  · rw [if_neg e]
    cases h : ltI (fk w r) (fk w x) with
    | true => simp [ltI_asym h]
    | false =>
      cases h2 : ltI (fk w x) (fk w r) with
      | true => simp
      | false => exact absurd (fk_inj (ltI_tri _ _ h2 h)) e
theorem take_len {α : Type} (p : α → Bool) : ∀ l : List α, l.take (l.takeWhile p).length = l.takeWhile p ∧ l.drop (l.takeWhile p).length = l.dropWhile p
  | [] => ⟨rfl, rfl⟩
  | a :: l => by
    obtain ⟨h1, h2⟩ := take_len p l
    cases h : p a with
    | true => simp [List.takeWhile_cons, List.dropWhile_cons, h, h1, h2]
    | false => simp [List.takeWhile_cons, List.dropWhile_cons, h]
theorem get_take {α : Type} (p : α → Bool) : ∀ (l : List α) (i : Nat), i < (l.takeWhile p).length → ∃ a, l[i]? = some a ∧ p a = true
  | [], i, h => by simp at h
  | a :: l, i, h => by
    cases q : p a with
    | false => simp [List.takeWhile_cons, q] at h
    | true =>
      cases i with
      | zero => exact ⟨a, rfl, q⟩
      | succ i =>
        obtain ⟨b, h1, h2⟩ := get_take p l i (by simpa [List.takeWhile_cons, q] using h)
        exact ⟨b, by simpa using h1, h2⟩
theorem get_end {α : Type} (p : α → Bool) : ∀ (l : List α) (a : α), l[(l.takeWhile p).length]? = some a → p a = false
  | [], a, h => by simp at h
  | b :: l, a, h => by
    cases q : p b with
    | false => simp [List.takeWhile_cons, q] at h; rw [← h]; exact q
    | true => exact get_end p l a (by simpa [List.takeWhile_cons, q] using h)
theorem tw_le {α : Type} (p : α → Bool) (l : List α) : (l.takeWhile p).length ≤ l.length := by
  have := congrArg List.length (take_len p l).1
  rw [List.length_take] at this
  omega
theorem atI_nat {α : Type} (l : List α) (i : Nat) (h : i < l.length) : L2.atI l (i : Int) = l[i]? := by
  unfold L2.atI L2.ixN
  rw [if_pos (by omega), if_pos (by omega)]
  rfl
theorem gIx_rows (s : List (List Int)) (i : Nat) (a : List Int) (h : s[i]? = some a) : gIx (.list (s.map rowD)) (.int (i : Nat)) = some (.z (rowD a)) := by
  have hl : i < s.length := (List.getElem?_eq_some_iff.mp h).1
  show (L2.atI (s.map rowD) (i : Nat)).map T.z = _
  rw [atI_nat _ _ (by simpa using hl), List.getElem?_map, h]; rfl
theorem e_ls_1 (M : Option T) (w r : List Int) (s : List (List Int)) (h : Sm w) (hr : r.length = w.length) (hs : ∀ x ∈ s, x.length = w.length) (hn : s.length < 100000) :
    l_L_sorted_1 [rz w, M, some (.l (s.map rowD)), rz r, iz 0] = some (.nx, [rz w, M, some (.l (s.map rowD)), rz r, iz ((s.takeWhile fun x => lt w x r).length : Nat)]) := by
  obtain ⟨f, ρ', e, rfl, rfl⟩ := wh_rel
    (n := bAnd (bV (mBin gLt (oN 4) (oE (mCB gLen (aCons (oN 2) aNil))))) (bV (mBin gLt (oE (mCallD m_L_compared [false, false, false] [] (aCons (oE (mZ 0)) (aCons (oE (mBin gIx (oN 2) (oN 4))) (aCons (oE (mZ 3)) aNil))))) (oE (mC (.int 0)))))) (m := sSet 4 (mBin gAdd (oN 4) (oE (mC (.int 1)))))
    (fun k ρ => ∃ i : Nat, i ≤ (s.takeWhile fun x => lt w x r).length ∧ k + i = s.length ∧ ρ = [rz w, M, some (.l (s.map rowD)), rz r, iz i]) (fun f ρ => f = .nx ∧ ρ = [rz w, M, some (.l (s.map rowD)), rz r, iz ((s.takeWhile fun x => lt w x r).length : Nat)])
    (by
      rintro k ρ ⟨i, h1, h2, rfl⟩
      have tl := tw_le (fun x => lt w x r) s
      by_cases c : i < s.length
      · have gx : ∃ a, s[i]? = some a := ⟨s[i], by simp [c]⟩
        obtain ⟨a, ha⟩ := gx
        have ec := e_L_compared w a r h (hs a (List.mem_of_getElem? ha)) hr
        have gi := gIx_rows s i a ha
        have cl := cmp_lt (w := w) (x := a) (r := r)
        have ln : gLen [.list (s.map rowD)] = some (.z (.int (s.length : Nat))) := by simp [gLen]
        have ci : (i : Int) < (s.length : Int) := by omega
        by_cases q : i < (s.takeWhile fun x => lt w x r).length
        · obtain ⟨a', ha', la⟩ := get_take (fun x => lt w x r) s i q
          rw [ha] at ha'
          cases ha'
          have lc := cl.mpr la
          generalize s.map rowD = S at *
          generalize cmpR w a r = C at *
          refine ⟨true, [rz w, M, some (.l S), rz r, iz i], ?_, .nx, [rz w, M, some (.l S), rz r, iz (i + 1)], ?_, k - 1, by omega, i + 1, by omega, by omega, by simp⟩
          · simp [defM, startE, backs, bV, bAnd, truth, mC, mZ, mCB, mBin, mCallD, callM, takeT, putT, slotsOf, nodupB, oN, oE, aNil, aCons, slotT, Arg.get, gets, T.data, gLt, bo, ln, ci, gi, ec, lc]
          · simp [sSet, setSl, mBin, mC, oN, oE, slotT, Arg.get, T.data, gAdd, io]
        · have qe : i = (s.takeWhile fun x => lt w x r).length := by omega
          have la := get_end (fun x => lt w x r) s a (by rw [← qe]; exact ha)
          have lc : ¬ cmpR w a r < 0 := fun z => by rw [cl.mp z] at la; cases la
          rw [← qe]
          generalize s.map rowD = S at *
          generalize cmpR w a r = C at *
          refine ⟨false, [rz w, M, some (.l S), rz r, iz i], ?_, rfl, rfl⟩
          simp [defM, startE, backs, bV, bAnd, truth, mC, mZ, mCB, mBin, mCallD, callM, takeT, putT, slotsOf, nodupB, oN, oE, aNil, aCons, slotT, Arg.get, gets, T.data, gLt, bo, ln, ci, gi, ec, lc]
      · have qe : i = (s.takeWhile fun x => lt w x r).length := by omega
        have ln : gLen [.list (s.map rowD)] = some (.z (.int (s.length : Nat))) := by simp [gLen]
        have ci : ¬ (i : Int) < (s.length : Int) := by omega
        rw [← qe]
        generalize s.map rowD = S at *
        refine ⟨false, [rz w, M, some (.l S), rz r, iz i], ?_, rfl, rfl⟩
        simp [bV, bAnd, truth, mC, mZ, mCB, mBin, oN, oE, aNil, aCons, slotT, Arg.get, gets, T.data, gLt, bo, ln, ci])
    1000000 s.length [rz w, M, some (.l (s.map rowD)), rz r, iz 0] (by omega) ⟨0, by omega, by omega, rfl⟩
  exact e
theorem e_ls_turn (M c4 c3 : Option T) (w r : List Int) (s : List (List Int)) (h : Sm w) (hr : r.length = w.length) (hs : ∀ x ∈ s, x.length = w.length) (hn : s.length < 100000) :
    ((gN 3) (rowD r) [rz w, M, some (.l (s.map rowD)), c3, c4]).bind (sSeq
    (sSet 4 (mC (.int 0)))
    (sSeq
    l_L_sorted_1
    (sIf (bOr (bV (mBin gEq (oN 4) (oE (mCB gLen (aCons (oN 2) aNil))))) (bV (mBin gNe (oE (mBin gIx (oN 2) (oN 4))) (oN 3)))) (sDrop (mBM 2 gInsert (aCons (oE (mZ 4)) (aCons (oE (mZ 3)) aNil)))) sNx)))
     = some (.nx, [rz w, M, some (.l ((ins w s r).map rowD)), rz r, iz ((s.takeWhile fun x => lt w x r).length : Nat)]) := by
  have e1 := e_ls_1 M w r s h hr hs hn
  have tl := tw_le (fun x => lt w x r) s
  obtain ⟨t1, t2⟩ := take_len (fun x => lt w x r) s
  have ln : gLen [.list (s.map rowD)] = some (.z (.int (s.length : Nat))) := by simp [gLen]
  have gn : gInsert (s.map rowD) [.int ((s.takeWhile fun x => lt w x r).length : Nat), rowD r] = some (.none, ((s.takeWhile fun x => lt w x r) ++ r :: s.dropWhile fun x => lt w x r).map rowD) := by
    unfold gInsert
    have c : (s.map rowD).length < 100000 ∧ (0 : Int) ≤ ((s.takeWhile fun x => lt w x r).length : Nat) ∧ (((s.takeWhile fun x => lt w x r).length : Nat) : Int) < 2 ^ 63 := ⟨by simpa using hn, by omega, by omega⟩
    simp only [c, and_self, if_true, Int.toNat_natCast, ← List.map_take, ← List.map_drop, t1, t2]
    simp
  generalize hk : (s.takeWhile fun x => lt w x r).length = k at *
  by_cases c : k < s.length
  · obtain ⟨a, ha⟩ : ∃ a, s[k]? = some a := ⟨s[k], by simp [c]⟩
    have gi := gIx_rows s k a ha
    have hh : (s.dropWhile fun x => lt w x r).head? = some a := by rw [← t2, List.head?_drop, ha]
    have ci : ¬ (k : Int) = (s.length : Int) := by omega
    by_cases q : a = r
    · have ie : ins w s r = s := by unfold ins; rw [hh, q, if_pos rfl]
      rw [ie]
      have ne := ne_row a r
      rw [decide_eq_true q] at ne
      generalize s.map rowD = S at *
      simp [gN, sSeq, sSet, setSl, sNx, sIf, sDrop, bV, bOr, mC, mZ, mCB, mBin, oN, oE, aNil, aCons, slotT, Arg.get, gets, T.data, gEq, bo, e1, ln, ci, gi, ne]
    · have ie : ins w s r = (s.takeWhile fun x => lt w x r) ++ r :: s.dropWhile fun x => lt w x r := by unfold ins; rw [hh, if_neg (by simpa using q)]
      rw [ie]
      have ne := ne_row a r
      rw [decide_eq_false q] at ne
      generalize ((s.takeWhile fun x => lt w x r) ++ r :: s.dropWhile fun x => lt w x r).map rowD = S' at *
      generalize s.map rowD = S at *
      simp [gN, sSeq, sSet, setSl, sNx, sIf, sDrop, bV, bOr, mC, mZ, mCB, mBin, mBM, zs, oN, oE, aNil, aCons, slotT, Arg.get, gets, T.data, gEq, bo, e1, ln, ci, gi, ne, gn]
  · have ci : (k : Int) = (s.length : Int) := by omega
    have hh : (s.dropWhile fun x => lt w x r).head? = none := by rw [← t2, List.drop_eq_nil_of_le (by omega)]; rfl
    have ie : ins w s r = (s.takeWhile fun x => lt w x r) ++ r :: s.dropWhile fun x => lt w x r := by unfold ins; rw [hh, if_neg (by simp)]
    rw [ie]
    generalize ((s.takeWhile fun x => lt w x r) ++ r :: s.dropWhile fun x => lt w x r).map rowD = S' at *
    generalize s.map rowD = S at *
    rw [ci] at gn e1
    rw [ci]
    simp [gN, sSeq, sSet, setSl, sNx, sIf, sDrop, bV, bOr, mC, mZ, mCB, mBin, mBM, zs, oN, oE, aNil, aCons, slotT, Arg.get, gets, T.data, gEq, bo, e1, ln, gn]
end My

set_option Elab.async false
set_option maxRecDepth 100000
set_option linter.all false
set_option maxHeartbeats 1000000
namespace My
open PySem VL
theorem lt_trans' {w a b c : List Int} (h1 : lt w a b = true) (h2 : lt w b c = true) : lt w a c = true := ltI_trans _ _ _ h1 h2
theorem lt_tri' {w a b : List Int} (h1 : lt w a b = false) (ne : a ≠ b) : lt w b a = true := by
  cases h : lt w b a with
  | true => rfl
  | false => exact absurd (fk_inj (ltI_tri _ _ h1 h)) ne
theorem tw_mem {α : Type} {p : α → Bool} : ∀ {l : List α} {x : α}, x ∈ l.takeWhile p → p x = true
  | [], x, h => by simp at h
  | a :: l, x, h => by
    cases q : p a with
    | false => simp [List.takeWhile_cons, q] at h
    | true =>
      simp only [List.takeWhile_cons, q, if_true, List.mem_cons] at h
      rcases h with rfl | h
      · exact q
      · exact tw_mem h
theorem dw_head {α : Type} {p : α → Bool} : ∀ {l : List α} {a : α} {r : List α}, l.dropWhile p = a :: r → p a = false
  | [], a, r, h => by simp at h
  | b :: l, a, r, h => by
    cases q : p b with
    | false => simp [List.dropWhile_cons, q] at h; rw [← h.1]; exact q
    | true => exact dw_head (l := l) (by simpa [List.dropWhile_cons, q] using h)
theorem ins_mem {w : List Int} {s : List (List Int)} {r x : List Int} : x ∈ ins w s r ↔ x ∈ s ∨ x = r := by
  have e : s = (s.takeWhile fun x => lt w x r) ++ s.dropWhile fun x => lt w x r := (List.takeWhile_append_dropWhile).symm
  have m : x ∈ s ↔ x ∈ (s.takeWhile fun x => lt w x r) ∨ x ∈ (s.dropWhile fun x => lt w x r) := by
    conv => lhs; rw [e]
    exact List.mem_append
  unfold ins
  by_cases q : (s.dropWhile fun x => lt w x r).head? = some r
  · rw [if_pos q]
    refine ⟨.inl, fun h => h.elim id ?_⟩
    rintro rfl
    rw [m]
    exact .inr (List.mem_of_mem_head? q)
  · rw [if_neg q, List.mem_append, List.mem_cons, m]
    exact ⟨fun h => by rcases h with h | h | h; exact .inl (.inl h); exact .inr h; exact .inl (.inr h), fun h => by rcases h with (h | h) | h; exact .inl h; exact .inr (.inr h); exact .inr (.inl h)⟩
theorem ins_sorted {w : List Int} {s : List (List Int)} {r : List Int} (h : s.Pairwise fun a b => lt w a b = true) : (ins w s r).Pairwise fun a b => lt w a b = true := by
  have e : s = (s.takeWhile fun x => lt w x r) ++ s.dropWhile fun x => lt w x r := (List.takeWhile_append_dropWhile).symm
  unfold ins
  by_cases q : (s.dropWhile fun x => lt w x r).head? = some r
  · rw [if_pos q]; exact h
  · rw [if_neg q]
    rw [e] at h
    rw [List.pairwise_append] at h ⊢
    obtain ⟨h1, h2, h3⟩ := h
    have hr : ∀ y ∈ (s.dropWhile fun x => lt w x r), lt w r y = true := by
      intro y hy
      cases hd : s.dropWhile (fun x => lt w x r) with
      | nil => rw [hd] at hy; cases hy
      | cons a l =>
        have p1 := dw_head hd
        rw [hd] at q
        have ne : a ≠ r := fun z => q (by rw [z]; rfl)
        have ra := lt_tri' p1 ne
        rw [hd] at hy h2
        rcases List.mem_cons.mp hy with rfl | hy
        · exact ra
        · exact lt_trans' ra (List.rel_of_pairwise_cons h2 hy)
    refine ⟨h1, List.pairwise_cons.mpr ⟨hr, h2⟩, fun a ha b hb => ?_⟩
    have p := tw_mem ha
    rcases List.mem_cons.mp hb with rfl | hb
    · exact p
    · exact h3 a ha b hb
def insAll (w : List Int) (l : List (List Int)) : List (List Int) := l.foldl (ins w) []
theorem insAll_ok (w : List Int) : ∀ (l s : List (List Int)), (s.Pairwise fun a b => lt w a b = true) → ((l.foldl (ins w) s).Pairwise fun a b => lt w a b = true) ∧ ∀ x, x ∈ l.foldl (ins w) s ↔ x ∈ s ∨ x ∈ l
  | [], s, h => ⟨h, fun x => by simp⟩
  | a :: l, s, h => by
    obtain ⟨h1, h2⟩ := insAll_ok w l (ins w s a) (ins_sorted h)
    refine ⟨h1, fun x => ?_⟩
    show x ∈ l.foldl (ins w) (ins w s a) ↔ _
    rw [h2, ins_mem, List.mem_cons, or_assoc]
theorem nodup_len {α : Type} [DecidableEq α] : ∀ {l m : List α}, l.Nodup → (∀ x ∈ l, x ∈ m) → l.length ≤ m.length
  | [], m, _, _ => Nat.zero_le _
  | a :: l, m, h, k => by
    have hm := k a (List.mem_cons_self ..)
    have h' := List.nodup_cons.mp h
    have := nodup_len (l := l) (m := m.erase a) h'.2 fun x hx => by
      rw [List.mem_erase_of_ne (fun z => h'.1 (by rw [← z]; exact hx))]
      exact k x (List.mem_cons_of_mem _ hx)
    rw [List.length_erase_of_mem hm] at this
    have : 0 < m.length := List.length_pos_of_mem hm
    simp; omega
theorem perm_of {α : Type} [DecidableEq α] {l m : List α} (h1 : l.Nodup) (h2 : m.Nodup) (h : ∀ x, x ∈ l ↔ x ∈ m) : l.Perm m := by
  rw [List.perm_iff_count]
  intro a
  rw [List.Nodup.count h1, List.Nodup.count h2]
  by_cases q : a ∈ l
  · rw [if_pos q, if_pos ((h a).mp q)]
  · rw [if_neg q, if_neg (fun z => q ((h a).mpr z))]
/-- the package's list is the law's -/
theorem srt_ins (w : List Int) (l m : List (List Int)) (h : ∀ x, x ∈ m ↔ x ∈ l) : srtK w (uniq m) = insAll w l := by
  obtain ⟨h1, h2⟩ := insAll_ok w l [] .nil
  have anti : ∀ a b, leK w a b = true → leK w b a = true → a = b := fun a b p q => fk_inj (ltI_tri _ _ (by simpa [leK] using q) (by simpa [leK] using p))
  have s1 : (srtK w (uniq m)).Pairwise fun a b => leK w a b = true := by
    refine List.pairwise_mergeSort (fun a b c p q => ?_) (fun a b => ?_) _
    · have := leI_trans (fk w a) (fk w b) (fk w c) p q; exact this
    · exact Bool.or_eq_true_iff.mpr (leI_total (fk w a) (fk w b))
  have s2 : (insAll w l).Pairwise fun a b => leK w a b = true := h1.imp fun {a b} p => by unfold leK; rw [ltI_asym p]; rfl
  have n2 : (insAll w l).Nodup := h1.imp fun {a b} p e => by subst e; unfold lt at p; rw [ltI_irr] at p; cases p
  have n1 : (srtK w (uniq m)).Nodup := (List.mergeSort_perm _ _).nodup_iff.mpr (uniq_nodup m)
  refine sorted_unique anti s1 s2 (perm_of n1 n2 fun x => ?_)
  rw [show (x ∈ srtK w (uniq m) ↔ x ∈ uniq m) from (List.mergeSort_perm _ _).mem_iff, mem_uniq, h]
  exact ((h2 x).trans (by simp)).symm
theorem e_L_sorted (w : List Int) (l : List (List Int)) (h : Sm w) (hs : ∀ x ∈ l, x.length = w.length) (hn : l.length < 1000) :
    m_L_sorted [.z (rowD w), .z (.list (l.map rowD))] = some (.l ((insAll w l).map rowD), [rz w, some (.z (.list (l.map rowD)))]) := by
  obtain ⟨c', e, _⟩ := sFor_fold (mi := iV (mZ 1)) (mg := gN 3) (mb := sSeq
    (sSet 4 (mC (.int 0)))
    (sSeq
    l_L_sorted_1
    (sIf (bOr (bV (mBin gEq (oN 4) (oE (mCB gLen (aCons (oN 2) aNil))))) (bV (mBin gNe (oE (mBin gIx (oN 2) (oN 4))) (oN 3)))) (sDrop (mBM 2 gInsert (aCons (oE (mZ 4)) (aCons (oE (mZ 3)) aNil)))) sNx))) (ρ := [rz w, some (.z (.list (l.map rowD))), some (.l []), none, none]) rowD (fun (b : List (List Int)) (c : Option T × Option T) => [rz w, some (.z (.list (l.map rowD))), some (.l (b.map rowD)), c.1, c.2]) (ins w) (fun n b => b.length ≤ n ∧ ∀ x ∈ b, x.length = w.length) l [] (none, none)
    rfl (by simp) (by
      intro r hr n b c hn' hb
      have hl := hs r hr
      refine ⟨⟨?_, fun x hx => ?_⟩, (rz r, iz ((b.takeWhile fun x => lt w x r).length : Nat)), e_ls_turn _ _ _ w r b h hl hb.2 (by omega)⟩
      · unfold ins
        split
        · omega
        · have := congrArg List.length (List.takeWhile_append_dropWhile (p := fun x => lt w x r) (l := b))
          rw [List.length_append] at this
          rw [List.length_append, List.length_cons]
          omega
      · rcases ins_mem.mp hx with hx | rfl
        · exact hb.2 x hx
        · exact hl)
  have ee : l_L_sorted_2 [rz w, some (.z (.list (l.map rowD))), some (.l []), none, none] = _ := e
  simp only [← show insAll w l = l.foldl (ins w) [] from rfl] at ee
  generalize (insAll w l).map rowD = R at *
  generalize l.map rowD = L at *
  simp [m_L_sorted, defM, startE, backs, sSeq, sSet, setSl, sRet, mLst, aNil, zs, mM, slotT, ee]
end My

set_option Elab.async false
set_option maxRecDepth 100000
set_option linter.all false
set_option maxHeartbeats 1000000
namespace My
open PySem VL
/-! ### draws -/
abbrev pot (a b : Int) : T := .l [.int a, .int b]
abbrev po (a b : Int) : Option T := some (.l [.int a, .int b])
theorem e_draw0 (a b : Int) (m : Int) (h : 0 < a) (hm : 0 < m ∧ m < 1073741824) : m_L_draw [.l [.int a, .int b], .z (.int m)] = some (.z (.int (a % m)), [some (.l [.int (a / m), .int b]), iz m]) := by
  simp [m_L_draw, defM, startE, backs, sSeq, sSet, setSl, sRet, sRetN, sNx, sBk, sCt, sNo, sIf, sDrop, sPar, sPar3, sAsg, sFor, bV, bT, bAnd, bOr, bNot, truth, mAnd, mOr, mNot, mIf, mC, mZ, mM, mF, mTup, mLst, mCB, mBin, mUn, mChain, mIsi, mIsi2, mSl, mPt, mLC, mBM, mCallD, mCallK, callM, takeT, putT, slotsOf, nodupB, valsZ, gk, oN, oE, aNil, aCons, slotT, Arg.get, gets, zs, T.data, gN, gsC, gs0, gT, gS, iV, iZ, iR, seqOf, wipeE, restE, gAdd, gSub, gMul, gFdiv, gMod, gPow, gNeg, gLt, gGt, gLe, gGe, gEq, gNe, gIs, gIsN, isNon, gIx, L2.atI, L2.ixN, gLen, gTup, gLst, gSum, gAll, gAny, gAbs, gMax2, gMin2, gDivmod, gInt, gGcd, isT, gAppend, gInsert, gPop, zip2D, zip3D, enumD, gSl, mRev, gRev, mSS, gSS, gMax, gMin, gMaxS, gMinS, gIn, gNin, mExt, mDR, mDL, mCD, gDLen, gDLst, mD0, mD1, gSD, Arg.raw, h, hm]
theorem e_draw (a b : Int) (m : Int) (hm : 0 < m ∧ m < 1073741824) : ∃ d a' b', 0 ≤ d ∧ d < m ∧ m_L_draw [.l [.int a, .int b], .z (.int m)] = some (.z (.int d), [some (.l [.int a', .int b']), iz m]) := by
  by_cases h : 0 < a
  · exact ⟨_, _, _, Int.emod_nonneg _ (by omega), Int.emod_lt_of_pos _ hm.1, e_draw0 a b m h hm⟩
  · have h0 : m ≠ 0 := by omega
    obtain ⟨q, hq⟩ : ∃ q, q = (b * 39373 + 1033).fmod 2147483587 := ⟨_, rfl⟩
    have q0 : 0 ≤ q := by rw [hq]; exact Int.fmod_nonneg_of_pos _ (by decide)
    have q1 : q < 2147483587 := by rw [hq]; exact Int.fmod_lt_of_pos _ (by decide)
    have q2 : q.natAbs < 18446744073709551616 := by omega
    refine ⟨(((q * q).fmod 2147483563).fdiv 17).fmod m, a, q, Int.fmod_nonneg_of_pos _ hm.1, Int.fmod_lt_of_pos _ hm.1, ?_⟩
    simp [m_L_draw, defM, startE, backs, sSeq, sSet, setSl, sRet, sRetN, sNx, sBk, sCt, sNo, sIf, sDrop, sPar, sPar3, sAsg, sFor, bV, bT, bAnd, bOr, bNot, truth, mAnd, mOr, mNot, mIf, mC, mZ, mM, mF, mTup, mLst, mCB, mBin, mUn, mChain, mIsi, mIsi2, mSl, mPt, mLC, mBM, mCallD, mCallK, callM, takeT, putT, slotsOf, nodupB, valsZ, gk, oN, oE, aNil, aCons, slotT, Arg.get, gets, zs, T.data, gN, gsC, gs0, gT, gS, iV, iZ, iR, seqOf, wipeE, restE, gAdd, gSub, gMul, gFdiv, gMod, gPow, gNeg, gLt, gGt, gLe, gGe, gEq, gNe, gIs, gIsN, isNon, gIx, L2.atI, L2.ixN, gLen, gTup, gLst, gSum, gAll, gAny, gAbs, gMax2, gMin2, gDivmod, gInt, gGcd, isT, gAppend, gInsert, gPop, zip2D, zip3D, enumD, gSl, mRev, gRev, mSS, gSS, gMax, gMin, gMaxS, gMinS, gIn, gNin, mExt, mDR, mDL, mCD, gDLen, gDLst, mD0, mD1, gSD, Arg.raw, h, hm, h0, ← hq, q2]
theorem ints_of {Q : Int → Prop} : ∀ (ds ys : List D), ys.length = ds.length → (∀ p ∈ ds.zip ys, ∃ v, p.2 = .int v ∧ Q v) → ∃ r : List Int, ys = r.map .int ∧ r.length = ds.length ∧ ∀ x ∈ r, Q x
  | [], [], _, _ => ⟨[], rfl, rfl, by simp⟩
  | d :: ds, y :: ys, l, h => by
    obtain ⟨r, e, l2, q⟩ := ints_of ds ys (by simpa using l) fun p hp => h p (List.mem_cons_of_mem _ hp)
    obtain ⟨v, rfl, hv⟩ := h (d, y) (List.mem_cons_self ..)
    exact ⟨v :: r, by rw [e]; rfl, by simp [l2], by
      intro x hx
      rcases List.mem_cons.mp hx with rfl | hx
      · exact hv
      · exact q x hx⟩
  | [], _ :: _, l, _ => by cases l
  | _ :: _, [], l, _ => by cases l
theorem e_L_pot (ns : List Int) : ∃ a b, m_L_pot [.z (.list (ns.map .int)), .z (.int 0)] = some (.l [.int a, .int b], [some (.z (.list (ns.map .int))), iz 0]) := by
  cases ns with
  | nil => exact ⟨_, _, by simp [m_L_pot, defM, startE, backs, sSeq, sSet, setSl, sRet, sRetN, sNx, sBk, sCt, sNo, sIf, sDrop, sPar, sPar3, sAsg, sFor, bV, bT, bAnd, bOr, bNot, truth, mAnd, mOr, mNot, mIf, mC, mZ, mM, mF, mTup, mLst, mCB, mBin, mUn, mChain, mIsi, mIsi2, mSl, mPt, mLC, mBM, mCallD, mCallK, callM, takeT, putT, slotsOf, nodupB, valsZ, gk, oN, oE, aNil, aCons, slotT, Arg.get, gets, zs, T.data, gN, gsC, gs0, gT, gS, iV, iZ, iR, seqOf, wipeE, restE, gAdd, gSub, gMul, gFdiv, gMod, gPow, gNeg, gLt, gGt, gLe, gGe, gEq, gNe, gIs, gIsN, isNon, gIx, L2.atI, L2.ixN, gLen, gTup, gLst, gSum, gAll, gAny, gAbs, gMax2, gMin2, gDivmod, gInt, gGcd, isT, gAppend, gInsert, gPop, zip2D, zip3D, enumD, gSl, mRev, gRev, mSS, gSS, gMax, gMin, gMaxS, gMinS, gIn, gNin, mExt, mDR, mDL, mCD, gDLen, gDLst, mD0, mD1, gSD, Arg.raw]; exact ⟨rfl, rfl⟩⟩
  | cons x y =>
    have h1 : (0 : Int) < (y.length : Int) + 1 := by omega
    refine ⟨_, _, by simp [m_L_pot, defM, startE, backs, sSeq, sSet, setSl, sRet, sRetN, sNx, sBk, sCt, sNo, sIf, sDrop, sPar, sPar3, sAsg, sFor, bV, bT, bAnd, bOr, bNot, truth, mAnd, mOr, mNot, mIf, mC, mZ, mM, mF, mTup, mLst, mCB, mBin, mUn, mChain, mIsi, mIsi2, mSl, mPt, mLC, mBM, mCallD, mCallK, callM, takeT, putT, slotsOf, nodupB, valsZ, gk, oN, oE, aNil, aCons, slotT, Arg.get, gets, zs, T.data, gN, gsC, gs0, gT, gS, iV, iZ, iR, seqOf, wipeE, restE, gAdd, gSub, gMul, gFdiv, gMod, gPow, gNeg, gLt, gGt, gLe, gGe, gEq, gNe, gIs, gIsN, isNon, gIx, L2.atI, L2.ixN, gLen, gTup, gLst, gSum, gAll, gAny, gAbs, gMax2, gMin2, gDivmod, gInt, gGcd, isT, gAppend, gInsert, gPop, zip2D, zip3D, enumD, gSl, mRev, gRev, mSS, gSS, gMax, gMin, gMaxS, gMinS, gIn, gNin, mExt, mDR, mDL, mCD, gDLen, gDLst, mD0, mD1, gSD, Arg.raw, h1]; exact ⟨rfl, rfl⟩⟩
theorem e_wt_1 (a b : Int) (n : Nat) (t : Int) (hn : n ≤ 1000) : ∃ (r : List Int) (a' b' : Int), r.length = n ∧ (∀ x ∈ r, 0 ≤ x ∧ x ≤ 99) ∧ l_L_weights_1 [po a b, iz n, iz t, none] = some (.l (r.map .int), [po a' b', iz n, iz t, none]) := by
  have hb : -big ≤ (n : Int) ∧ (n : Int) ≤ 1000000 := by unfold big; omega
  obtain ⟨ys, ρ', e, ⟨a', b', rfl⟩, l, g⟩ := mLC_rel (ds := rangeL 0 n) (ρ1 := [po a b, iz n, iz t, none]) (mi := (iR rangeD1 (aCons (oN 1) aNil))) (mg := (gN 3)) (me := (mF (mCallD m_L_draw [true, false] [] (aCons (oN 0) (aCons (oE (mIf (bV (mBin gLt (oN 2) (oE (mC (.int 3))))) (mC (.int 3)) (mC (.int 100)))) aNil))))) (vs := [3]) (ρ := [po a b, iz n, iz t, none])
    (fun ρ => ∃ a b, ρ = [po a b, iz n, iz t, none]) (fun d y => ∃ v, y = .int v ∧ (0 ≤ v ∧ v ≤ 99)) (by simp [defM, startE, backs, sSeq, sSet, setSl, sRet, sRetN, sNx, sBk, sCt, sNo, sIf, sDrop, sPar, sPar3, sAsg, sFor, bV, bT, bAnd, bOr, bNot, truth, mAnd, mOr, mNot, mIf, mC, mZ, mM, mF, mTup, mLst, mCB, mBin, mUn, mChain, mIsi, mIsi2, mSl, mPt, mLC, mBM, mCallD, mCallK, callM, takeT, putT, slotsOf, nodupB, valsZ, gk, oN, oE, aNil, aCons, slotT, Arg.get, gets, zs, T.data, gN, gsC, gs0, gT, gS, iV, iZ, iR, seqOf, wipeE, restE, gAdd, gSub, gMul, gFdiv, gMod, gPow, gNeg, gLt, gGt, gLe, gGe, gEq, gNe, gIs, gIsN, isNon, gIx, L2.atI, L2.ixN, gLen, gTup, gLst, gSum, gAll, gAny, gAbs, gMax2, gMin2, gDivmod, gInt, gGcd, isT, gAppend, gInsert, gPop, zip2D, zip3D, enumD, gSl, mRev, gRev, mSS, gSS, gMax, gMin, gMaxS, gMinS, gIn, gNin, mExt, mDR, mDL, mCD, gDLen, gDLst, mD0, mD1, gSD, Arg.raw, rangeD1, hb]) ⟨a, b, by rfl⟩
    (by
      rintro d _ ρ ⟨a, b, rfl⟩
      by_cases ht : t < 3
      · obtain ⟨v, a2, b2, h1, h2, e2⟩ := e_draw a b 3 (by omega)
        exact ⟨.int v, [po a2 b2, iz n, iz t, some (.z d)], by simp [defM, startE, backs, sSeq, sSet, setSl, sRet, sRetN, sNx, sBk, sCt, sNo, sIf, sDrop, sPar, sPar3, sAsg, sFor, bV, bT, bAnd, bOr, bNot, truth, mAnd, mOr, mNot, mIf, mC, mZ, mM, mF, mTup, mLst, mCB, mBin, mUn, mChain, mIsi, mIsi2, mSl, mPt, mLC, mBM, mCallD, mCallK, callM, takeT, putT, slotsOf, nodupB, valsZ, gk, oN, oE, aNil, aCons, slotT, Arg.get, gets, zs, T.data, gN, gsC, gs0, gT, gS, iV, iZ, iR, seqOf, wipeE, restE, gAdd, gSub, gMul, gFdiv, gMod, gPow, gNeg, gLt, gGt, gLe, gGe, gEq, gNe, gIs, gIsN, isNon, gIx, L2.atI, L2.ixN, gLen, gTup, gLst, gSum, gAll, gAny, gAbs, gMax2, gMin2, gDivmod, gInt, gGcd, isT, gAppend, gInsert, gPop, zip2D, zip3D, enumD, gSl, mRev, gRev, mSS, gSS, gMax, gMin, gMaxS, gMinS, gIn, gNin, mExt, mDR, mDL, mCD, gDLen, gDLst, mD0, mD1, gSD, Arg.raw, e2, ht], ⟨v, rfl, h1, by omega⟩, a2, b2, by rfl⟩
      · obtain ⟨v, a2, b2, h1, h2, e2⟩ := e_draw a b 100 (by omega)
        exact ⟨.int v, [po a2 b2, iz n, iz t, some (.z d)], by simp [defM, startE, backs, sSeq, sSet, setSl, sRet, sRetN, sNx, sBk, sCt, sNo, sIf, sDrop, sPar, sPar3, sAsg, sFor, bV, bT, bAnd, bOr, bNot, truth, mAnd, mOr, mNot, mIf, mC, mZ, mM, mF, mTup, mLst, mCB, mBin, mUn, mChain, mIsi, mIsi2, mSl, mPt, mLC, mBM, mCallD, mCallK, callM, takeT, putT, slotsOf, nodupB, valsZ, gk, oN, oE, aNil, aCons, slotT, Arg.get, gets, zs, T.data, gN, gsC, gs0, gT, gS, iV, iZ, iR, seqOf, wipeE, restE, gAdd, gSub, gMul, gFdiv, gMod, gPow, gNeg, gLt, gGt, gLe, gGe, gEq, gNe, gIs, gIsN, isNon, gIx, L2.atI, L2.ixN, gLen, gTup, gLst, gSum, gAll, gAny, gAbs, gMax2, gMin2, gDivmod, gInt, gGcd, isT, gAppend, gInsert, gPop, zip2D, zip3D, enumD, gSl, mRev, gRev, mSS, gSS, gMax, gMin, gMaxS, gMinS, gIn, gNin, mExt, mDR, mDL, mCD, gDLen, gDLst, mD0, mD1, gSD, Arg.raw, e2, ht], ⟨v, rfl, h1, by omega⟩, a2, b2, by rfl⟩)
  obtain ⟨r, rfl, l2, q⟩ := ints_of _ _ l g
  exact ⟨r, a', b', by simpa [rangeL] using l2, q, e⟩
theorem e_L_weights (a b : Int) (n : Nat) (h1 : 1 ≤ n) (hn : n ≤ 1000) : ∃ (r : List Int) (a' b' : Int), r.length = n ∧ (∀ x ∈ r, 0 ≤ x ∧ x ≤ 99) ∧ m_L_weights [pot a b, .z (.int n)] = some (.z (rowD r), [po a' b', iz n]) := by
  obtain ⟨t, a1, b1, t0, t1, e1⟩ := e_draw a b 4 (by decide)
  by_cases ht : t = 0
  · have p1 : (1 : Int) ≤ (n : Int) := by omega
    have p2 : (n : Int) ≤ 1000 := by omega
    refine ⟨List.replicate n 0, a1, b1, by simp, ?_, ?_⟩
    · intro x hx
      have := List.eq_of_mem_replicate hx
      omega
    · simp [m_L_weights, defM, startE, backs, sSeq, sSet, setSl, sRet, sRetN, sNx, sBk, sCt, sNo, sIf, sDrop, sPar, sPar3, sAsg, sFor, bV, bT, bAnd, bOr, bNot, truth, mAnd, mOr, mNot, mIf, mC, mZ, mM, mF, mTup, mLst, mCB, mBin, mUn, mChain, mIsi, mIsi2, mSl, mPt, mLC, mBM, mCallD, mCallK, callM, takeT, putT, slotsOf, nodupB, valsZ, gk, oN, oE, aNil, aCons, slotT, Arg.get, gets, zs, T.data, gN, gsC, gs0, gT, gS, iV, iZ, iR, seqOf, wipeE, restE, gAdd, gSub, gMul, gFdiv, gMod, gPow, gNeg, gLt, gGt, gLe, gGe, gEq, gNe, gIs, gIsN, isNon, gIx, L2.atI, L2.ixN, gLen, gTup, gLst, gSum, gAll, gAny, gAbs, gMax2, gMin2, gDivmod, gInt, gGcd, isT, gAppend, gInsert, gPop, zip2D, zip3D, enumD, gSl, mRev, gRev, mSS, gSS, gMax, gMin, gMaxS, gMinS, gIn, gNin, mExt, mDR, mDL, mCD, gDLen, gDLst, mD0, mD1, gSD, Arg.raw, e1, ht, p1, p2, hn, h1]
  · obtain ⟨r, a', b', q1, q2, e⟩ := e_wt_1 a1 b1 n t hn
    exact ⟨r, a', b', q1, q2, by simp [m_L_weights, defM, startE, backs, sSeq, sSet, setSl, sRet, sRetN, sNx, sBk, sCt, sNo, sIf, sDrop, sPar, sPar3, sAsg, sFor, bV, bT, bAnd, bOr, bNot, truth, mAnd, mOr, mNot, mIf, mC, mZ, mM, mF, mTup, mLst, mCB, mBin, mUn, mChain, mIsi, mIsi2, mSl, mPt, mLC, mBM, mCallD, mCallK, callM, takeT, putT, slotsOf, nodupB, valsZ, gk, oN, oE, aNil, aCons, slotT, Arg.get, gets, zs, T.data, gN, gsC, gs0, gT, gS, iV, iZ, iR, seqOf, wipeE, restE, gAdd, gSub, gMul, gFdiv, gMod, gPow, gNeg, gLt, gGt, gLe, gGe, gEq, gNe, gIs, gIsN, isNon, gIx, L2.atI, L2.ixN, gLen, gTup, gLst, gSum, gAll, gAny, gAbs, gMax2, gMin2, gDivmod, gInt, gGcd, isT, gAppend, gInsert, gPop, zip2D, zip3D, enumD, gSl, mRev, gRev, mSS, gSS, gMax, gMin, gMaxS, gMinS, gIn, gNin, mExt, mDR, mDL, mCD, gDLen, gDLst, mD0, mD1, gSD, Arg.raw, e1, ht, e]⟩
/-- a drawn monomial -/
def Mo (n : Nat) (r : List Int) : Prop := r.length = n ∧ ∀ x ∈ r, 0 ≤ x ∧ x ≤ 20000
theorem e_mono_1 (a b : Int) (n : Nat) (t : Int) (hn : n ≤ 1000) : ∃ (r : List Int) (a' b' : Int), Mo n r ∧ l_L_monomial_1 [po a b, iz n, iz t, none] = some (.l (r.map .int), [po a' b', iz n, iz t, none]) := by
  have hb : -big ≤ (n : Int) ∧ (n : Int) ≤ 1000000 := by unfold big; omega
  obtain ⟨ys, ρ', e, ⟨a', b', rfl⟩, l, g⟩ := mLC_rel (ds := rangeL 0 n) (ρ1 := [po a b, iz n, iz t, none]) (mi := (iR rangeD1 (aCons (oN 1) aNil))) (mg := (gN 3)) (me := (mF (mCallD m_L_draw [true, false] [] (aCons (oN 0) (aCons (oE (mIf (bV (mBin gLt (oN 2) (oE (mC (.int 5))))) (mC (.int 4)) (mC (.int 2)))) aNil))))) (vs := [3]) (ρ := [po a b, iz n, iz t, none])
    (fun ρ => ∃ a b, ρ = [po a b, iz n, iz t, none]) (fun d y => ∃ v, y = .int v ∧ (0 ≤ v ∧ v ≤ 20000)) (by simp [defM, startE, backs, sSeq, sSet, setSl, sRet, sRetN, sNx, sBk, sCt, sNo, sIf, sDrop, sPar, sPar3, sAsg, sFor, bV, bT, bAnd, bOr, bNot, truth, mAnd, mOr, mNot, mIf, mC, mZ, mM, mF, mTup, mLst, mCB, mBin, mUn, mChain, mIsi, mIsi2, mSl, mPt, mLC, mBM, mCallD, mCallK, callM, takeT, putT, slotsOf, nodupB, valsZ, gk, oN, oE, aNil, aCons, slotT, Arg.get, gets, zs, T.data, gN, gsC, gs0, gT, gS, iV, iZ, iR, seqOf, wipeE, restE, gAdd, gSub, gMul, gFdiv, gMod, gPow, gNeg, gLt, gGt, gLe, gGe, gEq, gNe, gIs, gIsN, isNon, gIx, L2.atI, L2.ixN, gLen, gTup, gLst, gSum, gAll, gAny, gAbs, gMax2, gMin2, gDivmod, gInt, gGcd, isT, gAppend, gInsert, gPop, zip2D, zip3D, enumD, gSl, mRev, gRev, mSS, gSS, gMax, gMin, gMaxS, gMinS, gIn, gNin, mExt, mDR, mDL, mCD, gDLen, gDLst, mD0, mD1, gSD, Arg.raw, rangeD1, hb]) ⟨a, b, by rfl⟩
    (by
      rintro d _ ρ ⟨a, b, rfl⟩
      by_cases ht : t < 5
      · obtain ⟨v, a2, b2, h1, h2, e2⟩ := e_draw a b 4 (by omega)
        exact ⟨.int v, [po a2 b2, iz n, iz t, some (.z d)], by simp [defM, startE, backs, sSeq, sSet, setSl, sRet, sRetN, sNx, sBk, sCt, sNo, sIf, sDrop, sPar, sPar3, sAsg, sFor, bV, bT, bAnd, bOr, bNot, truth, mAnd, mOr, mNot, mIf, mC, mZ, mM, mF, mTup, mLst, mCB, mBin, mUn, mChain, mIsi, mIsi2, mSl, mPt, mLC, mBM, mCallD, mCallK, callM, takeT, putT, slotsOf, nodupB, valsZ, gk, oN, oE, aNil, aCons, slotT, Arg.get, gets, zs, T.data, gN, gsC, gs0, gT, gS, iV, iZ, iR, seqOf, wipeE, restE, gAdd, gSub, gMul, gFdiv, gMod, gPow, gNeg, gLt, gGt, gLe, gGe, gEq, gNe, gIs, gIsN, isNon, gIx, L2.atI, L2.ixN, gLen, gTup, gLst, gSum, gAll, gAny, gAbs, gMax2, gMin2, gDivmod, gInt, gGcd, isT, gAppend, gInsert, gPop, zip2D, zip3D, enumD, gSl, mRev, gRev, mSS, gSS, gMax, gMin, gMaxS, gMinS, gIn, gNin, mExt, mDR, mDL, mCD, gDLen, gDLst, mD0, mD1, gSD, Arg.raw, e2, ht], ⟨v, rfl, h1, by omega⟩, a2, b2, by rfl⟩
      · obtain ⟨v, a2, b2, h1, h2, e2⟩ := e_draw a b 2 (by omega)
        exact ⟨.int v, [po a2 b2, iz n, iz t, some (.z d)], by simp [defM, startE, backs, sSeq, sSet, setSl, sRet, sRetN, sNx, sBk, sCt, sNo, sIf, sDrop, sPar, sPar3, sAsg, sFor, bV, bT, bAnd, bOr, bNot, truth, mAnd, mOr, mNot, mIf, mC, mZ, mM, mF, mTup, mLst, mCB, mBin, mUn, mChain, mIsi, mIsi2, mSl, mPt, mLC, mBM, mCallD, mCallK, callM, takeT, putT, slotsOf, nodupB, valsZ, gk, oN, oE, aNil, aCons, slotT, Arg.get, gets, zs, T.data, gN, gsC, gs0, gT, gS, iV, iZ, iR, seqOf, wipeE, restE, gAdd, gSub, gMul, gFdiv, gMod, gPow, gNeg, gLt, gGt, gLe, gGe, gEq, gNe, gIs, gIsN, isNon, gIx, L2.atI, L2.ixN, gLen, gTup, gLst, gSum, gAll, gAny, gAbs, gMax2, gMin2, gDivmod, gInt, gGcd, isT, gAppend, gInsert, gPop, zip2D, zip3D, enumD, gSl, mRev, gRev, mSS, gSS, gMax, gMin, gMaxS, gMinS, gIn, gNin, mExt, mDR, mDL, mCD, gDLen, gDLst, mD0, mD1, gSD, Arg.raw, e2, ht], ⟨v, rfl, h1, by omega⟩, a2, b2, by rfl⟩)
  obtain ⟨r, rfl, l2, q⟩ := ints_of _ _ l g
  exact ⟨r, a', b', ⟨by simpa [rangeL] using l2, q⟩, e⟩
theorem e_mono_2 (a b : Int) (n : Nat) (t : Option T) (hn : n ≤ 1000) : ∃ (r : List Int) (a' b' : Int), Mo n r ∧ l_L_monomial_2 [po a b, iz n, t, none] = some (.l (r.map .int), [po a' b', iz n, t, none]) := by
  have hb : -big ≤ (n : Int) ∧ (n : Int) ≤ 1000000 := by unfold big; omega
  obtain ⟨ys, ρ', e, ⟨a', b', rfl⟩, l, g⟩ := mLC_rel (ds := rangeL 0 n) (ρ1 := [po a b, iz n, t, none]) (mi := (iR rangeD1 (aCons (oN 1) aNil))) (mg := (gN 3)) (me := (mF (mCallD m_L_draw [true, false] [] (aCons (oN 0) (aCons (oE (mC (.int 20001))) aNil))))) (vs := [3]) (ρ := [po a b, iz n, t, none])
    (fun ρ => ∃ a b, ρ = [po a b, iz n, t, none]) (fun d y => ∃ v, y = .int v ∧ (0 ≤ v ∧ v ≤ 20000)) (by simp [defM, startE, backs, sSeq, sSet, setSl, sRet, sRetN, sNx, sBk, sCt, sNo, sIf, sDrop, sPar, sPar3, sAsg, sFor, bV, bT, bAnd, bOr, bNot, truth, mAnd, mOr, mNot, mIf, mC, mZ, mM, mF, mTup, mLst, mCB, mBin, mUn, mChain, mIsi, mIsi2, mSl, mPt, mLC, mBM, mCallD, mCallK, callM, takeT, putT, slotsOf, nodupB, valsZ, gk, oN, oE, aNil, aCons, slotT, Arg.get, gets, zs, T.data, gN, gsC, gs0, gT, gS, iV, iZ, iR, seqOf, wipeE, restE, gAdd, gSub, gMul, gFdiv, gMod, gPow, gNeg, gLt, gGt, gLe, gGe, gEq, gNe, gIs, gIsN, isNon, gIx, L2.atI, L2.ixN, gLen, gTup, gLst, gSum, gAll, gAny, gAbs, gMax2, gMin2, gDivmod, gInt, gGcd, isT, gAppend, gInsert, gPop, zip2D, zip3D, enumD, gSl, mRev, gRev, mSS, gSS, gMax, gMin, gMaxS, gMinS, gIn, gNin, mExt, mDR, mDL, mCD, gDLen, gDLst, mD0, mD1, gSD, Arg.raw, rangeD1, hb]) ⟨a, b, by rfl⟩
    (by
      rintro d _ ρ ⟨a, b, rfl⟩
      obtain ⟨v, a2, b2, h1, h2, e2⟩ := e_draw a b 20001 (by omega)
      exact ⟨.int v, [po a2 b2, iz n, t, some (.z d)], by simp [defM, startE, backs, sSeq, sSet, setSl, sRet, sRetN, sNx, sBk, sCt, sNo, sIf, sDrop, sPar, sPar3, sAsg, sFor, bV, bT, bAnd, bOr, bNot, truth, mAnd, mOr, mNot, mIf, mC, mZ, mM, mF, mTup, mLst, mCB, mBin, mUn, mChain, mIsi, mIsi2, mSl, mPt, mLC, mBM, mCallD, mCallK, callM, takeT, putT, slotsOf, nodupB, valsZ, gk, oN, oE, aNil, aCons, slotT, Arg.get, gets, zs, T.data, gN, gsC, gs0, gT, gS, iV, iZ, iR, seqOf, wipeE, restE, gAdd, gSub, gMul, gFdiv, gMod, gPow, gNeg, gLt, gGt, gLe, gGe, gEq, gNe, gIs, gIsN, isNon, gIx, L2.atI, L2.ixN, gLen, gTup, gLst, gSum, gAll, gAny, gAbs, gMax2, gMin2, gDivmod, gInt, gGcd, isT, gAppend, gInsert, gPop, zip2D, zip3D, enumD, gSl, mRev, gRev, mSS, gSS, gMax, gMin, gMaxS, gMinS, gIn, gNin, mExt, mDR, mDL, mCD, gDLen, gDLst, mD0, mD1, gSD, Arg.raw, e2], ⟨v, rfl, h1, by omega⟩, a2, b2, by rfl⟩)
  obtain ⟨r, rfl, l2, q⟩ := ints_of _ _ l g
  exact ⟨r, a', b', ⟨by simpa [rangeL] using l2, q⟩, e⟩
theorem e_L_monomial (a b : Int) (n : Nat) (hn : n ≤ 1000) : ∃ (r : List Int) (a' b' : Int), Mo n r ∧ m_L_monomial [pot a b, .z (.int n)] = some (.z (rowD r), [po a' b', iz n]) := by
  obtain ⟨t, a1, b1, t0, t1, e1⟩ := e_draw a b 8 (by decide)
  by_cases ht : t = 0
  · obtain ⟨r, a', b', h, e⟩ := e_mono_2 a1 b1 n (iz 0) hn
    exact ⟨r, a', b', h, by simp [m_L_monomial, defM, startE, backs, sSeq, sSet, setSl, sRet, sRetN, sNx, sBk, sCt, sNo, sIf, sDrop, sPar, sPar3, sAsg, sFor, bV, bT, bAnd, bOr, bNot, truth, mAnd, mOr, mNot, mIf, mC, mZ, mM, mF, mTup, mLst, mCB, mBin, mUn, mChain, mIsi, mIsi2, mSl, mPt, mLC, mBM, mCallD, mCallK, callM, takeT, putT, slotsOf, nodupB, valsZ, gk, oN, oE, aNil, aCons, slotT, Arg.get, gets, zs, T.data, gN, gsC, gs0, gT, gS, iV, iZ, iR, seqOf, wipeE, restE, gAdd, gSub, gMul, gFdiv, gMod, gPow, gNeg, gLt, gGt, gLe, gGe, gEq, gNe, gIs, gIsN, isNon, gIx, L2.atI, L2.ixN, gLen, gTup, gLst, gSum, gAll, gAny, gAbs, gMax2, gMin2, gDivmod, gInt, gGcd, isT, gAppend, gInsert, gPop, zip2D, zip3D, enumD, gSl, mRev, gRev, mSS, gSS, gMax, gMin, gMaxS, gMinS, gIn, gNin, mExt, mDR, mDL, mCD, gDLen, gDLst, mD0, mD1, gSD, Arg.raw, e1, ht, e]⟩
  · obtain ⟨r, a', b', h, e⟩ := e_mono_1 a1 b1 n t hn
    exact ⟨r, a', b', h, by simp [m_L_monomial, defM, startE, backs, sSeq, sSet, setSl, sRet, sRetN, sNx, sBk, sCt, sNo, sIf, sDrop, sPar, sPar3, sAsg, sFor, bV, bT, bAnd, bOr, bNot, truth, mAnd, mOr, mNot, mIf, mC, mZ, mM, mF, mTup, mLst, mCB, mBin, mUn, mChain, mIsi, mIsi2, mSl, mPt, mLC, mBM, mCallD, mCallK, callM, takeT, putT, slotsOf, nodupB, valsZ, gk, oN, oE, aNil, aCons, slotT, Arg.get, gets, zs, T.data, gN, gsC, gs0, gT, gS, iV, iZ, iR, seqOf, wipeE, restE, gAdd, gSub, gMul, gFdiv, gMod, gPow, gNeg, gLt, gGt, gLe, gGe, gEq, gNe, gIs, gIsN, isNon, gIx, L2.atI, L2.ixN, gLen, gTup, gLst, gSum, gAll, gAny, gAbs, gMax2, gMin2, gDivmod, gInt, gGcd, isT, gAppend, gInsert, gPop, zip2D, zip3D, enumD, gSl, mRev, gRev, mSS, gSS, gMax, gMin, gMaxS, gMinS, gIn, gNin, mExt, mDR, mDL, mCD, gDLen, gDLst, mD0, mD1, gSD, Arg.raw, e1, ht, e]⟩
theorem Mo.get {n : Nat} {r : List Int} (h : Mo n r) {i : Nat} (hi : i < n) : ∃ x, r[i]? = some x ∧ 0 ≤ x ∧ x ≤ 20000 := by
  have hl : i < r.length := by rw [h.1]; exact hi
  exact ⟨r[i], by simp [hl], h.2 _ (List.getElem_mem hl)⟩
theorem Mo.set {n : Nat} {r : List Int} (h : Mo n r) (i : Nat) {x : Int} (hx : 0 ≤ x ∧ x ≤ 20000) : Mo n (r.set i x) := ⟨by simpa using h.1, fun y hy => by
  rcases List.mem_or_eq_of_mem_set hy with q | rfl
  · exact h.2 y q
  · exact hx⟩
theorem gIx_ints (r : List Int) (i : Nat) (x : Int) (h : r[i]? = some x) : gIx (.list (r.map .int)) (.int (i : Nat)) = some (.z (.int x)) := by
  have hl : i < r.length := (List.getElem?_eq_some_iff.mp h).1
  show (L2.atI (r.map PyData.int) (i : Nat)).map T.z = _
  rw [atI_nat _ _ (by simpa using hl), List.getElem?_map, h]; rfl
theorem ixN_nat {n i : Nat} (h : i < n) : L2.ixN n (i : Int) = some i := by
  unfold L2.ixN
  rw [if_pos (by omega), if_pos (by omega)]; rfl
theorem e_L_beside (a b : Int) (n : Nat) (r : List Int) (h1 : 1 ≤ n) (hn : n ≤ 1000) (h : Mo n r) : ∃ (r' : List Int) (a' b' : Int), Mo n r' ∧ m_L_beside [pot a b, .z (rowD r)] = some (.z (rowD r'), [po a' b', rz r]) := by
  have hm : (0 : Int) < (r.length : Int) ∧ (r.length : Int) < 1073741824 := by rw [h.1]; omega
  obtain ⟨d1, a1, b1, d10, d11, e1⟩ := e_draw a b (r.length : Int) hm
  obtain ⟨d2, a2, b2, d20, d21, e2⟩ := e_draw a1 b1 (r.length : Int) hm
  obtain ⟨i, rfl⟩ : ∃ i : Nat, d1 = i := ⟨d1.toNat, by omega⟩
  obtain ⟨j, rfl⟩ : ∃ i : Nat, d2 = i := ⟨d2.toNat, by omega⟩
  have hi : i < n := by rw [h.1] at d11; omega
  have hj : j < n := by rw [h.1] at d21; omega
  obtain ⟨x, hx, x0, x1⟩ := h.get hi
  obtain ⟨y, hy, y0, y1⟩ := h.get hj
  have gi := gIx_ints r i x hx
  have gj := gIx_ints r j y hy
  have k1 : k_L_beside_1 [po a b, rz r, none, none, none] = some (.nx, [po a2 b2, rz r, iz i, iz j, none]) := by
    simp [k_L_beside_1, defM, startE, backs, sSeq, sSet, setSl, sRet, sRetN, sNx, sBk, sCt, sNo, sIf, sDrop, sPar, sPar3, sAsg, sFor, bV, bT, bAnd, bOr, bNot, truth, mAnd, mOr, mNot, mIf, mC, mZ, mM, mF, mTup, mLst, mCB, mBin, mUn, mChain, mIsi, mIsi2, mSl, mPt, mLC, mBM, mCallD, mCallK, callM, takeT, putT, slotsOf, nodupB, valsZ, gk, oN, oE, aNil, aCons, slotT, Arg.get, gets, zs, T.data, gN, gsC, gs0, gT, gS, iV, iZ, iR, seqOf, wipeE, restE, gAdd, gSub, gMul, gFdiv, gMod, gPow, gNeg, gLt, gGt, gLe, gGe, gEq, gNe, gIs, gIsN, isNon, gIx, L2.atI, L2.ixN, gLen, gTup, gLst, gSum, gAll, gAny, gAbs, gMax2, gMin2, gDivmod, gInt, gGcd, isT, gAppend, gInsert, gPop, zip2D, zip3D, enumD, gSl, mRev, gRev, mSS, gSS, gMax, gMin, gMaxS, gMinS, gIn, gNin, mExt, mDR, mDL, mCD, gDLen, gDLst, mD0, mD1, gSD, Arg.raw, e1, e2]
  have k2 : k_L_beside_2 [po a2 b2, rz r, iz i, iz j, none] = some (.nx, [po a2 b2, rz r, iz i, iz j, some (.l (r.map .int))]) := by
    simp [k_L_beside_2, defM, startE, backs, sSeq, sSet, setSl, sRet, sRetN, sNx, sBk, sCt, sNo, sIf, sDrop, sPar, sPar3, sAsg, sFor, bV, bT, bAnd, bOr, bNot, truth, mAnd, mOr, mNot, mIf, mC, mZ, mM, mF, mTup, mLst, mCB, mBin, mUn, mChain, mIsi, mIsi2, mSl, mPt, mLC, mBM, mCallD, mCallK, callM, takeT, putT, slotsOf, nodupB, valsZ, gk, oN, oE, aNil, aCons, slotT, Arg.get, gets, zs, T.data, gN, gsC, gs0, gT, gS, iV, iZ, iR, seqOf, wipeE, restE, gAdd, gSub, gMul, gFdiv, gMod, gPow, gNeg, gLt, gGt, gLe, gGe, gEq, gNe, gIs, gIsN, isNon, gIx, L2.atI, L2.ixN, gLen, gTup, gLst, gSum, gAll, gAny, gAbs, gMax2, gMin2, gDivmod, gInt, gGcd, isT, gAppend, gInsert, gPop, zip2D, zip3D, enumD, gSl, mRev, gRev, mSS, gSS, gMax, gMin, gMaxS, gMinS, gIn, gNin, mExt, mDR, mDL, mCD, gDLen, gDLst, mD0, mD1, gSD, Arg.raw]
  have fin : ∀ r', Mo n r' → k_L_beside_3 [po a2 b2, rz r, iz i, iz j, some (.l (r.map .int))] = some (.nx, [po a2 b2, rz r, iz i, iz j, some (.l (r'.map .int))]) → ∃ (r' : List Int) (a' b' : Int), Mo n r' ∧ m_L_beside [pot a b, .z (rowD r)] = some (.z (rowD r'), [po a' b', rz r]) := by
    intro r' hr' k3
    refine ⟨r', a2, b2, hr', ?_⟩
    show ((((k_L_beside_1 _).bind _).bind _)) = _
    rw [show startE 5 [pot a b, T.z (rowD r)] = [po a b, rz r, none, none, none] from rfl, k1]
    simp [sSeq, k2, k3, k_L_beside_4, sRet, mCB, oN, aCons, aNil, slotT, gets, Arg.get, T.data, gTup, backs]
  by_cases c : i = j
  · refine fin r h ?_
    simp [k_L_beside_3, defM, startE, backs, sSeq, sSet, setSl, sRet, sRetN, sNx, sBk, sCt, sNo, sIf, sDrop, sPar, sPar3, sAsg, sFor, bV, bT, bAnd, bOr, bNot, truth, mAnd, mOr, mNot, mIf, mC, mZ, mM, mF, mTup, mLst, mCB, mBin, mUn, mChain, mIsi, mIsi2, mSl, mPt, mLC, mBM, mCallD, mCallK, callM, takeT, putT, slotsOf, nodupB, valsZ, gk, oN, oE, aNil, aCons, slotT, Arg.get, gets, zs, T.data, gN, gsC, gs0, gT, gS, iV, iZ, iR, seqOf, wipeE, restE, gAdd, gSub, gMul, gFdiv, gMod, gPow, gNeg, gLt, gGt, gLe, gGe, gEq, gNe, gIs, gIsN, isNon, gIx, L2.atI, L2.ixN, gLen, gTup, gLst, gSum, gAll, gAny, gAbs, gMax2, gMin2, gDivmod, gInt, gGcd, isT, gAppend, gInsert, gPop, zip2D, zip3D, enumD, gSl, mRev, gRev, mSS, gSS, gMax, gMin, gMaxS, gMinS, gIn, gNin, mExt, mDR, mDL, mCD, gDLen, gDLst, mD0, mD1, gSD, Arg.raw, c]
  · by_cases c1 : x > 0
    · by_cases c2 : y < 20000
      · refine fin ((r.set i (x - 1)).set j (y + 1)) ((h.set i ⟨by omega, by omega⟩).set j ⟨by omega, by omega⟩) ?_
        have x1 : L2.ixN r.length (i : Int) = some i := ixN_nat (by rw [h.1]; exact hi)
        have x2 : L2.ixN (r.set i (x - 1)).length (j : Int) = some j := ixN_nat (by rw [List.length_set, h.1]; exact hj)
        have cn : ¬ (i : Int) = (j : Int) := by omega
        have l1 : (r.map PyData.int).length = r.length := by simp
        have x2' : L2.ixN ((r.map PyData.int).set i (.int (x - 1))).length (j : Int) = some j := by simpa using x2
        simp [k_L_beside_3, sIf, sAsg, sNx, bAnd, bV, mTup, mBin, mC, gT, gsC, gs0, gS, oN, oE, aNil, aCons, slotT, zs, Arg.get, T.data, gNe, gGt, gLt, gSub, gAdd, bo, io, gi, gj, c1, c2, cn, x1, ixN_nat (show j < r.length by rw [h.1]; exact hj)]
      · refine fin r h ?_
        have cn : ¬ (i : Int) = (j : Int) := by omega
        generalize r.map PyData.int = R at *
        simp [k_L_beside_3, sIf, sAsg, sNx, bAnd, bV, mBin, mC, oN, oE, slotT, Arg.get, T.data, gNe, gGt, gLt, bo, gi, gj, c1, c2, cn]
    · refine fin r h ?_
      have cn : ¬ (i : Int) = (j : Int) := by omega
      generalize r.map PyData.int = R at *
      simp [k_L_beside_3, sIf, sAsg, sNx, bAnd, bV, mBin, mC, oN, oE, slotT, Arg.get, T.data, gNe, gGt, gLt, bo, gi, gj, c1, cn]
end My

set_option Elab.async false
set_option maxRecDepth 100000
set_option linter.all false
set_option maxHeartbeats 1000000
namespace My
open PySem VL
theorem Mo.ok {n : Nat} {r : List Int} (h : Mo n r) : okM n r = true := by
  unfold okM cnt
  simp only [Bool.and_eq_true, decide_eq_true_eq, List.all_eq_true]
  exact ⟨h.2, h.1⟩
theorem okShow_rows {n : Nat} {rs : List (List Int)} (h : ∀ r ∈ rs, Mo n r) (hn : n ≤ 40) (hl : rs.length ≤ 60) : okShow (.list (rs.map rowD)) = true := by
  refine okShow_of (n := 2) (okD_rows (n := 0) fun r hr a ha => by have := (h r hr).2 a ha; omega).1 (by omega) ?_
  have b := bulkAll_rows (k := 40) (rs := rs) fun r hr => by have := (h r hr).1; omega
  have : (40 + 1) * rs.length ≤ 41 * 60 := Nat.mul_le_mul (by omega) hl
  show PyData.bulkAll (rs.map rowD) ≤ _
  omega
/-! ### the first loop: eight monomials -/
theorem e_lr1 (a b : Int) (O W : Option T) (n : Nat) (h1 : 1 ≤ n) (hn : n ≤ 40) : ∃ (l : List (List Int)) (a' b' : Int) (c : Option T), l.length = 8 ∧ (∀ r ∈ l, Mo n r) ∧
    l_L_right_1 [po a b, iz n, W, O, some (.l []), none, none, none, none, none, none, none, none, none, none, none, none] = some (.nx, [po a' b', iz n, W, O, some (.l (l.map rowD)), c, none, none, none, none, none, none, none, none, none, none, none]) := by
  obtain ⟨f, ρ', e, rfl, a1, b1, l, c, hl, hm, rfl⟩ := sFor_rel (ds := [.int 0, .int 1, .int 2, .int 3]) (ρ1 := [po a b, iz n, W, O, some (.l []), none, none, none, none, none, none, none, none, none, none, none, none]) (mi := iR rangeD1 (aCons (oE (mC (.int 4))) aNil)) (mg := gN 5) (mb := sSeq
    (sDrop (mBM 4 gAppend (aCons (oE (mF (mCallD m_L_monomial [true, false] [] (aCons (oN 0) (aCons (oE (mZ 1)) aNil))))) aNil)))
    (sDrop (mBM 4 gAppend (aCons (oE (mF (mCallD m_L_beside [true, false] [] (aCons (oN 0) (aCons (oE (mBin gIx (oN 4) (oE (mUn gNeg (oE (mC (.int 1))))))) aNil))))) aNil))))
    (ρ := [po a b, iz n, W, O, some (.l []), none, none, none, none, none, none, none, none, none, none, none, none])
    (fun ds ρ => ∃ (a b : Int) (l : List (List Int)) (c : Option T), l.length + 2 * ds.length = 8 ∧ (∀ r ∈ l, Mo n r) ∧ ρ = [po a b, iz n, W, O, some (.l (l.map rowD)), c, none, none, none, none, none, none, none, none, none, none, none])
    (fun f ρ => f = .nx ∧ ∃ (a b : Int) (l : List (List Int)) (c : Option T), l.length = 8 ∧ (∀ r ∈ l, Mo n r) ∧ ρ = [po a b, iz n, W, O, some (.l (l.map rowD)), c, none, none, none, none, none, none, none, none, none, none, none])
    (by simp [defM, startE, backs, sSeq, sSet, setSl, sRet, sRetN, sNx, sBk, sCt, sNo, sIf, sDrop, sPar, sPar3, sAsg, sFor, bV, bT, bAnd, bOr, bNot, truth, mAnd, mOr, mNot, mIf, mC, mZ, mM, mF, mTup, mLst, mCB, mBin, mUn, mChain, mIsi, mIsi2, mSl, mPt, mLC, mBM, mCallD, mCallK, callM, takeT, putT, slotsOf, nodupB, valsZ, gk, oN, oE, aNil, aCons, slotT, Arg.get, gets, zs, T.data, gN, gsC, gs0, gT, gS, iV, iZ, iR, seqOf, wipeE, restE, gAdd, gSub, gMul, gFdiv, gMod, gPow, gNeg, gLt, gGt, gLe, gGe, gEq, gNe, gIs, gIsN, isNon, gIx, L2.atI, L2.ixN, gLen, gTup, gLst, gSum, gAll, gAny, gAbs, gMax2, gMin2, gDivmod, gInt, gGcd, isT, gAppend, gInsert, gPop, zip2D, zip3D, enumD, gSl, mRev, gRev, mSS, gSS, gMax, gMin, gMaxS, gMinS, gIn, gNin, mExt, mDR, mDL, mCD, gDLen, gDLst, mD0, mD1, gSD, Arg.raw, rangeD1, big]; rfl) ⟨a, b, [], none, by simp, by simp, rfl⟩ (by rintro ρ ⟨a, b, l, c, h, hm, rfl⟩; exact ⟨rfl, a, b, l, c, by simpa using h, hm, rfl⟩) (by
      rintro d ds ρ ⟨a, b, l, c, hl, hm, rfl⟩
      obtain ⟨r, a1, b1, hr, e1⟩ := e_L_monomial a b n (by omega)
      obtain ⟨r2, a2, b2, hr2, e2⟩ := e_L_beside a1 b1 n r h1 (by omega) hr
      simp only [List.length_cons] at hl
      have l1 : l.length < 100000 := by omega
      have l2 : l.length + 1 < 100000 := by omega
      refine ⟨.nx, _, ?_, a2, b2, l ++ [r, r2], some (.z d), by simp; omega, ?_, rfl⟩
      · have ix : gIx (.list ((l.map rowD) ++ [rowD r])) (.int (-1)) = some (.z (rowD r)) := by
          show (L2.atI ((l.map rowD) ++ [rowD r]) (-1)).map T.z = _
          rw [atI_last]; rfl
        have le : (l.map rowD).length = l.length := by simp
        have ee : (l ++ [r, r2]).map rowD = l.map rowD ++ [rowD r] ++ [rowD r2] := by simp
        rw [ee]
        generalize l.map rowD = L at *
        generalize rowD r = R at *
        generalize rowD r2 = R2 at *
        simp [gN, sSeq, sDrop, setSl, mBM, mF, mCallD, callM, takeT, putT, slotsOf, nodupB, mBin, mUn, mC, mZ, gAppend, gNeg, zs, oN, oE, aNil, aCons, slotT, Arg.get, T.data, io, e1, e2, ix, le, l1, l2]
      · intro x hx
        simp only [List.mem_append, List.mem_cons, List.not_mem_nil, or_false] at hx
        rcases hx with hx | rfl | rfl
        · exact hm x hx
        · exact hr
        · exact hr2)
  exact ⟨l, a1, b1, c, hl, hm, e⟩
/-! ### the two loops over pairs -/
theorem int_show (i : Int) (h : i = 0 ∨ i = 1 ∨ i = -1) : okShow (.int i) = true := okShow_int (by rcases h with rfl | rfl | rfl <;> decide)
theorem cmpR_small (w a b : List Int) : cmpR w a b = 0 ∨ cmpR w a b = 1 ∨ cmpR w a b = -1 := by
  unfold cmpR
  split
  · exact .inl rfl
  · split
    · exact .inr (.inl rfl)
    · exact .inr (.inr rfl)
theorem e_lr2 (P N c5 c8 c7 : Option T) (w x : List Int) (l : List (List Int)) (S : T) (hS : S = .l (l.map rowD) ∨ S = .z (.list (l.map rowD))) (hw : Gw w) (h : Sm w) (hx : okM w.length x = true) (hl : ∀ r ∈ l, okM w.length r = true) :
    ∃ d7 d8, l_L_right_2 [P, N, rz w, some (.z (ordD w)), some S, c5, rz x, c7, c8, none, none, none, none, none, none, none, none] = some (.nx, [P, N, rz w, some (.z (ordD w)), some (.z (.list (l.map rowD))), c5, rz x, d7, d8, none, none, none, none, none, none, none, none]) := by
  have hz : mZ 4 [P, N, rz w, some (.z (ordD w)), some S, c5, rz x, c7, c8, none, none, none, none, none, none, none, none] = some (.z (.list (l.map rowD)), [P, N, rz w, some (.z (ordD w)), some (.z (.list (l.map rowD))), c5, rz x, c7, c8, none, none, none, none, none, none, none, none]) := by
    rcases hS with rfl | rfl <;> rfl
  obtain ⟨c', e, _⟩ := sFor_fold (mi := iV (mZ 4)) (mg := gN 7) (mb := sSeq
    (sSet 8 (mCallD m_L_compared [false, false, false] [] (aCons (oE (mZ 2)) (aCons (oE (mZ 6)) (aCons (oE (mZ 7)) aNil)))))
    (sIf (bV (mBin gNe (oE (mCB gRepr (aCons (oE (mCallD m_greater [false, false, false] [] (aCons (oE (mZ 3)) (aCons (oE (mZ 6)) (aCons (oE (mZ 7)) aNil))))) aNil))) (oE (mCB gRepr (aCons (oN 8) aNil))))) (sRet (mC (.bool false))) sNx))
    (ρ := [P, N, rz w, some (.z (ordD w)), some S, c5, rz x, c7, c8, none, none, none, none, none, none, none, none]) rowD (fun (_ : Unit) (c : Option T × Option T) => [P, N, rz w, some (.z (ordD w)), some (.z (.list (l.map rowD))), c5, rz x, c.1, c.2, none, none, none, none, none, none, none, none]) (fun _ _ => ()) (fun _ _ => True) l () (c7, c8)
    (by show (mZ 4 _).bind _ = _; rw [hz]; rfl) trivial (by
      intro r hr n b c _ _
      have hr' := hl r hr
      have lx : x.length = w.length := by unfold okM at hx; simp only [Bool.and_eq_true, decide_eq_true_eq] at hx; exact hx.2
      have lr : r.length = w.length := by unfold okM at hr'; simp only [Bool.and_eq_true, decide_eq_true_eq] at hr'; exact hr'.2
      have e1 := e_L_compared w x r h lx lr
      have e2 := e_greater' w x r hw h hx hr'
      rw [show (if x = r then (0 : Int) else if ltI (fk w r) (fk w x) = true then 1 else -1) = cmpR w x r from rfl] at e2
      have ok := int_show _ (cmpR_small w x r)
      refine ⟨trivial, (rz r, iz (cmpR w x r)), ?_⟩
      generalize cmpR w x r = C at *
      generalize l.map rowD = L at *
      generalize ordD w = O at *
      simp [gN, sSeq, sSet, sIf, sNx, setSl, bV, mCB, gRepr, mCallD, callM, takeT, putT, slotsOf, nodupB, mBin, mC, mZ, gets, oN, oE, aNil, aCons, slotT, Arg.get, T.data, gNe, bo, e1, e2, ok, str_beq])
  exact ⟨c'.1, c'.2, e⟩
theorem e_lr3 (P N c5 : Option T) (w : List Int) (l : List (List Int)) (hl8 : l.length = 8) (hw : Gw w) (h : Sm w) (hl : ∀ r ∈ l, okM w.length r = true) :
    ∃ d6 d7 d8, l_L_right_3 [P, N, rz w, some (.z (ordD w)), some (.l (l.map rowD)), c5, none, none, none, none, none, none, none, none, none, none, none] = some (.nx, [P, N, rz w, some (.z (ordD w)), some (.z (.list (l.map rowD))), c5, d6, d7, d8, none, none, none, none, none, none, none, none]) := by
  have ct : cutD (l.map rowD) none (some 4) = (l.take 4).map rowD := by
    have := cutD_to (l.map rowD) 4
    rw [← List.map_take] at this
    exact this
  obtain ⟨f, ρ', e, rfl, c4, d6, d7, d8, h4, rfl⟩ := sFor_rel (ds := (l.take 4).map rowD) (ρ1 := [P, N, rz w, some (.z (ordD w)), some (.l (l.map rowD)), c5, none, none, none, none, none, none, none, none, none, none, none]) (mi := iV (mF (mSl (oN 4) none (some (oE (mC (.int 4))))))) (mg := gN 6) (mb := l_L_right_2)
    (ρ := [P, N, rz w, some (.z (ordD w)), some (.l (l.map rowD)), c5, none, none, none, none, none, none, none, none, none, none, none])
    (fun ds ρ => (∀ d ∈ ds, ∃ x ∈ l, d = rowD x) ∧ ∃ S d6 d7 d8, (S = .l (l.map rowD) ∨ S = .z (.list (l.map rowD))) ∧ (ds = [] → S = .z (.list (l.map rowD))) ∧ ρ = [P, N, rz w, some (.z (ordD w)), some S, c5, d6, d7, d8, none, none, none, none, none, none, none, none])
    (fun f ρ => f = .nx ∧ ∃ S d6 d7 d8, S = .z (.list (l.map rowD)) ∧ ρ = [P, N, rz w, some (.z (ordD w)), some S, c5, d6, d7, d8, none, none, none, none, none, none, none, none])
    (by
      generalize (l.take 4).map rowD = R at *
      generalize l.map rowD = L at *
      simp [iV, mF, mSl, mPt, oN, oE, mC, slotT, Arg.get, T.data, gSl, ct, seqOf])
    ⟨fun d hd => by obtain ⟨x, hx, rfl⟩ := List.mem_map.mp hd; exact ⟨x, List.mem_of_mem_take hx, rfl⟩, .l (l.map rowD), none, none, none, .inl rfl, fun z => by
      have := congrArg List.length z
      simp [hl8] at this, rfl⟩
    (by rintro ρ ⟨_, S, d6, d7, d8, _, h2, rfl⟩; exact ⟨rfl, S, d6, d7, d8, h2 rfl, rfl⟩)
    (by
      rintro d ds ρ ⟨hd, S, d6, d7, d8, hS, _, rfl⟩
      obtain ⟨x, hx, rfl⟩ := hd d (List.mem_cons_self ..)
      obtain ⟨e7, e8, e2⟩ := e_lr2 P N c5 d8 d7 w x l S hS hw h (hl x hx) hl
      exact ⟨.nx, _, e2, fun d hd' => hd d (List.mem_cons_of_mem _ hd'), .z (.list (l.map rowD)), rz x, e7, e8, .inr rfl, fun _ => rfl, rfl⟩)
  subst h4
  exact ⟨d6, d7, d8, e⟩
end My

set_option Elab.async false
set_option maxRecDepth 100000
set_option linter.all false
set_option maxHeartbeats 1000000
namespace My
open PySem VL
def addR (x y : List Int) : List Int := List.zipWith (fun a b => a + b) x y
theorem addR_len {x y : List Int} (h : x.length = y.length) : (addR x y).length = x.length := by simp [addR]; omega
theorem lt_addR : ∀ {u v m : List Int}, u.length = m.length → v.length = m.length → ltI (addR u m) (addR v m) = ltI u v
  | [], [], _, _, _ => by simp [addR]
  | [], _ :: _, [], h, k => by simp at k
  | [], _ :: _, _ :: _, h, k => by simp at h
  | _ :: _, [], [], h, k => by simp at h
  | _ :: _, [], _ :: _, h, k => by simp at k
  | _ :: _, _ :: _, [], h, k => by simp at h
  | x :: u, y :: v, z :: m, h, k => by
    have ih := lt_addR (u := u) (v := v) (m := m) (by simpa using h) (by simpa using k)
    simp only [addR, List.zipWith_cons_cons, ltI] at *
    rw [ih]
    by_cases e : x = y
    · subst e; simp
    · rw [if_neg e, if_neg (by omega), decide_eq_decide]; omega
theorem dot_addR : ∀ {w a m : List Int}, a.length = m.length → dot w (addR a m) = dot w a + dot w m
  | [], _, _, _ => by simp [dot]
  | _ :: _, [], [], _ => by simp [dot, addR]
  | _ :: _, [], _ :: _, h => by simp at h
  | _ :: _, _ :: _, [], h => by simp at h
  | x :: w, y :: a, z :: m, h => by
    have ih := dot_addR (w := w) (a := a) (m := m) (by simpa using h)
    simp only [dot, addR, List.zipWith_cons_cons, List.zip_cons_cons, List.map_cons, List.sum_cons] at *
    rw [ih, Int.mul_add]; omega
theorem sum_addR : ∀ {a m : List Int}, a.length = m.length → (addR a m).sum = a.sum + m.sum
  | [], [], _ => by simp [addR]
  | [], _ :: _, h => by simp at h
  | _ :: _, [], h => by simp at h
  | y :: a, z :: m, h => by
    have ih := sum_addR (a := a) (m := m) (by simpa using h)
    simp only [addR, List.zipWith_cons_cons, List.sum_cons] at *
    rw [ih]; omega
theorem neg_addR : ∀ a m : List Int, (addR a m).map (fun n => -n) = addR (a.map fun n => -n) (m.map fun n => -n)
  | [], _ => by simp [addR]
  | _ :: _, [] => by simp [addR]
  | y :: a, z :: m => by
    have ih := neg_addR a m
    simp only [addR, List.zipWith_cons_cons, List.map_cons] at *
    rw [ih]
    congr 1
    omega
theorem fk_addR {w a m : List Int} (h : a.length = m.length) : fk w (addR a m) = addR (fk w a) (fk w m) := by
  have r : (addR a m).reverse = addR a.reverse m.reverse := by
    unfold addR
    exact List.reverse_zipWith h
  unfold fk
  rw [dot_addR h, sum_addR h, r, neg_addR]
  rfl
theorem cmp_addR {w x y m : List Int} (hx : x.length = m.length) (hy : y.length = m.length) : cmpR w (addR x m) (addR y m) = cmpR w x y := by
  have lx : (fk w x).length = (fk w m).length := by simp [fk, hx]
  have ly : (fk w y).length = (fk w m).length := by simp [fk, hy]
  have l1 : ltI (fk w (addR y m)) (fk w (addR x m)) = ltI (fk w y) (fk w x) := by rw [fk_addR hx, fk_addR hy, lt_addR ly lx]
  have l2 : ltI (fk w (addR x m)) (fk w (addR y m)) = ltI (fk w x) (fk w y) := by rw [fk_addR hx, fk_addR hy, lt_addR lx ly]
  have eq : addR x m = addR y m ↔ x = y := by
    refine ⟨fun e => ?_, fun e => by rw [e]⟩
    rw [e, ltI_irr] at l1 l2
    exact fk_inj (ltI_tri _ _ l2.symm l1.symm)
  unfold cmpR
  rw [l1]
  by_cases e : x = y
  · rw [if_pos e, if_pos (eq.mpr e)]
  · rw [if_neg e, if_neg (fun z => e (eq.mp z))]
theorem foldl_max (l : List Int) (x k : Int) : l.foldl max x ≤ k ↔ x ≤ k ∧ ∀ n ∈ l, n ≤ k := by
  induction l generalizing x with
  | nil => simp
  | cons a l ih =>
    rw [List.foldl_cons, ih]
    simp only [List.mem_cons, forall_eq_or_imp, ← and_assoc]
    refine and_congr_left fun _ => ?_
    omega
theorem gMax_tup (r : List Int) (h : r ≠ []) : ∃ k, gMax [.tuple (r.map .int)] = some (.z (.int k)) ∧ ∀ c, k ≤ c ↔ ∀ n ∈ r, n ≤ c := by
  cases r with
  | nil => exact absurd rfl h
  | cons x l =>
    refine ⟨l.foldl max x, ?_, fun c => by rw [foldl_max]; simp⟩
    have := ints?_ints (x :: l)
    simp only [List.map_cons] at this
    simp [gMax, gMaxS, this, io]
/-! ### the rest of the law -/
theorem e_lr4 (a b : Int) (n : Nat) (hn : n ≤ 1000) (c2 c3 c4 c5 c6 c7 c8 c9 c10 c11 c12 c13 : Option T) : ∃ (r : List Int) (a' b' : Int), r.length = n ∧ (∀ x ∈ r, 0 ≤ x ∧ x ≤ 2) ∧ l_L_right_4 [po a b, iz n, c2, c3, c4, c5, c6, c7, c8, c9, c10, c11, c12, c13, none, none, none] = some (.l (r.map .int), [po a' b', iz n, c2, c3, c4, c5, c6, c7, c8, c9, c10, c11, c12, c13, none, none, none]) := by
  have hb : -big ≤ (n : Int) ∧ (n : Int) ≤ 1000000 := by unfold big; omega
  obtain ⟨ys, ρ', e, ⟨a', b', rfl⟩, l, g⟩ := mLC_rel (ds := rangeL 0 n) (ρ1 := [po a b, iz n, c2, c3, c4, c5, c6, c7, c8, c9, c10, c11, c12, c13, none, none, none]) (mi := (iR rangeD1 (aCons (oN 1) aNil))) (mg := (gN 14)) (me := (mF (mCallD m_L_draw [true, false] [] (aCons (oN 0) (aCons (oE (mC (.int 3))) aNil))))) (vs := [14]) (ρ := [po a b, iz n, c2, c3, c4, c5, c6, c7, c8, c9, c10, c11, c12, c13, none, none, none])
    (fun ρ => ∃ a b, ρ = [po a b, iz n, c2, c3, c4, c5, c6, c7, c8, c9, c10, c11, c12, c13, none, none, none]) (fun d y => ∃ v, y = .int v ∧ (0 ≤ v ∧ v ≤ 2)) (by simp [defM, startE, backs, sSeq, sSet, setSl, sRet, sRetN, sNx, sBk, sCt, sNo, sIf, sDrop, sPar, sPar3, sAsg, sFor, bV, bT, bAnd, bOr, bNot, truth, mAnd, mOr, mNot, mIf, mC, mZ, mM, mF, mTup, mLst, mCB, mBin, mUn, mChain, mIsi, mIsi2, mSl, mPt, mLC, mBM, mCallD, mCallK, callM, takeT, putT, slotsOf, nodupB, valsZ, gk, oN, oE, aNil, aCons, slotT, Arg.get, gets, zs, T.data, gN, gsC, gs0, gT, gS, iV, iZ, iR, seqOf, wipeE, restE, gAdd, gSub, gMul, gFdiv, gMod, gPow, gNeg, gLt, gGt, gLe, gGe, gEq, gNe, gIs, gIsN, isNon, gIx, L2.atI, L2.ixN, gLen, gTup, gLst, gSum, gAll, gAny, gAbs, gMax2, gMin2, gDivmod, gInt, gGcd, isT, gAppend, gInsert, gPop, zip2D, zip3D, enumD, gSl, mRev, gRev, mSS, gSS, gMax, gMin, gMaxS, gMinS, gIn, gNin, mExt, mDR, mDL, mCD, gDLen, gDLst, mD0, mD1, gSD, Arg.raw, rangeD1, hb]) ⟨a, b, by rfl⟩
    (by
      rintro d _ ρ ⟨a, b, rfl⟩
      obtain ⟨v, a2, b2, h1, h2, e2⟩ := e_draw a b 3 (by omega)
      exact ⟨.int v, [po a2 b2, iz n, c2, c3, c4, c5, c6, c7, c8, c9, c10, c11, c12, c13, some (.z d), none, none], by simp [defM, startE, backs, sSeq, sSet, setSl, sRet, sRetN, sNx, sBk, sCt, sNo, sIf, sDrop, sPar, sPar3, sAsg, sFor, bV, bT, bAnd, bOr, bNot, truth, mAnd, mOr, mNot, mIf, mC, mZ, mM, mF, mTup, mLst, mCB, mBin, mUn, mChain, mIsi, mIsi2, mSl, mPt, mLC, mBM, mCallD, mCallK, callM, takeT, putT, slotsOf, nodupB, valsZ, gk, oN, oE, aNil, aCons, slotT, Arg.get, gets, zs, T.data, gN, gsC, gs0, gT, gS, iV, iZ, iR, seqOf, wipeE, restE, gAdd, gSub, gMul, gFdiv, gMod, gPow, gNeg, gLt, gGt, gLe, gGe, gEq, gNe, gIs, gIsN, isNon, gIx, L2.atI, L2.ixN, gLen, gTup, gLst, gSum, gAll, gAny, gAbs, gMax2, gMin2, gDivmod, gInt, gGcd, isT, gAppend, gInsert, gPop, zip2D, zip3D, enumD, gSl, mRev, gRev, mSS, gSS, gMax, gMin, gMaxS, gMinS, gIn, gNin, mExt, mDR, mDL, mCD, gDLen, gDLst, mD0, mD1, gSD, Arg.raw, e2], ⟨v, rfl, h1, by omega⟩, a2, b2, by rfl⟩)
  obtain ⟨r, rfl, l2, q⟩ := ints_of _ _ l g
  exact ⟨r, a', b', by simpa [rangeL] using l2, q, e⟩
theorem e_lr5 (c0 c1 c2 c3 c4 c5 c7 c8 c10 c11 c12 c13 : Option T) (x m : List Int) : l_L_right_5 [c0, c1, c2, c3, c4, c5, rz x, c7, c8, rz m, c10, c11, c12, c13, none, none, none] = some (.l ((addR x m).map .int), [c0, c1, c2, c3, c4, c5, rz x, c7, c8, rz m, c10, c11, c12, c13, none, none, none]) := by
  rw [l_L_right_5, mLC_map (α := Int × Int) (g := fun p => .tuple [.int p.1, .int p.2]) (f := fun p => .int (p.1 + p.2)) (as := x.zip m) (ρ1 := [c0, c1, c2, c3, c4, c5, rz x, c7, c8, rz m, c10, c11, c12, c13, none, none, none])]
  · simp [defM, startE, backs, sSeq, sSet, setSl, sRet, sRetN, sNx, sBk, sCt, sNo, sIf, sDrop, sPar, sPar3, sAsg, sFor, bV, bT, bAnd, bOr, bNot, truth, mAnd, mOr, mNot, mIf, mC, mZ, mM, mF, mTup, mLst, mCB, mBin, mUn, mChain, mIsi, mIsi2, mSl, mPt, mLC, mBM, mCallD, mCallK, callM, takeT, putT, slotsOf, nodupB, valsZ, gk, oN, oE, aNil, aCons, slotT, Arg.get, gets, zs, T.data, gN, gsC, gs0, gT, gS, iV, iZ, iR, seqOf, wipeE, restE, gAdd, gSub, gMul, gFdiv, gMod, gPow, gNeg, gLt, gGt, gLe, gGe, gEq, gNe, gIs, gIsN, isNon, gIx, L2.atI, L2.ixN, gLen, gTup, gLst, gSum, gAll, gAny, gAbs, gMax2, gMin2, gDivmod, gInt, gGcd, isT, gAppend, gInsert, gPop, zip2D, zip3D, enumD, gSl, mRev, gRev, mSS, gSS, gMax, gMin, gMaxS, gMinS, gIn, gNin, mExt, mDR, mDL, mCD, gDLen, gDLst, mD0, mD1, gSD, Arg.raw, addR, zipW_map]
  · simp [defM, startE, backs, sSeq, sSet, setSl, sRet, sRetN, sNx, sBk, sCt, sNo, sIf, sDrop, sPar, sPar3, sAsg, sFor, bV, bT, bAnd, bOr, bNot, truth, mAnd, mOr, mNot, mIf, mC, mZ, mM, mF, mTup, mLst, mCB, mBin, mUn, mChain, mIsi, mIsi2, mSl, mPt, mLC, mBM, mCallD, mCallK, callM, takeT, putT, slotsOf, nodupB, valsZ, gk, oN, oE, aNil, aCons, slotT, Arg.get, gets, zs, T.data, gN, gsC, gs0, gT, gS, iV, iZ, iR, seqOf, wipeE, restE, gAdd, gSub, gMul, gFdiv, gMod, gPow, gNeg, gLt, gGt, gLe, gGe, gEq, gNe, gIs, gIsN, isNon, gIx, L2.atI, L2.ixN, gLen, gTup, gLst, gSum, gAll, gAny, gAbs, gMax2, gMin2, gDivmod, gInt, gGcd, isT, gAppend, gInsert, gPop, zip2D, zip3D, enumD, gSl, mRev, gRev, mSS, gSS, gMax, gMin, gMaxS, gMinS, gIn, gNin, mExt, mDR, mDL, mCD, gDLen, gDLst, mD0, mD1, gSD, Arg.raw, zipW_map, List.zip_map, Function.comp_def]
  · intro p _; simp [defM, startE, backs, sSeq, sSet, setSl, sRet, sRetN, sNx, sBk, sCt, sNo, sIf, sDrop, sPar, sPar3, sAsg, sFor, bV, bT, bAnd, bOr, bNot, truth, mAnd, mOr, mNot, mIf, mC, mZ, mM, mF, mTup, mLst, mCB, mBin, mUn, mChain, mIsi, mIsi2, mSl, mPt, mLC, mBM, mCallD, mCallK, callM, takeT, putT, slotsOf, nodupB, valsZ, gk, oN, oE, aNil, aCons, slotT, Arg.get, gets, zs, T.data, gN, gsC, gs0, gT, gS, iV, iZ, iR, seqOf, wipeE, restE, gAdd, gSub, gMul, gFdiv, gMod, gPow, gNeg, gLt, gGt, gLe, gGe, gEq, gNe, gIs, gIsN, isNon, gIx, L2.atI, L2.ixN, gLen, gTup, gLst, gSum, gAll, gAny, gAbs, gMax2, gMin2, gDivmod, gInt, gGcd, isT, gAppend, gInsert, gPop, zip2D, zip3D, enumD, gSl, mRev, gRev, mSS, gSS, gMax, gMin, gMaxS, gMinS, gIn, gNin, mExt, mDR, mDL, mCD, gDLen, gDLst, mD0, mD1, gSD, Arg.raw]
theorem e_lr6 (c0 c1 c2 c3 c4 c5 c6 c8 c10 c11 c12 c13 : Option T) (x m : List Int) : l_L_right_6 [c0, c1, c2, c3, c4, c5, c6, rz x, c8, rz m, c10, c11, c12, c13, none, none, none] = some (.l ((addR x m).map .int), [c0, c1, c2, c3, c4, c5, c6, rz x, c8, rz m, c10, c11, c12, c13, none, none, none]) := by
  rw [l_L_right_6, mLC_map (α := Int × Int) (g := fun p => .tuple [.int p.1, .int p.2]) (f := fun p => .int (p.1 + p.2)) (as := x.zip m) (ρ1 := [c0, c1, c2, c3, c4, c5, c6, rz x, c8, rz m, c10, c11, c12, c13, none, none, none])]
  · simp [defM, startE, backs, sSeq, sSet, setSl, sRet, sRetN, sNx, sBk, sCt, sNo, sIf, sDrop, sPar, sPar3, sAsg, sFor, bV, bT, bAnd, bOr, bNot, truth, mAnd, mOr, mNot, mIf, mC, mZ, mM, mF, mTup, mLst, mCB, mBin, mUn, mChain, mIsi, mIsi2, mSl, mPt, mLC, mBM, mCallD, mCallK, callM, takeT, putT, slotsOf, nodupB, valsZ, gk, oN, oE, aNil, aCons, slotT, Arg.get, gets, zs, T.data, gN, gsC, gs0, gT, gS, iV, iZ, iR, seqOf, wipeE, restE, gAdd, gSub, gMul, gFdiv, gMod, gPow, gNeg, gLt, gGt, gLe, gGe, gEq, gNe, gIs, gIsN, isNon, gIx, L2.atI, L2.ixN, gLen, gTup, gLst, gSum, gAll, gAny, gAbs, gMax2, gMin2, gDivmod, gInt, gGcd, isT, gAppend, gInsert, gPop, zip2D, zip3D, enumD, gSl, mRev, gRev, mSS, gSS, gMax, gMin, gMaxS, gMinS, gIn, gNin, mExt, mDR, mDL, mCD, gDLen, gDLst, mD0, mD1, gSD, Arg.raw, addR, zipW_map]
  · simp [defM, startE, backs, sSeq, sSet, setSl, sRet, sRetN, sNx, sBk, sCt, sNo, sIf, sDrop, sPar, sPar3, sAsg, sFor, bV, bT, bAnd, bOr, bNot, truth, mAnd, mOr, mNot, mIf, mC, mZ, mM, mF, mTup, mLst, mCB, mBin, mUn, mChain, mIsi, mIsi2, mSl, mPt, mLC, mBM, mCallD, mCallK, callM, takeT, putT, slotsOf, nodupB, valsZ, gk, oN, oE, aNil, aCons, slotT, Arg.get, gets, zs, T.data, gN, gsC, gs0, gT, gS, iV, iZ, iR, seqOf, wipeE, restE, gAdd, gSub, gMul, gFdiv, gMod, gPow, gNeg, gLt, gGt, gLe, gGe, gEq, gNe, gIs, gIsN, isNon, gIx, L2.atI, L2.ixN, gLen, gTup, gLst, gSum, gAll, gAny, gAbs, gMax2, gMin2, gDivmod, gInt, gGcd, isT, gAppend, gInsert, gPop, zip2D, zip3D, enumD, gSl, mRev, gRev, mSS, gSS, gMax, gMin, gMaxS, gMinS, gIn, gNin, mExt, mDR, mDL, mCD, gDLen, gDLst, mD0, mD1, gSD, Arg.raw, zipW_map, List.zip_map, Function.comp_def]
  · intro p _; simp [defM, startE, backs, sSeq, sSet, setSl, sRet, sRetN, sNx, sBk, sCt, sNo, sIf, sDrop, sPar, sPar3, sAsg, sFor, bV, bT, bAnd, bOr, bNot, truth, mAnd, mOr, mNot, mIf, mC, mZ, mM, mF, mTup, mLst, mCB, mBin, mUn, mChain, mIsi, mIsi2, mSl, mPt, mLC, mBM, mCallD, mCallK, callM, takeT, putT, slotsOf, nodupB, valsZ, gk, oN, oE, aNil, aCons, slotT, Arg.get, gets, zs, T.data, gN, gsC, gs0, gT, gS, iV, iZ, iR, seqOf, wipeE, restE, gAdd, gSub, gMul, gFdiv, gMod, gPow, gNeg, gLt, gGt, gLe, gGe, gEq, gNe, gIs, gIsN, isNon, gIx, L2.atI, L2.ixN, gLen, gTup, gLst, gSum, gAll, gAny, gAbs, gMax2, gMin2, gDivmod, gInt, gGcd, isT, gAppend, gInsert, gPop, zip2D, zip3D, enumD, gSl, mRev, gRev, mSS, gSS, gMax, gMin, gMaxS, gMinS, gIn, gNin, mExt, mDR, mDL, mCD, gDLen, gDLst, mD0, mD1, gSD, Arg.raw]
end My

set_option Elab.async false
set_option maxRecDepth 100000
set_option linter.all false
set_option maxHeartbeats 1000000
namespace My
open PySem VL
theorem e_k7 (c0 c1 c3 c4 c5 c8 c9 c10 c11 c12 c13 : Option T) (w x y : List Int) (h : Sm w) (hx : x.length = w.length) (hy : y.length = w.length) :
    k_L_right_7 [c0, c1, rz w, c3, c4, c5, rz x, rz y, c8, c9, c10, c11, c12, c13, none, none, none] = some (.nx, [c0, c1, rz w, c3, c4, c5, rz x, rz y, iz (cmpR w x y), c9, c10, c11, c12, c13, none, none, none]) := by
  have e1 := e_L_compared w x y h hx hy
  simp [k_L_right_7, sSet, setSl, mCallD, callM, takeT, putT, slotsOf, nodupB, mZ, oE, aNil, aCons, slotT, e1]
theorem e_k8 (c0 c1 c2 c3 c4 c5 c8 c10 c11 c12 c13 : Option T) (x y m : List Int) :
    k_L_right_8 [c0, c1, c2, c3, c4, c5, rz x, rz y, c8, rz m, c10, c11, c12, c13, none, none, none] = some (.nx, [c0, c1, c2, c3, c4, c5, rz x, rz y, c8, rz m, rz (addR x m), rz (addR y m), c12, c13, none, none, none]) := by
  have e1 := e_lr5 c0 c1 c2 c3 c4 c5 (rz y) c8 c10 c11 c12 c13 x m
  have e2 := e_lr6 c0 c1 c2 c3 c4 c5 (rz x) c8 c10 c11 c12 c13 y m
  simp [k_L_right_8, sPar, setSl, mCB, oE, aNil, aCons, gets, Arg.get, T.data, gTup, isT, e1, e2]
theorem e_k9 (c0 c1 c4 c5 c6 c7 c9 c12 c13 : Option T) (w x y m : List Int) (hw : Gw w) (h : Sm w) (hx : Mo w.length x) (hy : Mo w.length y) (hm : m.length = w.length) (hm0 : ∀ a ∈ m, 0 ≤ a ∧ a ≤ 2) :
    k_L_right_9 [c0, c1, rz w, some (.z (ordD w)), c4, c5, c6, c7, iz (cmpR w x y), c9, rz (addR x m), rz (addR y m), c12, c13, none, none, none] = some (.nx, [c0, c1, rz w, some (.z (ordD w)), c4, c5, c6, c7, iz (cmpR w x y), c9, rz (addR x m), rz (addR y m), c12, c13, none, none, none]) := by
  have lx : x.length = m.length := by rw [hx.1, hm]
  have ly : y.length = m.length := by rw [hy.1, hm]
  have l1 : (addR x m).length = w.length := by rw [addR_len lx, hx.1]
  have l2 : (addR y m).length = w.length := by rw [addR_len ly, hy.1]
  have n40 := hw.2.2
  have n1 := hw.2.1
  have ne : addR x m ++ addR y m ≠ [] := fun z => by have := congrArg List.length z; simp at this; rw [this.1] at l1; simp at l1; omega
  obtain ⟨k, e1, hk⟩ := gMax_tup (addR x m ++ addR y m) ne
  have ge0 : ∀ {u : List Int}, Mo w.length u → ∀ a ∈ addR u m, 0 ≤ a := by
    intro u hu a ha
    simp only [addR, zipW_map, List.mem_map] at ha
    obtain ⟨p, hp, rfl⟩ := ha
    have q := List.of_mem_zip (show (p.1, p.2) ∈ u.zip m from hp)
    have := hu.2 _ q.1
    have := hm0 _ q.2
    omega
  have sl : (addR x m).length + (addR y m).length ≤ 100000 := by omega
  have ga : gAdd (rowD (addR x m)) (rowD (addR y m)) = some (.z (.tuple ((addR x m ++ addR y m).map .int))) := by
    show (if ((addR x m).map PyData.int).length + ((addR y m).map PyData.int).length ≤ 100000 then some (T.z (.tuple ((addR x m).map PyData.int ++ (addR y m).map PyData.int))) else none) = _
    rw [if_pos (by simpa using sl), List.map_append]
  generalize (addR x m ++ addR y m).map PyData.int = S at *
  by_cases c : k ≤ 20000
  · have all := (hk 20000).mp c
    have ox : okM w.length (addR x m) = true := Mo.ok ⟨l1, fun a ha => ⟨ge0 hx a ha, all a (by simp [ha])⟩⟩
    have oy : okM w.length (addR y m) = true := Mo.ok ⟨l2, fun a ha => ⟨ge0 hy a ha, all a (by simp [ha])⟩⟩
    have e2 := e_greater' w (addR x m) (addR y m) hw h ox oy
    rw [show (if addR x m = addR y m then (0 : Int) else if ltI (fk w (addR y m)) (fk w (addR x m)) = true then 1 else -1) = cmpR w (addR x m) (addR y m) from rfl, cmp_addR lx ly] at e2
    simp only [rz] at *
    generalize rowD (addR x m) = X at *
    generalize rowD (addR y m) = Y at *
    generalize ordD w = O at *
    generalize cmpR w x y = C at *
    simp [k_L_right_9, sIf, sNx, bAnd, bV, mBin, mCB, mC, mZ, mCallK, gk, zs, valsZ, callM, takeT, putT, slotsOf, nodupB, oN, oE, aNil, aCons, slotT, gets, Arg.get, T.data, gLe, gNe, bo, ga, e1, e2, c]
  · simp only [rz] at *
    generalize rowD (addR x m) = X at *
    generalize rowD (addR y m) = Y at *
    simp [k_L_right_9, sIf, sNx, bAnd, bV, mBin, mCB, mC, oN, oE, aNil, aCons, slotT, gets, Arg.get, T.data, gLe, bo, ga, e1, c]
theorem e_tail (c0 c1 c5 c6 c7 c8 c9 c10 c11 : Option T) (w : List Int) (l : List (List Int)) (hl8 : l.length = 8) (hw : Gw w) (h : Sm w) (hl : ∀ r ∈ l, Mo w.length r) :
    ∃ ρ, (sSeq k_L_right_10 (sSeq k_L_right_11 (sSeq k_L_right_12 k_L_right_13))) [c0, c1, rz w, some (.z (ordD w)), some (.z (.list (l.map rowD))), c5, c6, c7, c8, c9, c10, c11, none, none, none, none, none] = some (.ret (.z (.bool true)), c0 :: ρ) := by
  have hok : ∀ r ∈ l, okM w.length r = true := fun r hr => (hl r hr).ok
  have n40 := hw.2.2
  have e1 := e_sorted_by w (l ++ l.take 3) (.list ((l ++ l.take 3).map rowD)) (.inl rfl) hw h (fun r hr => by
    rcases List.mem_append.mp hr with hr | hr
    · exact hok r hr
    · exact hok r (List.mem_of_mem_take hr)) (by simp; omega)
  have e2 := e_sorted_by w l.reverse (.tuple (l.reverse.map rowD)) (.inr rfl) hw h (fun r hr => hok r (List.mem_reverse.mp hr)) (by simp; omega)
  have e3 := e_L_sorted w l h (fun x hx => (hl x hx).1) (by omega)
  rw [srt_ins w l (l ++ l.take 3) (fun x => by simp; exact fun hx => List.mem_of_mem_take hx)] at e1
  rw [srt_ins w l l.reverse (fun x => by simp)] at e2
  obtain ⟨_, memI⟩ := insAll_ok w l [] .nil
  have ndI : (insAll w l).Nodup := ((insAll_ok w l [] .nil).1).imp fun {a b} p e => by subst e; unfold lt at p; rw [ltI_irr] at p; cases p
  have lenI : (insAll w l).length ≤ 8 := by
    rw [← hl8]
    exact nodup_len ndI fun x hx => by have := (memI x).mp hx; simpa using this
  have okI := okShow_rows (n := w.length) (rs := insAll w l) (fun r hr => hl r (by have := (memI r).mp hr; simpa using this)) n40 (by omega)
  have okL := okShow_rows (n := w.length) hl n40 (by omega)
  have eqI := gEq_rows (insAll w l) (insAll w l)
  rw [decide_eq_true rfl] at eqI
  have ct : cutD (l.map rowD) none (some 3) = (l.take 3).map rowD := by
    have := cutD_to (l.map rowD) 3
    rw [← List.map_take] at this
    exact this
  have ga : gAdd (.list (l.map rowD)) (.list ((l.take 3).map rowD)) = some (.l ((l ++ l.take 3).map rowD)) := by
    show (if (l.map rowD).length + ((l.take 3).map rowD).length ≤ 100000 then some (T.l (l.map rowD ++ (l.take 3).map rowD)) else none) = _
    rw [if_pos (by simp; omega), List.map_append]
  have rv : gRev (.list (l.map rowD)) = some (.l (l.reverse.map rowD)) := by
    show some (T.l (l.map rowD).reverse) = _
    rw [List.map_reverse]
  have li : ((insAll w l).map rowD).length < 100000 := by simp; omega
  clear hl hok
  generalize (l ++ l.take 3).map rowD = L3 at *
  generalize (l.take 3).map rowD = T3 at *
  generalize l.reverse.map rowD = LR at *
  generalize l.map rowD = L at *
  generalize (insAll w l).map rowD = R at *
  generalize ordD w = O at *
  have k10 : k_L_right_10 [c0, c1, rz w, some (.z O), some (.z (.list L)), c5, c6, c7, c8, c9, c10, c11, none, none, none, none, none] = some (.nx, [c0, c1, rz w, some (.z O), some (.z (.list L)), c5, c6, c7, c8, c9, c10, c11, some (.z (.str (PyData.list L).shown)), some (.l R), none, none, none]) := by
    simp [k_L_right_10, sPar, setSl, mCB, gRepr, mF, mBin, mSl, mPt, gSl, mC, mZ, mCallD, callM, takeT, putT, slotsOf, nodupB, oN, oE, aNil, aCons, slotT, gets, Arg.get, T.data, okL, ct, ga, e1]
  have k11 : k_L_right_11 [c0, c1, rz w, some (.z O), some (.z (.list L)), c5, c6, c7, c8, c9, c10, c11, some (.z (.str (PyData.list L).shown)), some (.l R), none, none, none] = some (.nx, [c0, c1, rz w, some (.z O), some (.z (.list L)), c5, c6, c7, c8, c9, c10, c11, some (.z (.str (PyData.list L).shown)), some (.l R), none, none, none]) := by
    simp [k_L_right_11, sIf, sNx, bOr, bV, mCB, gRepr, mBin, mZ, mCallD, callM, takeT, putT, slotsOf, nodupB, oN, oE, aNil, aCons, slotT, gets, Arg.get, T.data, gNe, bo, okL, okI, e3, str_beq]
  have k12 : k_L_right_12 [c0, c1, rz w, some (.z O), some (.z (.list L)), c5, c6, c7, c8, c9, c10, c11, some (.z (.str (PyData.list L).shown)), some (.l R), none, none, none] = some (.nx, [c0, c1, rz w, some (.z O), some (.z (.list L)), c5, c6, c7, c8, c9, c10, c11, some (.z (.str (PyData.list L).shown)), some (.l (R ++ [.none])), none, none, none]) := by
    simp [k_L_right_12, sDrop, mBM, zs, gAppend, mC, oE, aNil, aCons, slotT, li]
  refine ⟨[c1, rz w, some (.z O), some (.z (.list L)), c5, c6, c7, c8, c9, c10, c11, some (.z (.str (PyData.list L).shown)), some (.l (R ++ [.none])), none, none, none], ?_⟩
  simp [sSeq, k10, k11, k12, k_L_right_13, sRet, mCallK, gk, zs, valsZ, mCB, mRev, mBin, mZ, mCallD, callM, takeT, putT, slotsOf, nodupB, oN, oE, aNil, aCons, slotT, gets, Arg.get, T.data, gTup, isT, rv, e2, e3, eqI, bo]
theorem e_L_right (a b : Int) : ∃ a' b', m_L_right [pot a b] = some (.z (.bool true), [po a' b']) := by
  obtain ⟨d, a1, b1, d0, d1, e1⟩ := e_draw a b 5 (by decide)
  obtain ⟨n, hn⟩ : ∃ n : Nat, 1 + d = (n : Int) := ⟨(1 + d).toNat, by omega⟩
  obtain ⟨w, a2, b2, lw, bw, e2⟩ := e_L_weights a1 b1 n (by omega) (by omega)
  have hw : Gw w := ⟨by
    rw [List.all_eq_true]
    intro n hn
    have := bw n hn
    unfold cnt
    simp; omega, by omega, by omega⟩
  have sm : Sm w := fun z hz => by have := bw z hz; omega
  obtain ⟨l, a3, b3, c5, hl8, hl, e3⟩ := e_lr1 a2 b2 (some (.z (ordD w))) (rz w) n (by omega) (by omega)
  rw [← lw] at hl
  obtain ⟨d6, d7, d8, e4⟩ := e_lr3 (po a3 b3) (iz n) c5 w l hl8 hw sm (fun r hr => (hl r hr).ok)
  obtain ⟨x, hx⟩ : ∃ x, l[0]? = some x := ⟨l[0], by simp [hl8]⟩
  obtain ⟨y, hy⟩ : ∃ x, l[1]? = some x := ⟨l[1], by simp [hl8]⟩
  have mx := hl x (List.mem_of_getElem? hx)
  have my := hl y (List.mem_of_getElem? hy)
  obtain ⟨m, a4, b4, lm, bm, e5⟩ := e_lr4 a3 b3 n (by omega) (rz w) (some (.z (ordD w))) (some (.z (.list (l.map rowD)))) c5 d6 d7 d8 none none none none none
  have g0 := gIx_rows l 0 x hx
  have g1 := gIx_rows l 1 y hy
  have e7 := e_k7 (po a4 b4) (iz n) (some (.z (ordD w))) (some (.z (.list (l.map rowD)))) c5 d8 (rz m) none none none none w x y sm mx.1 my.1
  have e8 := e_k8 (po a4 b4) (iz n) (rz w) (some (.z (ordD w))) (some (.z (.list (l.map rowD)))) c5 (iz (cmpR w x y)) none none none none x y m
  have e9 := e_k9 (po a4 b4) (iz n) (some (.z (.list (l.map rowD)))) c5 (rz x) (rz y) (rz m) none none w x y m hw sm mx my (by omega) bm
  obtain ⟨ρ, e10⟩ := e_tail (po a4 b4) (iz n) c5 (rz x) (rz y) (iz (cmpR w x y)) (rz m) (rz (addR x m)) (rz (addR y m)) w l hl8 hw sm hl
  refine ⟨a4, b4, ?_⟩
  unfold m_L_right
  generalize (sSeq k_L_right_10 (sSeq k_L_right_11 (sSeq k_L_right_12 k_L_right_13))) = B at *
  have k6 : k_L_right_6 [po a3 b3, iz n, rz w, some (.z (ordD w)), some (.z (.list (l.map rowD))), c5, d6, d7, d8, none, none, none, none, none, none, none, none] = some (.nx, [po a4 b4, iz n, rz w, some (.z (ordD w)), some (.z (.list (l.map rowD))), c5, rz x, rz y, d8, rz m, none, none, none, none, none, none, none]) := by
    have z0 : ((0 : Nat) : Int) = 0 := rfl
    have z1 : ((1 : Nat) : Int) = 1 := rfl
    rw [z0] at g0
    rw [z1] at g1
    generalize l.map rowD = L at *
    simp [k_L_right_6, sPar3, setSl, mBin, mC, mCB, oN, oE, aNil, aCons, slotT, gets, Arg.get, T.data, gTup, isT, g0, g1, e5]
  have k3 : k_L_right_3 [po a2 b2, iz n, rz w, none, none, none, none, none, none, none, none, none, none, none, none, none, none] = some (.nx, [po a2 b2, iz n, rz w, some (.z (ordD w)), some (.l []), none, none, none, none, none, none, none, none, none, none, none, none]) := by
    simp [k_L_right_3, sPar, setSl, mTup, mLst, mC, mZ, oE, aNil, aCons, slotT, zs]
  have k2 : k_L_right_2 [po a1 b1, iz n, none, none, none, none, none, none, none, none, none, none, none, none, none, none, none] = some (.nx, [po a2 b2, iz n, rz w, none, none, none, none, none, none, none, none, none, none, none, none, none, none]) := by
    simp [k_L_right_2, sSet, setSl, mCallD, callM, takeT, putT, slotsOf, nodupB, mZ, oN, oE, aNil, aCons, slotT, e2]
  have k1 : k_L_right_1 [po a b, none, none, none, none, none, none, none, none, none, none, none, none, none, none, none, none] = some (.nx, [po a1 b1, iz n, none, none, none, none, none, none, none, none, none, none, none, none, none, none, none]) := by
    simp [k_L_right_1, sSet, setSl, mBin, mC, mCallD, callM, takeT, putT, slotsOf, nodupB, oN, oE, aNil, aCons, slotT, Arg.get, T.data, gAdd, io, e1, hn]
  have st : startE 17 [pot a b] = [po a b, none, none, none, none, none, none, none, none, none, none, none, none, none, none, none, none] := rfl
  simp only [defM, st]
  simp only [sSeq, k1, k2, k3, e3, e4, k6, e7, e8, e9, e10, Option.bind_some]
  simp [backs]
theorem law_true (n : Nat) : LawTrue n m_law := by
  intro ns _
  obtain ⟨a, b, e1⟩ := e_L_pot ns
  obtain ⟨a', b', e2⟩ := e_L_right a b
  exact ⟨[some (.z (.list (ns.map .int)))], by simp [m_law, defM, startE, backs, sSeq, sSet, setSl, sRet, sRetN, sNx, sBk, sCt, sNo, sIf, sDrop, sPar, sPar3, sAsg, sFor, bV, bT, bAnd, bOr, bNot, truth, mAnd, mOr, mNot, mIf, mC, mZ, mM, mF, mTup, mLst, mCB, mBin, mUn, mChain, mIsi, mIsi2, mSl, mPt, mLC, mBM, mCallD, mCallK, callM, takeT, putT, slotsOf, nodupB, valsZ, gk, oN, oE, aNil, aCons, slotT, Arg.get, gets, zs, T.data, gN, gsC, gs0, gT, gS, iV, iZ, iR, seqOf, wipeE, restE, gAdd, gSub, gMul, gFdiv, gMod, gPow, gNeg, gLt, gGt, gLe, gGe, gEq, gNe, gIs, gIsN, isNon, gIx, L2.atI, L2.ixN, gLen, gTup, gLst, gSum, gAll, gAny, gAbs, gMax2, gMin2, gDivmod, gInt, gGcd, isT, gAppend, gInsert, gPop, zip2D, zip3D, enumD, gSl, mRev, gRev, mSS, gSS, gMax, gMin, gMaxS, gMinS, gIn, gNin, mExt, mDR, mDL, mCD, gDLen, gDLst, mD0, mD1, gSD, Arg.raw, e1, e2]⟩
end My


namespace My
theorem fin {l : PySem.W.OpenLaw} {w : PySem.World} {K : VL.Fr} {mg : PySem.Str → Option PySem.Value} {fa : PySem.Addr} (g : Gg K mg) (e : mg "law" = some (.ref fa)) :
    ∃ fd : PySem.FuncData, (∀ (s : PySem.Shared) (u : PySem.Value), PySem.BindsTo s fd ⟨[u], []⟩ [("_law_script", u)]) ∧ ∀ base : PySem.Heap, VL.FnG l.prog w K mg base L2.CX0 8 fa fd ["_law_script"] (VL.spD K m_law) := by
  have q := (e.symm.trans (g.glo 20))
  cases q
  exact ⟨fd_law g, fun s u => (F_law g).bindsA (ps := ["_law_script"]) (fun _ _ _ _ _ _ us hl => match us, hl with | [_], _ => rfl) s [u] rfl, fun base => t_law g⟩
end My
open PySem PySem.W PySem.Calls PyProof.Rows
set_option maxRecDepth 100000 in
theorem PySem.Challenge.cw_sumroads_k32_whole_orders_holds : PySem.Challenge.rw_sumroads_k32_whole_orders.Holds := by
  w_on; o_law
  refine HandSHeadRun.head_any (r := OpenLaw.row PySem.Challenge.rw_sumroads_k32_whole_orders) (q := view (PySem.W.OpenLaw.row PySem.Challenge.rw_sumroads_k32_whole_orders).prog [32]) (H := My.hk) (ob := My.ob) (M := 4000) (loose := My.loose) (d := HandSHeadRun.topDef (PySem.W.OpenLaw.row PySem.Challenge.rw_sumroads_k32_whole_orders).prog 32) (kwd := []) My.ob_eq
    (by kernel_rfl) (fun s => by kernel_rfl) My.run (by kernel_rfl) (by kernel_rfl) (by kernel_rfl) (by rfl) (by first | assumption | decide +kernel) (by decide +kernel) ⟨rfl, rfl, rfl, rfl, rfl, by decide +kernel⟩ ?hw ?hc
  case hw => w_witness2
  case hc =>
    refine VL.walk_V (l := PySem.Challenge.rw_sumroads_k32_whole_orders) (k := 8) (x := "_law_script") (m := My.m_law) rfl (by decide) (by kernel_rfl) ⟨⟨rfl, by decide, by decide⟩, rfl⟩ (My.law_true _) ?F
    intro w mg fa h Y G hmg0
    obtain ⟨K, KX, c, b⟩ := Y
    have g : My.Gg K mg := ⟨⟨h, KX, G⟩, c, b⟩
    have hmg : mg ("law" : PySem.Str) = some (.ref fa) := by
      have e : (HandSHeadRun.topDef (PySem.W.OpenLaw.row PySem.Challenge.rw_sumroads_k32_whole_orders).prog 32).name = ("law" : PySem.Str) := by kernel_rfl
      rw [← e]
      exact hmg0
    obtain ⟨fd, hb, hF⟩ := My.fin (l := PySem.Challenge.rw_sumroads_k32_whole_orders) (w := w) g hmg
    exact ⟨K, fd, KX, hb, hF⟩
