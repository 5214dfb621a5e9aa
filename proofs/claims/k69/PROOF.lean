import PyProof.Rows.All
import Wide.All
import OpenK.AllK
import Wide.FinOn
import HandS.ForMost
import HandS.TupAny
import HandS.IsInst
import HandS.Conv
import HandS.Style
import HandS.Flow
import HandS.Strs
import HandS.Zip
import KE.KDictKeyed
import HandS.TryOnly
import KE.GoesMore
import KE.GoesZip
import KE.GoesEnum
import HandS.Ends
import PyProof.ReprRoads
import HandS.Deep
import HandS.TupMul
import HandS.More
import HandS.HeadHook3
import PyProof.Rows.ReprShort
import HandS.SortInts
import HandS.TupLe
import KE.KSortTupAny
import KE.KDictWalk
import KE.KDictCopyH
import PySem.Challenge.RW_allroads_k69_zones_of_points
set_option Elab.async false
set_option linter.all false
set_option maxRecDepth 100000
namespace Sm
open PySem PySem.Spec PyProof.Rows L2

/-! ## plain data, plain heaps -/
inductive D where
  | non | bl (b : Bool) | int (i : Int) | str (x : Str) | tup (ds : List D) | zt (ds : List D) | fl (ds : List D) | ref (a : Nat) | ty (n : String)
mutual
def D.same : D → D → Bool
  | .non, .non => true
  | .bl a, .bl b => a == b
  | .int a, .int b => a == b
  | .str a, .str b => decide (a = b)
  | .tup a, .tup b => D.sames a b
  | .zt a, .zt b => D.sames a b
  | .fl a, .fl b => D.sames a b
  | .ref a, .ref b => a == b
  | .ty a, .ty b => a == b
  | _, _ => false
def D.sames : List D → List D → Bool
  | [], [] => true
  | a :: r, b :: s => D.same a b && D.sames r s
  | _, _ => false
end
mutual
theorem D.same_iff : ∀ a b : D, D.same a b = true ↔ a = b
  | .non, b => by cases b <;> simp [D.same]
  | .bl a, b => by cases b <;> simp [D.same]
  | .int a, b => by cases b <;> simp [D.same]
  | .str a, b => by cases b <;> simp [D.same]
  | .tup a, b => by cases b <;> simp [D.same, D.sames_iff a]
  | .zt a, b => by cases b <;> simp [D.same, D.sames_iff a]
  | .fl a, b => by cases b <;> simp [D.same, D.sames_iff a]
  | .ref a, b => by cases b <;> simp [D.same]
  | .ty a, b => by cases b <;> simp [D.same]
theorem D.sames_iff : ∀ a b : List D, D.sames a b = true ↔ a = b
  | [], b => by cases b <;> simp [D.sames]
  | a :: r, b => by cases b <;> simp [D.sames, D.same_iff a, D.sames_iff r]
end
instance : DecidableEq D := fun a b => decidable_of_iff (D.same a b = true) (D.same_iff a b)
inductive O where
  | lst (ds : List D)
  | dic (kvs : List (D × D))
  | ndc (kvs : List (D × D))
  deriving DecidableEq
abbrev AH := List O
abbrev AT := List (Option D)
/-- what an expression hands on: a plain value, or a new list that nobody holds yet -/
inductive LV where
  | val (d : D) | new (ds : List D)
  deriving DecidableEq
abbrev SE := AT → AH → Option (LV × AH)
abbrev SA := AT → AH → Option (List LV × AH)
abbrev ST := AT → AH → Option (Bool × AH)
abbrev SF := List D → AH → Option (D × AH)
inductive Res where
  | nx (τ : AT) (h : AH) | rt (d : D) (h : AH) | bk (τ : AT) (h : AH) | ct (τ : AT) (h : AH)
abbrev SS := AT → AH → Option Res

/-! ## how they stand for the layer's values and heaps -/
def FzL (K : PySem.W.Frag) (H : Hp) (a : Addr) (vs : List V) : Prop := (∃ o, H a = some (.frz o (.lst vs))) ∨ SqL K (fun _ => none) a vs
/-- a tuple that is known to the object: it has no dict of its own -/
def FzT (K : PySem.W.Frag) (H : Hp) (a : Addr) (vs : List V) : Prop := (∃ o, H a = some (.frz o (.tup vs)) ∧ o.cls = .type "tuple" ∧ o.dict = none) ∨
  ∃ (o : Obj) (its : Array Value) (n : Nat), K.lookup a = some o ∧ o.cls = .type "tuple" ∧ o.dict = none ∧ o.data = .seq its n ∧ its.size ≤ sizeLine ∧ Vals vs its.toList
mutual
inductive RV (K : PySem.W.Frag) (m : List Addr) (H : Hp) : V → D → Prop
  | non : RV K m H .non .non
  | bl (b : Bool) : RV K m H (.bl b) (.bl b)
  | int (i : Int) : RV K m H (.int i) (.int i)
  | str (x : Str) : RV K m H (.str x) (.str x)
  | tup {a : Addr} {vs : List V} {ds : List D} : FzT K H a vs → RVs K m H vs ds → RV K m H (.ref a) (.tup ds)
  | zt {a : Addr} {vs : List V} {ds : List D} : SqT K H a vs → RVs K m H vs ds → RV K m H (.ref a) (.zt ds)
  | fl {a : Addr} {vs : List V} {ds : List D} : FzL K H a vs → RVs K m H vs ds → RV K m H (.ref a) (.fl ds)
  | ref {a : Addr} {i : Nat} : m[i]? = some a → RV K m H (.ref a) (.ref i)
  | ty (n : String) : RV K m H (.ty n) (.ty n)
inductive RVs (K : PySem.W.Frag) (m : List Addr) (H : Hp) : List V → List D → Prop
  | nil : RVs K m H [] []
  | cons {v : V} {vs : List V} {d : D} {ds : List D} : RV K m H v d → RVs K m H vs ds → RVs K m H (v :: vs) (d :: ds)
end
/-- keys of a dict -/
inductive RKs (K : PySem.W.Frag) (m : List Addr) (H : Hp) : List (Key × V) → List (D × D) → Prop
  | nil : RKs K m H [] []
  | int {i : Int} {v : V} {d : D} {ks : List (Key × V)} {kvs : List (D × D)} : RV K m H v d → RKs K m H ks kvs → RKs K m H ((.inl i, v) :: ks) ((.int i, d) :: kvs)
  | str {x : Str} {v : V} {d : D} {ks : List (Key × V)} {kvs : List (D × D)} : RV K m H v d → RKs K m H ks kvs → RKs K m H ((.inr x, v) :: ks) ((.str x, d) :: kvs)
/-! keys that are tuples, nested -/
mutual
def kD : D → Option NestedKey
  | .int i => some (.num i)
  | .str x => some (.text x)
  | .non => some .none
  | .bl b => some (.num (if b = true then 1 else 0))
  | .tup ds => (kDs ds).bind fun ks => some (.tup ks)
  | _ => none
def kDs : List D → Option (List NestedKey)
  | [] => some []
  | d :: r => (kD d).bind fun k => (kDs r).bind fun s => some (k :: s)
end
inductive RNs (K : PySem.W.Frag) (m : List Addr) (H : Hp) : List (NestedKey × Addr × Value) → List (D × D) → Prop
  | nil : RNs K m H [] []
  | cons {x : NestedKey × Addr × Value} {xs : List (NestedKey × Addr × Value)} {kd d : D} {v : V} {kvs : List (D × D)} : kD kd = some x.1 → x.1.depth ≤ 8 → RV K m H (.ref x.2.1) kd → RelV v x.2.2 → RV K m H v d → RNs K m H xs kvs → RNs K m H (x :: xs) ((kd, d) :: kvs)
/-- a dict's object, with just these entries -/
def NdObj (w : World) (o : Obj) (xs : List (NestedKey × Addr × Value)) : Prop := o.ExactDict ∧ ∃ (es : Array DictEntry) (ep : Nat), o.data = .dict es ep ∧ es.toList = xs.map (fun x => (⟨x.1.hash w, .ref x.2.1, x.2.2⟩ : DictEntry)) ∧ (xs.map (·.1)).Nodup
def ndH (a : Addr) (o : Obj) : HO := .ext fun h => h.get? a = some o
/-- what was there stands (weakly: what is tracked may grow by what is there) -/
structure Lw (m : List Addr) (H : Hp) (m' : List Addr) (H' : Hp) : Prop where
  pre : ∃ t, m' = m ++ t
  fr : ∀ a o, H a = some o → a ∉ m → H' a = some o
structure Le (m : List Addr) (H : Hp) (m' : List Addr) (H' : Hp) : Prop extends Lw m H m' H' where
  nw : ∀ a, a ∈ m' → a ∉ m → H a = none
def RO (w : World) (K : PySem.W.Frag) (m : List Addr) (H : Hp) (a : Addr) : O → Prop
  | .lst ds => ∃ vs, H a = some (.lst vs) ∧ RVs K m H vs ds
  | .dic kvs => ∃ ks, H a = some (.dK ks) ∧ RKs K m H ks kvs
  | .ndc kvs => ∃ o xs, H a = some (ndH a o) ∧ NdObj w o xs ∧ (a == sysModules) = false ∧ xs.length ≤ sizeLine ∧ RNs K m H xs kvs
structure Sim (w : World) (K : PySem.W.Frag) (m : List Addr) (h : AH) (H : Hp) : Prop where
  len : m.length = h.length
  nd : m.Nodup
  ob : ∀ (i : Nat) (a : Addr) (o : O), m[i]? = some a → h[i]? = some o → RO w K m H a o
def RSt (K : PySem.W.Frag) (m : List Addr) (H : Hp) (σ : L2.St) (τ : AT) : Prop :=
  σ.length = τ.length ∧ ∀ (i : Nat) (d : D), τ[i]? = some (some d) → ∃ v, σ[i]? = some (some v) ∧ RV K m H v d

/-! ## facts -/
theorem Le.refl (m : List Addr) (H : Hp) : Le m H m H := ⟨⟨⟨[], by simp⟩, fun _ _ h _ => h⟩, fun a h1 h2 => absurd h1 h2⟩
theorem Le.mem {m m' : List Addr} {H H' : Hp} (L : Le m H m' H') {a : Addr} (h : a ∈ m) : a ∈ m' := by
  obtain ⟨t, rfl⟩ := L.pre
  exact List.mem_append_left _ h
theorem Le.trans {m m1 m2 : List Addr} {H H1 H2 : Hp} (a : Le m H m1 H1) (b : Le m1 H1 m2 H2) : Le m H m2 H2 where
  pre := by
    obtain ⟨t, rfl⟩ := a.pre
    obtain ⟨u, rfl⟩ := b.pre
    exact ⟨t ++ u, by simp⟩
  fr := fun c o h hn => b.fr c o (a.fr c o h hn) fun hm => by
    rw [a.nw c hm hn] at h
    cases h
  nw := fun c h hn => by
    by_cases hc : c ∈ m1
    · exact a.nw c hc hn
    · have q := b.nw c h hc
      cases e : H c with
      | none => rfl
      | some o =>
        rw [a.fr c o e hn] at q
        cases q
theorem Lw.get {m m' : List Addr} {H H' : Hp} (L : Lw m H m' H') {i : Nat} {a : Addr} (h : m[i]? = some a) : m'[i]? = some a := by
  obtain ⟨t, rfl⟩ := L.pre
  have hi : i < m.length := by
    rcases Nat.lt_or_ge i m.length with q | q
    · exact q
    · rw [List.getElem?_eq_none q] at h
      cases h
  rw [List.getElem?_append_left hi]
  exact h
/-- what is tracked by m is no tuple, nothing frozen -/
def Cl (m : List Addr) (H : Hp) : Prop := ∀ a ∈ m, (∃ vs, H a = some (.lst vs)) ∨ (∃ ks, H a = some (.dK ks)) ∨ ∃ φ, H a = some (.ext φ)
theorem Cl.tup {m : List Addr} {H : Hp} (c : Cl m H) {a : Addr} {vs : List V} (h : H a = some (.tup vs)) : a ∉ m := fun hm => by
  rcases c a hm with ⟨_, e⟩ | ⟨_, e⟩ | ⟨_, e⟩ <;> (rw [h] at e; cases e)
theorem Cl.frz {m : List Addr} {H : Hp} (c : Cl m H) {a : Addr} {o : Obj} {u : HO} (h : H a = some (.frz o u)) : a ∉ m := fun hm => by
  rcases c a hm with ⟨_, e⟩ | ⟨_, e⟩ | ⟨_, e⟩ <;> (rw [h] at e; cases e)
theorem Cl.non {m : List Addr} {H : Hp} (c : Cl m H) {a : Addr} (h : H a = none) : a ∉ m := fun hm => by
  rcases c a hm with ⟨_, e⟩ | ⟨_, e⟩ | ⟨_, e⟩ <;> (rw [h] at e; cases e)
theorem Sim.get {w : World} {K : PySem.W.Frag} {m : List Addr} {h : AH} {H : Hp} (S : Sim w K m h H) {i : Nat} {a : Addr} (e : m[i]? = some a) : ∃ o, h[i]? = some o ∧ RO w K m H a o := by
  have hi : i < m.length := by
    rcases Nat.lt_or_ge i m.length with q | q
    · exact q
    · rw [List.getElem?_eq_none q] at e
      cases e
  have hi' : i < h.length := by
    rw [← S.len]
    exact hi
  exact ⟨h[i], List.getElem?_eq_getElem hi', S.ob i a _ e (List.getElem?_eq_getElem hi')⟩
theorem Sim.cl {w : World} {K : PySem.W.Frag} {m : List Addr} {h : AH} {H : Hp} (S : Sim w K m h H) : Cl m H := fun a ha => by
  obtain ⟨i, hi, e⟩ := List.getElem_of_mem ha
  obtain ⟨o, _, r⟩ := S.get (i := i) (a := a) (by rw [List.getElem?_eq_getElem hi, e])
  cases o with
  | lst ds => obtain ⟨vs, q, _⟩ := r; exact .inl ⟨vs, q⟩
  | dic ds => obtain ⟨vs, q, _⟩ := r; exact .inr (.inl ⟨vs, q⟩)
  | ndc ds => obtain ⟨o, xs, q, _⟩ := r; exact .inr (.inr ⟨_, q⟩)
section
variable {w : World} {K : PySem.W.Frag} {m m' : List Addr} {H H' : Hp}
theorem sqT_mono (c : Cl m H) (L : Lw m H m' H') {a : Addr} {vs : List V} (h : SqT K H a vs) : SqT K H' a vs := by
  rcases h with (h | ⟨o, h⟩) | h
  · exact .inl (.inl (L.fr _ _ h (c.tup h)))
  · exact .inl (.inr ⟨o, L.fr _ _ h (c.frz h)⟩)
  · exact .inr h
theorem fzT_mono (c : Cl m H) (L : Lw m H m' H') {a : Addr} {vs : List V} (h : FzT K H a vs) : FzT K H' a vs := by
  rcases h with ⟨o, h, r⟩ | h
  · exact .inl ⟨o, L.fr _ _ h (c.frz h), r⟩
  · exact .inr h
theorem FzT.sq {a : Addr} {vs : List V} (h : FzT K H a vs) : SqT K H a vs := by
  rcases h with ⟨o, h, r⟩ | ⟨o, its, n, h1, h2, h3, h4⟩
  · exact .inl (.inr ⟨o, h⟩)
  · exact .inr ⟨o, its, n, h1, h2, h4⟩
theorem fzL_mono (c : Cl m H) (L : Lw m H m' H') {a : Addr} {vs : List V} (h : FzL K H a vs) : FzL K H' a vs := by
  rcases h with ⟨o, h⟩ | h
  · exact .inl ⟨o, L.fr _ _ h (c.frz h)⟩
  · exact .inr h
theorem FzL.sq {a : Addr} {vs : List V} (h : FzL K H a vs) : SqL K H a vs := by
  rcases h with ⟨o, h⟩ | (h | ⟨o, h⟩) | h
  · exact .inl (.inr ⟨o, h⟩)
  · cases h
  · cases h
  · exact .inr h
/-- tuples and what is frozen stand -/
structure Ls (m : List Addr) (H : Hp) (m' : List Addr) (H' : Hp) : Prop where
  pre : ∃ t, m' = m ++ t
  tu : ∀ a vs, H a = some (.tup vs) → H' a = some (.tup vs)
  fz : ∀ a o u, H a = some (.frz o u) → H' a = some (.frz o u)
theorem Ls.get (L : Ls m H m' H') {i : Nat} {a : Addr} (h : m[i]? = some a) : m'[i]? = some a := by
  obtain ⟨t, rfl⟩ := L.pre
  have hi : i < m.length := by
    rcases Nat.lt_or_ge i m.length with q | q
    · exact q
    · rw [List.getElem?_eq_none q] at h
      cases h
  rw [List.getElem?_append_left hi]
  exact h
theorem Ls.sqT (L : Ls m H m' H') {a : Addr} {vs : List V} (h : SqT K H a vs) : SqT K H' a vs := by
  rcases h with (h | ⟨o, h⟩) | h
  · exact .inl (.inl (L.tu _ _ h))
  · exact .inl (.inr ⟨o, L.fz _ _ _ h⟩)
  · exact .inr h
theorem Ls.fzT (L : Ls m H m' H') {a : Addr} {vs : List V} (h : FzT K H a vs) : FzT K H' a vs := by
  rcases h with ⟨o, h, r⟩ | h
  · exact .inl ⟨o, L.fz _ _ _ h, r⟩
  · exact .inr h
theorem Ls.fzL (L : Ls m H m' H') {a : Addr} {vs : List V} (h : FzL K H a vs) : FzL K H' a vs := by
  rcases h with ⟨o, h⟩ | h
  · exact .inl ⟨o, L.fz _ _ _ h⟩
  · exact .inr h
mutual
theorem RV.monoS (L : Ls m H m' H') : ∀ {v : V} {d : D}, RV K m H v d → RV K m' H' v d
  | _, _, .non => .non
  | _, _, .bl b => .bl b
  | _, _, .int i => .int i
  | _, _, .str x => .str x
  | _, _, .tup h r => .tup (L.fzT h) (RVs.monoS L r)
  | _, _, .zt h r => .zt (L.sqT h) (RVs.monoS L r)
  | _, _, .fl h r => .fl (L.fzL h) (RVs.monoS L r)
  | _, _, .ref e => .ref (L.get e)
  | _, _, .ty n => .ty n
theorem RVs.monoS (L : Ls m H m' H') : ∀ {vs : List V} {ds : List D}, RVs K m H vs ds → RVs K m' H' vs ds
  | _, _, .nil => .nil
  | _, _, .cons h r => .cons (RV.monoS L h) (RVs.monoS L r)
end
theorem RKs.monoS (L : Ls m H m' H') : ∀ {ks : List (Key × V)} {kvs : List (D × D)}, RKs K m H ks kvs → RKs K m' H' ks kvs
  | _, _, .nil => .nil
  | _, _, .int h r => .int (RV.monoS L h) (RKs.monoS L r)
  | _, _, .str h r => .str (RV.monoS L h) (RKs.monoS L r)
theorem Lw.ls (c : Cl m H) (L : Lw m H m' H') : Ls m H m' H' := ⟨L.pre, fun a vs e => L.fr _ _ e (c.tup e), fun a o u e => L.fr _ _ e (c.frz e)⟩
theorem RV.mono (c : Cl m H) (L : Lw m H m' H') {v : V} {d : D} (r : RV K m H v d) : RV K m' H' v d := r.monoS (L.ls c)
theorem RVs.mono (c : Cl m H) (L : Lw m H m' H') {vs : List V} {ds : List D} (r : RVs K m H vs ds) : RVs K m' H' vs ds := r.monoS (L.ls c)
theorem RKs.mono (c : Cl m H) (L : Lw m H m' H') {ks : List (Key × V)} {kvs : List (D × D)} (r : RKs K m H ks kvs) : RKs K m' H' ks kvs := r.monoS (L.ls c)
theorem RNs.monoS (L : Ls m H m' H') : ∀ {xs : List (NestedKey × Addr × Value)} {kvs : List (D × D)}, RNs K m H xs kvs → RNs K m' H' xs kvs
  | _, _, .nil => .nil
  | _, _, .cons e1 e2 r1 rl r2 t => .cons e1 e2 (r1.monoS L) rl (r2.monoS L) (RNs.monoS L t)
theorem RNs.mono (c : Cl m H) (L : Lw m H m' H') {xs : List (NestedKey × Addr × Value)} {kvs : List (D × D)} (r : RNs K m H xs kvs) : RNs K m' H' xs kvs := r.monoS (L.ls c)
theorem RSt.mono (c : Cl m H) (L : Lw m H m' H') {σ : L2.St} {τ : AT} (r : RSt K m H σ τ) : RSt K m' H' σ τ :=
  ⟨r.1, fun i d e => by
    obtain ⟨v, h1, h2⟩ := r.2 i d e
    exact ⟨v, h1, h2.mono c L⟩⟩
theorem RSt.set {σ : L2.St} {τ : AT} (r : RSt K m H σ τ) {v : V} {d : D} (q : RV K m H v d) (i : Nat) : RSt K m H (σ.set i (some v)) (τ.set i (some d)) := by
  refine ⟨by simp [r.1], fun j e h => ?_⟩
  by_cases hij : i = j
  · subst hij
    by_cases hl : i < τ.length
    · rw [List.getElem?_set_self hl] at h
      cases h
      exact ⟨v, List.getElem?_set_self (by rw [r.1]; exact hl), q⟩
    · rw [List.getElem?_eq_none (by simpa using hl)] at h
      cases h
  · rw [List.getElem?_set_ne hij] at h ⊢
    exact r.2 j e h
theorem RVs.length : ∀ {vs : List V} {ds : List D}, RVs K m H vs ds → vs.length = ds.length
  | _, _, .nil => rfl
  | _, _, .cons _ r => by rw [List.length_cons, List.length_cons, RVs.length r]
theorem RVs.append : ∀ {vs ws : List V} {ds es : List D}, RVs K m H vs ds → RVs K m H ws es → RVs K m H (vs ++ ws) (ds ++ es)
  | _, _, _, _, .nil, s => s
  | _, _, _, _, .cons r t, s => .cons r (RVs.append t s)
theorem RVs.one {v : V} {d : D} (r : RV K m H v d) : RVs K m H [v] [d] := .cons r .nil
theorem RVs.get : ∀ {vs : List V} {ds : List D} {i : Nat} {d : D}, RVs K m H vs ds → ds[i]? = some d → ∃ v, vs[i]? = some v ∧ RV K m H v d
  | _, _, _, _, .nil, e => by simp at e
  | _, _, 0, _, .cons r _, e => by simp at e; subst e; exact ⟨_, rfl, r⟩
  | _, _, i + 1, d, .cons _ t, e => by
    obtain ⟨v, h1, h2⟩ := RVs.get (i := i) (d := d) t (by simpa using e)
    exact ⟨v, by simpa using h1, h2⟩
theorem RVs.set {v : V} {d : D} (r : RV K m H v d) : ∀ {vs : List V} {ds : List D} (i : Nat), RVs K m H vs ds → RVs K m H (vs.set i v) (ds.set i d)
  | _, _, _, .nil => .nil
  | _, _, 0, .cons _ t => .cons r t
  | _, _, i + 1, .cons q t => .cons q (RVs.set r i t)
theorem RVs.take : ∀ {vs : List V} {ds : List D} (n : Nat), RVs K m H vs ds → RVs K m H (vs.take n) (ds.take n)
  | _, _, 0, _ => by simp only [List.take_zero]; exact .nil
  | _, _, _ + 1, .nil => by simp only [List.take_nil]; exact .nil
  | _, _, n + 1, .cons r t => .cons r (RVs.take n t)
theorem RVs.drop : ∀ {vs : List V} {ds : List D} (n : Nat), RVs K m H vs ds → RVs K m H (vs.drop n) (ds.drop n)
  | _, _, 0, r => r
  | _, _, _ + 1, .nil => by simp only [List.drop_nil]; exact .nil
  | _, _, n + 1, .cons _ t => RVs.drop n t
theorem RVs.reverse : ∀ {vs : List V} {ds : List D}, RVs K m H vs ds → RVs K m H vs.reverse ds.reverse
  | _, _, .nil => .nil
  | _, _, .cons r t => by
    rw [List.reverse_cons, List.reverse_cons]
    exact (RVs.reverse t).append (.one r)
theorem RVs.replicate {vs : List V} {ds : List D} (r : RVs K m H vs ds) : ∀ k : Nat, RVs K m H (List.replicate k vs).flatten (List.replicate k ds).flatten
  | 0 => .nil
  | k + 1 => by
    rw [List.replicate_succ, List.replicate_succ, List.flatten_cons, List.flatten_cons]
    exact r.append (RVs.replicate r k)
theorem RVs.ints : ∀ {vs : List V} {ns : List Int}, RVs K m H vs (ns.map D.int) → vs = ns.map V.int
  | _, [], .nil => rfl
  | _, n :: ns, .cons (.int _) r => by rw [RVs.ints r]; rfl
theorem RVs.of_ints : ∀ (ns : List Int), RVs K m H (ns.map V.int) (ns.map D.int)
  | [] => .nil
  | n :: ns => .cons (.int n) (RVs.of_ints ns)
theorem RVs.bls : ∀ {vs : List V} {bs : List Bool}, RVs K m H vs (bs.map D.bl) → vs = bs.map V.bl
  | _, [], .nil => rfl
  | _, n :: ns, .cons (.bl _) r => by rw [RVs.bls r]; rfl
theorem RVs.strs : ∀ {vs : List V} {bs : List Str}, RVs K m H vs (bs.map D.str) → vs = bs.map V.str
  | _, [], .nil => rfl
  | _, n :: ns, .cons (.str _) r => by rw [RVs.strs r]; rfl
/-- a new object that is not tracked -/
theorem Le.upd (c : Cl m H) {p : Addr} (hp : H p = none) (o : HO) : Le m H m (upd H p o) := ⟨⟨⟨[], by simp⟩, fun a u h _ => by rw [upd_ne (ne_of_none h hp)]; exact h⟩, fun a h1 h2 => absurd h1 h2⟩
end
section
variable {w : World} {K : PySem.W.Frag} {m m' : List Addr} {H H' : Hp} {h : AH}
theorem RO.mono (c : Cl m H) (L : Lw m H m' H') {a : Addr} {o : O} (hk : H' a = H a) (r : RO w K m H a o) : RO w K m' H' a o := by
  cases o with
  | lst ds => obtain ⟨vs, e, q⟩ := r; exact ⟨vs, by rw [hk]; exact e, q.mono c L⟩
  | dic ds => obtain ⟨vs, e, q⟩ := r; exact ⟨vs, by rw [hk]; exact e, q.mono c L⟩
  | ndc ds => obtain ⟨ob, xs, e, n, y, z, q⟩ := r; exact ⟨ob, xs, by rw [hk]; exact e, n, y, z, q.mono c L⟩
theorem Sim.upd (S : Sim w K m h H) {p : Addr} (hp : H p = none) (o : HO) : Sim w K m h (L2.upd H p o) := by
  refine ⟨S.len, S.nd, fun i a ob e1 e2 => (S.ob i a ob e1 e2).mono S.cl (Le.upd S.cl hp o).toLw (upd_ne ?_)⟩
  intro z
  subst z
  exact S.cl.non hp (List.mem_of_getElem? e1)
theorem RV.tupN (S : Sim w K m h H) {p : Addr} (hp : H p = none) {vs : List V} {ds : List D} {o : Obj} (hc : o.cls = .type "tuple") (hd : o.dict = none) (r : RVs K m H vs ds) : RV K m (L2.upd H p (.frz o (.tup vs))) (.ref p) (.tup ds) :=
  .tup (.inl ⟨o, upd_same, hc, hd⟩) (r.mono S.cl (Le.upd S.cl hp _).toLw)
theorem RV.ztN (S : Sim w K m h H) {p : Addr} (hp : H p = none) {vs : List V} {ds : List D} (r : RVs K m H vs ds) : RV K m (L2.upd H p (.tup vs)) (.ref p) (.zt ds) :=
  .zt (SqT.of upd_same) (r.mono S.cl (Le.upd S.cl hp _).toLw)
/-- a new list that is tracked -/
theorem Le.lay (S : Sim w K m h H) {p : Addr} (hp : H p = none) (o : HO) : Le m H (m ++ [p]) (L2.upd H p o) := ⟨⟨⟨[p], rfl⟩, fun a u q _ => by rw [upd_ne (ne_of_none q hp)]; exact q⟩, fun a h1 h2 => by
  rcases List.mem_append.mp h1 with z | z
  · exact absurd z h2
  · rw [List.mem_singleton.mp z]; exact hp⟩
theorem nodup_add {m : List Addr} {p : Addr} (h : m.Nodup) (hn : p ∉ m) : (m ++ [p]).Nodup := by
  rw [List.nodup_append]
  refine ⟨h, by simp, fun a ha b hb e => ?_⟩
  rw [List.mem_singleton.mp hb] at e
  exact hn (e ▸ ha)
theorem get_add {α : Type} {m : List α} {p a : α} {i : Nat} (e : (m ++ [p])[i]? = some a) : m[i]? = some a ∨ (i = m.length ∧ a = p) := by
  rcases Nat.lt_or_ge i m.length with q | q
  · rw [List.getElem?_append_left q] at e
    exact .inl e
  · rw [List.getElem?_append_right q] at e
    have : i - m.length = 0 := by
      rcases Nat.eq_zero_or_pos (i - m.length) with z | z
      · exact z
      · rw [List.getElem?_eq_none (by simp; omega)] at e
        cases e
    rw [this] at e
    exact .inr ⟨by omega, (Option.some.inj e).symm⟩
theorem Sim.lay (S : Sim w K m h H) {p : Addr} (hp : H p = none) {u : HO} {o : O} (r : RO w K (m ++ [p]) (L2.upd H p u) p o) : Sim w K (m ++ [p]) (h ++ [o]) (L2.upd H p u) := by
  have hn := S.cl.non hp
  refine ⟨by simp [S.len], nodup_add S.nd hn, fun i a ob e1 e2 => ?_⟩
  rcases get_add e1 with q | ⟨q, rfl⟩
  · have hi : i < m.length := by
      rcases Nat.lt_or_ge i m.length with z | z
      · exact z
      · rw [List.getElem?_eq_none z] at q
        cases q
    rw [List.getElem?_append_left (by rw [← S.len]; exact hi)] at e2
    refine (S.ob i a ob q e2).mono S.cl (Le.lay S hp u).toLw (upd_ne ?_)
    intro z
    subst z
    exact hn (List.mem_of_getElem? q)
  · rw [q, S.len, List.getElem?_append_right (Nat.le_refl _), Nat.sub_self] at e2
    cases e2
    exact r
theorem Sim.layL (S : Sim w K m h H) {p : Addr} (hp : H p = none) {vs : List V} {ds : List D} (r : RVs K m H vs ds) : Sim w K (m ++ [p]) (h ++ [.lst ds]) (L2.upd H p (.lst vs)) :=
  S.lay hp ⟨vs, upd_same, r.mono S.cl (Le.lay S hp _).toLw⟩
theorem RV.new (S : Sim w K m h H) {p : Addr} {G : Hp} : RV K (m ++ [p]) G (.ref p) (.ref h.length) := .ref (by rw [← S.len, List.getElem?_append_right (Nat.le_refl _), Nat.sub_self]; rfl)
/-- a tracked object is changed -/
theorem Le.put (S : Sim w K m h H) {i : Nat} {a : Addr} (e : m[i]? = some a) (o : HO) : Le m H m (L2.upd H a o) := by
  refine ⟨⟨⟨[], by simp⟩, fun b u q hb => ?_⟩, fun b h1 h2 => absurd h1 h2⟩
  rw [upd_ne]
  · exact q
  · intro z
    rw [z] at hb
    exact hb (List.mem_of_getElem? e)
theorem Sim.put (S : Sim w K m h H) {i : Nat} {a : Addr} (e : m[i]? = some a) {u : HO} {o : O} (r : RO w K m (L2.upd H a u) a o) : Sim w K m (h.set i o) (L2.upd H a u) := by
  have hi : i < m.length := by
    rcases Nat.lt_or_ge i m.length with z | z
    · exact z
    · rw [List.getElem?_eq_none z] at e
      cases e
  refine ⟨by simp [S.len], S.nd, fun j b ob e1 e2 => ?_⟩
  by_cases hij : i = j
  · subst hij
    rw [e] at e1
    cases e1
    rw [List.getElem?_set_self (by rw [← S.len]; exact hi)] at e2
    cases e2
    exact r
  · rw [List.getElem?_set_ne hij] at e2
    refine (S.ob j b ob e1 e2).mono S.cl (Le.put S e u).toLw (upd_ne ?_)
    intro z
    subst z
    have hj : j < m.length := by
      rcases Nat.lt_or_ge j m.length with z | z
      · exact z
      · rw [List.getElem?_eq_none z] at e1
        cases e1
    rw [List.getElem?_eq_getElem hi] at e
    rw [List.getElem?_eq_getElem hj] at e1
    exact hij ((List.getElem_inj S.nd).mp ((Option.some.inj e).trans (Option.some.inj e1).symm))
/-- a list that nobody tracks is changed -/
theorem Ls.side {p : Addr} {vs ws : List V} (e : H p = some (.lst vs)) : Ls m H m (L2.upd H p (.lst ws)) :=
  ⟨⟨[], by simp⟩, fun a us h => by rw [upd_ne (fun z => by rw [z, e] at h; cases h)]; exact h, fun a o u h => by rw [upd_ne (fun z => by rw [z, e] at h; cases h)]; exact h⟩
theorem Sim.side (S : Sim w K m h H) {p : Addr} {vs : List V} (ws : List V) (e : H p = some (.lst vs)) (hn : p ∉ m) : Sim w K m h (L2.upd H p (.lst ws)) := by
  refine ⟨S.len, S.nd, fun i a ob e1 e2 => ?_⟩
  have hk : L2.upd H p (.lst ws) a = H a := upd_ne (fun z => hn (by rw [← z]; exact List.mem_of_getElem? e1))
  have r := S.ob i a ob e1 e2
  cases ob with
  | lst ds => obtain ⟨us, q, r⟩ := r; exact ⟨us, by rw [hk]; exact q, r.monoS (Ls.side e)⟩
  | dic ds => obtain ⟨us, q, r⟩ := r; exact ⟨us, by rw [hk]; exact q, r.monoS (Ls.side e)⟩
  | ndc ds => obtain ⟨ob, xs, q, n, y, z, r⟩ := r; exact ⟨ob, xs, by rw [hk]; exact q, n, y, z, r.monoS (Ls.side e)⟩
theorem Le.side {m1 : List Addr} {H1 : Hp} (L : Le m1 H1 m H) {p : Addr} (u : HO) (hp : H1 p = none) : Le m1 H1 m (L2.upd H p u) :=
  ⟨⟨L.pre, fun a o q hn => by rw [upd_ne (ne_of_none q hp)]; exact L.fr a o q hn⟩, L.nw⟩
theorem Sim.putL (S : Sim w K m h H) {i : Nat} {a : Addr} (e : m[i]? = some a) {vs : List V} {ds : List D} (r : RVs K m H vs ds) : Sim w K m (h.set i (.lst ds)) (L2.upd H a (.lst vs)) :=
  S.put e ⟨vs, upd_same, r.mono S.cl (Le.put S e _).toLw⟩
theorem Sim.lst (S : Sim w K m h H) {i : Nat} {a : Addr} {ds : List D} (e : m[i]? = some a) (q : h[i]? = some (.lst ds)) : ∃ vs, H a = some (.lst vs) ∧ RVs K m H vs ds := S.ob i a _ e q
end

/-! ## what an expression hands on -/
inductive RQ (K : PySem.W.Frag) (m : List Addr) (H : Hp) : V → LV → Prop
  | val {v : V} {d : D} : RV K m H v d → RQ K m H v (.val d)
  | new {p : Addr} {vs : List V} {ds : List D} : p ∉ m → H p = some (.lst vs) → RVs K m H vs ds → ds.length ≤ 16777216 → RQ K m H (.ref p) (.new ds)
inductive RQs (K : PySem.W.Frag) (m : List Addr) (H : Hp) : List V → List LV → Prop
  | nil : RQs K m H [] []
  | cons {v : V} {vs : List V} {d : LV} {ds : List LV} : RQ K m H v d → RQs K m H vs ds → RQs K m H (v :: vs) (d :: ds)
/-- a new list is newer than the heap H0 -/
def Nw (H0 : Hp) : V → LV → Prop
  | .ref p, .new _ => H0 p = none
  | _, _ => True
section
variable {w : World} {K : PySem.W.Frag} {m m' : List Addr} {H H' : Hp}
theorem RQ.mono (c : Cl m H) (L : Le m H m' H') {v : V} {q : LV} (r : RQ K m H v q) : RQ K m' H' v q := by
  cases r with
  | val r => exact .val (r.mono c L.toLw)
  | new hn e r z =>
    refine .new (fun hm => ?_) (L.fr _ _ e hn) (r.mono c L.toLw) z
    have := L.nw _ hm hn
    rw [e] at this
    cases this
theorem RQs.mono (c : Cl m H) (L : Le m H m' H') : ∀ {vs : List V} {qs : List LV}, RQs K m H vs qs → RQs K m' H' vs qs
  | _, _, .nil => .nil
  | _, _, .cons r t => .cons (r.mono c L) (RQs.mono c L t)
theorem fresh_back (c : Cl m' H') (L : Le m H m' H') {p : Addr} (hp : H' p = none) : H p = none := by
  cases z : H p with
  | none => rfl
  | some o =>
    by_cases hm : p ∈ m
    · exact absurd (L.mem hm) (c.non hp)
    · rw [L.fr p o z hm] at hp; cases hp
theorem Nw.back (c : Cl m' H') (L : Le m H m' H') {v : V} {q : LV} (n : Nw H' v q) : Nw H v q := by
  cases q with
  | val d => cases v <;> exact True.intro
  | new ds =>
    cases v with
    | ref p => exact fresh_back c L n
    | _ => exact True.intro
theorem nwV (H0 : Hp) (v : V) (d : D) : Nw H0 v (.val d) := by cases v <;> exact True.intro
end

/-! ## what a piece of syntax does, by a plain function -/
def tE (w : World) (K : PySem.W.Frag) (f : SE) : TE := fun σ H Q => ∃ m τ h q h', RSt K m H σ τ ∧ Sim w K m h H ∧ f τ h = some (q, h') ∧ ∀ m' H' v, Le m H m' H' → Sim w K m' h' H' → RQ K m' H' v q → Nw H v q → Q v H'
def tA (w : World) (K : PySem.W.Frag) (f : SA) : TA := fun σ H Q => ∃ m τ h qs h', RSt K m H σ τ ∧ Sim w K m h H ∧ f τ h = some (qs, h') ∧ ∀ m' H' vs, Le m H m' H' → Sim w K m' h' H' → RQs K m' H' vs qs → Q vs H'
def tT (w : World) (K : PySem.W.Frag) (f : ST) : TT := fun σ H Q => ∃ m τ h b h', RSt K m H σ τ ∧ Sim w K m h H ∧ f τ h = some (b, h') ∧ ∀ m' H', Le m H m' H' → Sim w K m' h' H' → Q b H'
def Aft (w : World) (K : PySem.W.Frag) (D : Ends) (m : List Addr) (H : Hp) : Res → Prop
  | .nx τ' h' => ∀ m' H' σ', Le m H m' H' → Sim w K m' h' H' → RSt K m' H' σ' τ' → D.nx σ' H'
  | .rt d h' => ∀ m' H' v, Le m H m' H' → Sim w K m' h' H' → RV K m' H' v d → D.rt v H'
  | .bk τ' h' => ∀ m' H' σ', Le m H m' H' → Sim w K m' h' H' → RSt K m' H' σ' τ' → D.bk σ' H'
  | .ct τ' h' => ∀ m' H' σ', Le m H m' H' → Sim w K m' h' H' → RSt K m' H' σ' τ' → D.ct σ' H'
theorem Aft.le {w : World} {K : PySem.W.Frag} {D : Ends} {m m1 : List Addr} {H H1 : Hp} {r : Res} (q : Aft w K D m H r) (L : Le m H m1 H1) : Aft w K D m1 H1 r := by
  cases r with
  | nx τ' h' => exact fun m' H' σ' L' => q m' H' σ' (L.trans L')
  | rt d h' => exact fun m' H' v L' => q m' H' v (L.trans L')
  | bk τ' h' => exact fun m' H' σ' L' => q m' H' σ' (L.trans L')
  | ct τ' h' => exact fun m' H' σ' L' => q m' H' σ' (L.trans L')
def tS (w : World) (K : PySem.W.Frag) (f : SS) : TS := fun D σ H => ∃ m τ h r, RSt K m H σ τ ∧ Sim w K m h H ∧ f τ h = some r ∧ Aft w K D m H r
def JE (X : Cx) (e : Expr) (f : SE) : Prop := PE X e (tE X.w X.K f)
def JT (X : Cx) (e : Expr) (f : ST) : Prop := PT X e (tT X.w X.K f)
def JW (X : Cx) (e : Expr) (f : ST) : Prop := PW X e (tT X.w X.K f)
def JA (X : Cx) (es : List Expr) (f : SA) : Prop := PA X es (tA X.w X.K f)
def JS (X : Cx) (st : Stmt) (f : SS) : Prop := PS X st (tS X.w X.K f)
def JB (X : Cx) (sts : List Stmt) (f : SS) : Prop := PSs X sts (tS X.w X.K f)
theorem pe_weak {X : Cx} {e : Expr} {t t' : TE} (h : PE X e t) (hw : ∀ σ H Q, t' σ H Q → t σ H Q) : PE X e t' := ⟨fun pins s σ H Q I q => h.run pins s σ H Q I (hw _ _ _ q)⟩
theorem pt_weak {X : Cx} {e : Expr} {t t' : TT} (h : PT X e t) (hw : ∀ σ H Q, t' σ H Q → t σ H Q) : PT X e t' := ⟨fun pins s σ H Q I q => h.run pins s σ H Q I (hw _ _ _ q)⟩
theorem pw_weak {X : Cx} {e : Expr} {t t' : TT} (h : PW X e t) (hw : ∀ σ H Q, t' σ H Q → t σ H Q) : PW X e t' := ⟨fun wh pins s σ H Q I q => h.run wh pins s σ H Q I (hw _ _ _ q)⟩
theorem pa_weak {X : Cx} {e : List Expr} {t t' : TA} (h : PA X e t) (hw : ∀ σ H Q, t' σ H Q → t σ H Q) : PA X e t' := ⟨fun pos pins s σ H Q I q => h.run pos pins s σ H Q I (hw _ _ _ q)⟩
theorem ps_weak {X : Cx} {e : Stmt} {t t' : TS} (h : PS X e t) (hw : ∀ D σ H, t' D σ H → t D σ H) : PS X e t' := ⟨fun pins s σ H D I q => h.run pins s σ H D I (hw _ _ _ q)⟩
theorem pss_weak {X : Cx} {e : List Stmt} {t t' : TS} (h : PSs X e t) (hw : ∀ D σ H, t' D σ H → t D σ H) : PSs X e t' := ⟨fun pins s σ H D I q => h.run pins s σ H D I (hw _ _ _ q)⟩

/-! ## plain semantics: the pieces -/
def mVar (i : Nat) : SE := fun τ h => match τ[i]? with
  | some (some d) => some (.val d, h)
  | _ => none
def mC (d : D) : SE := fun _ h => some (.val d, h)
abbrev Op2 := LV → LV → AH → Option (LV × AH)
abbrev Op1 := LV → AH → Option (LV × AH)
abbrev OpN := List LV → AH → Option (LV × AH)
def mBin (op : Op2) (fa fb : SE) : SE := fun τ h => (fa τ h).bind fun p => (fb τ p.2).bind fun q => op p.1 q.1 q.2
def mUn (op : Op1) (fa : SE) : SE := fun τ h => (fa τ h).bind fun p => op p.1 p.2
def mNil : SA := fun _ h => some ([], h)
def mCons (fa : SE) (fr : SA) : SA := fun τ h => (fa τ h).bind fun p => (fr τ p.2).bind fun q => some (p.1 :: q.1, q.2)
def plain : List LV → Option (List D)
  | [] => some []
  | .val d :: r => (plain r).bind fun s => some (d :: s)
  | .new _ :: _ => none
def mTup (fa : SA) : SE := fun τ h => (fa τ h).bind fun p => (plain p.1).bind fun ds => if ds.length ≤ 16777216 then some (.val (.tup ds), p.2) else none
def mLst (fa : SA) : SE := fun τ h => (fa τ h).bind fun p => (plain p.1).bind fun ds => if ds.length ≤ 16777216 then some (.new ds, p.2) else none
/-- a new list is laid, to be held -/
def lay : LV → AH → D × AH
  | .val d, h => (d, h)
  | .new ds, h => (.ref h.length, h ++ [.lst ds])
def mAd (fa : SE) : SE := fun τ h => (fa τ h).bind fun p => some (.val (lay p.1 p.2).1, (lay p.1 p.2).2)
def mIf (ft : ST) (fa fb : SE) : SE := fun τ h => (ft τ h).bind fun p => if p.1 = true then fa τ p.2 else fb τ p.2
def mB (fa : SE) : ST := fun τ h => (fa τ h).bind fun p => match p.1 with
  | .val (.bl b) => some (b, p.2)
  | _ => none
def mAnd (ta tb : ST) : ST := fun τ h => (ta τ h).bind fun p => if p.1 = true then tb τ p.2 else some (false, p.2)
def mOr (ta tb : ST) : ST := fun τ h => (ta τ h).bind fun p => if p.1 = true then some (true, p.2) else tb τ p.2
def mNot (ta : ST) : ST := fun τ h => (ta τ h).bind fun p => some (!p.1, p.2)
def mCall (F : SF) (fa : SA) : SE := fun τ h => (fa τ h).bind fun p => (plain p.1).bind fun ds => (F ds p.2).bind fun q => some (.val q.1, q.2)
def mFn (op : OpN) (fa : SA) : SE := fun τ h => (fa τ h).bind fun p => op p.1 p.2

theorem bind_some' {α β : Type} {x : Option α} {f : α → Option β} {b : β} (h : x.bind f = some b) : ∃ a, x = some a ∧ f a = some b := by
  cases x with
  | none => cases h
  | some a => exact ⟨a, rfl, h⟩
theorem ite_some' {c : Prop} [Decidable c] {α : Type} {x : Option α} {b : α} (h : (if c then x else none) = some b) : c ∧ x = some b := by
  by_cases q : c
  · rw [if_pos q] at h; exact ⟨q, h⟩
  · rw [if_neg q] at h; cases h
theorem RQs.plain {K : PySem.W.Frag} {m : List Addr} {H : Hp} : ∀ {vs : List V} {qs : List LV} {ds : List D}, RQs K m H vs qs → Sm.plain qs = some ds → RVs K m H vs ds
  | _, _, _, .nil, h => by cases h; exact .nil
  | _, _, _, .cons (.val r) t, h => by
    obtain ⟨s, e, q⟩ := bind_some' h
    cases q
    exact .cons r (RQs.plain t e)
  | _, _, _, .cons (.new _ _ _ _) t, h => by cases h
section
variable {X : Cx} {a b c : Expr} {es : List Expr} {fa fb : SE} {fr : SA} {ft fu : ST} {pos : Pos}

theorem je_var (i : Nat) {x : Str} {pos : Pos} (hN : X.N[i]? = some x := by rfl) (hv : Vis X.env.scope x := by first | exact Or.inl rfl | exact Or.inr (Or.inl rfl) | exact Or.inr (Or.inr rfl)) (hd : (x == ("__debug__" : Str)) = false := by decide)
    (hcd : (x == ("__classdict__" : Str)) = false := by decide) : JE X (.Name x pos) (mVar i) := by
  refine pe_weak (pe_var hN hv hd hcd) fun σ H Q ⟨m, τ, h, d, h', R, S, e, q⟩ => ?_
  unfold mVar at e
  split at e
  · rename_i d' q'
    cases e
    obtain ⟨v, h1, h2⟩ := R.2 i d' q'
    exact ⟨v, h1, q m H v (Le.refl m H) S (.val h2) (nwV _ _ _)⟩
  · cases e
theorem je_const {e : Expr} {v : V} {d : D} (p : PE X e (tC v)) (r : ∀ m H, RV X.K m H v d) : JE X e (mC d) := by
  refine pe_weak p fun σ H Q ⟨m, τ, h, d', h', R, S, e, q⟩ => ?_
  cases e
  exact q m H v (Le.refl m H) S (.val (r m H)) (nwV _ _ _)
theorem je_int {i j pos} : JE X (.Constant (.int i) j pos) (mC (.int i)) := je_const pe_int fun _ _ => .int i
theorem je_bl {b j pos} : JE X (.Constant (.bool b) j pos) (mC (.bl b)) := je_const pe_bl fun _ _ => .bl b
theorem je_non {j pos} : JE X (.Constant .none j pos) (mC .non) := je_const pe_non fun _ _ => .non
theorem je_str {x j pos} : JE X (.Constant (.str x) j pos) (mC (.str x)) := je_const pe_str fun _ _ => .str x

/-! rules by values -/
abbrev SimR (w : World) (K : PySem.W.Frag) (r : R2) (op : Op2) : Prop :=
  ∀ m h H x y dx dy d h' (Q : VK), Sim w K m h H → RQ K m H x dx → RQ K m H y dy → op dx dy h = some (d, h') → (∀ m' H' v, Le m H m' H' → Sim w K m' h' H' → RQ K m' H' v d → Nw H v d → Q v H') → r x y H Q
abbrev SimU (w : World) (K : PySem.W.Frag) (r : V → Hp → VK → Prop) (op : Op1) : Prop :=
  ∀ m h H x dx d h' (Q : VK), Sim w K m h H → RQ K m H x dx → op dx h = some (d, h') → (∀ m' H' v, Le m H m' H' → Sim w K m' h' H' → RQ K m' H' v d → Nw H v d → Q v H') → r x H Q
abbrev SimN (w : World) (K : PySem.W.Frag) (r : List V → Hp → VK → Prop) (op : OpN) : Prop :=
  ∀ m h H xs dxs d h' (Q : VK), Sim w K m h H → RQs K m H xs dxs → op dxs h = some (d, h') → (∀ m' H' v, Le m H m' H' → Sim w K m' h' H' → RQ K m' H' v d → Nw H v d → Q v H') → r xs H Q
theorem two {w : World} {K : PySem.W.Frag} {fa fb : SE} {op : Op2} {r : R2} (hs : SimR w K r op)
    (σ : L2.St) (H : Hp) (Q : VK) (h : tE w K (mBin op fa fb) σ H Q) : tOp r (tE w K fa) (tE w K fb) σ H Q := by
  obtain ⟨m, τ, h, d, h', R, S, e, q⟩ := h
  obtain ⟨⟨x, h1⟩, e1, e⟩ := bind_some' e
  obtain ⟨⟨y, h2⟩, e2, e⟩ := bind_some' e
  refine ⟨m, τ, h, x, h1, R, S, e1, fun m1 H1 v1 L1 S1 r1 _ => ?_⟩
  refine ⟨m1, τ, h1, y, h2, R.mono S.cl L1.toLw, S1, e2, fun m2 H2 v2 L2 S2 r2 _ => ?_⟩
  exact hs m2 h2 H2 v1 v2 x y d h' Q S2 (r1.mono S1.cl L2) r2 e fun m' H' v L' S' r' n' => q m' H' v (L1.trans (L2.trans L')) S' r' (n'.back S2.cl (L1.trans L2))
theorem one {w : World} {K : PySem.W.Frag} {fa : SE} {op : Op1} {r : V → Hp → VK → Prop} (hs : SimU w K r op)
    (σ : L2.St) (H : Hp) (Q : VK) (h : tE w K (mUn op fa) σ H Q) : tE w K fa σ H fun x H1 => r x H1 Q := by
  obtain ⟨m, τ, h, d, h', R, S, e, q⟩ := h
  obtain ⟨⟨x, h1⟩, e1, e⟩ := bind_some' e
  refine ⟨m, τ, h, x, h1, R, S, e1, fun m1 H1 v1 L1 S1 r1 _ => ?_⟩
  exact hs m1 h1 H1 v1 x d h' Q S1 r1 e fun m' H' v L' S' r' n' => q m' H' v (L1.trans L') S' r' (n'.back S1.cl L1)
theorem many {w : World} {K : PySem.W.Frag} {fa : SA} {op : OpN} {r : List V → Hp → VK → Prop} (hs : SimN w K r op)
    (σ : L2.St) (H : Hp) (Q : VK) (h : tE w K (mFn op fa) σ H Q) : tA w K fa σ H fun x H1 => r x H1 Q := by
  obtain ⟨m, τ, h, d, h', R, S, e, q⟩ := h
  obtain ⟨⟨x, h1⟩, e1, e⟩ := bind_some' e
  refine ⟨m, τ, h, x, h1, R, S, e1, fun m1 H1 v1 L1 S1 r1 => ?_⟩
  exact hs m1 h1 H1 v1 x d h' Q S1 r1 e fun m' H' v L' S' r' n' => q m' H' v (L1.trans L') S' r' (n'.back S1.cl L1)
theorem je_bin {o : Operator} {r : R2} {op : Op2} (ho : OpR X (binaryOp o) r) (hs : SimR X.w X.K r op) (ha : JE X a fa) (hb : JE X b fb) : JE X (.BinOp a o b pos) (mBin op fa fb) :=
  pe_weak (pe_op ho ha hb) (two hs)
theorem je_cmp {o : CmpOp} {r : R2} {op : Op2} (ho : OpR X (compareOp o) r) (hs : SimR X.w X.K r op) (ha : JE X a fa) (hb : JE X b fb) (hm : behindInMarks o b = false) : JE X (.Compare a [o] [b] pos) (mBin op fa fb) :=
  pe_weak (pe_cmpR ho ha hb hm) (two hs)
theorem je_ix {r : R2} {op : Op2} (ho : IxR X r) (hs : SimR X.w X.K r op) (ha : JE X a fa) (hb : JE X b fb) (hp : PlainIx b) : JE X (.Subscript a b pos) (mBin op fa fb) :=
  pe_weak (pe_ix ho ha hb hp) (two hs)
theorem je_un {o : UnaryOp} {r : V → Hp → VK → Prop} {op : Op1} (ho : UnR X (unaryOp o) r) (hs : SimU X.w X.K r op) (ha : JE X a fa) : JE X (.UnaryOp o a pos) (mUn op fa) :=
  pe_weak (pe_un ho ha) (one hs)
theorem je_fnB {x : Str} {p : Pos} {id : String} {r : List V → Hp → VK → Prop} {op : OpN} (hc : CallR X (.builtin id) r) (hs : SimN X.w X.K r op) (hg : Gl X x) (hm : X.mg x = none) (hv : bootBuiltins x = some (.builtin id)) (ha : JA X (a :: es) fr) (hn : x ≠ "__name__" := by decide) (hdb : (x == ("__debug__" : Str)) = false := by decide)
    (he : starEach (a :: es) X.env = (false, eval a X.env) :: starEach es X.env := by rfl) (hpl : (backTo pos (starEach es X.env)).any (·.1) = false := by rfl) : JE X (.Call (.Name x p) (a :: es) [] pos) (mFn op fr) :=
  pe_weak (pe_callB hc hg hm hv ha hn hdb he hpl) (many hs)
theorem je_fnT {x : Str} {p : Pos} {T : String} {r : List V → Hp → VK → Prop} {op : OpN} (hc : CallR X (.type T) r) (hs : SimN X.w X.K r op) (hg : Gl X x) (hm : X.mg x = none) (hv : bootBuiltins x = some (.type T)) (ha : JA X (a :: es) fr) (hn : x ≠ "__name__" := by decide) (hdb : (x == ("__debug__" : Str)) = false := by decide)
    (he : starEach (a :: es) X.env = (false, eval a X.env) :: starEach es X.env := by rfl) (hpl : (backTo pos (starEach es X.env)).any (·.1) = false := by rfl) : JE X (.Call (.Name x p) (a :: es) [] pos) (mFn op fr) :=
  pe_weak (pe_callTy hc hg hm hv ha hn hdb he hpl) (many hs)
/-! arguments -/
theorem ja_nil : JA X [] mNil := pa_weak pa_nil fun σ H Q ⟨m, τ, h, d, h', R, S, e, q⟩ => by
  cases e
  exact q m H [] (Le.refl m H) S .nil
theorem ja_cons (ha : JE X a fa) (hr : JA X es fr) (hs : starEach (a :: es) X.env = (false, eval a X.env) :: starEach es X.env := by rfl) : JA X (a :: es) (mCons fa fr) := by
  refine pa_weak (pa_cons ha hr hs) fun σ H Q ⟨m, τ, h, d, h', R, S, e, q⟩ => ?_
  obtain ⟨⟨x, h1⟩, e1, e⟩ := bind_some' e
  obtain ⟨⟨y, h2⟩, e2, e⟩ := bind_some' e
  cases e
  refine ⟨m, τ, h, x, h1, R, S, e1, fun m1 H1 v1 L1 S1 r1 _ => ?_⟩
  refine ⟨m1, τ, h1, y, h2, R.mono S.cl L1.toLw, S1, e2, fun m2 H2 v2 L2 S2 r2 => ?_⟩
  exact q m2 H2 (v1 :: v2) (L1.trans L2) S2 (.cons (r1.mono S1.cl L2) r2)
/-- a new tuple with its object known -/
def FzN (H : Hp) (vs : List V) (Q : VK) : Prop := ∀ (p : Addr) (o : Obj), H p = none → o.cls = .type "tuple" → o.dict = none → Q (.ref p) (upd H p (.frz o (.tup vs)))
theorem inv_newT {X : Cx} {pins : List (Addr × Obj)} {σ : L2.St} {H : Hp} {s : Shared} {vs : List V} {us : List Value} {Q : VK} (I : Inv X pins σ H s) (r : Vals vs us) (z : vs.length ≤ sizeLine) (q : FzN H vs Q) {d : Array Value} (hd : d = us.toArray) :
    EP X pins σ Q (.ref s.heap.objs.size) { s with heap := s.heap.push { cls := .type "tuple", data := .seq d } } := by
  subst hd
  have new := q s.heap.objs.size { cls := .type "tuple", data := .seq us.toArray } (I.hok.fresh (Nat.le_refl _)) rfl rfl
  refine ⟨.ref s.heap.objs.size, _, I.laid (t' := s.toks) (fun b u e => Heap.get?_push_of_some _ e) (Nat.le_refl _) ?_, rfl, new⟩
  refine ⟨Heap.get?_push_size _ rfl, z, us, r, ?_⟩
  exact ⟨_, Heap.get?_push_size _ rfl, rfl, _, rfl⟩
theorem pe_tupF {k} {t : TA} (h : PA X es t) : PE X (.Tuple es k pos) (fun σ H Q => t σ H fun xs H1 => xs.length ≤ sizeLine ∧ FzN H1 xs Q) := by
  refine ⟨fun pins s σ H Q I hq => ?_⟩
  refine wpAny_Tuple_spliced (thn (h.run pos pins s σ H _ I hq) fun us s1 ⟨xs, H1, I1, r, z, q⟩ => ?_)
  exact ⟨by rw [← r.length]; exact z, inv_newT I1 r z q rfl⟩
theorem je_tup {k} (ha : JA X es fr) : JE X (.Tuple es k pos) (mTup fr) := by
  refine pe_weak (pe_tupF ha) fun σ H Q ⟨m, τ, h, d, h', R, S, e, q⟩ => ?_
  obtain ⟨⟨x, h1⟩, e1, e⟩ := bind_some' e
  obtain ⟨ds, e2, e⟩ := bind_some' e
  obtain ⟨hz, e⟩ := ite_some' e
  cases e
  refine ⟨m, τ, h, x, h1, R, S, e1, fun m1 H1 v1 L1 S1 r1 => ?_⟩
  have r2 := r1.plain e2
  refine ⟨?_, fun p o hp hc hd => ?_⟩
  · rw [r2.length, sizeLine_eq]; exact hz
  · exact q m1 _ _ (L1.trans (Le.upd S1.cl hp _)) (S1.upd hp _) (.val (RV.tupN S1 hp hc hd r2)) (nwV _ _ _)
/-- a new list at p, held by nobody -/
theorem RQ.newN {w : World} {K : PySem.W.Frag} {m : List Addr} {h : AH} {H : Hp} (S : Sim w K m h H) {p : Addr} (hp : H p = none) {vs : List V} {ds : List D} (r : RVs K m H vs ds) (z : ds.length ≤ 16777216) : RQ K m (upd H p (.lst vs)) (.ref p) (.new ds) :=
  .new (S.cl.non hp) upd_same (r.mono S.cl (Le.upd S.cl hp _).toLw) z
theorem je_lst (ha : JA X es fr) : JE X (.List es pos) (mLst fr) := by
  refine pe_weak (pe_lst ha) fun σ H Q ⟨m, τ, h, d, h', R, S, e, q⟩ => ?_
  obtain ⟨⟨x, h1⟩, e1, e⟩ := bind_some' e
  obtain ⟨ds, e2, e⟩ := bind_some' e
  obtain ⟨hz, e⟩ := ite_some' e
  cases e
  refine ⟨m, τ, h, x, h1, R, S, e1, fun m1 H1 v1 L1 S1 r1 => ?_⟩
  have r2 := r1.plain e2
  refine ⟨?_, fun p hp => ?_⟩
  · rw [r2.length, sizeLine_eq]; exact hz
  · exact q m1 _ _ (L1.trans (Le.upd S1.cl hp _)) (S1.upd hp _) (RQ.newN S1 hp r2 hz) (fresh_back S1.cl L1 hp)
/-- what nobody holds is tracked from now on -/
theorem hold {w : World} {K : PySem.W.Frag} {m m1 : List Addr} {h1 : AH} {H H1 : Hp} {v : V} {q : LV} (S : Sim w K m1 h1 H1) (L : Le m H m1 H1) (r : RQ K m1 H1 v q) (n : Nw H v q) :
    ∃ m2, Le m H m2 H1 ∧ Sim w K m2 (lay q h1).2 H1 ∧ RV K m2 H1 v (lay q h1).1 := by
  cases r with
  | val r => exact ⟨m1, L, S, r⟩
  | @new p vs ds hn hv rv z =>
    have Lg : Lw m1 H1 (m1 ++ [p]) H1 := ⟨⟨[p], rfl⟩, fun a o z _ => z⟩
    refine ⟨m1 ++ [p], ⟨⟨?_, L.fr⟩, fun a h1 h2 => ?_⟩, ?_, RV.new S⟩
    · obtain ⟨t, rfl⟩ := L.pre
      exact ⟨t ++ [p], by simp⟩
    · rcases List.mem_append.mp h1 with w | w
      · exact L.nw a w h2
      · rw [List.mem_singleton.mp w]; exact n
    · refine ⟨by simp [lay, S.len], nodup_add S.nd hn, fun i a ob e1 e2 => ?_⟩
      rcases get_add e1 with z | ⟨z, rfl⟩
      · have hi : i < m1.length := by
          rcases Nat.lt_or_ge i m1.length with w | w
          · exact w
          · rw [List.getElem?_eq_none w] at z
            cases z
        unfold lay at e2
        rw [List.getElem?_append_left (by rw [← S.len]; exact hi)] at e2
        exact (S.ob i a ob z e2).mono S.cl Lg rfl
      · unfold lay at e2
        rw [z, S.len, List.getElem?_append_right (Nat.le_refl _), Nat.sub_self] at e2
        cases e2
        exact ⟨vs, hv, rv.mono S.cl Lg⟩
theorem je_ad {e : Expr} (ha : JE X e fa) : JE X e (mAd fa) := by
  refine pe_weak ha fun σ H Q ⟨m, τ, h, d, h', R, S, e, q⟩ => ?_
  obtain ⟨⟨x, h1⟩, e1, e⟩ := bind_some' e
  cases e
  refine ⟨m, τ, h, x, h1, R, S, e1, fun m1 H1 v L1 S1 r1 n1 => ?_⟩
  obtain ⟨m2, L2, S2, r2⟩ := hold S1 L1 r1 n1
  exact q m2 H1 v L2 S2 (.val r2) (nwV _ _ _)
/-! tests -/
theorem jt_val {e : Expr} (h : JE X e fa) (he : ∀ whole, isTrue e X.env whole = (do let v ← whole; standAt e.pos; holding [v] (truthy v)) := by intro _; rfl) : JT X e (mB fa) := by
  refine pt_weak (pt_val h he) fun σ H Q ⟨m, τ, h, d, h', R, S, e, q⟩ => ?_
  obtain ⟨⟨x, h1⟩, e1, e⟩ := bind_some' e
  refine ⟨m, τ, h, x, h1, R, S, e1, fun m1 H1 v L1 S1 r1 n1 => ?_⟩
  dsimp only at e
  split at e
  · cases e
    cases r1 with
    | val r =>
      cases r
      exact ⟨_, rfl, q m1 H1 L1 S1⟩
  · cases e
theorem jw_and1 (ha : JT X a ft) : JW X (.BoolOp .And [a] pos) ft := pw_and1 ha
theorem jw_or1 (ha : JT X a ft) : JW X (.BoolOp .Or [a] pos) ft := pw_or1 ha
theorem jw_and (ha : JT X a ft) (hb : JW X (.BoolOp .And (b :: es) pos) fu) : JW X (.BoolOp .And (a :: b :: es) pos) (mAnd ft fu) := by
  refine pw_weak (pw_and ha hb) fun σ H Q ⟨m, τ, h, d, h', R, S, e, q⟩ => ?_
  obtain ⟨⟨x, h1⟩, e1, e⟩ := bind_some' e
  refine ⟨m, τ, h, x, h1, R, S, e1, fun m1 H1 L1 S1 => ?_⟩
  cases x with
  | true => exact ⟨m1, τ, h1, d, h', R.mono S.cl L1.toLw, S1, e, fun m2 H2 L2 S2 => q m2 H2 (L1.trans L2) S2⟩
  | false => cases e; exact q m1 H1 L1 S1
theorem jw_or (ha : JT X a ft) (hb : JW X (.BoolOp .Or (b :: es) pos) fu) : JW X (.BoolOp .Or (a :: b :: es) pos) (mOr ft fu) := by
  refine pw_weak (pw_or ha hb) fun σ H Q ⟨m, τ, h, d, h', R, S, e, q⟩ => ?_
  obtain ⟨⟨x, h1⟩, e1, e⟩ := bind_some' e
  refine ⟨m, τ, h, x, h1, R, S, e1, fun m1 H1 L1 S1 => ?_⟩
  cases x with
  | false => exact ⟨m1, τ, h1, d, h', R.mono S.cl L1.toLw, S1, e, fun m2 H2 L2 S2 => q m2 H2 (L1.trans L2) S2⟩
  | true => cases e; exact q m1 H1 L1 S1
theorem JW.t {e : Expr} (h : JW X e ft) : JT X e ft := PW.pt h
theorem jt_not (ha : JT X a ft) : JT X (.UnaryOp .Not a pos) (mNot ft) := by
  refine pt_weak (pt_not ha) fun σ H Q ⟨m, τ, h, d, h', R, S, e, q⟩ => ?_
  obtain ⟨⟨x, h1⟩, e1, e⟩ := bind_some' e
  cases e
  exact ⟨m, τ, h, x, h1, R, S, e1, fun m1 H1 L1 S1 => q m1 H1 L1 S1⟩
theorem je_if (hc : JT X c ft) (ha : JE X a fa) (hb : JE X b fb) : JE X (.IfExp c a b pos) (mIf ft fa fb) := by
  refine pe_weak (pe_ifExp hc ha hb) fun σ H Q ⟨m, τ, h, d, h', R, S, e, q⟩ => ?_
  obtain ⟨⟨x, h1⟩, e1, e⟩ := bind_some' e
  refine ⟨m, τ, h, x, h1, R, S, e1, fun m1 H1 L1 S1 => ?_⟩
  cases x with
  | true => exact ⟨m1, τ, h1, d, h', R.mono S.cl L1.toLw, S1, e, fun m2 H2 v L2 S2 r2 n2 => q m2 H2 v (L1.trans L2) S2 r2 (n2.back S1.cl L1)⟩
  | false => exact ⟨m1, τ, h1, d, h', R.mono S.cl L1.toLw, S1, e, fun m2 H2 v L2 S2 r2 n2 => q m2 H2 v (L1.trans L2) S2 r2 (n2.back S1.cl L1)⟩
/-! and, or, not as values -/
def mAndV (fa fb : SE) : SE := fun τ h => (fa τ h).bind fun p => match p.1 with
  | .val (.bl true) => fb τ p.2
  | .val (.bl false) => some (.val (.bl false), p.2)
  | _ => none
def mOrV (fa fb : SE) : SE := fun τ h => (fa τ h).bind fun p => match p.1 with
  | .val (.bl false) => fb τ p.2
  | .val (.bl true) => some (.val (.bl true), p.2)
  | _ => none
def mNotV (fa : SE) : SE := fun τ h => (fa τ h).bind fun p => match p.1 with
  | .val (.bl b) => some (.val (.bl (!b)), p.2)
  | _ => none
theorem je_and1 {op} (ha : JE X a fa) : JE X (.BoolOp op [a] pos) fa := pe_one ha
theorem je_and (ha : JE X a fa) (hb : JE X (.BoolOp .And (b :: es) pos) fb) : JE X (.BoolOp .And (a :: b :: es) pos) (mAndV fa fb) := by
  refine pe_weak (pe_and ha hb) fun σ H Q ⟨m, τ, h, d, h', R, S, e, q⟩ => ?_
  obtain ⟨⟨x, h1⟩, e1, e⟩ := bind_some' e
  refine ⟨m, τ, h, x, h1, R, S, e1, fun m1 H1 v L1 S1 r1 n1 => ?_⟩
  dsimp only at e
  split at e
  · cases r1 with
    | val r => cases r; exact ⟨true, rfl, ⟨m1, τ, h1, d, h', R.mono S.cl L1.toLw, S1, e, fun m2 H2 v L2 S2 r2 n2 => q m2 H2 v (L1.trans L2) S2 r2 (n2.back S1.cl L1)⟩⟩
  · cases e
    cases r1 with
    | val r => cases r; exact ⟨false, rfl, q m1 H1 _ L1 S1 (.val (.bl false)) (nwV _ _ _)⟩
  · cases e
theorem je_or (ha : JE X a fa) (hb : JE X (.BoolOp .Or (b :: es) pos) fb) : JE X (.BoolOp .Or (a :: b :: es) pos) (mOrV fa fb) := by
  refine pe_weak (pe_or ha hb) fun σ H Q ⟨m, τ, h, d, h', R, S, e, q⟩ => ?_
  obtain ⟨⟨x, h1⟩, e1, e⟩ := bind_some' e
  refine ⟨m, τ, h, x, h1, R, S, e1, fun m1 H1 v L1 S1 r1 n1 => ?_⟩
  dsimp only at e
  split at e
  · cases r1 with
    | val r => cases r; exact ⟨false, rfl, ⟨m1, τ, h1, d, h', R.mono S.cl L1.toLw, S1, e, fun m2 H2 v L2 S2 r2 n2 => q m2 H2 v (L1.trans L2) S2 r2 (n2.back S1.cl L1)⟩⟩
  · cases e
    cases r1 with
    | val r => cases r; exact ⟨true, rfl, q m1 H1 _ L1 S1 (.val (.bl true)) (nwV _ _ _)⟩
  · cases e
theorem je_not (ha : JE X a fa) : JE X (.UnaryOp .Not a pos) (mNotV fa) := by
  refine pe_weak (pe_not ha) fun σ H Q ⟨m, τ, h, d, h', R, S, e, q⟩ => ?_
  obtain ⟨⟨x, h1⟩, e1, e⟩ := bind_some' e
  refine ⟨m, τ, h, x, h1, R, S, e1, fun m1 H1 v L1 S1 r1 n1 => ?_⟩
  dsimp only at e
  split at e
  · cases e
    cases r1 with
    | val r => cases r; exact ⟨_, rfl, q m1 H1 _ L1 S1 (.val (.bl _)) (nwV _ _ _)⟩
  · cases e
/-! calls of the program's own defs -/
def spF (w : World) (K : PySem.W.Frag) (n : Nat) (F : SF) : Sp := fun vs H Q _ => ∃ m h ds d h', Sim w K m h H ∧ RVs K m H vs ds ∧ ds.length = n ∧ F ds h = some (d, h') ∧ ∀ m' H' v, Le m H m' H' → Sim w K m' h' H' → RV K m' H' v d → Q v H'
theorem call_sem {w : World} {K : PySem.W.Frag} {n : Nat} {F : SF} {ps : List Str} (hl : ps.length = n) {fr : SA} {σ : L2.St} {H : Hp} {Q : VK} (hn : ∀ τ h qs h', fr τ h = some (qs, h') → qs.length = n) (h : tE w K (mCall F fr) σ H Q) : tA w K fr σ H fun vs H1 => spF w K n F vs H1 Q E0 := by
  obtain ⟨m, τ, h, d, h', R, S, e, q⟩ := h
  obtain ⟨⟨x, h1⟩, e1, e⟩ := bind_some' e
  obtain ⟨ds, e2, e⟩ := bind_some' e
  obtain ⟨⟨y, h2⟩, e3, e⟩ := bind_some' e
  cases e
  refine ⟨m, τ, h, x, h1, R, S, e1, fun m1 H1 v1 L1 S1 r1 => ?_⟩
  have r2 := r1.plain e2
  refine ⟨m1, h1, ds, y, h2, S1, r2, ?_, e3, fun m' H' v L' S' r' => q m' H' v (L1.trans L') S' (.val r') (nwV _ _ _)⟩
  have e4 := hn _ _ _ _ e1
  have : ∀ (qs : List LV) (ds : List D), plain qs = some ds → ds.length = qs.length := by
    intro qs
    induction qs with
    | nil => intro ds z; cases z; rfl
    | cons a r ih =>
      intro ds z
      cases a with
      | new _ => cases z
      | val d =>
        obtain ⟨s, z1, z2⟩ := bind_some' z
        cases z2
        rw [List.length_cons, List.length_cons, ih _ z1]
  rw [this _ _ e2]
  exact e4
/-- an argument list of a known length -/
def LenA (fr : SA) (n : Nat) : Prop := ∀ τ h qs h', fr τ h = some (qs, h') → qs.length = n
theorem lenA_nil : LenA mNil 0 := fun τ h qs h' e => by cases e; rfl
theorem lenA_cons {fa : SE} {fr : SA} {n : Nat} (h : LenA fr n) : LenA (mCons fa fr) (n + 1) := fun τ h0 qs h' e => by
  obtain ⟨⟨x, h1⟩, e1, e⟩ := bind_some' e
  obtain ⟨⟨y, h2⟩, e2, e⟩ := bind_some' e
  cases e
  rw [List.length_cons, h _ _ _ _ e2]
theorem je_call {x : Str} {p : Pos} {k n : Nat} {f : Addr} {fd : FuncData} {ps : List Str} {F : SF} (G : FnOk X.prog X.w X.K X.mg X.base CX0 k f fd ps (spF X.w X.K n F)) (hr : Room k X.A) (hg : Gl X x) (hm : X.mg x = some (.ref f)) (hk : PySem.W.keepIn X.K (.ref f) = true) (hb : Binds X.K fd ps [])
    (ha : JA X (a :: es) fr) (hl : LenA fr n) (hp : ps.length = n) (hdb : (x == ("__debug__" : Str)) = false := by decide) (he : starEach (a :: es) X.env = (false, eval a X.env) :: starEach es X.env := by rfl) (hpl : (backTo pos (starEach es X.env)).any (·.1) = false := by rfl) :
    JE X (.Call (.Name x p) (a :: es) [] pos) (mCall F fr) := by
  refine pe_weak (pe_call G hr hg hm hk hb .nil pass0 ha hdb he hpl) fun σ H Q h => ?_
  obtain ⟨m, τ, h, qs, h', R, S, e, q⟩ := call_sem hp hl h
  exact ⟨m, τ, h, qs, h', R, S, e, fun m' H' vs L' S' r' => by
    show spF X.w X.K n F (vs ++ []) H' Q E0
    rw [List.append_nil]
    exact q m' H' vs L' S' r'⟩
end
end Sm
namespace Sm
open PySem PySem.Spec PyProof.Rows L2

/-! ## statements -/
abbrev SG := D → AT → AH → Option (AT × AH)
abbrev SGs := List D → AT → AH → Option (AT × AH)
def tG (w : World) (K : PySem.W.Frag) (vs : List Nat) (g : SG) : TG := fun v σ H Q => ∃ m d τ h τ' h', RV K m H v d ∧ RSt K m H σ τ ∧ Sim w K m h H ∧ g d τ h = some (τ', h') ∧ ∀ m' H' σ', Le m H m' H' → Sim w K m' h' H' → RSt K m' H' σ' τ' → wipe σ' vs = wipe σ vs → Q σ' H'
def tGs (w : World) (K : PySem.W.Frag) (vs : List Nat) (g : SGs) : TGs := fun us σ H Q => ∃ m ds τ h τ' h', RVs K m H us ds ∧ RSt K m H σ τ ∧ Sim w K m h H ∧ g ds τ h = some (τ', h') ∧ ∀ m' H' σ', Le m H m' H' → Sim w K m' h' H' → RSt K m' H' σ' τ' → wipe σ' vs = wipe σ vs → Q σ' H'
def JG (X : Cx) (vs : List Nat) (e : Expr) (g : SG) : Prop := PG X e (tG X.w X.K vs g)
def JGs (X : Cx) (vs : List Nat) (es : List Expr) (g : SGs) : Prop := PGs X es (tGs X.w X.K vs g)
theorem pg_weak {X : Cx} {e : Expr} {t t' : TG} (h : PG X e t) (hw : ∀ v σ H Q, t' v σ H Q → t v σ H Q) : PG X e t' := ⟨fun pins s σ H v u Q I r q => h.run pins s σ H v u Q I r (hw _ _ _ _ q)⟩
theorem pgs_weak {X : Cx} {e : List Expr} {t t' : TGs} (h : PGs X e t) (hw : ∀ v σ H Q, t' v σ H Q → t v σ H Q) : PGs X e t' := ⟨fun pins s σ H v u Q I r q => h.run pins s σ H v u Q I r (hw _ _ _ _ q)⟩
def gN (i : Nat) : SG := fun d τ h => some (τ.set i (some d), h)
def gT (n : Nat) (gs : SGs) : SG := fun d τ h => match d with
  | .tup ds => if ds.length = n then gs ds τ h else none
  | .zt ds => if ds.length = n then gs ds τ h else none
  | .fl ds => if ds.length = n then gs ds τ h else none
  | .ref a => match h[a]? with
    | some (.lst ds) => if ds.length = n then gs ds τ h else none
    | _ => none
  | _ => none
def gsN : SGs := fun ds τ h => match ds with
  | [] => some (τ, h)
  | _ => none
def gsC (g : SG) (gs : SGs) : SGs := fun ds τ h => match ds with
  | d :: r => (g d τ h).bind fun p => gs r p.1 p.2
  | _ => none
theorem wipe_set {σ : L2.St} {i : Nat} {x : Option V} : ∀ {vs : List Nat}, i ∈ vs → wipe (σ.set i x) vs = wipe σ vs
  | v :: vs, h => by
    unfold wipe
    by_cases hv : i ∈ vs
    · rw [wipe_set hv]
    · have e : v = i := by
        rcases List.mem_cons.mp h with z | z
        · exact z.symm
        · exact absurd z hv
      subst e
      have : ∀ (us : List Nat) (σ : L2.St), v ∉ us → wipe (σ.set v x) us = (wipe σ us).set v x := by
        intro us
        induction us with
        | nil => intro σ _; rfl
        | cons u us ih =>
          intro σ hn
          unfold wipe
          rw [ih σ (fun z => hn (List.mem_cons_of_mem _ z)), List.set_comm _ _ (fun z => hn (by rw [z]; exact List.mem_cons_self))]
      rw [this vs σ hv, List.set_set]
section
variable {X : Cx} {pos : Pos} {vs : List Nat} {e o : Expr} {es : List Expr} {fa fb fo : SE} {fr : SA} {ft : ST} {st : Stmt} {rest sts sts2 : List Stmt} {f f1 f2 : SS} {g : SG} {gs : SGs}
theorem jg_name {i : Nat} {x : Str} (hN : X.N.Nodup) (hi : X.N[i]? = some x) (hx : Loc X.env.scope x) (hv : i ∈ vs) (hf : X.fn x = true ∨ X.env.scope.names.lookup x = some .local := by first | exact .inl rfl | exact .inr rfl | assumption) : JG X vs (.Name x pos) (gN i) := by
  refine pg_weak (pg_name hN hi hx hf) fun v σ H Q ⟨m, d, τ, h, τ', h', r, R, S, e, q⟩ => ?_
  cases e
  exact q m H _ (Le.refl m H) S (R.set r i) (wipe_set hv)
theorem jgs_nil : JGs X vs [] gsN := by
  refine pgs_weak pgs_nil fun v σ H Q ⟨m, d, τ, h, τ', h', r, R, S, e, q⟩ => ?_
  cases d with
  | nil =>
    cases r
    cases e
    exact ⟨rfl, q m H _ (Le.refl m H) S R rfl⟩
  | cons _ _ => cases e
theorem jgs_cons (h1 : JG X vs e g) (h2 : JGs X vs es gs) (hs : (assignEach (e :: es) X.env).map (·.2) = assign e X.env :: (assignEach es X.env).map (·.2) := by rfl) : JGs X vs (e :: es) (gsC g gs) := by
  refine pgs_weak (pgs_cons h1 h2 hs) fun v σ H Q ⟨m, d, τ, h, τ', h', r, R, S, e, q⟩ => ?_
  cases r with
  | nil => cases e
  | cons r rr =>
    obtain ⟨⟨x, hx⟩, e1, e⟩ := bind_some' e
    refine ⟨_, _, rfl, m, _, τ, h, x, hx, r, R, S, e1, fun m1 H1 σ1 L1 S1 R1 w1 => ?_⟩
    exact ⟨m1, _, x, hx, τ', h', rr.mono S.cl L1.toLw, R1, S1, e, fun m2 H2 σ2 L2 S2 R2 w2 => q m2 H2 σ2 (L1.trans L2) S2 R2 (w2.trans w1)⟩
theorem pg_orr {e : Expr} {t t' : TG} (a : PG X e t) (b : PG X e t') : PG X e (fun v σ H Q => t v σ H Q ∨ t' v σ H Q) :=
  ⟨fun pins s σ H v u Q I r q => q.elim (a.run pins s σ H v u Q I r) (b.run pins s σ H v u Q I r)⟩
theorem jg_tup {k n : Nat} (hc : X.calm = true) (h : JGs X vs es gs) (hn : (assignEach es X.env).length = n := by rfl) (hst : (assignEach es X.env).findIdx? (·.1) = none := by rfl) : JG X vs (.Tuple es k pos) (gT n gs) := by
  refine pg_weak (pg_orr (pg_tup hc h hn hst) (pg_lst hc h hn hst)) fun v σ H Q ⟨m, d, τ, h, τ', h', r, R, S, e, q⟩ => ?_
  have fin : ∀ {a : Addr} {us : List V} {ds : List D}, SqT X.K H a us → RVs X.K m H us ds → (if ds.length = n then gs ds τ h else none) = some (τ', h') → gTup X.K n (tGs X.w X.K vs gs) (.ref a) σ H Q := fun {a us ds} hq rr e => by
    obtain ⟨hl, e⟩ := ite_some' e
    exact ⟨a, us, rfl, hq, rr.length.trans hl, m, ds, τ, h, τ', h', rr, R, S, e, q⟩
  have fin2 : ∀ {a : Addr} {us : List V} {ds : List D}, SqL X.K H a us → RVs X.K m H us ds → (if ds.length = n then gs ds τ h else none) = some (τ', h') → gLst X.K n (tGs X.w X.K vs gs) (.ref a) σ H Q := fun {a us ds} hq rr e => by
    obtain ⟨hl, e⟩ := ite_some' e
    exact ⟨a, us, rfl, hq, rr.length.trans hl, m, ds, τ, h, τ', h', rr, R, S, e, q⟩
  cases r with
  | tup hq rr => exact .inl (fin hq.sq rr e)
  | zt hq rr => exact .inl (fin hq rr e)
  | fl hq rr => exact .inr (fin2 hq.sq rr e)
  | ref em =>
    unfold gT at e
    dsimp only at e
    split at e
    · rename_i ds hh
      obtain ⟨us, e2, rr⟩ := S.lst em hh
      exact .inr (fin2 (SqL.of e2) rr e)
    · cases e
  | _ => cases e
/-- o[i] = .. over a list -/
def setD : LV → LV → D → AH → Option AH
  | .val (.ref a), .val (.int k), d, h => match h[a]? with
    | some (.lst xs) => (ixN xs.length k).bind fun j => some (h.set a (.lst (xs.set j d)))
    | _ => none
  | _, _, _, _ => none
def gS (fo fi : SE) : SG := fun d τ h => (fo τ h).bind fun p => (fi τ p.2).bind fun q => (setD p.1 q.1 d q.2).bind fun h' => some (τ, h')
theorem jg_sub {i : Expr} {fi : SE} (ho : JE X o fo) (hi : JE X i fi) (ha : ∀ v, assign (.Subscript o i pos) X.env v = (do
      let ov ← holding [v] (eval o X.env)
      let iv ← holding [v, ov] (eval i X.env)
      standAt pos
      holding [v, ov, iv] (setItem ov iv v)
      release [v, ov, iv] []) := by intro _; rfl) : JG X vs (.Subscript o i pos) (gS fo fi) := by
  refine pg_weak (pg_sub ho hi set_list ha) fun v σ H Q ⟨m, d, τ, h, τ', h', r, R, S, e, q⟩ => ?_
  obtain ⟨⟨x, h1⟩, e1, e⟩ := bind_some' e
  obtain ⟨⟨y, h2⟩, e2, e⟩ := bind_some' e
  obtain ⟨h3, e3, e⟩ := bind_some' e
  cases e
  refine ⟨m, τ, h, x, h1, R, S, e1, fun m1 H1 v1 L1 S1 r1 _ => ⟨m1, τ, h1, y, h2, R.mono S.cl L1.toLw, S1, e2, fun m2 H2 v2 L2 S2 r2 _ => ?_⟩⟩
  have r1' := r1.mono S1.cl L2
  have rv := (r.mono S.cl L1.toLw).mono S1.cl L2.toLw
  dsimp only at e3
  unfold setD at e3
  split at e3
  · split at e3
    · rename_i xs hx
      obtain ⟨j, hj, e3⟩ := bind_some' e3
      cases e3
      cases r1' with
      | val r1' =>
        cases r1' with
        | ref ea =>
          cases r2 with
          | val r2 =>
            cases r2
            obtain ⟨us, hu, ru⟩ := S2.lst ea hx
            refine ⟨_, us, _, j, rfl, rfl, hu, by rw [ru.length]; exact hj, ?_⟩
            exact q m2 _ σ (L1.trans (L2.trans (Le.put S2 ea _))) (S2.putL ea (ru.set rv j)) (((R.mono S.cl L1.toLw).mono S1.cl L2.toLw).mono S2.cl (Le.put S2 ea _).toLw) rfl
    · cases e3
  · cases e3

def mAsg (g : SG) (fa : SE) : SS := fun τ h => (fa τ h).bind fun p => (g (lay p.1 p.2).1 τ (lay p.1 p.2).2).bind fun q => some (.nx q.1 q.2)
def mExpr (fa : SE) : SS := fun τ h => (fa τ h).bind fun p => some (.nx τ p.2)
def mRet (fa : SE) : SS := fun τ h => (fa τ h).bind fun p => some (.rt (lay p.1 p.2).1 (lay p.1 p.2).2)
def mRetN : SS := fun _ h => some (.rt .non h)
def mPass : SS := fun τ h => some (.nx τ h)
def mBrk : SS := fun τ h => some (.bk τ h)
def mCnt : SS := fun τ h => some (.ct τ h)
def mNever : SS := fun _ _ => none
def mSeq (f1 f2 : SS) : SS := fun τ h => (f1 τ h).bind fun r => match r with
  | .nx τ' h' => f2 τ' h'
  | r => some r
def mIfS (ft : ST) (f1 f2 : SS) : SS := fun τ h => (ft τ h).bind fun p => if p.1 = true then f1 τ p.2 else f2 τ p.2

theorem asg_sem {w : World} {K : PySem.W.Frag} (D : Ends) (σ : L2.St) (H : Hp) (h : tS w K (mAsg g fa) D σ H) : tAsg (tE w K fa) (tG w K vs g) D σ H := by
  obtain ⟨m, τ, h, r, R, S, e, q⟩ := h
  obtain ⟨⟨x, h1⟩, e1, e⟩ := bind_some' e
  obtain ⟨⟨τ', h'⟩, e2, e⟩ := bind_some' e
  cases e
  refine ⟨m, τ, h, x, h1, R, S, e1, fun m1 H1 v1 L1 S1 r1 n1 => ?_⟩
  obtain ⟨m2, L2, S2, r2⟩ := hold S1 L1 r1 n1
  exact ⟨m2, _, τ, _, τ', h', r2, R.mono S.cl L2.toLw, S2, e2, fun m3 H3 σ3 L3 S3 R3 _ => q m3 H3 σ3 (L2.trans L3) S3 R3⟩
theorem js_asg {tg : Expr} (he : JE X e fa) (hg : JG X vs tg g) (hs : swapsWithSole [tg] e pos.line X.env = pure false := by rfl) (hw : swappedStores [tg] e X.env = pure none := by rfl)
    (h1 : (assignEach [tg] X.env).map (·.2) = [assign tg X.env] := by rfl) : JS X (.Assign [tg] e pos) (mAsg g fa) := ps_weak (ps_asg he hg hs hw h1) asg_sem
theorem js_set {i : Nat} {x : Str} {pos' : Pos} (hN : X.N.Nodup) (hi : X.N[i]? = some x) (hx : Loc X.env.scope x) (he : JE X e fa) (hs : swapsWith e (some (.Name x pos')) pos.line X.env = pure false := by rfl) (hf : X.fn x = true ∨ X.env.scope.names.lookup x = some .local := by first | exact .inl rfl | exact .inr rfl | assumption) :
    JS X (.Assign [.Name x pos'] e pos) (mAsg (gN i) fa) := by
  refine ps_weak (ps_set hN hi hx he hs hf) fun D σ H h => ?_
  obtain ⟨m, τ, h, r, R, S, e, q⟩ := h
  obtain ⟨⟨x, h1⟩, e1, e⟩ := bind_some' e
  cases e
  refine ⟨m, τ, h, x, h1, R, S, e1, fun m1 H1 v1 L1 S1 r1 n1 => ?_⟩
  obtain ⟨m2, L2, S2, r2⟩ := hold S1 L1 r1 n1
  exact q m2 H1 _ L2 S2 ((R.mono S.cl L2.toLw).set r2 i)
theorem js_expr (he : JE X e fa) (hs : swapsWith e none pos.line X.env = pure false := by rfl) : JS X (.Expr e pos) (mExpr fa) := by
  refine ps_weak (ps_expr he hs) fun D σ H ⟨m, τ, h, r, R, S, e, q⟩ => ?_
  obtain ⟨⟨x, h1⟩, e1, e⟩ := bind_some' e
  cases e
  exact ⟨m, τ, h, x, h1, R, S, e1, fun m1 H1 v1 L1 S1 r1 n1 => q m1 H1 σ L1 S1 (R.mono S.cl L1.toLw)⟩
theorem js_ret (he : JE X e fa) : JS X (.Return (some e) pos) (mRet fa) := by
  refine ps_weak (ps_ret he) fun D σ H ⟨m, τ, h, r, R, S, e, q⟩ => ?_
  obtain ⟨⟨x, h1⟩, e1, e⟩ := bind_some' e
  cases e
  refine ⟨m, τ, h, x, h1, R, S, e1, fun m1 H1 v1 L1 S1 r1 n1 => ?_⟩
  obtain ⟨m2, L2, S2, r2⟩ := hold S1 L1 r1 n1
  exact q m2 H1 v1 L2 S2 r2
theorem js_retN : JS X (.Return none pos) mRetN := by
  refine ps_weak ps_retN fun D σ H ⟨m, τ, h, r, R, S, e, q⟩ => ?_
  cases e
  exact q m H _ (Le.refl m H) S .non
theorem js_pass : JS X (.Pass pos) mPass := by
  refine ps_weak ps_pass fun D σ H ⟨m, τ, h, r, R, S, e, q⟩ => ?_
  cases e
  exact q m H _ (Le.refl m H) S R
theorem js_brk : JS X (.Break pos) mBrk := by
  refine ps_weak ps_break fun D σ H ⟨m, τ, h, r, R, S, e, q⟩ => ?_
  cases e
  exact q m H _ (Le.refl m H) S R
theorem js_cnt : JS X (.Continue pos) mCnt := by
  refine ps_weak ps_continue fun D σ H ⟨m, τ, h, r, R, S, e, q⟩ => ?_
  cases e
  exact q m H _ (Le.refl m H) S R
theorem js_never : JS X st mNever := by
  refine ps_weak ps_never fun D σ H ⟨m, τ, h, r, R, S, e, q⟩ => ?_
  cases e
theorem jb_nil : JB X [] mPass := by
  refine pss_weak pss_nil fun D σ H ⟨m, τ, h, r, R, S, e, q⟩ => ?_
  cases e
  exact q m H _ (Le.refl m H) S R
theorem jb_one (h : JS X st f) : JB X [st] f := pss_one h
theorem jb_cons (h1 : JS X st f1) (h2 : JB X rest f2) : JB X (st :: rest) (mSeq f1 f2) := by
  refine pss_weak (pss_cons h1 h2) fun D σ H ⟨m, τ, h, r, R, S, e, q⟩ => ?_
  obtain ⟨r1, e1, e⟩ := bind_some' e
  refine ⟨m, τ, h, r1, R, S, e1, ?_⟩
  cases r1 with
  | nx τ' h' => exact fun m' H' σ' L' S' R' => ⟨m', τ', h', r, R', S', e, q.le L'⟩
  | rt d h' => cases e; exact q
  | bk τ' h' => cases e; exact q
  | ct τ' h' => cases e; exact q
theorem js_if {c : Expr} (hc : JT X c ft) (ha : JB X sts f1) (hb : JB X sts2 f2) : JS X (.If c sts sts2 pos) (mIfS ft f1 f2) := by
  refine ps_weak (ps_if hc ha hb) fun D σ H ⟨m, τ, h, r, R, S, e, q⟩ => ?_
  obtain ⟨⟨b, h1⟩, e1, e⟩ := bind_some' e
  refine ⟨m, τ, h, b, h1, R, S, e1, fun m1 H1 L1 S1 => ?_⟩
  cases b with
  | true => exact ⟨m1, τ, h1, r, R.mono S.cl L1.toLw, S1, e, q.le L1⟩
  | false => exact ⟨m1, τ, h1, r, R.mono S.cl L1.toLw, S1, e, q.le L1⟩
end
end Sm
namespace Sm
open PySem PySem.Spec PyProof.Rows L2

/-! ## what is walked -/
structure ItD where
  items : List D
  grd : List (Nat × List D)
abbrev SI := AT → AH → Option (ItD × AH)
def grdOk (g : List (Nat × List D)) (h : AH) : Bool := g.all fun p => decide (h[p.1]? = some (.lst p.2))
def ItOk (w : World) (K : PySem.W.Frag) (J : It) (m0 : List Addr) (H0 : Hp) (it : ItD) : Prop :=
  ∀ (i : Nat) (m : List Addr) (h : AH) (H : Hp), Le m0 H0 m H → Sim w K m h H → grdOk it.grd h = true →
    (∀ d, it.items[i]? = some d → J.go i H ∧ ∀ x H', J.yld i H x H' → Le m H m H' ∧ Sim w K m h H' ∧ RV K m H' x d) ∧ (i = it.items.length → J.stop i H)
def tI (w : World) (K : PySem.W.Frag) (f : SI) : TI := fun σ H R => ∃ m τ h it h', RSt K m H σ τ ∧ Sim w K m h H ∧ f τ h = some (it, h') ∧ ∀ m' H' J, Le m H m' H' → Sim w K m' h' H' → ItOk w K J m' H' it → R J H'
def JI (X : Cx) (tg e : Expr) (f : SI) : Prop := PI X tg e (tI X.w X.K f)
theorem pi_weak {X : Cx} {tg e : Expr} {t t' : TI} (h : PI X tg e t) (hw : ∀ σ H R, t' σ H R → t σ H R) : PI X tg e t' := ⟨fun pins s σ H R I q => h.run pins s σ H R I (hw _ _ _ q)⟩
theorem pi_or {X : Cx} {tg e : Expr} {t t' : TI} (h : PI X tg e t) (h' : PI X tg e t') : PI X tg e (fun σ H R => t σ H R ∨ t' σ H R) := ⟨fun pins s σ H R I q => q.elim (h.run pins s σ H R I) (h'.run pins s σ H R I)⟩
/-- over a list or a tuple -/
def iterOf : LV → AH → Option ItD
  | .new ds, _ => some ⟨ds, []⟩
  | .val (.tup ds), _ => some ⟨ds, []⟩
  | .val (.zt ds), _ => some ⟨ds, []⟩
  | .val (.fl ds), _ => some ⟨ds, []⟩
  | .val (.ref a), h => match h[a]? with
    | some (.lst ds) => some ⟨ds, [(a, ds)]⟩
    | _ => none
  | _, _ => none
def mIter (fa : SE) : SI := fun τ h => (fa τ h).bind fun p => (iterOf p.1 p.2).bind fun it => some (it, p.2)
theorem RVs.atd {K : PySem.W.Frag} {m : List Addr} {H : Hp} {vs : List V} {ds : List D} (r : RVs K m H vs ds) {i : Nat} {d : D} (e : ds[i]? = some d) : ∃ v, vs[i]? = some v ∧ RV K m H v d := r.get e
section
variable {w : World} {K : PySem.W.Frag} {m : List Addr} {h : AH} {H : Hp}
theorem itOk_list {a : Addr} {ds : List D} {g : List (Nat × List D)} (hs : ∀ m' h' H', Le m H m' H' → Sim w K m' h' H' → grdOk g h' = true → ∃ us, SqL K H' a us ∧ RVs K m' H' us ds) : ItOk w K (Itl K a) m H ⟨ds, g⟩ := fun i m1 h1 H1 L S G => by
  obtain ⟨us, hq, r⟩ := hs m1 h1 H1 L S G
  refine ⟨fun d e => ?_, fun e => ⟨us, hq, by rw [r.length, e]; exact Nat.le_refl _⟩⟩
  obtain ⟨v, e1, r1⟩ := r.get e
  refine ⟨⟨us, v, hq, e1⟩, fun x H2 ⟨e2, y⟩ => ?_⟩
  subst e2
  have := y us hq
  rw [e1] at this
  cases this
  exact ⟨Le.refl _ _, S, r1⟩
theorem itOk_tup {a : Addr} {ds : List D} {g : List (Nat × List D)} (hs : ∀ m' h' H', Le m H m' H' → Sim w K m' h' H' → grdOk g h' = true → ∃ us, SqT K H' a us ∧ RVs K m' H' us ds) : ItOk w K (Itt K a) m H ⟨ds, g⟩ := fun i m1 h1 H1 L S G => by
  obtain ⟨us, hq, r⟩ := hs m1 h1 H1 L S G
  refine ⟨fun d e => ?_, fun e => ⟨us, hq, by rw [r.length, e]; exact Nat.le_refl _⟩⟩
  obtain ⟨v, e1, r1⟩ := r.get e
  refine ⟨⟨us, v, hq, e1⟩, fun x H2 ⟨e2, y⟩ => ?_⟩
  subst e2
  have := y us hq
  rw [e1] at this
  cases this
  exact ⟨Le.refl _ _, S, r1⟩
/-- what an expression that is walked stands for -/
inductive SrcL (w : World) (K : PySem.W.Frag) (m : List Addr) (H : Hp) (h : AH) : V → LV → List D → List (Nat × List D) → Prop
  | new {p : Addr} {vs : List V} {ds : List D} : p ∉ m → H p = some (.lst vs) → RVs K m H vs ds → SrcL w K m H h (.ref p) (.new ds) ds []
  | fl {p : Addr} {vs : List V} {ds : List D} : FzL K H p vs → RVs K m H vs ds → SrcL w K m H h (.ref p) (.val (.fl ds)) ds []
  | ref {p : Addr} {i : Nat} {ds : List D} : m[i]? = some p → h[i]? = some (.lst ds) → SrcL w K m H h (.ref p) (.val (.ref i)) ds [(i, ds)]
theorem SrcL.stays (S : Sim w K m h H) {v : V} {q : LV} {ds : List D} {g : List (Nat × List D)} (s : SrcL w K m H h v q ds g) : ∃ p, v = .ref p ∧ (∃ us, SqL K H p us ∧ RVs K m H us ds) ∧ ∀ m' h' H', Le m H m' H' → Sim w K m' h' H' → grdOk g h' = true → ∃ us, SqL K H' p us ∧ RVs K m' H' us ds := by
  cases s with
  | new hn e r => exact ⟨_, rfl, ⟨_, SqL.of e, r⟩, fun m' h' H' L' S' _ => ⟨_, SqL.of (L'.fr _ _ e hn), r.mono S.cl L'.toLw⟩⟩
  | fl f r => exact ⟨_, rfl, ⟨_, f.sq, r⟩, fun m' h' H' L' S' _ => ⟨_, (fzL_mono S.cl L'.toLw f).sq, r.mono S.cl L'.toLw⟩⟩
  | ref e1 e2 =>
    refine ⟨_, rfl, ?_, fun m' h' H' L' S' G => ?_⟩
    · obtain ⟨vs, q, r⟩ := S.lst e1 e2
      exact ⟨vs, SqL.of q, r⟩
    · have e3 := L'.get e1
      have e4 := of_decide_eq_true (List.all_eq_true.mp G _ List.mem_cons_self)
      obtain ⟨vs, q, r⟩ := S'.lst e3 e4
      exact ⟨vs, SqL.of q, r⟩
theorem srcL_of (S : Sim w K m h H) {v : V} {q : LV} {it : ItD} (r : RQ K m H v q) (e : iterOf q h = some it) : SrcL w K m H h v q it.items it.grd ∨ (∃ p us, v = .ref p ∧ SqT K H p us ∧ RVs K m H us it.items ∧ it.grd = [] ∧ ((∃ ds, q = .val (.tup ds)) ∨ ∃ ds, q = .val (.zt ds))) := by
  unfold iterOf at e
  split at e
  · cases e
    cases r with
    | new a b c d => exact .inl (.new a b c)
  · cases e
    cases r with
    | val r =>
      cases r with
      | tup f r => exact .inr ⟨_, _, rfl, f.sq, r, rfl, .inl ⟨_, rfl⟩⟩
  · cases e
    cases r with
    | val r =>
      cases r with
      | zt f r => exact .inr ⟨_, _, rfl, f, r, rfl, .inr ⟨_, rfl⟩⟩
  · cases e
    cases r with
    | val r =>
      cases r with
      | fl f r => exact .inl (.fl f r)
  · split at e
    · rename_i hh
      cases e
      cases r with
      | val r =>
        cases r with
        | ref e1 => exact .inl (.ref e1 hh)
    · cases e
  · cases e
end
section
variable {X : Cx} {tg e a b : Expr} {fa fb : SE} {fr : SA} {p pos : Pos}
theorem ji_seq (he : JE X e fa) : JI X tg e (mIter fa) := by
  refine pi_weak (pi_or (pi_list he) (pi_tup he)) fun σ H R ⟨m, τ, h, it, h', Rs, S, e, q⟩ => ?_
  obtain ⟨⟨x, h1⟩, e1, e⟩ := bind_some' e
  obtain ⟨it', e2, e⟩ := bind_some' e
  cases e
  have key : ∀ m1 H1 v1, Le m H m1 H1 → Sim X.w X.K m1 h1 H1 → RQ X.K m1 H1 v1 x →
      (∃ p, v1 = .ref p ∧ (∃ us, SqL X.K H1 p us) ∧ R (Itl X.K p) H1) ∨ (∃ p, v1 = .ref p ∧ (∃ us, SqT X.K H1 p us) ∧ R (Itt X.K p) H1 ∧ ((∃ ds, x = .val (.tup ds)) ∨ ∃ ds, x = .val (.zt ds))) := fun m1 H1 v1 L1 S1 r1 => by
    rcases srcL_of S1 r1 e2 with s | ⟨p, us, rfl, hq, rr, hg, ht⟩
    · obtain ⟨p, rfl, ⟨us, hq, _⟩, st⟩ := s.stays S1
      exact .inl ⟨p, rfl, ⟨us, hq⟩, q m1 H1 _ L1 S1 (itOk_list st)⟩
    · refine .inr ⟨p, rfl, ⟨us, hq⟩, q m1 H1 _ L1 S1 (itOk_tup fun m' h' H' L' S' _ => ⟨us, sqT_mono S1.cl L'.toLw hq, rr.mono S1.cl L'.toLw⟩), ht⟩
  by_cases ht : (∃ ds, x = .val (.tup ds)) ∨ ∃ ds, x = .val (.zt ds)
  · refine .inr ⟨m, τ, h, x, h1, Rs, S, e1, fun m1 H1 v1 L1 S1 r1 _ => ?_⟩
    rcases srcL_of S1 r1 e2 with s | ⟨p, us, rfl, hq, rr, hg, _⟩
    · rcases ht with ⟨ds, rfl⟩ | ⟨ds, rfl⟩ <;> cases s
    · exact ⟨p, rfl, ⟨us, hq⟩, q m1 H1 _ L1 S1 (itOk_tup fun m' h' H' L' S' _ => ⟨us, sqT_mono S1.cl L'.toLw hq, rr.mono S1.cl L'.toLw⟩)⟩
  · refine .inl ⟨m, τ, h, x, h1, Rs, S, e1, fun m1 H1 v1 L1 S1 r1 _ => ?_⟩
    rcases key m1 H1 v1 L1 S1 r1 with k | ⟨_, _, _, _, k⟩
    · exact k
    · exact absurd k ht
/-- range -/
def rngD (lo : Int) (n : Nat) : List D := (List.range n).map fun (i : Nat) => D.int (lo + i)
theorem rngD_get {lo : Int} {n i : Nat} {d : D} (h : (rngD lo n)[i]? = some d) : i < n ∧ d = .int (lo + i) := by
  unfold rngD at h
  rw [List.getElem?_map] at h
  by_cases hi : i < n
  · rw [List.getElem?_eq_getElem (by simpa using hi)] at h
    simp at h
    exact ⟨hi, h.symm⟩
  · rw [List.getElem?_eq_none (by simpa using hi)] at h
    cases h
theorem itOk_rng {w : World} {K : PySem.W.Frag} {m : List Addr} {H : Hp} {lo : Int} {n : Nat} : ItOk w K (Itr lo n) m H ⟨rngD lo n, []⟩ := fun i m1 h1 H1 L S G => by
  refine ⟨fun d e => ?_, fun e => by show n ≤ i; rw [e]; simp [rngD]⟩
  obtain ⟨h1, h2⟩ := rngD_get e
  subst h2
  refine ⟨h1, fun x H2 ⟨e2, y⟩ => ?_⟩
  subst e2
  subst y
  exact ⟨Le.refl _ _, S, .int _⟩
def rng1 : List LV → Option ItD
  | [.val (.int j)] => if j.natAbs < 4611686018427387904 then some ⟨rngD 0 j.toNat, []⟩ else none
  | _ => none
def rng2 : List LV → Option ItD
  | [.val (.int i), .val (.int j)] => if i.natAbs < 4611686018427387904 ∧ j.natAbs < 4611686018427387904 then some ⟨rngD i (j - i).toNat, []⟩ else none
  | _ => none
def mRng1 (fr : SA) : SI := fun τ h => (fr τ h).bind fun p => (rng1 p.1).bind fun it => some (it, p.2)
def mRng2 (fr : SA) : SI := fun τ h => (fr τ h).bind fun p => (rng2 p.1).bind fun it => some (it, p.2)
theorem two62 : (2 : Int) ^ 62 = 4611686018427387904 := by decide
theorem ji_rng1 (hg : Gl X "range") (hm : X.mg "range" = none) (ha : JA X [a] fr) (hs : starEach [a] X.env = [(false, eval a X.env)] := by rfl) : JI X tg (.Call (.Name "range" p) [a] [] pos) (mRng1 fr) := by
  refine pi_weak (pi_range1 hg hm ha hs) fun σ H R ⟨m, τ, h, it, h', Rs, S, e, q⟩ => ?_
  obtain ⟨⟨x, h1⟩, e1, e⟩ := bind_some' e
  obtain ⟨it', e2, e⟩ := bind_some' e
  cases e
  refine ⟨m, τ, h, x, h1, Rs, S, e1, fun m1 H1 v1 L1 S1 r1 => ?_⟩
  dsimp only at e2
  unfold rng1 at e2
  split at e2
  · obtain ⟨b1, e2⟩ := ite_some' e2
    cases e2
    cases r1 with
    | cons r1 r2 =>
      cases r2
      cases r1 with
      | val r1 =>
        cases r1
        exact ⟨_, rfl, by rw [two62]; omega, by rw [two62]; omega, q m1 H1 _ L1 S1 itOk_rng⟩
  · cases e2
theorem ji_rng2 (hg : Gl X "range") (hm : X.mg "range" = none) (ha : JA X [a, b] fr) (hs : starEach [a, b] X.env = [(false, eval a X.env), (false, eval b X.env)] := by rfl) (hs2 : starEach [b] X.env = [(false, eval b X.env)] := by rfl) : JI X tg (.Call (.Name "range" p) [a, b] [] pos) (mRng2 fr) := by
  refine pi_weak (pi_range2 hg hm ha hs hs2) fun σ H R ⟨m, τ, h, it, h', Rs, S, e, q⟩ => ?_
  obtain ⟨⟨x, h1⟩, e1, e⟩ := bind_some' e
  obtain ⟨it', e2, e⟩ := bind_some' e
  cases e
  refine ⟨m, τ, h, x, h1, Rs, S, e1, fun m1 H1 v1 L1 S1 r1 => ?_⟩
  dsimp only at e2
  unfold rng2 at e2
  split at e2
  · obtain ⟨⟨b1, b2⟩, e2⟩ := ite_some' e2
    cases e2
    cases r1 with
    | cons r1 r2 =>
      cases r2 with
      | cons r2 r3 =>
        cases r3
        cases r1 with
        | val r1 =>
          cases r2 with
          | val r2 =>
            cases r1
            cases r2
            exact ⟨_, _, rfl, by rw [two62]; omega, q m1 H1 _ L1 S1 itOk_rng⟩
  · cases e2
end

/-! ## for -/
def forL (grd : List (Nat × List D)) (g : SG) (body : SS) : List D → AT → AH → Option Res
  | [], τ, h => if grdOk grd h = true then some (.nx τ h) else none
  | x :: xs, τ, h => if grdOk grd h = true then (g x τ h).bind fun p => (body p.1 p.2).bind fun r => match r with
    | .nx τ' h' => forL grd g body xs τ' h'
    | .ct τ' h' => forL grd g body xs τ' h'
    | .bk τ' h' => some (.nx τ' h')
    | .rt d h' => some (.rt d h') else none
def mFor (fi : SI) (g : SG) (body : SS) : SS := fun τ h => (fi τ h).bind fun p => forL p.1.grd g body p.1.items τ p.2
section
variable {X : Cx} {pos : Pos} {vs : List Nat} {tg iter : Expr} {fi : SI} {g : SG} {f : SS} {sts : List Stmt}
theorem js_for (hp : PassesOwn (model X.prog X.w) X.A X.env X.xe) (hc : X.calm = true) (hi : JI X tg iter fi) (hg : JG X vs tg g) (hb : JB X sts f)
    (hs : ∀ x, foldedSetIterable iter X.env x = pure x := by intro _; rfl) : JS X (.For tg iter sts [] pos) (mFor fi g f) := by
  refine ps_weak (ps_for hp hc hi hg hb hs) fun D σ H ⟨m, τ, h, r, R, S, e, q⟩ => ?_
  obtain ⟨⟨it, h1⟩, e1, e⟩ := bind_some' e
  refine ⟨m, τ, h, it, h1, R, S, e1, fun m1 H1 J L1 S1 J1 => ?_⟩
  refine ⟨fun i n σ2 H2 => ∃ m2 τ2 h2, n = (it.items.drop i).length ∧ i ≤ it.items.length ∧ Le m1 H1 m2 H2 ∧ Sim X.w X.K m2 h2 H2 ∧ RSt X.K m2 H2 σ2 τ2 ∧ forL it.grd g f (it.items.drop i) τ2 h2 = some r,
    ⟨_, m1, τ, h1, rfl, Nat.zero_le _, Le.refl _ _, S1, R.mono S.cl L1.toLw, e⟩, ?_⟩
  rintro i n σ2 H2 ⟨m2, τ2, h2, rfl, hi2, L2, S2, R2, e2⟩
  cases hd : it.items.drop i with
  | nil =>
    rw [hd] at e2
    unfold forL at e2
    obtain ⟨G, e2⟩ := ite_some' e2
    cases e2
    have hi3 : i = it.items.length := by
      have := congrArg List.length hd
      rw [List.length_drop, List.length_nil] at this
      omega
    exact .inl ⟨(J1 i m2 h2 H2 L2 S2 G).2 hi3, q m2 H2 σ2 (L1.trans L2) S2 R2⟩
  | cons x xs =>
    rw [hd] at e2
    unfold forL at e2
    obtain ⟨G, e2⟩ := ite_some' e2
    obtain ⟨⟨τ3, h3⟩, e3, e2⟩ := bind_some' e2
    obtain ⟨r4, e4, e2⟩ := bind_some' e2
    have hx : it.items[i]? = some x := by
      have := congrArg (fun l => l[0]?) hd
      simpa using this
    have hlt : i < it.items.length := (List.getElem?_eq_some_iff.mp hx).1
    have hxs : it.items.drop (i + 1) = xs := by
      rw [← List.drop_drop, hd]
      rfl
    obtain ⟨go, yl⟩ := (J1 i m2 h2 H2 L2 S2 G).1 x hx
    refine .inr ⟨go, fun σ' H' => ∃ m' τ' h', Le m1 H1 m' H' ∧ Sim X.w X.K m' h' H' ∧ RSt X.K m' H' σ' τ' ∧ forL it.grd g f xs τ' h' = some r, fun σ' H' ⟨m', τ', h', L', S', R', e'⟩ => ?_, fun v H' y => ?_⟩
    · exact ⟨xs.length, by rw [List.length_cons]; exact Nat.lt_succ_self _, m', τ', h', by rw [hxs], hlt, L', S', R', by rw [hxs]; exact e'⟩
    · obtain ⟨L3, S3, rv⟩ := yl v H' y
      refine ⟨m2, x, τ2, h2, τ3, h3, rv, R2.mono S2.cl L3.toLw, S3, e3, fun m5 H5 σ5 L5 S5 R5 _ => ?_⟩
      refine ⟨m5, τ3, h3, r4, R5, S5, e4, ?_⟩
      have L6 := L2.trans (L3.trans L5)
      cases r4 with
      | nx τ' h' => exact fun m' H' σ' L' S' R' => ⟨m', τ', h', L6.trans L', S', R', e2⟩
      | ct τ' h' => exact fun m' H' σ' L' S' R' => ⟨m', τ', h', L6.trans L', S', R', e2⟩
      | bk τ' h' => cases e2; exact fun m' H' σ' L' S' R' => q m' H' σ' (L1.trans (L6.trans L')) S' R'
      | rt d h' => cases e2; exact fun m' H' v L' S' R' => q m' H' v (L1.trans (L6.trans L')) S' R'
end

/-! ## while -/
def whN (ft : ST) (body : SS) : Nat → AT → AH → Option Res
  | 0, _, _ => none
  | n + 1, τ, h => (ft τ h).bind fun p => if p.1 = true then (body τ p.2).bind fun r => match r with
    | .nx τ' h' => whN ft body n τ' h'
    | .ct τ' h' => whN ft body n τ' h'
    | .bk τ' h' => some (.nx τ' h')
    | .rt d h' => some (.rt d h') else some (.nx τ p.2)
theorem whN_more {ft : ST} {body : SS} : ∀ {n : Nat} {τ : AT} {h : AH} {r : Res} (k : Nat), whN ft body n τ h = some r → whN ft body (n + k) τ h = some r
  | 0, _, _, _, _, e => by cases e
  | n + 1, τ, h, r, k, e => by
    rw [show n + 1 + k = (n + k) + 1 by omega]
    unfold whN at e ⊢
    obtain ⟨⟨b, h1⟩, e1, e⟩ := bind_some' e
    rw [e1]
    show (if b = true then _ else _) = _
    dsimp only at e
    cases b with
    | false => exact e
    | true =>
      obtain ⟨r2, e2, e⟩ := bind_some' e
      rw [if_pos rfl]
      dsimp only
      rw [e2]
      rw [Option.bind_some]
      cases r2 with
      | nx τ' h' => exact whN_more k e
      | ct τ' h' => exact whN_more k e
      | bk τ' h' => exact e
      | rt d h' => exact e
open Classical in
noncomputable def mWhile (ft : ST) (body : SS) : SS := fun τ h => if H : ∃ n, (whN ft body n τ h).isSome = true then whN ft body H.choose τ h else none
theorem mWhile_of {ft : ST} {body : SS} {n : Nat} {τ : AT} {h : AH} {r : Res} (e : whN ft body n τ h = some r) : mWhile ft body τ h = some r := by
  have H : ∃ n, (whN ft body n τ h).isSome = true := ⟨n, by rw [e]; rfl⟩
  unfold mWhile
  rw [dif_pos H]
  obtain ⟨r2, e2⟩ := Option.isSome_iff_exists.mp H.choose_spec
  rw [e2]
  have a1 := whN_more n e2
  have a2 := whN_more H.choose e
  rw [Nat.add_comm] at a1
  rw [a1] at a2
  exact a2
theorem mWhile_n {ft : ST} {body : SS} {τ : AT} {h : AH} {r : Res} (e : mWhile ft body τ h = some r) : ∃ n, whN ft body n τ h = some r := by
  unfold mWhile at e
  split at e
  · exact ⟨_, e⟩
  · cases e
theorem js_while {X : Cx} {pos : Pos} {c : Expr} {sts : List Stmt} {ft : ST} {f : SS} (hp : PassesOwn (model X.prog X.w) X.A X.env X.xe) (hc : JT X c ft) (hb : JB X sts f) : JS X (.While c sts [] pos) (mWhile ft f) := by
  refine ps_weak (ps_while hp hc hb) fun D σ H ⟨m, τ, h, r, R, S, e, q⟩ => ?_
  obtain ⟨n, e⟩ := mWhile_n e
  refine ⟨fun n σ2 H2 => ∃ m2 τ2 h2, Le m H m2 H2 ∧ Sim X.w X.K m2 h2 H2 ∧ RSt X.K m2 H2 σ2 τ2 ∧ whN ft f n τ2 h2 = some r, ⟨n, m, τ, h, Le.refl _ _, S, R, e⟩, ?_⟩
  rintro n σ2 H2 ⟨m2, τ2, h2, L2, S2, R2, e2⟩
  cases n with
  | zero => cases e2
  | succ n =>
    unfold whN at e2
    obtain ⟨⟨b, h3⟩, e3, e2⟩ := bind_some' e2
    refine ⟨m2, τ2, h2, b, h3, R2, S2, e3, fun m3 H3 L3 S3 => ?_⟩
    dsimp only at e2
    cases b with
    | false =>
      rw [if_neg Bool.false_ne_true] at e2 ⊢
      cases e2
      exact q m3 H3 σ2 (L2.trans L3) S3 (R2.mono S2.cl L3.toLw)
    | true =>
      rw [if_pos rfl] at e2 ⊢
      obtain ⟨r4, e4, e2⟩ := bind_some' e2
      refine ⟨fun σ' H' => ∃ m' τ' h', Le m H m' H' ∧ Sim X.w X.K m' h' H' ∧ RSt X.K m' H' σ' τ' ∧ whN ft f n τ' h' = some r, fun σ' H' w => ⟨n, Nat.lt_succ_self n, w⟩, ?_⟩
      refine ⟨m3, τ2, h3, r4, R2.mono S2.cl L3.toLw, S3, e4, ?_⟩
      have L6 := L2.trans L3
      cases r4 with
      | nx τ' h' => exact fun m' H' σ' L' S' R' => ⟨m', τ', h', L6.trans L', S', R', e2⟩
      | ct τ' h' => exact fun m' H' σ' L' S' R' => ⟨m', τ', h', L6.trans L', S', R', e2⟩
      | bk τ' h' => cases e2; exact fun m' H' σ' L' S' R' => q m' H' σ' (L6.trans L') S' R'
      | rt d h' => cases e2; exact fun m' H' v L' S' R' => q m' H' v (L6.trans L') S' R'
end Sm
namespace Sm
open PySem PySem.Spec PyProof.Rows L2

/-! ## list comprehensions -/
def wipeA (τ : AT) : List Nat → AT
  | [] => τ
  | v :: vs => (wipeA τ vs).set v none
theorem RSt.wipe {K : PySem.W.Frag} {m : List Addr} {H : Hp} {σ : L2.St} {τ : AT} (r : RSt K m H σ τ) : ∀ vs : List Nat, RSt K m H (L2.wipe σ vs) (wipeA τ vs)
  | [] => r
  | v :: vs => by
    have q := RSt.wipe r vs
    unfold L2.wipe wipeA
    refine ⟨by simp [q.1], fun j e h => ?_⟩
    by_cases hij : v = j
    · subst hij
      by_cases hl : v < (wipeA τ vs).length
      · rw [List.getElem?_set_self hl] at h
        cases h
      · rw [List.getElem?_eq_none (by simpa using hl)] at h
        cases h
    · rw [List.getElem?_set_ne hij] at h ⊢
      exact q.2 j e h
def compL (grd : List (Nat × List D)) (g : SG) (ft : ST) (fe : SE) (τ : AT) : List D → AH → Option (List D × AH)
  | [], h => if grdOk grd h = true then some ([], h) else none
  | x :: xs, h => if grdOk grd h = true then (g x τ h).bind fun p => (ft p.1 p.2).bind fun b => if b.1 = true then
      (fe p.1 b.2).bind fun y => (compL grd g ft fe τ xs (lay y.1 y.2).2).bind fun z => some ((lay y.1 y.2).1 :: z.1, z.2)
    else compL grd g ft fe τ xs b.2 else none
def mYes : ST := fun _ h => some (true, h)
def mComp (fi : SI) (g : SG) (ft : ST) (fe : SE) (vs : List Nat) : SE := fun τ h => (fi τ h).bind fun p => (compL p.1.grd g ft fe (wipeA τ vs) p.1.items p.2).bind fun z =>
  if z.1.length ≤ 16777216 then some (.new z.1, z.2) else none
def JTs (X : Cx) (es : List Expr) (f : ST) : Prop := PTs X es (tT X.w X.K f)
theorem pts_weak {X : Cx} {e : List Expr} {t t' : TT} (h : PTs X e t) (hw : ∀ σ H Q, t' σ H Q → t σ H Q) : PTs X e t' := ⟨fun pins s σ H Q I q => h.run pins s σ H Q I (hw _ _ _ q)⟩
theorem jts_nil {X : Cx} : JTs X [] mYes := pts_weak pts_nil fun σ H Q ⟨m, τ, h, b, h', R, S, e, q⟩ => by
  cases e
  exact q m H (Le.refl m H) S
theorem jts_one {X : Cx} {c : Expr} {ft : ST} (h : JT X c ft) : JTs X [c] ft := pts_one h
theorem wipe_none {σ : L2.St} {i : Nat} : ∀ {vs : List Nat}, i ∈ vs → (wipe σ vs).set i none = wipe σ vs
  | v :: vs, h => by
    unfold wipe
    by_cases e : v = i
    · rw [e, List.set_set]
    · rw [List.set_comm _ _ e, wipe_none (List.mem_of_ne_of_mem (fun z => e z.symm) h)]
theorem wipe_wipe_aux (σ : L2.St) (us : List Nat) : ∀ vs : List Nat, (∀ v ∈ vs, v ∈ us) → wipe (wipe σ us) vs = wipe σ us
  | [], _ => rfl
  | v :: vs, h => by
    show (wipe (wipe σ us) vs).set v none = wipe σ us
    rw [wipe_wipe_aux σ us vs (fun w hw => h w (List.mem_cons_of_mem _ hw)), wipe_none (h v List.mem_cons_self)]
theorem wipe_wipe (σ : L2.St) (vs : List Nat) : wipe (wipe σ vs) vs = wipe σ vs := wipe_wipe_aux σ vs vs fun _ h => h
section
variable {X : Cx} {elt tg iter : Expr} {ifs : List Expr} {scope : Scope} {own : List (Str × Nat)} {pos : Pos} {fi : SI} {g : SG} {ft : ST} {fe : SE}
theorem comp_sem {w : World} {K : PySem.W.Frag} {vs : List Nat} (σ : L2.St) (H : Hp) (Q : VK) (h : tE w K (mComp fi g ft fe vs) σ H Q) : tLc (tI w K fi) (tG w K vs g) (tT w K ft) (tE w K (mAd fe)) vs σ H Q := by
  obtain ⟨m, τ, h, r, h', R, S, e, q⟩ := h
  obtain ⟨⟨it, h1⟩, e1, e⟩ := bind_some' e
  obtain ⟨⟨total, hf⟩, e2, e⟩ := bind_some' e
  obtain ⟨hz, e⟩ := ite_some' e
  obtain ⟨e8, e9⟩ := Prod.mk.inj (Option.some.inj e)
  dsimp only at e8 e9 hz e2
  subst e8
  subst e9
  refine ⟨m, τ, h, it, h1, R, S, e1, fun m1 H1 J L1 S1 J1 => ?_⟩
  intro Dn hD
  have hD0 : H Dn = none := fresh_back S1.cl L1 hD
  have LD := Le.upd S1.cl hD (.lst [])
  refine ⟨fun i n H2 => ∃ m2 h2 acc accV rest', n = (it.items.drop i).length ∧ i ≤ it.items.length ∧ Le m1 H1 m2 H2 ∧ Sim w K m2 h2 H2 ∧ Dn ∉ m2 ∧ H2 Dn = some (.lst accV) ∧ RVs K m2 H2 accV acc ∧
      compL it.grd g ft fe (wipeA τ vs) (it.items.drop i) h2 = some (rest', hf) ∧ acc ++ rest' = total,
    ⟨_, m1, h1, [], [], total, rfl, Nat.zero_le _, LD, S1.upd hD _, S1.cl.non hD, upd_same, .nil, e2, rfl⟩, ?_⟩
  rintro i n H2 ⟨m2, h2, acc, accV, rest', rfl, hi2, L2, S2, hn2, hD2, rv2, e3, et⟩
  cases hd : it.items.drop i with
  | nil =>
    rw [hd] at e3
    unfold compL at e3
    obtain ⟨G, e3⟩ := ite_some' e3
    cases e3
    have hi3 : i = it.items.length := by
      have := congrArg List.length hd
      rw [List.length_drop, List.length_nil] at this
      omega
    rw [List.append_nil] at et
    subst et
    exact .inl ⟨(J1 i m2 _ H2 L2 S2 G).2 hi3, q m2 H2 _ (L1.trans L2) S2 (.new hn2 hD2 rv2 hz) hD0⟩
  | cons x xs =>
    rw [hd] at e3
    unfold compL at e3
    obtain ⟨G, e3⟩ := ite_some' e3
    obtain ⟨⟨τ3, h3⟩, e4, e3⟩ := bind_some' e3
    obtain ⟨⟨b, h4⟩, e5, e3⟩ := bind_some' e3
    have hx : it.items[i]? = some x := by
      have := congrArg (fun l => l[0]?) hd
      simpa using this
    have hlt : i < it.items.length := (List.getElem?_eq_some_iff.mp hx).1
    have hxs : it.items.drop (i + 1) = xs := by
      rw [← List.drop_drop, hd]
      rfl
    obtain ⟨go, yl⟩ := (J1 i m2 h2 H2 L2 S2 G).1 x hx
    refine .inr ⟨go, fun H' => ∃ m' h' acc' accV' rest'', Le m1 H1 m' H' ∧ Sim w K m' h' H' ∧ Dn ∉ m' ∧ H' Dn = some (.lst accV') ∧ RVs K m' H' accV' acc' ∧
        compL it.grd g ft fe (wipeA τ vs) xs h' = some (rest'', hf) ∧ acc' ++ rest'' = total, fun H' ⟨m', h', acc', accV', rest'', L', S', n', d', r', e', t'⟩ => ?_, fun v H' y => ?_⟩
    · exact ⟨xs.length, by rw [List.length_cons]; exact Nat.lt_succ_self _, m', h', acc', accV', rest'', by rw [hxs], hlt, L', S', n', d', r', by rw [hxs]; exact e', t'⟩
    · obtain ⟨L3, S3, rv⟩ := yl v H' y
      have Rw := (((R.mono S.cl L1.toLw).mono S1.cl L2.toLw).mono S2.cl L3.toLw).wipe vs
      have keepD : ∀ {m3 H3}, Le m2 H2 m3 H3 → Dn ∉ m3 ∧ H3 Dn = some (.lst accV) := fun {m3 H3} L => by
        refine ⟨fun z => ?_, L.fr _ _ hD2 hn2⟩
        have w := L.nw _ z hn2
        rw [hD2] at w
        cases w
      refine ⟨m2, x, _, h2, τ3, h3, rv, Rw, S3, e4, fun m5 H5 σ5 L5 S5 R5 w5 => ⟨w5.trans (wipe_wipe σ vs), m5, τ3, h3, b, h4, R5, S5, e5, fun m6 H6 L6 S6 => ?_⟩⟩
      have L7 := L3.trans (L5.trans L6)
      dsimp only at e3
      cases b with
      | false =>
        rw [if_neg Bool.false_ne_true] at e3
        refine iteF ?_
        obtain ⟨n', d'⟩ := keepD L7
        exact ⟨m6, h4, acc, accV, rest', L2.trans L7, S6, n', d', rv2.mono S2.cl L7.toLw, e3, et⟩
      | true =>
        rw [if_pos rfl] at e3
        refine iteT ?_
        obtain ⟨⟨y, h5⟩, e6, e3⟩ := bind_some' e3
        obtain ⟨⟨zs, h6⟩, e7, e3⟩ := bind_some' e3
        obtain ⟨e8, e9⟩ := Prod.mk.inj (Option.some.inj e3)
        dsimp only at e8 e9 e7
        subst e9
        subst e8
        refine ⟨m6, τ3, h4, .val (lay y h5).1, (lay y h5).2, R5.mono S5.cl L6.toLw, S6, ?_, fun m7 H7 v7 L8 S7 r7 _ => ?_⟩
        · unfold mAd
          rw [e6]
          rfl
        · have L9 := L7.trans L8
          obtain ⟨n', d'⟩ := keepD L9
          cases r7 with
          | val r7 =>
            have ru : RVs K m7 H7 (accV ++ [v7]) (acc ++ [(lay y h5).1]) := (rv2.mono S2.cl L9.toLw).append (.one r7)
            refine ⟨accV, d', ?_, m7, (lay y h5).2, acc ++ [(lay y h5).1], accV ++ [v7], zs, (L2.trans L9).side _ hD, S7.side _ d' n', n', upd_same, ru.monoS (Ls.side d'), e7, by rw [← et]; simp⟩
            have z1 := rv2.length
            have z2 := congrArg List.length et
            rw [List.length_append, List.length_cons] at z2
            rw [sizeLine_eq]
            omega
/-- [elt for tg in iter if ..] -/
theorem je_comp (hc : X.calm = true) (hN : X.N.Nodup) (hi : JI X tg iter fi) (ok : BlkOk X.N X.env.scope scope own)
    (hg : ∀ (s : Shared) (H : Hp) (C : Addr) (cl : List (Str × Addr)) (fp : List Addr), JG (X.blk s H scope (compEnvC scope cl C X.env) fp) (own.map (·.2)) tg g)
    (ht : ∀ (s : Shared) (H : Hp) (C : Addr) (cl : List (Str × Addr)) (fp : List Addr), JTs (X.blk s H scope (compEnvC scope cl C X.env) fp) ifs ft)
    (he : ∀ (s : Shared) (H : Hp) (C : Addr) (cl : List (Str × Addr)) (fp : List Addr), JE (X.blk s H scope (compEnvC scope cl C X.env) fp) elt fe) (hs : ∀ x, foldedSetIterable iter X.env x = pure x := by intro _; rfl) :
    JE X (.ListComp elt [⟨tg, iter, ifs, 0⟩] scope pos) (mComp fi g ft fe (own.map (·.2))) :=
  pe_weak (pe_lc (g := tG X.w X.K (own.map fun x : Str × Nat => x.2) g) (tt := tT X.w X.K ft) (te := tE X.w X.K (mAd fe)) hc hN hi ok hg ht (fun s H C cl fp => je_ad (he s H C cl fp)) hs) comp_sem
/-- y = [..] -/
theorem js_setComp {i : Nat} {y : Str} {py spos : Pos} (hc : X.calm = true) (hN : X.N.Nodup) (hy : X.N[i]? = some y) (hyl : X.env.scope.names.lookup y = some .local)
    (hsw : swapsWith (.ListComp elt [⟨tg, iter, ifs, 0⟩] scope pos) (some (.Name y py)) spos.line X.env = pure true) (hi : JI X tg iter fi) (ok : BlkOk X.N X.env.scope scope own)
    (hg : ∀ (s : Shared) (H : Hp) (C : Addr) (cl : List (Str × Addr)) (fp : List Addr), JG (X.blk s H scope (compEnvC scope cl C X.env) fp) (own.map (·.2)) tg g)
    (ht : ∀ (s : Shared) (H : Hp) (C : Addr) (cl : List (Str × Addr)) (fp : List Addr), JTs (X.blk s H scope (compEnvC scope cl C X.env) fp) ifs ft)
    (he : ∀ (s : Shared) (H : Hp) (C : Addr) (cl : List (Str × Addr)) (fp : List Addr), JE (X.blk s H scope (compEnvC scope cl C X.env) fp) elt fe) (hs : ∀ x, foldedSetIterable iter X.env x = pure x := by intro _; rfl) :
    JS X (.Assign [.Name y py] (.ListComp elt [⟨tg, iter, ifs, 0⟩] scope pos) spos) (mAsg (gN i) (mComp fi g ft fe (own.map (·.2)))) := by
  refine ps_weak (ps_setLc (g := tG X.w X.K (own.map fun x : Str × Nat => x.2) g) (tt := tT X.w X.K ft) (te := tE X.w X.K (mAd fe)) hc hN hy hyl hsw hi ok hg ht (fun s H C cl fp => je_ad (he s H C cl fp)) hs) fun D σ H h => ?_
  obtain ⟨m, τ, h, r, R, S, e, q⟩ := h
  obtain ⟨⟨x, h1⟩, e1, e⟩ := bind_some' e
  cases e
  refine comp_sem σ H _ ⟨m, τ, h, x, h1, R, S, e1, fun m1 H1 v1 L1 S1 r1 n1 => ?_⟩
  obtain ⟨m2, L2, S2, r2⟩ := hold S1 L1 r1 n1
  exact q m2 H1 _ L2 S2 ((R.mono S.cl L2.toLw).set r2 i)
end

/-! ## defs -/
mutual
def D.low (n : Nat) : D → Bool
  | .tup ds => D.lows n ds
  | .zt ds => D.lows n ds
  | .fl ds => D.lows n ds
  | .ref a => decide (a < n)
  | _ => true
def D.lows (n : Nat) : List D → Bool
  | [] => true
  | d :: r => D.low n d && D.lows n r
end
def O.low (n : Nat) : O → Bool
  | .lst ds => D.lows n ds
  | .dic kvs => kvs.all fun p => p.1.low n && p.2.low n
  | .ndc kvs => kvs.all fun p => p.1.low n && p.2.low n
/-- the objects that stood ahead of the call stand, or hold nothing new -/
def oldOk (n : Nat) : AH → AH → Bool
  | [], _ => true
  | o :: r, o' :: r' => (decide (o = o') || o'.low n) && oldOk n r r'
  | _ :: _, [] => false
/-- what a call hands back: what it has made and no one can reach is forgotten -/
def gc (h : AH) (d : D) (h' : AH) : D × AH :=
  if oldOk h.length h h' = true then
    if d.low h.length = true then (d, h'.take h.length)
    else match d with
      | .ref k => match h'[k]? with
        | some (.lst ds) => if D.lows h.length ds = true then (.ref h.length, h'.take h.length ++ [.lst ds]) else (d, h')
        | _ => (d, h')
      | _ => (d, h')
  else (d, h')
section
variable {w : World} {K : PySem.W.Frag} {m m' : List Addr} {H : Hp} {h : AH}
theorem get_take {m : List Addr} {n i : Nat} {a : Addr} (h : i < n) (e : m[i]? = some a) : (m.take n)[i]? = some a := by
  rw [List.getElem?_take_of_lt h]
  exact e
mutual
theorem RV.cut (n : Nat) : ∀ {v : V} {d : D}, RV K m H v d → d.low n = true → RV K (m.take n) H v d
  | _, _, .non, _ => .non
  | _, _, .bl b, _ => .bl b
  | _, _, .int i, _ => .int i
  | _, _, .str x, _ => .str x
  | _, _, .tup f r, b => .tup f (RVs.cut n r (by unfold D.low at b; exact b))
  | _, _, .zt f r, b => .zt f (RVs.cut n r (by unfold D.low at b; exact b))
  | _, _, .fl f r, b => .fl f (RVs.cut n r (by unfold D.low at b; exact b))
  | _, _, .ref e, b => .ref (get_take (by unfold D.low at b; exact of_decide_eq_true b) e)
  | _, _, .ty n, _ => .ty n
theorem RVs.cut (n : Nat) : ∀ {vs : List V} {ds : List D}, RVs K m H vs ds → D.lows n ds = true → RVs K (m.take n) H vs ds
  | _, _, .nil, _ => .nil
  | _, _, .cons r t, b => by
    unfold D.lows at b
    rw [Bool.and_eq_true] at b
    exact .cons (RV.cut n r b.1) (RVs.cut n t b.2)
end
end
end Sm
namespace Sm
open PySem PySem.Spec PyProof.Rows L2
section
variable {w : World} {K : PySem.W.Frag} {m m' : List Addr} {H H' : Hp} {h h' : AH}
theorem RKs.cut (n : Nat) : ∀ {ks : List (Key × V)} {kvs : List (D × D)}, RKs K m H ks kvs → (kvs.all fun p => p.1.low n && p.2.low n) = true → RKs K (m.take n) H ks kvs
  | _, _, .nil, _ => .nil
  | _, _, .int r t, b => by
    rw [List.all_cons, Bool.and_eq_true, Bool.and_eq_true] at b
    exact .int (RV.cut n r b.1.2) (RKs.cut n t b.2)
  | _, _, .str r t, b => by
    rw [List.all_cons, Bool.and_eq_true, Bool.and_eq_true] at b
    exact .str (RV.cut n r b.1.2) (RKs.cut n t b.2)
theorem RNs.cut (n : Nat) : ∀ {xs : List (NestedKey × Addr × Value)} {kvs : List (D × D)}, RNs K m H xs kvs → (kvs.all fun p => p.1.low n && p.2.low n) = true → RNs K (m.take n) H xs kvs
  | _, _, .nil, _ => .nil
  | _, _, .cons e1 e2 r1 rl r2 t, b => by
    rw [List.all_cons, Bool.and_eq_true, Bool.and_eq_true] at b
    exact .cons e1 e2 (RV.cut n r1 b.1.1) rl (RV.cut n r2 b.1.2) (RNs.cut n t b.2)
theorem RO.cut (n : Nat) {a : Addr} {o : O} (r : RO w K m H a o) (b : o.low n = true) : RO w K (m.take n) H a o := by
  cases o with
  | lst ds => obtain ⟨vs, e, r⟩ := r; exact ⟨vs, e, RVs.cut n r b⟩
  | dic ds => obtain ⟨vs, e, r⟩ := r; exact ⟨vs, e, RKs.cut n r b⟩
  | ndc ds => obtain ⟨ob, xs, e, n1, y, z, r⟩ := r; exact ⟨ob, xs, e, n1, y, z, RNs.cut n r b⟩
mutual
theorem RV.lowOf : ∀ {v : V} {d : D}, RV K m H v d → d.low m.length = true
  | _, _, .non => rfl
  | _, _, .bl b => rfl
  | _, _, .int i => rfl
  | _, _, .str x => rfl
  | _, _, .tup f r => by unfold D.low; exact RVs.lowOf r
  | _, _, .zt f r => by unfold D.low; exact RVs.lowOf r
  | _, _, .fl f r => by unfold D.low; exact RVs.lowOf r
  | _, _, .ref e => by unfold D.low; exact decide_eq_true (List.getElem?_eq_some_iff.mp e).1
  | _, _, .ty n => rfl
theorem RVs.lowOf : ∀ {vs : List V} {ds : List D}, RVs K m H vs ds → D.lows m.length ds = true
  | _, _, .nil => rfl
  | _, _, .cons r t => by
    unfold D.lows
    rw [RV.lowOf r, RVs.lowOf t]
    rfl
end
theorem RKs.lowOf : ∀ {ks : List (Key × V)} {kvs : List (D × D)}, RKs K m H ks kvs → (kvs.all fun p => p.1.low m.length && p.2.low m.length) = true
  | _, _, .nil => rfl
  | _, _, .int r t => by rw [List.all_cons, RKs.lowOf t, r.lowOf]; rfl
  | _, _, .str r t => by rw [List.all_cons, RKs.lowOf t, r.lowOf]; rfl
theorem RNs.lowOf : ∀ {xs : List (NestedKey × Addr × Value)} {kvs : List (D × D)}, RNs K m H xs kvs → (kvs.all fun p => p.1.low m.length && p.2.low m.length) = true
  | _, _, .nil => rfl
  | _, _, .cons _ _ r1 _ r2 t => by rw [List.all_cons, RNs.lowOf t, r1.lowOf, r2.lowOf]; rfl
theorem RO.lowOf {a : Addr} {o : O} (r : RO w K m H a o) : o.low m.length = true := by
  cases o with
  | lst ds => obtain ⟨vs, e, r⟩ := r; exact r.lowOf
  | dic ds => obtain ⟨vs, e, r⟩ := r; exact r.lowOf
  | ndc ds => obtain ⟨ob, xs, e, n1, y, z, r⟩ := r; exact r.lowOf
theorem oldOk_get {n : Nat} : ∀ {h h' : AH} {i : Nat} {o : O}, oldOk n h h' = true → h[i]? = some o → ∃ o', h'[i]? = some o' ∧ (o' = o ∨ o'.low n = true)
  | [], _, _, _, _, e => by simp at e
  | _ :: _, [], _, _, b, _ => by cases b
  | a :: r, a' :: r', 0, o, b, e => by
    unfold oldOk at b
    rw [Bool.and_eq_true, Bool.or_eq_true] at b
    have e' : a = o := Option.some.inj e
    subst e'
    refine ⟨a', rfl, ?_⟩
    rcases b.1 with z | z
    · exact .inl (of_decide_eq_true z).symm
    · exact .inr z
  | a :: r, a' :: r', i + 1, o, b, e => by
    unfold oldOk at b
    rw [Bool.and_eq_true] at b
    exact oldOk_get (i := i) b.2 (by simpa using e)
theorem oldOk_len {n : Nat} : ∀ {h h' : AH}, oldOk n h h' = true → h.length ≤ h'.length
  | [], _, _ => Nat.zero_le _
  | _ :: _, [], b => by cases b
  | a :: r, a' :: r', b => by
    unfold oldOk at b
    rw [Bool.and_eq_true] at b
    exact Nat.succ_le_succ (oldOk_len b.2)
/-- the objects that stood ahead, told without what is new -/
theorem sim_cut (S0 : Sim w K m h H) (L : Le m H m' H') (S : Sim w K m' h' H') (b : oldOk h.length h h' = true) : Sim w K m (h'.take h.length) H' := by
  have hm : m'.take h.length = m := by
    obtain ⟨t, rfl⟩ := L.pre
    rw [← S0.len]
    exact List.take_left
  refine ⟨by rw [List.length_take, S0.len]; have := oldOk_len b; omega, S0.nd, fun i a o e1 e2 => ?_⟩
  have hi : i < m.length := (List.getElem?_eq_some_iff.mp e1).1
  rw [List.getElem?_take_of_lt (by rw [← S0.len]; exact hi)] at e2
  have r := S.ob i a o (L.get e1) e2
  have hl : o.low h.length = true := by
    obtain ⟨o', e3, z⟩ := oldOk_get b (List.getElem?_eq_getElem (by rw [← S0.len]; exact hi))
    rw [e2] at e3
    cases e3
    rcases z with z | z
    · have w := (S0.ob i a _ e1 (List.getElem?_eq_getElem (by rw [← S0.len]; exact hi))).lowOf
      rw [← z] at w
      rw [← S0.len]
      exact w
    · exact z
  have r2 := r.cut h.length hl
  rw [hm] at r2
  exact r2
theorem gc_ok (S0 : Sim w K m h H) (L : Le m H m' H') (S : Sim w K m' h' H') {v : V} {d : D} (r : RV K m' H' v d) : ∃ m2, Le m H m2 H' ∧ Sim w K m2 (gc h d h').2 H' ∧ RV K m2 H' v (gc h d h').1 := by
  have hm : m'.take h.length = m := by
    obtain ⟨t, rfl⟩ := L.pre
    rw [← S0.len]
    exact List.take_left
  unfold gc
  by_cases b : oldOk h.length h h' = true
  · rw [if_pos b]
    have S1 := sim_cut S0 L S b
    by_cases c : d.low h.length = true
    · rw [if_pos c]
      refine ⟨m, ⟨⟨⟨[], by simp⟩, L.fr⟩, fun a h1 h2 => absurd h1 h2⟩, S1, ?_⟩
      have r2 := RV.cut h.length r c
      rw [hm] at r2
      exact r2
    · rw [if_neg c]
      cases d with
      | ref k =>
        dsimp only
        cases hk : h'[k]? with
        | none => exact ⟨m', L, S, r⟩
        | some o =>
          cases o with
          | dic _ => exact ⟨m', L, S, r⟩
          | ndc _ => exact ⟨m', L, S, r⟩
          | lst ds =>
            dsimp only
            by_cases c2 : D.lows h.length ds = true
            · rw [if_pos c2]
              cases r with
              | @ref p i e =>
                obtain ⟨vs, ev, rv⟩ := S.lst e hk
                have hkn : h.length ≤ k := by
                  unfold D.low at c
                  rcases Nat.lt_or_ge k h.length with z | z
                  · exact absurd (decide_eq_true z) c
                  · exact z
                have hp : p ∉ m := fun z => by
                  obtain ⟨j, hj, ej⟩ := List.getElem_of_mem z
                  have e5 : m'[j]? = some p := L.get (by rw [List.getElem?_eq_getElem hj, ej])
                  have hk' : k < m'.length := (List.getElem?_eq_some_iff.mp e).1
                  have hj' : j < m'.length := (List.getElem?_eq_some_iff.mp e5).1
                  rw [List.getElem?_eq_getElem hk'] at e
                  rw [List.getElem?_eq_getElem hj'] at e5
                  have := (List.getElem_inj S.nd).mp ((Option.some.inj e).trans (Option.some.inj e5).symm)
                  have := S0.len
                  omega
                have rv2 := RVs.cut h.length rv c2
                rw [hm] at rv2
                have Lg : Lw m H' (m ++ [p]) H' := ⟨⟨[p], rfl⟩, fun a o z _ => z⟩
                refine ⟨m ++ [p], ⟨⟨⟨[p], rfl⟩, L.fr⟩, fun a h1 h2 => ?_⟩, ?_, ?_⟩
                · rcases List.mem_append.mp h1 with w | w
                  · exact absurd w h2
                  · rw [List.mem_singleton.mp w]
                    exact L.nw p (List.mem_of_getElem? e) hp
                · refine ⟨by simp [S1.len], nodup_add S1.nd hp, fun i a ob e1 e2 => ?_⟩
                  rcases get_add e1 with z | ⟨z, rfl⟩
                  · have hi : i < m.length := (List.getElem?_eq_some_iff.mp z).1
                    rw [List.getElem?_append_left (by rw [← S1.len]; exact hi)] at e2
                    exact (S1.ob i a ob z e2).mono S1.cl Lg rfl
                  · rw [z, S1.len, List.getElem?_append_right (Nat.le_refl _), Nat.sub_self] at e2
                    cases e2
                    exact ⟨vs, ev, rv2.mono S1.cl Lg⟩
                · refine .ref ?_
                  rw [← S0.len, List.getElem?_append_right (Nat.le_refl _), Nat.sub_self]
                  rfl
            · rw [if_neg c2]
              exact ⟨m', L, S, r⟩
      | _ => exact ⟨m', L, S, r⟩
  · rw [if_neg b]
    exact ⟨m', L, S, r⟩
end
/-- what a def does: n parameters, nn names -/
def runDef (n nn : Nat) (body : SS) : SF := fun ds h => if ds.length = n then (body (ds.map some ++ List.replicate (nn - n) none) h).bind fun r => match r with
  | .nx _ h' => some (gc h .non h')
  | .rt d h' => some (gc h d h')
  | _ => none else none
theorem rst_start {K : PySem.W.Frag} {m : List Addr} {H : Hp} {vs : List V} {ds : List D} (r : RVs K m H vs ds) (k : Nat) : RSt K m H (vs.map some ++ List.replicate k none) (ds.map some ++ List.replicate k none) := by
  refine ⟨by simp [r.length], fun i d e => ?_⟩
  by_cases hi : i < ds.length
  · have hi2 : i < vs.length := by rw [r.length]; exact hi
    rw [List.getElem?_append_left (by simpa using hi)] at e
    rw [List.getElem?_append_left (by simpa using hi2)]
    rw [List.getElem?_map] at e ⊢
    rw [List.getElem?_eq_getElem hi] at e
    cases e
    obtain ⟨v, e1, r1⟩ := r.get (List.getElem?_eq_getElem hi)
    exact ⟨v, by rw [e1]; rfl, r1⟩
  · rw [List.getElem?_append_right (by simpa using hi)] at e
    rw [List.getElem?_replicate] at e
    split at e <;> cases e
theorem fn_sem {P : Program} {w : World} {K : PySem.W.Frag} {mg : Str → Option Value} {base : Heap} {x qual : Str} {st : Stmt} {f : Addr} {fd : FuncData} {N ps : List Str} {k n nn : Nat} {body : SS}
    (F : Fun K x qual st f fd) (Sc : FnScope N ps (defScope st)) (hn : ps.length = n) (hN : N.length = nn)
    (hb : ∀ (cdv : Value) (A : Around) (outer : List Env) (s : Shared) (H : Hp) (E : XK), Room k (A.deeper (envOfC qual (defScope st) s.heap.objs.size f cdv)) →
      JB (cxOf CX0 P w K mg base N qual (defScope st) f cdv A outer s H E).nox (defBody st) body) : FnOk P w K mg base CX0 (k + 1) f fd ps (spF w K n (runDef n nn body)) := by
  refine F.ok Sc (fun vs H Q E ⟨m, h, ds, d, h', S, r, hl, _⟩ => by rw [r.length, hl, hn]) fun cdv A outer s H vs Q E hr hsp => ?_
  obtain ⟨m, h, ds, d, h', S, r, hl, e, q⟩ := hsp
  refine ⟨_, hb cdv A outer s H E hr, ?_⟩
  unfold runDef at e
  rw [if_pos hl] at e
  obtain ⟨r1, e1, e⟩ := bind_some' e
  have R := rst_start r (nn - n)
  refine ⟨m, _, h, r1, ?_, S, e1, ?_⟩
  · unfold L2.start
    rw [hN, r.length, hl]
    exact R
  · cases r1 with
    | nx τ' h1 =>
      intro m' H' σ' L' S' R'
      obtain ⟨m2, L2, S2, r2⟩ := gc_ok S L' S' (RV.non (K := K) (m := m') (H := H'))
      have e2 := Option.some.inj e
      rw [e2] at S2 r2
      exact q m2 H' _ L2 S2 r2
    | rt d1 h1 =>
      intro m' H' v L' S' r'
      obtain ⟨m2, L2, S2, r2⟩ := gc_ok S L' S' r'
      have e2 := Option.some.inj e
      rw [e2] at S2 r2
      exact q m2 H' v L2 S2 r2
    | bk τ' h1 => cases e
    | ct τ' h1 => cases e
theorem fn_none {P : Program} {w : World} {K : PySem.W.Frag} {mg : Str → Option Value} {base : Heap} {CX : CXT} {k : Nat} {f : Addr} {fd : FuncData} {ps : List Str} {sp : Sp} (no : ∀ vs H Q E, ¬ sp vs H Q E) : FnOk P w K mg base CX k f fd ps sp :=
  ⟨fun vs H Q E h => absurd h (no vs H Q E), fun A outer s H args us vs Q E _ _ _ _ h => absurd h (no vs H Q E)⟩
end Sm
namespace Sm
open PySem PySem.Spec PyProof.Rows L2

/-! ## lists and tuples as what they hold -/
/-- a list that may be changed -/
def asM : LV → AH → Option (List D)
  | .new ds, _ => some ds
  | .val (.ref a), h => match h[a]? with
    | some (.lst ds) => some ds
    | _ => none
  | _, _ => none
def asL : LV → AH → Option (List D)
  | .val (.fl ds), _ => some ds
  | q, h => asM q h
def asT : LV → Option (List D)
  | .val (.tup ds) => some ds
  | .val (.zt ds) => some ds
  | _ => none
def asQ : LV → AH → Option (List D)
  | .val (.tup ds), _ => some ds
  | .val (.zt ds), _ => some ds
  | q, h => asL q h
section
variable {w : World} {K : PySem.W.Frag} {m : List Addr} {h : AH} {H : Hp} {v : V} {q : LV} {ds : List D}
theorem asM_ok (S : Sim w K m h H) (r : RQ K m H v q) (e : asM q h = some ds) : ∃ p vs, v = .ref p ∧ H p = some (.lst vs) ∧ RVs K m H vs ds := by
  cases r with
  | new hn e1 r z => cases e; exact ⟨_, _, rfl, e1, r⟩
  | val r =>
    cases r with
    | ref e1 =>
      unfold asM at e
      dsimp only at e
      split at e
      · rename_i hh
        cases e
        obtain ⟨vs, e2, r2⟩ := S.lst e1 hh
        exact ⟨_, vs, rfl, e2, r2⟩
      · cases e
    | _ => cases e
theorem asL_ok (S : Sim w K m h H) (r : RQ K m H v q) (e : asL q h = some ds) : ∃ p vs, v = .ref p ∧ SqL K H p vs ∧ RVs K m H vs ds := by
  have gen : asM q h = some ds → ∃ p vs, v = .ref p ∧ SqL K H p vs ∧ RVs K m H vs ds := fun e => by
    obtain ⟨p, vs, e1, e2, r2⟩ := asM_ok S r e
    exact ⟨p, vs, e1, SqL.of e2, r2⟩
  cases r with
  | new hn e1 r z => exact gen e
  | val r =>
    cases r with
    | fl f r => cases e; exact ⟨_, _, rfl, f.sq, r⟩
    | _ => exact gen e
theorem asT_ok (r : RQ K m H v q) (e : asT q = some ds) : ∃ p vs, v = .ref p ∧ SqT K H p vs ∧ RVs K m H vs ds := by
  cases r with
  | new hn e1 r z => cases e
  | val r =>
    cases r with
    | tup f r => cases e; exact ⟨_, _, rfl, f.sq, r⟩
    | zt f r => cases e; exact ⟨_, _, rfl, f, r⟩
    | _ => cases e
theorem asQ_ok (S : Sim w K m h H) (r : RQ K m H v q) (e : asQ q h = some ds) : ∃ p vs, v = .ref p ∧ (SqL K H p vs ∨ SqT K H p vs) ∧ RVs K m H vs ds := by
  have gen : asL q h = some ds → ∃ p vs, v = .ref p ∧ (SqL K H p vs ∨ SqT K H p vs) ∧ RVs K m H vs ds := fun e => by
    obtain ⟨p, vs, e1, e2, r2⟩ := asL_ok S r e
    exact ⟨p, vs, e1, .inl e2, r2⟩
  cases r with
  | new hn e1 r z => exact gen e
  | val r =>
    cases r with
    | tup f r => cases e; exact ⟨_, _, rfl, .inr f.sq, r⟩
    | zt f r => cases e; exact ⟨_, _, rfl, .inr f, r⟩
    | fl f r => exact gen e
    | ref f => exact gen e
    | _ => cases e
end
theorem szL {n : Nat} (h : n ≤ 16777216) : n ≤ sizeLine := by rw [sizeLine_eq]; exact h

/-! ## ints -/
def opII (C : Int → Int → Bool) (f : Int → Int → D) : Op2
  | .val (.int i), .val (.int j), h => if C i j = true then some (.val (f i j), h) else none
  | _, _, _ => none
theorem inv_int {K : PySem.W.Frag} {m : List Addr} {H : Hp} {v : V} {i : Int} (r : RQ K m H v (.val (.int i))) : v = .int i := by
  cases r with
  | val r => cases r; rfl
theorem inv_str {K : PySem.W.Frag} {m : List Addr} {H : Hp} {v : V} {i : Str} (r : RQ K m H v (.val (.str i))) : v = .str i := by
  cases r with
  | val r => cases r; rfl
theorem inv_bl {K : PySem.W.Frag} {m : List Addr} {H : Hp} {v : V} {i : Bool} (r : RQ K m H v (.val (.bl i))) : v = .bl i := by
  cases r with
  | val r => cases r; rfl
theorem simII {w : World} {K : PySem.W.Frag} {C : Int → Int → Bool} {P : Int → Int → Prop} {f : Int → Int → D} {g : Int → Int → V} (hC : ∀ i j, C i j = true → P i j) (hf : ∀ m H i j, RV K m H (g i j) (f i j)) : SimR w K (rI P g) (opII C f) := by
  intro m h H x y dx dy d h' Q S rx ry e q
  unfold opII at e
  split at e
  · obtain ⟨c, e⟩ := ite_some' e
    cases e
    exact ⟨_, _, inv_int rx, inv_int ry, hC _ _ c, q m H _ (Le.refl _ _) S (.val (hf _ _ _ _)) (nwV _ _ _)⟩
  · cases e
theorem simII0 {w : World} {K : PySem.W.Frag} {f : Int → Int → D} {g : Int → Int → V} (hf : ∀ m H i j, RV K m H (g i j) (f i j)) : SimR w K (rI0 g) (opII (fun _ _ => true) f) := by
  intro m h H x y dx dy d h' Q S rx ry e q
  unfold opII at e
  split at e
  · obtain ⟨c, e⟩ := ite_some' e
    cases e
    exact ⟨_, _, inv_int rx, inv_int ry, q m H _ (Le.refl _ _) S (.val (hf _ _ _ _)) (nwV _ _ _)⟩
  · cases e
def mulC (i j : Int) : Bool := decide (i.natAbs < 18446744073709551616) || decide (j.natAbs < 18446744073709551616)
def oSub : Op2 := opII (fun _ _ => true) fun i j => .int (i - j)
def oMulI : Op2 := opII mulC fun i j => .int (i * j)
def oDiv : Op2 := opII (fun _ j => decide (j ≠ 0) && decide (j.natAbs < 1073741824)) fun i j => .int (i.fdiv j)
def oMod : Op2 := opII (fun _ j => decide (j ≠ 0)) fun i j => .int (i.fmod j)
def oPow : Op2 := opII (fun i j => decide (0 ≤ j) && decide (j ≤ 1000000) && decide (i.natAbs < 18446744073709551616)) fun i j => .int (i ^ j.toNat)
def oLt : Op2 := opII (fun _ _ => true) fun i j => .bl (decide (i < j))
def oLe : Op2 := opII (fun _ _ => true) fun i j => .bl (decide (i ≤ j))
def oGt : Op2 := opII (fun _ _ => true) fun i j => .bl (decide (j < i))
def oGe : Op2 := opII (fun _ _ => true) fun i j => .bl (decide (j ≤ i))
section
variable {X : Cx} {a b : Expr} {es : List Expr} {fa fb : SE} {fr : SA} {pos : Pos}
theorem je_sub (ha : JE X a fa) (hb : JE X b fb) : JE X (.BinOp a .Sub b pos) (mBin oSub fa fb) := je_bin op_sub (simII0 fun _ _ _ _ => .int _) ha hb
theorem two64 : (2 : Int) ^ 64 = 18446744073709551616 := by decide
theorem je_div (ha : JE X a fa) (hb : JE X b fb) : JE X (.BinOp a .FloorDiv b pos) (mBin oDiv fa fb) := je_bin op_fdivN (simII (fun i j c => by
  rw [Bool.and_eq_true] at c
  exact ⟨of_decide_eq_true c.1, of_decide_eq_true c.2⟩) fun _ _ _ _ => .int _) ha hb
theorem je_mod (ha : JE X a fa) (hb : JE X b fb) : JE X (.BinOp a .Mod b pos) (mBin oMod fa fb) := je_bin op_modN (simII (fun i j c => of_decide_eq_true c) fun _ _ _ _ => .int _) ha hb
theorem je_pow (ha : JE X a fa) (hb : JE X b fb) : JE X (.BinOp a .Pow b pos) (mBin oPow fa fb) := je_bin op_pow (simII (fun i j c => by
  rw [Bool.and_eq_true, Bool.and_eq_true] at c
  exact ⟨of_decide_eq_true c.1.1, of_decide_eq_true c.1.2, of_decide_eq_true c.2⟩) fun _ _ _ _ => .int _) ha hb
theorem je_lt (ha : JE X a fa) (hb : JE X b fb) : JE X (.Compare a [.Lt] [b] pos) (mBin oLt fa fb) := je_cmp op_lt (simII0 fun _ _ _ _ => .bl _) ha hb (nomark _)
theorem je_le (ha : JE X a fa) (hb : JE X b fb) : JE X (.Compare a [.LtE] [b] pos) (mBin oLe fa fb) := je_cmp op_le (simII0 fun _ _ _ _ => .bl _) ha hb (nomark _)
theorem je_gt (ha : JE X a fa) (hb : JE X b fb) : JE X (.Compare a [.Gt] [b] pos) (mBin oGt fa fb) := je_cmp op_gt (simII0 fun _ _ _ _ => .bl _) ha hb (nomark _)
theorem je_ge (ha : JE X a fa) (hb : JE X b fb) : JE X (.Compare a [.GtE] [b] pos) (mBin oGe fa fb) := je_cmp op_ge (simII0 fun _ _ _ _ => .bl _) ha hb (nomark _)
def oNeg : Op1
  | .val (.int i), h => some (.val (.int (-i)), h)
  | _, _ => none
theorem je_neg (ha : JE X a fa) : JE X (.UnaryOp .USub a pos) (mUn oNeg fa) := je_un un_neg (fun m h H x dx d h' Q S rx e q => by
  unfold oNeg at e
  split at e
  · cases e
    exact ⟨_, inv_int rx, q m H _ (Le.refl _ _) S (.val (.int _)) (nwV _ _ _)⟩
  · cases e) ha
end

/-! ## + -/
def rCatF (K : PySem.W.Frag) : R2 := fun x y H Q => ∃ a b xs ys, x = .ref a ∧ y = .ref b ∧ SqT K H a xs ∧ SqT K H b ys ∧ xs.length + ys.length ≤ sizeLine ∧
  (xs = [] → Q (.ref b) H) ∧ (xs ≠ [] → ys = [] → Q (.ref a) H) ∧ (xs ≠ [] → ys ≠ [] → FzN H (xs ++ ys) Q)
theorem op_catF {X : Cx} : OpR X (binaryOp .Add) (rCatF X.K) := by
  intro pins s σ H x y v u Q I rx ry h
  obtain ⟨a, b, xs, ys, rfl, rfl, ha, hb, hz, q0, q1, q2⟩ := h
  cases rx
  cases ry
  obtain ⟨us, r1, t1, _⟩ := I.tuple ha
  obtain ⟨ws, r2, t2, _⟩ := I.tuple hb
  by_cases hx : xs = []
  · subst hx
    cases r1
    exact cat_tup0 t1 t2 ⟨.ref b, H, I, rfl, q0 rfl⟩
  · have hx' : us ≠ [] := fun z => hx (r1.nil_iff.mp z)
    refine HT.cat_tup t1 t2 hx' (fun z => ⟨.ref a, H, I, rfl, q1 hx (r2.nil_iff.mp z)⟩) (fun z => ?_) (by rw [← r1.length, ← r2.length]; exact hz)
    exact inv_newT I (r1.append r2) (by rw [List.length_append]; exact hz) (q2 hx fun w => z (r2.nil_iff.mpr w)) rfl
def oAdd : Op2
  | .val (.int i), .val (.int j), h => some (.val (.int (i + j)), h)
  | .val (.str x), .val (.str y), h => if x.length + y.length ≤ 16777216 then some (.val (.str (x ++ y)), h) else none
  | .val (.tup xs), .val (.tup ys), h => if xs.length + ys.length ≤ 16777216 then some (.val (.tup (xs ++ ys)), h) else none
  | p, q, h => (asM p h).bind fun xs => (asM q h).bind fun ys => if xs.length + ys.length ≤ 16777216 then some (.new (xs ++ ys), h) else none
theorem sim_add {w : World} {K : PySem.W.Frag} : SimR w K (fun x y H Q => rI0 (fun i j => .int (i + j)) x y H Q ∨ ((∃ i j, x = .str i ∧ y = .str j ∧ i.length + j.length ≤ sizeLine ∧ Q (.str (i ++ j)) H) ∨ (rCatF K x y H Q ∨ rCat x y H Q))) oAdd := by
  intro m h H x y dx dy d h' Q S rx ry e q
  unfold oAdd at e
  split at e
  · cases e
    exact .inl ⟨_, _, inv_int rx, inv_int ry, q m H _ (Le.refl _ _) S (.val (.int _)) (nwV _ _ _)⟩
  · obtain ⟨z, e⟩ := ite_some' e
    cases e
    exact .inr (.inl ⟨_, _, inv_str rx, inv_str ry, szL z, q m H _ (Le.refl _ _) S (.val (.str _)) (nwV _ _ _)⟩)
  · obtain ⟨z, e⟩ := ite_some' e
    cases e
    cases rx with
    | val rx =>
      cases ry with
      | val ry =>
        cases rx with
        | tup f1 r1 =>
          cases ry with
          | tup f2 r2 =>
            refine .inr (.inr (.inl ⟨_, _, _, _, rfl, rfl, f1.sq, f2.sq, by rw [r1.length, r2.length]; exact szL z, fun w => ?_, fun w1 w2 => ?_, fun _ _ p o hp hc hd => ?_⟩))
            · subst w
              cases r1
              exact q m H _ (Le.refl _ _) S (.val (.tup f2 r2)) (nwV _ _ _)
            · subst w2
              cases r2
              rw [List.append_nil] at q
              exact q m H _ (Le.refl _ _) S (.val (.tup f1 r1)) (nwV _ _ _)
            · exact q m _ _ (Le.upd S.cl hp _) (S.upd hp _) (.val (RV.tupN S hp hc hd (r1.append r2))) (nwV _ _ _)
  · obtain ⟨xs, e1, e⟩ := bind_some' e
    obtain ⟨ys, e2, e⟩ := bind_some' e
    obtain ⟨z, e⟩ := ite_some' e
    cases e
    obtain ⟨p1, vs1, rfl, a1, r1⟩ := asM_ok S rx e1
    obtain ⟨p2, vs2, rfl, a2, r2⟩ := asM_ok S ry e2
    refine .inr (.inr (.inr ⟨_, _, _, _, rfl, rfl, a1, a2, by rw [r1.length, r2.length]; exact szL z, fun p hp => ?_⟩))
    exact q m _ _ (Le.upd S.cl hp _) (S.upd hp _) (RQ.newN S hp (r1.append r2) (by rw [List.length_append]; exact z)) hp
theorem je_add {X : Cx} {a b : Expr} {fa fb : SE} {pos : Pos} (ha : JE X a fa) (hb : JE X b fb) : JE X (.BinOp a .Add b pos) (mBin oAdd fa fb) :=
  je_bin (op_add.or (op_add_str.or (op_catF.or op_cat))) sim_add ha hb

/-! ## * : ints, a list by an int -/
def oMul : Op2
  | .val (.int i), .val (.int j), h => if mulC i j = true then some (.val (.int (i * j)), h) else none
  | p, .val (.int k), h => (asM p h).bind fun xs => if (decide (k.natAbs < 9223372036854775808) && decide (xs.length * k.toNat ≤ 16777216)) = true then some (.new (List.replicate k.toNat xs).flatten, h) else none
  | _, _, _ => none
theorem two63 : (2 : Int) ^ 63 = 9223372036854775808 := by decide
theorem mulC_ok {i j : Int} (c : mulC i j = true) : CMul i j := by
  unfold mulC at c
  unfold CMul
  rw [two64]
  rw [Bool.or_eq_true] at c
  rcases c with c1 | c1
  · have z := of_decide_eq_true c1
    exact .inl (by omega)
  · have z := of_decide_eq_true c1
    exact .inr (by omega)
theorem len_rep {α : Type} (xs : List α) (k : Nat) : (List.replicate k xs).flatten.length = xs.length * k := by
  induction k with
  | zero => simp
  | succ k ih => rw [List.replicate_succ, List.flatten_cons, List.length_append, ih, Nat.mul_succ, Nat.add_comm]
theorem sim_mul {w : World} {K : PySem.W.Frag} : SimR w K (fun x y H Q => rI CMul (fun i j => .int (i * j)) x y H Q ∨ rRep x y H Q) oMul := by
  intro m h H x y dx dy d h' Q S rx ry e q
  unfold oMul at e
  split at e
  · obtain ⟨c, e⟩ := ite_some' e
    cases e
    exact .inl ⟨_, _, inv_int rx, inv_int ry, mulC_ok c, q m H _ (Le.refl _ _) S (.val (.int _)) (nwV _ _ _)⟩
  · obtain ⟨xs, e1, e⟩ := bind_some' e
    obtain ⟨c, e⟩ := ite_some' e
    cases e
    rw [Bool.and_eq_true] at c
    obtain ⟨p1, vs1, rfl, a1, r1⟩ := asM_ok S rx e1
    have z := of_decide_eq_true c.2
    have z1 := of_decide_eq_true c.1
    refine .inr ⟨_, _, _, rfl, inv_int ry, a1, by rw [two63]; omega, by rw [two63]; omega, by rw [r1.length]; exact szL z, fun p hp => ?_⟩
    exact q m _ _ (Le.upd S.cl hp _) (S.upd hp _) (RQ.newN S hp (r1.replicate _) (by rw [len_rep]; exact z)) hp
  · cases e
theorem je_mul {X : Cx} {a b : Expr} {fa fb : SE} {pos : Pos} (ha : JE X a fa) (hb : JE X b fb) : JE X (.BinOp a .Mult b pos) (mBin oMul fa fb) :=
  je_bin (op_mul.or op_rep) sim_mul ha hb
end Sm
namespace Sm
open PySem PySem.Spec PyProof.Rows L2

/-! ## == and != -/
mutual
/-- data without truths, objects, classes; texts of true signs -/
def D.nb : D → Bool
  | .non => true
  | .int _ => true
  | .str x => PyData.strOk x
  | .tup ds => D.nbs ds
  | .fl ds => D.nbs ds
  | _ => false
def D.nbs : List D → Bool
  | [] => true
  | d :: r => D.nb d && D.nbs r
end
mutual
def D.dep : D → Nat
  | .tup ds => D.deps ds + 1
  | .fl ds => D.deps ds + 1
  | _ => 0
def D.deps : List D → Nat
  | [] => 0
  | d :: r => max (D.dep d) (D.deps r)
end
mutual
def D.toP : D → PyData
  | .int i => .int i
  | .str x => .str x
  | .tup ds => .tuple (D.toPs ds)
  | .fl ds => .list (D.toPs ds)
  | _ => .none
def D.toPs : List D → List PyData
  | [] => []
  | d :: r => D.toP d :: D.toPs r
end
mutual
theorem toP_lay : ∀ d : D, d.nb = true → d.toP.canLay0 = true
  | .non, _ => rfl
  | .int _, _ => rfl
  | .str x, h => by unfold D.nb at h; unfold D.toP PyData.canLay0; exact h
  | .tup ds, h => by unfold D.nb at h; unfold D.toP PyData.canLay0; exact toPs_lay ds h
  | .fl ds, h => by unfold D.nb at h; unfold D.toP PyData.canLay0; exact toPs_lay ds h
theorem toPs_lay : ∀ ds : List D, D.nbs ds = true → PyData.canLayAll0 (D.toPs ds) = true
  | [], _ => rfl
  | d :: r, h => by
    unfold D.nbs at h
    rw [Bool.and_eq_true] at h
    unfold D.toPs PyData.canLayAll0
    rw [toP_lay d h.1, toPs_lay r h.2]
    rfl
end
mutual
theorem toP_dep : ∀ d : D, d.toP.depth = d.dep
  | .non => rfl
  | .bl _ => rfl
  | .int _ => rfl
  | .str x => rfl
  | .tup ds => by unfold D.toP PyData.depth D.dep; rw [toPs_dep ds]
  | .zt ds => rfl
  | .fl ds => by unfold D.toP PyData.depth D.dep; rw [toPs_dep ds]
  | .ref _ => rfl
  | .ty _ => rfl
theorem toPs_dep : ∀ ds : List D, PyData.depthAll (D.toPs ds) = D.deps ds
  | [] => rfl
  | d :: r => by unfold D.toPs PyData.depthAll D.deps; rw [toP_dep d, toPs_dep r]
end
mutual
theorem toP_eqv : ∀ a b : D, a.nb = true → b.nb = true → PyData.eqv a.toP b.toP = decide (a = b)
  | .non, b, _, hb => by cases b <;> first | rfl | cases hb
  | .int i, b, _, hb => by
    cases b with
    | int j =>
      unfold D.toP PyData.eqv
      rw [Bool.eq_iff_iff]
      simp
    | _ => first | rfl | cases hb
  | .str x, b, _, hb => by
    cases b with
    | str y =>
      unfold D.toP PyData.eqv
      rw [Bool.eq_iff_iff]
      simp
    | _ => first | rfl | cases hb
  | .tup ds, b, ha, hb => by
    unfold D.nb at ha
    cases b with
    | tup es =>
      unfold D.nb at hb
      unfold D.toP PyData.eqv
      rw [toPs_eqv ds es ha hb, Bool.eq_iff_iff]
      simp
    | _ => first | rfl | cases hb
  | .fl ds, b, ha, hb => by
    unfold D.nb at ha
    cases b with
    | fl es =>
      unfold D.nb at hb
      unfold D.toP PyData.eqv
      rw [toPs_eqv ds es ha hb, Bool.eq_iff_iff]
      simp
    | _ => first | rfl | cases hb
theorem toPs_eqv : ∀ a b : List D, D.nbs a = true → D.nbs b = true → PyData.eqvAll (D.toPs a) (D.toPs b) = decide (a = b)
  | [], [], _, _ => by simp [D.toPs, PyData.eqvAll]
  | [], _ :: _, _, _ => by simp [D.toPs, PyData.eqvAll]
  | _ :: _, [], _, _ => by simp [D.toPs, PyData.eqvAll]
  | d :: r, e :: s, ha, hb => by
    unfold D.nbs at ha hb
    rw [Bool.and_eq_true] at ha hb
    unfold D.toPs PyData.eqvAll
    rw [toP_eqv d e ha.1 hb.1, toPs_eqv r s ha.2 hb.2, Bool.eq_iff_iff]
    simp
end
section
variable {w : World} {K : PySem.W.Frag} {m : List Addr} {h : AH} {H : Hp}
mutual
theorem RV.dp : ∀ {v : V} {d : D}, RV K m H v d → d.nb = true → Dp K H v d.toP
  | _, _, .non, _ => .non
  | _, _, .int i, _ => .int i
  | _, _, .str x, _ => .str x
  | _, _, .tup f r, b => .tup f.sq (RVs.dp r (by unfold D.nb at b; exact b))
  | _, _, .fl f r, b => .lst f.sq (RVs.dp r (by unfold D.nb at b; exact b))
  | _, _, .bl _, b => by simp [D.nb] at b
  | _, _, .ty _, b => by simp [D.nb] at b
  | _, _, .zt _ _, b => by simp [D.nb] at b
  | _, _, .ref _, b => by simp [D.nb] at b
theorem RVs.dp : ∀ {vs : List V} {ds : List D}, RVs K m H vs ds → D.nbs ds = true → DpAll K H vs (D.toPs ds)
  | _, _, .nil, _ => .nil
  | _, _, .cons r t, b => by
    unfold D.nbs at b
    rw [Bool.and_eq_true] at b
    exact .cons (RV.dp r b.1) (RVs.dp t b.2)
end
/-- what == sees -/
def dat : LV → AH → D
  | .new ds, _ => .fl ds
  | .val (.ref a), h => match h[a]? with
    | some (.lst ds) => .fl ds
    | _ => .ref a
  | .val d, _ => d
theorem dat_dp (S : Sim w K m h H) {v : V} {q : LV} (r : RQ K m H v q) (b : (dat q h).nb = true) : Dp K H v (dat q h).toP := by
  cases r with
  | new hn e r z => exact .lst (SqL.of e) (r.dp (by unfold dat D.nb at b; exact b))
  | val r =>
    cases r with
    | ref e =>
      unfold dat at b ⊢
      dsimp only at b ⊢
      split at b
      · rename_i ds hh
        obtain ⟨vs, e2, r2⟩ := S.lst e hh
        exact .lst (SqL.of e2) (r2.dp (by unfold D.nb at b; exact b))
      · cases b
    | non => exact .non
    | bl _ => cases b
    | ty _ => cases b
    | zt _ _ => cases b
    | int i => exact .int i
    | str x => exact .str x
    | tup f r => exact (RV.tup f r).dp b
    | fl f r => exact (RV.fl f r).dp b
end
def okEq (a b : D) : Bool := a.nb && b.nb && decide (a.dep ≤ 64) && decide (b.dep ≤ 64)
def eqC (neg : Bool) : Op2
  | .val (.str x), .val (.str y), h => some (.val (.bl (if neg then !decide (x = y) else decide (x = y))), h)
  | .val (.bl x), .val (.bl y), h => some (.val (.bl (if neg then !decide (x = y) else decide (x = y))), h)
  | p, q, h => if okEq (dat p h) (dat q h) = true then some (.val (.bl (if neg then !decide (dat p h = dat q h) else decide (dat p h = dat q h))), h) else none
def oEq : Op2 := eqC false
def oNe : Op2 := eqC true
theorem sim_eq {w : World} {K : PySem.W.Frag} : SimR w K (fun x y H Q => rEq x y H Q ∨ rEqD K x y H Q) oEq := by
  intro m h H x y dx dy d h' Q S rx ry e q
  unfold oEq eqC at e
  split at e
  · cases e
    refine .inl ?_
    rw [inv_str rx, inv_str ry]
    refine ⟨rfl, ?_⟩
    have w := q m H _ (Le.refl _ _) S (.val (.bl _)) (nwV _ _ _)
    rw [dec_str]
    exact w
  · cases e
    refine .inl ?_
    rw [inv_bl rx, inv_bl ry]
    refine ⟨rfl, ?_⟩
    have w := q m H _ (Le.refl _ _) S (.val (.bl _)) (nwV _ _ _)
    rw [dec_bl]
    exact w
  · obtain ⟨c, e⟩ := ite_some' e
    cases e
    unfold okEq at c
    rw [Bool.and_eq_true, Bool.and_eq_true, Bool.and_eq_true] at c
    obtain ⟨⟨⟨c1, c2⟩, c3⟩, c4⟩ := c
    refine .inr ⟨_, _, dat_dp S rx c1, dat_dp S ry c2, ?_, ?_, ?_⟩
    · unfold SeqAt.shaped; rw [toP_lay _ c1, toP_dep, c3]; rfl
    · unfold SeqAt.shaped; rw [toP_lay _ c2, toP_dep, c4]; rfl
    · rw [toP_eqv _ _ c1 c2]
      exact q m H _ (Le.refl _ _) S (.val (.bl _)) (nwV _ _ _)
theorem sim_ne {w : World} {K : PySem.W.Frag} : SimR w K (fun x y H Q => rNe x y H Q ∨ rNeD K x y H Q) oNe := by
  intro m h H x y dx dy d h' Q S rx ry e q
  unfold oNe eqC at e
  split at e
  · cases e
    refine .inl ?_
    rw [inv_str rx, inv_str ry]
    refine ⟨rfl, ?_⟩
    have w := q m H _ (Le.refl _ _) S (.val (.bl _)) (nwV _ _ _)
    rw [dec_str]
    exact w
  · cases e
    refine .inl ?_
    rw [inv_bl rx, inv_bl ry]
    refine ⟨rfl, ?_⟩
    have w := q m H _ (Le.refl _ _) S (.val (.bl _)) (nwV _ _ _)
    rw [dec_bl]
    exact w
  · obtain ⟨c, e⟩ := ite_some' e
    cases e
    unfold okEq at c
    rw [Bool.and_eq_true, Bool.and_eq_true, Bool.and_eq_true] at c
    obtain ⟨⟨⟨c1, c2⟩, c3⟩, c4⟩ := c
    refine .inr ⟨_, _, dat_dp S rx c1, dat_dp S ry c2, ?_, ?_, ?_⟩
    · unfold SeqAt.shaped; rw [toP_lay _ c1, toP_dep, c3]; rfl
    · unfold SeqAt.shaped; rw [toP_lay _ c2, toP_dep, c4]; rfl
    · rw [toP_eqv _ _ c1 c2]
      exact q m H _ (Le.refl _ _) S (.val (.bl _)) (nwV _ _ _)
section
variable {X : Cx} {a b : Expr} {es : List Expr} {fa fb : SE} {fr : SA} {pos : Pos} {k : Nat}
theorem je_eq (hr : Room k X.A) (ha : JE X a fa) (hb : JE X b fb) : JE X (.Compare a [.Eq] [b] pos) (mBin oEq fa fb) := je_cmp (op_eq.or (op_eqD hr.units)) sim_eq ha hb (nomark _)
theorem je_ne (hr : Room k X.A) (ha : JE X a fa) (hb : JE X b fb) : JE X (.Compare a [.NotEq] [b] pos) (mBin oNe fa fb) := je_cmp (op_ne.or (op_neD hr.units)) sim_ne ha hb (nomark _)

/-! ## is None -/
def isN : LV → Bool
  | .val .non => true
  | _ => false
def oIs : Op2
  | p, .val .non, h => some (.val (.bl (isN p)), h)
  | _, _, _ => none
def oIsNot : Op2
  | p, .val .non, h => some (.val (.bl (!isN p)), h)
  | _, _, _ => none
theorem isN_ok {K : PySem.W.Frag} {m : List Addr} {H : Hp} {v : V} {q : LV} (r : RQ K m H v q) : decide (v = .non) = isN q := by
  cases r with
  | new _ _ _ _ => rfl
  | val r => cases r <;> rfl
theorem inv_non {K : PySem.W.Frag} {m : List Addr} {H : Hp} {v : V} (r : RQ K m H v (.val .non)) : v = .non := by
  cases r with
  | val r => cases r; rfl
theorem je_is (ha : JE X a fa) (hb : JE X b fb) : JE X (.Compare a [.Is] [b] pos) (mBin oIs fa fb) := je_cmp op_isN (fun m h H x y dx dy d h' Q S rx ry e q => by
  unfold oIs at e
  split at e
  · cases e
    refine ⟨inv_non ry, ?_⟩
    rw [isN_ok rx]
    exact q m H _ (Le.refl _ _) S (.val (.bl _)) (nwV _ _ _)
  · cases e) ha hb (nomark _)
theorem je_isnot (ha : JE X a fa) (hb : JE X b fb) : JE X (.Compare a [.IsNot] [b] pos) (mBin oIsNot fa fb) := je_cmp op_notN (fun m h H x y dx dy d h' Q S rx ry e q => by
  unfold oIsNot at e
  split at e
  · cases e
    refine ⟨inv_non ry, ?_⟩
    rw [isN_ok rx]
    exact q m H _ (Le.refl _ _) S (.val (.bl _)) (nwV _ _ _)
  · cases e) ha hb (nomark _)

/-! ## in, over flat things -/
def D.flat : D → Bool
  | .non => true
  | .int _ => true
  | .str _ => true
  | _ => false
theorem RV.flat {K : PySem.W.Frag} {m : List Addr} {H : Hp} {v : V} {d : D} (r : RV K m H v d) (b : d.flat = true) : flatV v = true := by
  cases r <;> first | rfl | cases b
theorem RVs.flat {K : PySem.W.Frag} {m : List Addr} {H : Hp} : ∀ {vs : List V} {ds : List D}, RVs K m H vs ds → ds.all D.flat = true → vs.all flatV = true
  | _, _, .nil, _ => rfl
  | _, _, .cons r t, b => by
    rw [List.all_cons, Bool.and_eq_true] at b ⊢
    exact ⟨r.flat b.1, RVs.flat t b.2⟩
theorem RV.eqf {K : PySem.W.Frag} {m : List Addr} {H : Hp} {v w : V} {d e : D} (r : RV K m H v d) (s : RV K m H w e) (b : d.flat = true) (c : e.flat = true) : eqV v w = decide (d = e) := by
  cases r <;> (try cases b) <;> (cases s <;> (try cases c)) <;> first
    | rfl
    | (show (_ == _) = _
       rw [Bool.eq_iff_iff]
       simp)
theorem RVs.inf {K : PySem.W.Frag} {m : List Addr} {H : Hp} {w : V} {e : D} (s : RV K m H w e) (c : e.flat = true) : ∀ {vs : List V} {ds : List D}, RVs K m H vs ds → ds.all D.flat = true → inV w vs = ds.contains e
  | _, _, .nil, _ => rfl
  | _, _, .cons (v := v) (vs := vs) (d := d) (ds := ds) r t, b => by
    rw [List.all_cons, Bool.and_eq_true] at b
    unfold inV
    rw [List.any_cons, r.eqf s b.1 c, List.contains_cons]
    have := RVs.inf s c t b.2
    unfold inV at this
    rw [this]
    congr 1
    rw [Bool.eq_iff_iff]
    simp
    exact eq_comm
def inC (neg : Bool) : Op2
  | .val d, q, h => (asQ q h).bind fun ds => if (d.flat && ds.all D.flat) = true then some (.val (.bl (if neg then !ds.contains d else ds.contains d)), h) else none
  | _, _, _ => none
def oIn : Op2 := inC false
def oNotIn : Op2 := inC true
theorem sim_in {w : World} {K : PySem.W.Frag} (neg : Bool) : SimR w K (rIn K neg) (inC neg) := by
  intro m h H x y dx dy d h' Q S rx ry e q
  unfold inC at e
  split at e
  · obtain ⟨ds, e1, e⟩ := bind_some' e
    obtain ⟨c, e⟩ := ite_some' e
    cases e
    rw [Bool.and_eq_true] at c
    obtain ⟨p, vs, rfl, hq, rv⟩ := asQ_ok S ry e1
    cases rx with
    | val rx =>
      refine ⟨p, vs, rfl, hq, rx.flat c.1, rv.flat c.2, ?_⟩
      rw [RVs.inf rx c.1 rv c.2]
      exact q m H _ (Le.refl _ _) S (.val (.bl _)) (nwV _ _ _)
  · cases e
theorem je_in (ha : JE X a fa) (hb : JE X b fb) (hm : behindInMarks .In b = false := by rfl) : JE X (.Compare a [.In] [b] pos) (mBin oIn fa fb) := je_cmp op_in_seq (sim_in false) ha hb hm
theorem je_notin (ha : JE X a fa) (hb : JE X b fb) (hm : behindInMarks .NotIn b = false := by rfl) : JE X (.Compare a [.NotIn] [b] pos) (mBin oNotIn fa fb) := je_cmp op_notIn_seq (sim_in true) ha hb hm

/-! ## comparisons as values and as tests -/
def CmpOk (X : Cx) (o : CmpOp) (op : Op2) (b : Expr) : Prop := ∃ r : R2, OpR X (compareOp o) r ∧ SimR X.w X.K r op ∧ behindInMarks o b = false
theorem je_c {o : CmpOp} {op : Op2} (c : CmpOk X o op b) (ha : JE X a fa) (hb : JE X b fb) : JE X (.Compare a [o] [b] pos) (mBin op fa fb) := by
  obtain ⟨r, h1, h2, h3⟩ := c
  exact je_cmp h1 h2 ha hb h3
theorem jt_c {o : CmpOp} {op : Op2} (c : CmpOk X o op b) (ha : JE X a fa) (hb : JE X b fb) : JT X (.Compare a [o] [b] pos) (mB (mBin op fa fb)) := by
  obtain ⟨r, h1, h2, h3⟩ := c
  refine pt_weak (pt_cmpR h1 ha hb h3) fun σ H Q ⟨m, τ, h, d, h', R, S, e, q⟩ => ?_
  obtain ⟨⟨x, h4⟩, e1, e⟩ := bind_some' e
  refine two h2 σ H _ ⟨m, τ, h, x, h4, R, S, e1, fun m1 H1 v L1 S1 r1 n1 => ?_⟩
  dsimp only at e
  split at e
  · cases e
    exact ⟨_, inv_bl r1, q m1 H1 L1 S1⟩
  · cases e
theorem c_eq (hr : Room k X.A) : CmpOk X .Eq oEq b := ⟨_, op_eq.or (op_eqD hr.units), sim_eq, nomark _⟩
theorem c_ne (hr : Room k X.A) : CmpOk X .NotEq oNe b := ⟨_, op_ne.or (op_neD hr.units), sim_ne, nomark _⟩
theorem c_lt : CmpOk X .Lt oLt b := ⟨_, op_lt, simII0 fun _ _ _ _ => .bl _, nomark _⟩
theorem c_le : CmpOk X .LtE oLe b := ⟨_, op_le, simII0 fun _ _ _ _ => .bl _, nomark _⟩
theorem c_gt : CmpOk X .Gt oGt b := ⟨_, op_gt, simII0 fun _ _ _ _ => .bl _, nomark _⟩
theorem c_ge : CmpOk X .GtE oGe b := ⟨_, op_ge, simII0 fun _ _ _ _ => .bl _, nomark _⟩
theorem sim_is {w : World} {K : PySem.W.Frag} : SimR w K (fun x y H Q => y = .non ∧ Q (.bl (decide (x = .non))) H) oIs := by
  intro m h H x y dx dy d h' Q S rx ry e q
  unfold oIs at e
  split at e
  · cases e
    refine ⟨inv_non ry, ?_⟩
    rw [isN_ok rx]
    exact q m H _ (Le.refl _ _) S (.val (.bl _)) (nwV _ _ _)
  · cases e
theorem sim_isnot {w : World} {K : PySem.W.Frag} : SimR w K (fun x y H Q => y = .non ∧ Q (.bl (!decide (x = .non))) H) oIsNot := by
  intro m h H x y dx dy d h' Q S rx ry e q
  unfold oIsNot at e
  split at e
  · cases e
    refine ⟨inv_non ry, ?_⟩
    rw [isN_ok rx]
    exact q m H _ (Le.refl _ _) S (.val (.bl _)) (nwV _ _ _)
  · cases e
theorem c_is : CmpOk X .Is oIs b := ⟨_, op_isN, sim_is, nomark _⟩
theorem c_isnot : CmpOk X .IsNot oIsNot b := ⟨_, op_notN, sim_isnot, nomark _⟩
theorem c_in (hm : behindInMarks .In b = false := by rfl) : CmpOk X .In oIn b := ⟨_, op_in_seq, sim_in false, hm⟩
theorem c_notin (hm : behindInMarks .NotIn b = false := by rfl) : CmpOk X .NotIn oNotIn b := ⟨_, op_notIn_seq, sim_in true, hm⟩

/-! ## x[i] -/
theorem RVs.atI {K : PySem.W.Frag} {m : List Addr} {H : Hp} {vs : List V} {ds : List D} (r : RVs K m H vs ds) {i : Int} {d : D} (e : L2.atI ds i = some d) : ∃ v, L2.atI vs i = some v ∧ RV K m H v d := by
  unfold L2.atI at e ⊢
  obtain ⟨j, e1, e⟩ := bind_some' e
  obtain ⟨v, e2, r2⟩ := r.get e
  rw [r.length, e1]
  exact ⟨v, e2, r2⟩
def oIx : Op2
  | .val (.str z), .val (.int i), h => if z.length ≤ 16777216 then (L2.atI z.cps.toList i).bind fun c => some (.val (.str ⟨#[c]⟩), h) else none
  | q, .val (.int i), h => (asQ q h).bind fun ds => (L2.atI ds i).bind fun d => some (.val d, h)
  | _, _, _ => none
theorem sim_ix {w : World} {K : PySem.W.Frag} : SimR w K (rIx K) oIx := by
  intro m h H x y dx dy d h' Q S rx ry e q
  unfold oIx at e
  split at e
  · obtain ⟨z, e⟩ := ite_some' e
    obtain ⟨c, e1, e⟩ := bind_some' e
    cases e
    exact .inr (.inr ⟨_, _, _, inv_str rx, inv_int ry, szL z, e1, q m H _ (Le.refl _ _) S (.val (.str _)) (nwV _ _ _)⟩)
  · obtain ⟨ds, e1, e⟩ := bind_some' e
    obtain ⟨d1, e2, e⟩ := bind_some' e
    cases e
    obtain ⟨p, vs, rfl, hq, rv⟩ := asQ_ok S rx e1
    obtain ⟨v, e3, r3⟩ := rv.atI e2
    rcases hq with hq | hq
    · exact .inl ⟨p, vs, _, v, rfl, inv_int ry, hq, e3, q m H _ (Le.refl _ _) S (.val r3) (nwV _ _ _)⟩
    · exact .inr (.inl ⟨p, vs, _, v, rfl, inv_int ry, hq, e3, q m H _ (Le.refl _ _) S (.val r3) (nwV _ _ _)⟩)
  · cases e
theorem je_at (ha : JE X a fa) (hb : JE X b fb) (hp : PlainIx b := by exact fun _ _ => rfl) : JE X (.Subscript a b pos) (mBin oIx fa fb) := je_ix ix_seq sim_ix ha hb hp
end
end Sm
namespace Sm
open PySem PySem.Spec PyProof.Rows L2

/-! ## slices -/
abbrev SO := AT → AH → Option (Option Int × AH)
def tO (w : World) (K : PySem.W.Frag) (f : SO) : TO := fun σ H Q => ∃ m τ h i h', RSt K m H σ τ ∧ Sim w K m h H ∧ f τ h = some (i, h') ∧ ∀ m' H', Le m H m' H' → Sim w K m' h' H' → Q i H'
def JO (X : Cx) (e : Option Expr) (f : SO) : Prop := PO X e (tO X.w X.K f)
theorem po_weak {X : Cx} {e : Option Expr} {t t' : TO} (h : PO X e t) (hw : ∀ σ H Q, t' σ H Q → t σ H Q) : PO X e t' := ⟨fun pins s σ H Q I q => h.run pins s σ H Q I (hw _ _ _ q)⟩
def mNoP : SO := fun _ h => some (none, h)
def mPart (fa : SE) : SO := fun τ h => (fa τ h).bind fun p => match p.1 with
  | .val (.int i) => some (some i, p.2)
  | _ => none
def cutA {α : Type} (xs : List α) (lo hi : Option Int) : List α := (xs.drop (HT.sIx xs.length 0 lo)).take (HT.sIx xs.length xs.length hi - HT.sIx xs.length 0 lo)
def oSl (q : LV) (lo hi : Option Int) (h : AH) : Option (LV × AH) := match q with
  | .val (.str z) => if z.length ≤ 16777216 then some (.val (.str (cutS z lo hi)), h) else none
  | .val (.tup ds) => some (.val (.tup (cutA ds lo hi)), h)
  | q => (asL q h).bind fun ds => if ds.length ≤ 16777216 then some (.new (cutA ds lo hi), h) else none
def mSl (fa : SE) (fl fu : SO) : SE := fun τ h => (fa τ h).bind fun p => (fl τ p.2).bind fun l => (fu τ l.2).bind fun u => oSl p.1 l.1 u.1 u.2
theorem cut_whole {α : Type} {xs : List α} {lo hi : Option Int} (h : HT.sIx xs.length 0 lo = 0 ∧ HT.sIx xs.length xs.length hi = xs.length) : cutA xs lo hi = xs := by
  unfold cutA
  rw [h.1, h.2]
  simp
theorem cut_len {α : Type} (xs : List α) (lo hi : Option Int) : (cutA xs lo hi).length ≤ xs.length := by
  unfold cutA
  rw [List.length_take, List.length_drop]
  omega
section
variable {X : Cx} {a b e : Expr} {es : List Expr} {fa fb fo : SE} {fr : SA} {lo hi : Option Expr} {fl fu : SO} {p p2 pos : Pos}
theorem jo_none : JO X none mNoP := po_weak po_none fun σ H Q ⟨m, τ, h, i, h', R, S, e, q⟩ => by
  cases e
  exact q m H (Le.refl m H) S
theorem jo_some (h : JE X e fa) : JO X (some e) (mPart fa) := by
  refine po_weak (po_some h) fun σ H Q ⟨m, τ, h, i, h', R, S, e, q⟩ => ?_
  obtain ⟨⟨x, h1⟩, e1, e⟩ := bind_some' e
  refine ⟨m, τ, h, x, h1, R, S, e1, fun m1 H1 v1 L1 S1 r1 _ => ?_⟩
  dsimp only at e
  split at e
  · cases e
    exact ⟨_, inv_int r1, q m1 H1 L1 S1⟩
  · cases e
def rSlF (K : PySem.W.Frag) : V → Option Int → Option Int → Hp → VK → Prop := fun x lo hi H Q => ∃ a xs, x = .ref a ∧ SqT K H a xs ∧
  ((HT.sIx xs.length 0 lo = 0 ∧ HT.sIx xs.length xs.length hi = xs.length) → Q (.ref a) H) ∧ (¬ (HT.sIx xs.length 0 lo = 0 ∧ HT.sIx xs.length xs.length hi = xs.length) → FzN H (cutV xs lo hi) Q)
theorem sl_tupF : SlR X (rSlF X.K) := by
  intro pins s σ H x v vl vu lo hi sl Q I rx hs pl pu h
  obtain ⟨a, xs, rfl, hx, q1, q2⟩ := h
  cases rx
  obtain ⟨us, r, ht, hz⟩ := I.tuple hx
  have hn : us.toArray.size = xs.length := by rw [List.size_toArray]; exact r.length.symm
  refine ⟨"tuple", _, PyProof.Rows.slot_tuple_getitem.lookup, ht.typeIs, ?_⟩
  by_cases hw : HT.sIx xs.length 0 lo = 0 ∧ HT.sIx xs.length xs.length hi = xs.length
  · exact getItem_tuple_whole ht hs pl pu (by rw [hn]; exact hw) ⟨.ref a, H, I, rfl, q1 hw⟩
  · refine HT.getItem_tuple_cut ht hs pl pu (by rw [hn]; exact hw) ?_ (by rw [hn]; exact hz)
    rw [hn]
    exact inv_newT I ((r.drop _).take _) (Nat.le_trans (cutV_length xs lo hi) hz) (q2 hw) rfl
theorem je_sl (ha : JE X a fa) (hl : JO X lo fl) (hu : JO X hi fu) : JE X (.Subscript a (.Slice lo hi none p2) pos) (mSl fa fl fu) := by
  refine pe_weak (pe_slice (sl_str.or (sl_tupF.or sl_list)) ha hl hu) fun σ H Q ⟨m, τ, h, d, h', R, S, e, q⟩ => ?_
  obtain ⟨⟨x, h1⟩, e1, e⟩ := bind_some' e
  obtain ⟨⟨l, h2⟩, e2, e⟩ := bind_some' e
  obtain ⟨⟨u, h3⟩, e3, e⟩ := bind_some' e
  refine ⟨m, τ, h, x, h1, R, S, e1, fun m1 H1 v1 L1 S1 r1 _ => ⟨m1, τ, h1, l, h2, R.mono S.cl L1.toLw, S1, e2, fun m2 H2 L2 S2 => ⟨m2, τ, h2, u, h3, (R.mono S.cl L1.toLw).mono S1.cl L2.toLw, S2, e3, fun m3 H3 L3 S3 => ?_⟩⟩⟩
  have r := (r1.mono S1.cl L2).mono S2.cl L3
  have L := L1.trans (L2.trans L3)
  dsimp only at e
  unfold oSl at e
  split at e
  · obtain ⟨z, e⟩ := ite_some' e
    cases e
    exact .inl ⟨_, inv_str r, szL z, q m3 H3 _ L S3 (.val (.str _)) (nwV _ _ _)⟩
  · cases e
    cases r with
    | val r =>
      cases r with
      | tup f r =>
        refine .inr (.inl ⟨_, _, rfl, f.sq, fun w => ?_, fun _ p o hp hc hd => ?_⟩)
        · rw [r.length] at w
          rw [cut_whole w] at q
          exact q m3 H3 _ L S3 (.val (.tup f r)) (nwV _ _ _)
        · refine q m3 _ _ (L.trans (Le.upd S3.cl hp _)) (S3.upd hp _) (.val (RV.tupN S3 hp hc hd ?_)) (nwV _ _ _)
          unfold cutA cutV
          rw [r.length]
          exact (r.drop _).take _
  · obtain ⟨ds, e4, e⟩ := bind_some' e
    obtain ⟨z, e⟩ := ite_some' e
    cases e
    obtain ⟨pp, vs, rfl, hq, rv⟩ := asL_ok S3 r e4
    refine .inr (.inr ⟨pp, vs, rfl, hq, fun p hp => ?_⟩)
    refine q m3 _ _ (L.trans (Le.upd S3.cl hp _)) (S3.upd hp _) (RQ.newN S3 hp ?_ (Nat.le_trans (cut_len _ _ _) z)) (fresh_back S3.cl L hp)
    unfold cutA cutV
    rw [rv.length]
    exact (rv.drop _).take _
/-- xs[::-1] -/
def oRev : Op1 := fun q h => (asL q h).bind fun ds => if ds.length ≤ 16777216 then some (.new ds.reverse, h) else none
theorem je_rev {k : Nat} {p1 p2 p3 : Pos} (ha : JE X a fa) : JE X (.Subscript a (.Slice none none (some (.UnaryOp .USub (.Constant (.int 1) k p1) p2)) p3) pos) (mUn oRev fa) := by
  refine pe_weak (pe_revL ha) fun σ H Q h => one (r := fun x H1 Q => ∃ a xs, x = .ref a ∧ SqL X.K H1 a xs ∧ ∀ p, H1 p = none → Q (.ref p) (upd H1 p (.lst xs.reverse))) (fun m h H x dx d h' Q S rx e q => ?_) σ H Q h
  unfold oRev at e
  obtain ⟨ds, e4, e⟩ := bind_some' e
  obtain ⟨z, e⟩ := ite_some' e
  cases e
  obtain ⟨pp, vs, rfl, hq, rv⟩ := asL_ok S rx e4
  exact ⟨pp, vs, rfl, hq, fun p hp => q m _ _ (Le.upd S.cl hp _) (S.upd hp _) (RQ.newN S hp rv.reverse (by rw [List.length_reverse]; exact z)) hp⟩

/-! ## built-in functions -/
def oLen : OpN
  | [.val (.str z)], h => if z.length ≤ 16777216 then some (.val (.int z.length), h) else none
  | [q], h => (asQ q h).bind fun ds => some (.val (.int ds.length), h)
  | _, _ => none
theorem inv1 {K : PySem.W.Frag} {m : List Addr} {H : Hp} {vs : List V} {q : LV} (r : RQs K m H vs [q]) : ∃ v, vs = [v] ∧ RQ K m H v q := by
  cases r with
  | cons r t => cases t; exact ⟨_, rfl, r⟩
theorem inv2 {K : PySem.W.Frag} {m : List Addr} {H : Hp} {vs : List V} {q q' : LV} (r : RQs K m H vs [q, q']) : ∃ v v', vs = [v, v'] ∧ RQ K m H v q ∧ RQ K m H v' q' := by
  cases r with
  | cons r t =>
    obtain ⟨v, rfl, r2⟩ := inv1 t
    exact ⟨_, _, rfl, r, r2⟩
theorem sim_len {w : World} {K : PySem.W.Frag} : SimN w K (fun xs H Q => ∃ x n, xs = [x] ∧ LenV K x H n ∧ Q (.int n) H) oLen := by
  intro m h H xs dxs d h' Q S r e q
  unfold oLen at e
  split at e
  · obtain ⟨z, e⟩ := ite_some' e
    cases e
    obtain ⟨v, rfl, r1⟩ := inv1 r
    rw [inv_str r1]
    exact ⟨_, _, rfl, ⟨szL z, rfl⟩, q m H _ (Le.refl _ _) S (.val (.int _)) (nwV _ _ _)⟩
  · obtain ⟨ds, e1, e⟩ := bind_some' e
    cases e
    obtain ⟨v, rfl, r1⟩ := inv1 r
    obtain ⟨p, vs, rfl, hq, rv⟩ := asQ_ok S r1 e1
    refine ⟨_, vs.length, rfl, ?_, by rw [rv.length]; exact q m H _ (Le.refl _ _) S (.val (.int _)) (nwV _ _ _)⟩
    rcases hq with hq | hq
    · exact .inl ⟨vs, hq, rfl⟩
    · exact .inr ⟨vs, hq, rfl⟩
  · cases e
theorem je_len (hg : Gl X "len") (hm : X.mg "len" = none) (ha : JA X (a :: es) fr) (he : starEach (a :: es) X.env = (false, eval a X.env) :: starEach es X.env := by rfl) (hpl : (backTo pos (starEach es X.env)).any (·.1) = false := by rfl) : JE X (.Call (.Name "len" p) (a :: es) [] pos) (mFn oLen fr) :=
  je_fnB call_len sim_len hg hm PySem.boot_len ha (by decide) (by decide) he hpl
def oInt : OpN
  | [.val (.int i)], h => some (.val (.int i), h)
  | [.val (.bl b)], h => some (.val (.int (if b then 1 else 0)), h)
  | _, _ => none
theorem sim_int {w : World} {K : PySem.W.Frag} : SimN w K (fun xs H Q => (∃ i, xs = [.int i] ∧ Q (.int i) H) ∨ ∃ k, xs = [.bl k] ∧ Q (.int (if k then 1 else 0)) H) oInt := by
  intro m h H xs dxs d h' Q S r e q
  unfold oInt at e
  split at e
  · cases e
    obtain ⟨v, rfl, r1⟩ := inv1 r
    rw [inv_int r1]
    exact .inl ⟨_, rfl, q m H _ (Le.refl _ _) S (.val (.int _)) (nwV _ _ _)⟩
  · cases e
    obtain ⟨v, rfl, r1⟩ := inv1 r
    rw [inv_bl r1]
    exact .inr ⟨_, rfl, q m H _ (Le.refl _ _) S (.val (.int _)) (nwV _ _ _)⟩
  · cases e
theorem je_intc (hg : Gl X "int") (hm : X.mg "int" = none) (ha : JA X (a :: es) fr) (he : starEach (a :: es) X.env = (false, eval a X.env) :: starEach es X.env := by rfl) (hpl : (backTo pos (starEach es X.env)).any (·.1) = false := by rfl) : JE X (.Call (.Name "int" p) (a :: es) [] pos) (mFn oInt fr) :=
  je_fnT call_int1 sim_int hg hm PyProof.Rows.boot_int ha (by decide) (by decide) he hpl
/-- tuple(x) -/
theorem call_tupF : CallR X (.type "tuple") (fun xs H Q => ∃ p ys, xs = [.ref p] ∧ ((SqL X.K H p ys ∧ FzN H ys Q) ∨ (SqT X.K H p ys ∧ Q (.ref p) H))) := by
  intro pins s σ H xs us Q I r h
  obtain ⟨p, ys, rfl, h⟩ := h
  obtain ⟨u, rfl, rx⟩ := vals1 r
  cases rx
  rcases h with ⟨hq, q⟩ | ⟨hq, q⟩
  · obtain ⟨ws, rw', pl, hz⟩ := I.list hq
    have hlen := rw'.length
    refine call_tuple_list pl.isList (fun h' kp => ?_) (by rw [List.size_toArray]; omega)
    exact inv_newT (I.kept (t' := s.toks) kp) rw' hz q rfl
  · obtain ⟨ws, rw', pl, hz⟩ := I.tuple hq
    exact call_tuple_same pl ⟨.ref p, H, I, rfl, q⟩
def oTuple : OpN
  | [.val (.tup ds)], h => some (.val (.tup ds), h)
  | [q], h => (asL q h).bind fun ds => some (.val (.tup ds), h)
  | _, _ => none
theorem sim_tuple {w : World} {K : PySem.W.Frag} : SimN w K (fun xs H Q => ∃ p ys, xs = [.ref p] ∧ ((SqL K H p ys ∧ FzN H ys Q) ∨ (SqT K H p ys ∧ Q (.ref p) H))) oTuple := by
  intro m h H xs dxs d h' Q S r e q
  unfold oTuple at e
  split at e
  · cases e
    obtain ⟨v, rfl, r1⟩ := inv1 r
    cases r1 with
    | val r2 =>
      cases r2 with
      | tup f r => exact ⟨_, _, rfl, .inr ⟨f.sq, q m H _ (Le.refl _ _) S (.val (.tup f r)) (nwV _ _ _)⟩⟩
  · obtain ⟨ds, e1, e⟩ := bind_some' e
    cases e
    obtain ⟨v, rfl, r1⟩ := inv1 r
    obtain ⟨p, vs, rfl, hq, rv⟩ := asL_ok S r1 e1
    exact ⟨_, _, rfl, .inl ⟨hq, fun p o hp hc hd => q m _ _ (Le.upd S.cl hp _) (S.upd hp _) (.val (RV.tupN S hp hc hd rv)) (nwV _ _ _)⟩⟩
  · cases e
theorem je_tuple (hg : Gl X "tuple") (hm : X.mg "tuple" = none) (ha : JA X (a :: es) fr) (he : starEach (a :: es) X.env = (false, eval a X.env) :: starEach es X.env := by rfl) (hpl : (backTo pos (starEach es X.env)).any (·.1) = false := by rfl) : JE X (.Call (.Name "tuple" p) (a :: es) [] pos) (mFn oTuple fr) :=
  je_fnT call_tupF sim_tuple hg hm PyProof.Rows.boot_tuple ha (by decide) (by decide) he hpl
/-- list(x) -/
def oList : OpN
  | [q], h => (asQ q h).bind fun ds => if ds.length ≤ 16777216 then some (.new ds, h) else none
  | _, _ => none
theorem sim_list {w : World} {K : PySem.W.Frag} : SimN w K (fun xs H Q => ∃ p ys, xs = [.ref p] ∧ (SqL K H p ys ∨ SqT K H p ys) ∧ ∀ l, H l = none → Q (.ref l) (upd H l (.lst ys))) oList := by
  intro m h H xs dxs d h' Q S r e q
  unfold oList at e
  split at e
  · obtain ⟨ds, e1, e⟩ := bind_some' e
    obtain ⟨z, e⟩ := ite_some' e
    cases e
    obtain ⟨v, rfl, r1⟩ := inv1 r
    obtain ⟨p, vs, rfl, hq, rv⟩ := asQ_ok S r1 e1
    exact ⟨_, _, rfl, hq, fun l hl => q m _ _ (Le.upd S.cl hl _) (S.upd hl _) (RQ.newN S hl rv z) hl⟩
  · cases e
theorem je_list (hg : Gl X "list") (hm : X.mg "list" = none) (ha : JA X (a :: es) fr) (he : starEach (a :: es) X.env = (false, eval a X.env) :: starEach es X.env := by rfl) (hpl : (backTo pos (starEach es X.env)).any (·.1) = false := by rfl) : JE X (.Call (.Name "list" p) (a :: es) [] pos) (mFn oList fr) :=
  je_fnT call_list_of sim_list hg hm PyProof.Rows.boot_list ha (by decide) (by decide) he hpl
/-! tuple(range(..)) -/
def rgA (f : SA) : AT → AH → Option (Int × Int × AH) := fun τ h => (f τ h).bind fun p => match p.1 with
  | [.val (.int n)] => some (0, n, p.2)
  | [.val (.int i), .val (.int j)] => some (i, j, p.2)
  | _ => none
def rgOkB (a b : Int) : Bool := decide (a.natAbs < 4611686018427387904) && decide (b.natAbs < 4611686018427387904) && decide ((b - a).toNat ≤ 16777216)
def mTupRg (f : SA) : SE := fun τ h => (rgA f τ h).bind fun p => if rgOkB p.1 p.2.1 = true then some (.val (.tup (rngD p.1 (p.2.1 - p.1).toNat)), p.2.2) else none
def mLstRg (f : SA) : SE := fun τ h => (rgA f τ h).bind fun p => if rgOkB p.1 p.2.1 = true then some (.new (rngD p.1 (p.2.1 - p.1).toNat), p.2.2) else none
theorem rgOk_of {a b : Int} (h : rgOkB a b = true) : RgOk a b := by
  unfold rgOkB at h
  rw [Bool.and_eq_true, Bool.and_eq_true] at h
  obtain ⟨⟨h1, h2⟩, h5⟩ := h
  have z := of_decide_eq_true h5
  have z1 := of_decide_eq_true h1
  have z2 := of_decide_eq_true h2
  exact ⟨by rw [two62]; omega, by rw [two62]; omega, by rw [two62]; omega, by rw [two62]; omega, by simpa using z⟩
theorem rv_rg {K : PySem.W.Frag} {m : List Addr} {H : Hp} (a b : Int) : RVs K m H (rgV a b) (rngD a (b - a).toNat) := by
  unfold rgV rngD
  generalize List.range (b - a).toNat = l
  induction l with
  | nil => exact .nil
  | cons x r ih => exact .cons (.int _) ih
theorem pe_tupRgF {te : L2.St → Hp → (Int → Int → Hp → Prop) → Prop} (hc : X.calm = true) (hg : Gl X "tuple") (hm : X.mg "tuple" = none) (he : PRg X e te) (na : starEach [e] X.env = (false, eval e X.env) :: starEach [] X.env) :
    PE X (.Call (.Name "tuple" p) [e] [] pos) (fun σ H Q => te σ H fun a b H1 => RgOk a b ∧ FzN H1 (rgV a b) Q) := by
  refine ⟨fun pins s σ H Q I h => ?_⟩
  refine Call_ (ld_blt I hg hm boot_tuple (PyProof.Rows.callWith_type1 (args_cons (thn (he pins s σ H _ I h) fun x s1 hx => args_nil ?_) na) na))
  obtain ⟨r, a, b, t, u, v, H1, rfl, hr, I1, ok, q⟩ := hx
  obtain ⟨b1, b2, b3, b4, b5⟩ := ok
  refine call_tuple_range (n := (b - a).toNat) (I1.ok.hd hc) hr (small_one b1 b2 b3 b4) (rangeSize_nat a b) b5 fun h' tk acc hk hi => ?_
  exact inv_newT (I1.kept (h' := h') (t' := tk) hk) (vals_rg hi) (by rw [rgV_length, sizeLine_eq]; simpa using b5) q (by simp)
theorem rg1_sem {w : World} {K : PySem.W.Frag} {Q : Int → Int → Hp → Prop} {σ : L2.St} {H : Hp} (h : ∃ m τ h i j h', RSt K m H σ τ ∧ Sim w K m h H ∧ rgA (mCons fa mNil) τ h = some (i, j, h') ∧ ∀ m' H', Le m H m' H' → Sim w K m' h' H' → Q i j H') : tRg1 (tE w K fa) σ H Q := by
  obtain ⟨m, τ, h, i, j, h', R, S, e, q⟩ := h
  obtain ⟨⟨xs, h1⟩, e1, e⟩ := bind_some' e
  obtain ⟨⟨x, h2⟩, e2, e1⟩ := bind_some' e1
  cases e1
  refine ⟨m, τ, h, x, _, R, S, e2, fun m1 H1 v1 L1 S1 r1 _ => ?_⟩
  dsimp only at e
  split at e
  · rename_i hh
    cases hh
    cases e
    exact ⟨_, inv_int r1, q m1 H1 L1 S1⟩
  · rename_i hh
    cases hh
  · cases e
theorem rg2_sem {w : World} {K : PySem.W.Frag} {Q : Int → Int → Hp → Prop} {σ : L2.St} {H : Hp} (h : ∃ m τ h i j h', RSt K m H σ τ ∧ Sim w K m h H ∧ rgA (mCons fa (mCons fb mNil)) τ h = some (i, j, h') ∧ ∀ m' H', Le m H m' H' → Sim w K m' h' H' → Q i j H') : tRg2 (tE w K fa) (tE w K fb) σ H Q := by
  obtain ⟨m, τ, h, i, j, h', R, S, e, q⟩ := h
  obtain ⟨⟨xs, h1⟩, e1, e⟩ := bind_some' e
  obtain ⟨⟨x, h2⟩, e2, e1⟩ := bind_some' e1
  obtain ⟨⟨ys, h3⟩, e3, e1⟩ := bind_some' e1
  obtain ⟨⟨y, h4⟩, e4, e3⟩ := bind_some' e3
  cases e3
  cases e1
  refine ⟨m, τ, h, x, _, R, S, e2, fun m1 H1 v1 L1 S1 r1 _ => ⟨m1, τ, _, y, _, R.mono S.cl L1.toLw, S1, e4, fun m2 H2 v2 L2 S2 r2 _ => ?_⟩⟩
  dsimp only at e
  split at e
  · rename_i hh
    cases hh
  · rename_i hh
    cases hh
    cases e
    have w := r1.mono S1.cl L2
    exact ⟨_, _, inv_int w, inv_int r2, q m2 H2 (L1.trans L2) S2⟩
  · cases e
theorem je_tupRg1 {p1 q1 : Pos} (hc : X.calm = true) (hg : Gl X "tuple") (hm : X.mg "tuple" = none) (hg2 : Gl X "range") (hm2 : X.mg "range" = none) (ha : JE X a fa) (na : starEach [a] X.env = (false, eval a X.env) :: starEach [] X.env := by rfl)
    (nb : starEach [.Call (.Name "range" p1) [a] [] q1] X.env = (false, eval (.Call (.Name "range" p1) [a] [] q1) X.env) :: starEach [] X.env := by rfl) : JE X (.Call (.Name "tuple" p) [.Call (.Name "range" p1) [a] [] q1] [] pos) (mTupRg (mCons fa mNil)) := by
  refine pe_weak (pe_tupRgF hc hg hm (prg_1 hg2 hm2 ha na) nb) fun σ H Q ⟨m, τ, h, d, h', R, S, e, q⟩ => rg1_sem ?_
  obtain ⟨⟨i, j, h1⟩, e1, e⟩ := bind_some' e
  obtain ⟨c, e⟩ := ite_some' e
  cases e
  exact ⟨m, τ, h, i, j, h1, R, S, e1, fun m1 H1 L1 S1 => ⟨rgOk_of c, fun p o hp hc hd => q m1 _ _ (L1.trans (Le.upd S1.cl hp _)) (S1.upd hp _) (.val (RV.tupN S1 hp hc hd (rv_rg i j))) (nwV _ _ _)⟩⟩
theorem je_tupRg2 {p1 q1 : Pos} (hc : X.calm = true) (hg : Gl X "tuple") (hm : X.mg "tuple" = none) (hg2 : Gl X "range") (hm2 : X.mg "range" = none) (ha : JE X a fa) (hb : JE X b fb) (na : starEach [a, b] X.env = (false, eval a X.env) :: starEach [b] X.env := by rfl)
    (nb2 : starEach [b] X.env = (false, eval b X.env) :: starEach [] X.env := by rfl) (hp : (backTo q1 (starEach [b] X.env)).any (·.1) = false := by rfl)
    (nb : starEach [.Call (.Name "range" p1) [a, b] [] q1] X.env = (false, eval (.Call (.Name "range" p1) [a, b] [] q1) X.env) :: starEach [] X.env := by rfl) : JE X (.Call (.Name "tuple" p) [.Call (.Name "range" p1) [a, b] [] q1] [] pos) (mTupRg (mCons fa (mCons fb mNil))) := by
  refine pe_weak (pe_tupRgF hc hg hm (prg_2 hg2 hm2 ha hb na nb2 hp) nb) fun σ H Q ⟨m, τ, h, d, h', R, S, e, q⟩ => rg2_sem ?_
  obtain ⟨⟨i, j, h1⟩, e1, e⟩ := bind_some' e
  obtain ⟨c, e⟩ := ite_some' e
  cases e
  exact ⟨m, τ, h, i, j, h1, R, S, e1, fun m1 H1 L1 S1 => ⟨rgOk_of c, fun p o hp hc hd => q m1 _ _ (L1.trans (Le.upd S1.cl hp _)) (S1.upd hp _) (.val (RV.tupN S1 hp hc hd (rv_rg i j))) (nwV _ _ _)⟩⟩
end
end Sm
namespace Sm
open PySem PySem.Spec PyProof.Rows L2
section
variable {X : Cx} {a b e o : Expr} {es : List Expr} {fa fb fo : SE} {fr : SA} {p pos : Pos}
/-! ## isinstance(x, T), T a built-in class -/
theorem je_ty {x : Str} {n : String} (hg : Gl X x) (hm : X.mg x = none) (hv : bootBuiltins x = some (.type n)) (hn : x ≠ "__name__" := by decide) (hd : (x == ("__debug__" : Str)) = false := by decide) : JE X (.Name x pos) (mC (.ty n)) :=
  je_const (v := .ty n) (pe_bltn hg hm hv rfl hn hd) fun _ _ => .ty n
def isList (h : AH) (a : Nat) : Bool := match h[a]? with
  | some (.lst _) => true
  | _ => false
def tyN : LV → AH → Option String
  | .new _, _ => some "list"
  | .val .non, _ => some "NoneType"
  | .val (.bl _), _ => some "bool"
  | .val (.int _), _ => some "int"
  | .val (.str _), _ => some "str"
  | .val (.tup _), _ => some "tuple"
  | .val (.zt _), _ => some "tuple"
  | .val (.ref a), h => match h[a]? with
    | some (.lst _) => some "list"
    | some (.dic _) => some "dict"
    | some (.ndc _) => none
    | none => none
  | _, _ => none
def tys : List String := ["list", "NoneType", "bool", "int", "str", "tuple", "dict"]
def isTyB (a b : String) : Bool := a == b || (a == "bool" && b == "int")
theorem kit_tab : (tys.all fun a => tys.all fun b => kitB a b == some (isTyB a b)) = true := by decide +kernel
theorem tyN_mem {q : LV} {h : AH} {n : String} (e : tyN q h = some n) : n ∈ tys := by
  unfold tyN at e
  split at e <;> first | (cases e; decide) | cases e | skip
  · split at e <;> first | (cases e; decide) | cases e
theorem tyN_ok {w : World} {K : PySem.W.Frag} {m : List Addr} {h : AH} {H : Hp} {v : V} {q : LV} {n : String} (S : Sim w K m h H) (r : RQ K m H v q) (e : tyN q h = some n) : TyX K H v (.type n) := by
  cases r with
  | new hn e1 r z => cases e; exact .base (.lst e1)
  | val r =>
    cases r with
    | non => cases e; exact .base .non
    | bl b => cases e; exact .base (.bl b)
    | int i => cases e; exact .base (.int i)
    | str x => cases e; exact .base (.str x)
    | tup f r =>
      cases e
      rcases f with ⟨ob, e1, _, _⟩ | ⟨ob, _, _, e1, e2, _⟩
      · exact .fTuple e1
      · exact .kTuple e1 e2
    | zt f r =>
      cases e
      rcases f with (e1 | ⟨ob, e1⟩) | ⟨ob, _, _, e1, e2, _⟩
      · exact .base (.tup e1)
      · exact .fTuple e1
      · exact .kTuple e1 e2
    | fl f r => cases e
    | ty n => cases e
    | ref e1 =>
      unfold tyN at e
      dsimp only at e
      split at e
      · rename_i hh
        cases e
        obtain ⟨vs, e2, _⟩ := S.lst e1 hh
        exact .base (.lst e2)
      · rename_i hh
        cases e
        obtain ⟨vs, e2, _⟩ := S.ob _ _ _ e1 hh
        exact .base (.dK e2)
      · cases e
      · cases e
def oIsi : OpN
  | [q, .val (.ty T)], h => (tyN q h).bind fun n => if tys.contains T = true then some (.val (.bl (isTyB n T)), h) else none
  | _, _ => none
theorem sim_isi {w : World} {K : PySem.W.Frag} : SimN w K (rIsi K) oIsi := by
  intro m h H xs dxs d h' Q S r e q
  unfold oIsi at e
  split at e
  · obtain ⟨n, e1, e⟩ := bind_some' e
    obtain ⟨c, e⟩ := ite_some' e
    cases e
    obtain ⟨v, v', rfl, r1, r2⟩ := inv2 r
    cases r2 with
    | val r2 =>
      cases r2
      refine ⟨v, _, _, _, _, rfl, .ty _, tyN_ok S r1 e1, ?_, q m H _ (Le.refl _ _) S (.val (.bl _)) (nwV _ _ _)⟩
      have w := List.all_eq_true.mp (List.all_eq_true.mp kit_tab n (tyN_mem e1)) _ (List.contains_iff_mem.mp c)
      exact kit_ty (eq_of_beq w)
  · cases e
theorem je_isi (hg : Gl X "isinstance") (hm : X.mg "isinstance" = none) (ha : JA X (a :: es) fr) (he : starEach (a :: es) X.env = (false, eval a X.env) :: starEach es X.env := by rfl) (hpl : (backTo pos (starEach es X.env)).any (·.1) = false := by rfl) : JE X (.Call (.Name "isinstance" p) (a :: es) [] pos) (mFn oIsi fr) :=
  je_fnB call_isi sim_isi hg hm PyProof.Rows.boot_isinstance ha (by decide) (by decide) he hpl

/-! ## max, min, any, all, abs, sum -/
def intsD : List D → Option (List Int)
  | [] => some []
  | .int i :: r => (intsD r).bind fun s => some (i :: s)
  | _ => none
theorem intsD_map : ∀ {ds : List D} {ns : List Int}, intsD ds = some ns → ds = ns.map D.int
  | [], _, h => by cases h; rfl
  | .int i :: r, _, h => by
    obtain ⟨s, e, h⟩ := bind_some' h
    cases h
    rw [intsD_map e]
    rfl
def bls : List D → Option (List Bool)
  | [] => some []
  | .bl i :: r => (bls r).bind fun s => some (i :: s)
  | _ => none
theorem bls_map : ∀ {ds : List D} {ns : List Bool}, bls ds = some ns → ds = ns.map D.bl
  | [], _, h => by cases h; rfl
  | .bl i :: r, _, h => by
    obtain ⟨s, e, h⟩ := bind_some' h
    cases h
    rw [bls_map e]
    rfl
def imax (i j : Int) : Int := if j > i then j else i
def imin (i j : Int) : Int := if j < i then j else i
def maxL : List Int → Int
  | [] => 0
  | [x] => x
  | x :: r => imax x (maxL r)
def minL : List Int → Int
  | [] => 0
  | [x] => x
  | x :: r => imin x (minL r)
theorem maxL_mem : ∀ {ns : List Int}, 0 < ns.length → maxL ns ∈ ns ∧ ∀ y ∈ ns, y ≤ maxL ns
  | [], h => absurd h (by decide)
  | [x], _ => by simp [maxL]
  | x :: y :: r, _ => by
    obtain ⟨h1, h2⟩ := maxL_mem (ns := y :: r) (by simp)
    show imax x (maxL (y :: r)) ∈ _ ∧ ∀ z ∈ x :: y :: r, z ≤ imax x (maxL (y :: r))
    unfold imax
    split
    · exact ⟨List.mem_cons_of_mem _ h1, fun z hz => by
        rcases List.mem_cons.mp hz with e | e
        · omega
        · exact h2 z e⟩
    · exact ⟨List.mem_cons_self, fun z hz => by
        rcases List.mem_cons.mp hz with e | e
        · omega
        · have := h2 z e; omega⟩
theorem minL_mem : ∀ {ns : List Int}, 0 < ns.length → minL ns ∈ ns ∧ ∀ y ∈ ns, minL ns ≤ y
  | [], h => absurd h (by decide)
  | [x], _ => by simp [minL]
  | x :: y :: r, _ => by
    obtain ⟨h1, h2⟩ := minL_mem (ns := y :: r) (by simp)
    show imin x (minL (y :: r)) ∈ _ ∧ ∀ z ∈ x :: y :: r, imin x (minL (y :: r)) ≤ z
    unfold imin
    split
    · exact ⟨List.mem_cons_of_mem _ h1, fun z hz => by
        rcases List.mem_cons.mp hz with e | e
        · omega
        · exact h2 z e⟩
    · exact ⟨List.mem_cons_self, fun z hz => by
        rcases List.mem_cons.mp hz with e | e
        · omega
        · have := h2 z e; omega⟩
def oMax : OpN
  | [.val (.int i), .val (.int j)], h => some (.val (.int (imax i j)), h)
  | [q], h => (asL q h).bind fun ds => (intsD ds).bind fun ns => if 0 < ns.length then some (.val (.int (maxL ns)), h) else none
  | _, _ => none
def oMin : OpN
  | [.val (.int i), .val (.int j)], h => some (.val (.int (imin i j)), h)
  | [q], h => (asL q h).bind fun ds => (intsD ds).bind fun ns => if 0 < ns.length then some (.val (.int (minL ns)), h) else none
  | _, _ => none
theorem sim_max {w : World} {K : PySem.W.Frag} : SimN w K (fun xs H Q => (∃ i j, xs = [.int i, .int j] ∧ Q (.int (if j > i then j else i)) H) ∨ rMax K xs H Q) oMax := by
  intro m h H xs dxs d h' Q S r e q
  unfold oMax at e
  split at e
  · cases e
    obtain ⟨v, v', rfl, r1, r2⟩ := inv2 r
    rw [inv_int r1, inv_int r2]
    exact .inl ⟨_, _, rfl, q m H _ (Le.refl _ _) S (.val (.int _)) (nwV _ _ _)⟩
  · obtain ⟨ds, e1, e⟩ := bind_some' e
    obtain ⟨ns, e2, e⟩ := bind_some' e
    obtain ⟨c, e⟩ := ite_some' e
    cases e
    obtain ⟨v, rfl, r1⟩ := inv1 r
    obtain ⟨pp, vs, rfl, hq, rv⟩ := asL_ok S r1 e1
    rw [intsD_map e2] at rv
    have e3 := rv.ints
    subst e3
    refine .inr ⟨pp, ns, rfl, hq, c, fun mx h1 h2 => ?_⟩
    obtain ⟨g1, g2⟩ := maxL_mem c
    have : mx = maxL ns := by
      have := h2 _ g1
      have := g2 _ h1
      omega
    subst this
    exact q m H _ (Le.refl _ _) S (.val (.int _)) (nwV _ _ _)
  · cases e
theorem sim_min {w : World} {K : PySem.W.Frag} : SimN w K (fun xs H Q => (∃ i j, xs = [.int i, .int j] ∧ Q (.int (if j < i then j else i)) H) ∨ rMin K xs H Q) oMin := by
  intro m h H xs dxs d h' Q S r e q
  unfold oMin at e
  split at e
  · cases e
    obtain ⟨v, v', rfl, r1, r2⟩ := inv2 r
    rw [inv_int r1, inv_int r2]
    exact .inl ⟨_, _, rfl, q m H _ (Le.refl _ _) S (.val (.int _)) (nwV _ _ _)⟩
  · obtain ⟨ds, e1, e⟩ := bind_some' e
    obtain ⟨ns, e2, e⟩ := bind_some' e
    obtain ⟨c, e⟩ := ite_some' e
    cases e
    obtain ⟨v, rfl, r1⟩ := inv1 r
    obtain ⟨pp, vs, rfl, hq, rv⟩ := asL_ok S r1 e1
    rw [intsD_map e2] at rv
    have e3 := rv.ints
    subst e3
    refine .inr ⟨pp, ns, rfl, hq, c, fun mx h1 h2 => ?_⟩
    obtain ⟨g1, g2⟩ := minL_mem c
    have : mx = minL ns := by
      have := h2 _ g1
      have := g2 _ h1
      omega
    subst this
    exact q m H _ (Le.refl _ _) S (.val (.int _)) (nwV _ _ _)
  · cases e
theorem je_max (hc : X.calm = true) (hg : Gl X "max") (hm : X.mg "max" = none) (ha : JA X (a :: es) fr) (he : starEach (a :: es) X.env = (false, eval a X.env) :: starEach es X.env := by rfl) (hpl : (backTo pos (starEach es X.env)).any (·.1) = false := by rfl) : JE X (.Call (.Name "max" p) (a :: es) [] pos) (mFn oMax fr) :=
  je_fnB ((call_max2 hc).or (cr_max hc)) sim_max hg hm (by decide +kernel) ha (by decide) (by decide) he hpl
theorem je_min (hc : X.calm = true) (hg : Gl X "min") (hm : X.mg "min" = none) (ha : JA X (a :: es) fr) (he : starEach (a :: es) X.env = (false, eval a X.env) :: starEach es X.env := by rfl) (hpl : (backTo pos (starEach es X.env)).any (·.1) = false := by rfl) : JE X (.Call (.Name "min" p) (a :: es) [] pos) (mFn oMin fr) :=
  je_fnB ((call_min2 hc).or (cr_min hc)) sim_min hg hm (by decide +kernel) ha (by decide) (by decide) he hpl
def oAny : OpN
  | [q], h => (asL q h).bind fun ds => (bls ds).bind fun bs => some (.val (.bl (bs.any id)), h)
  | _, _ => none
def oAll : OpN
  | [q], h => (asL q h).bind fun ds => (bls ds).bind fun bs => some (.val (.bl (bs.all id)), h)
  | _, _ => none
theorem sim_any {w : World} {K : PySem.W.Frag} : SimN w K (rAny K) oAny := by
  intro m h H xs dxs d h' Q S r e q
  unfold oAny at e
  split at e
  · obtain ⟨ds, e1, e⟩ := bind_some' e
    obtain ⟨ns, e2, e⟩ := bind_some' e
    cases e
    obtain ⟨v, rfl, r1⟩ := inv1 r
    obtain ⟨pp, vs, rfl, hq, rv⟩ := asL_ok S r1 e1
    rw [bls_map e2] at rv
    have e3 := rv.bls
    subst e3
    exact ⟨pp, ns, rfl, hq, q m H _ (Le.refl _ _) S (.val (.bl _)) (nwV _ _ _)⟩
  · cases e
theorem sim_all {w : World} {K : PySem.W.Frag} : SimN w K (rAll K) oAll := by
  intro m h H xs dxs d h' Q S r e q
  unfold oAll at e
  split at e
  · obtain ⟨ds, e1, e⟩ := bind_some' e
    obtain ⟨ns, e2, e⟩ := bind_some' e
    cases e
    obtain ⟨v, rfl, r1⟩ := inv1 r
    obtain ⟨pp, vs, rfl, hq, rv⟩ := asL_ok S r1 e1
    rw [bls_map e2] at rv
    have e3 := rv.bls
    subst e3
    exact ⟨pp, ns, rfl, hq, q m H _ (Le.refl _ _) S (.val (.bl _)) (nwV _ _ _)⟩
  · cases e
theorem je_any (hc : X.calm = true) (hg : Gl X "any") (hm : X.mg "any" = none) (ha : JA X (a :: es) fr) (he : starEach (a :: es) X.env = (false, eval a X.env) :: starEach es X.env := by rfl) (hpl : (backTo pos (starEach es X.env)).any (·.1) = false := by rfl) : JE X (.Call (.Name "any" p) (a :: es) [] pos) (mFn oAny fr) :=
  je_fnB (cr_any hc) sim_any hg hm (by decide +kernel) ha (by decide) (by decide) he hpl
theorem je_all (hc : X.calm = true) (hg : Gl X "all") (hm : X.mg "all" = none) (ha : JA X (a :: es) fr) (he : starEach (a :: es) X.env = (false, eval a X.env) :: starEach es X.env := by rfl) (hpl : (backTo pos (starEach es X.env)).any (·.1) = false := by rfl) : JE X (.Call (.Name "all" p) (a :: es) [] pos) (mFn oAll fr) :=
  je_fnB (cr_all hc) sim_all hg hm (by decide +kernel) ha (by decide) (by decide) he hpl

/-! ## methods of lists and tuples -/
def mMeth (chk : LV → AH → Bool) (op : Op2) (fo fa : SE) : SE := fun τ h => (fo τ h).bind fun p => if chk p.1 p.2 = true then (fa τ p.2).bind fun q => op p.1 q.1 q.2 else none
def isLs (q : LV) (h : AH) : Bool := (asL q h).isSome
theorem meth_sem {K : PySem.W.Frag} {T : String} {chk : LV → AH → Bool} {op : Op2} {r : V → List V → Hp → VK → Prop}
    (hc : ∀ m h H v q, Sim w K m h H → RQ K m H v q → chk q h = true → tyV K T v H)
    (hs : SimR w K (fun x y H Q => r x [y] H Q) op) (σ : L2.St) (H : Hp) (Q : VK) (h : tE w K (mMeth chk op fo fa) σ H Q) : tBM K T r (tE w K fo) (tA w K (mCons fa mNil)) σ H Q := by
  obtain ⟨m, τ, h, d, h', R, S, e, q⟩ := h
  obtain ⟨⟨x, h1⟩, e1, e⟩ := bind_some' e
  obtain ⟨c, e⟩ := ite_some' e
  obtain ⟨⟨y, h2⟩, e2, e⟩ := bind_some' e
  refine ⟨m, τ, h, x, h1, R, S, e1, fun m1 H1 v1 L1 S1 r1 _ => ⟨hc _ _ _ _ _ S1 r1 c, m1, τ, h1, [y], h2, R.mono S.cl L1.toLw, S1, ?_, fun m2 H2 v2 L2 S2 r2 => ?_⟩⟩
  · unfold mCons mNil
    dsimp only at e2 ⊢
    rw [e2]
    rfl
  · obtain ⟨w, rfl, r3⟩ := inv1 r2
    exact hs m2 h2 H2 v1 w x y d h' Q S2 (r1.mono S1.cl L2) r3 e fun m' H' v L' S' r' n' => q m' H' v (L1.trans (L2.trans L')) S' r' (n'.back S2.cl (L1.trans L2))
theorem isLs_ok {w : World} {K : PySem.W.Frag} {m : List Addr} {h : AH} {H : Hp} {v : V} {q : LV} (S : Sim w K m h H) (r : RQ K m H v q) (c : isLs q h = true) : tyV K "list" v H := by
  obtain ⟨ds, e⟩ := Option.isSome_iff_exists.mp c
  obtain ⟨pp, vs, rfl, hq, rv⟩ := asL_ok S r e
  exact .inl ⟨rfl, vs, hq⟩
def oApp : Op2
  | .val (.ref a), .val d, h => match h[a]? with
    | some (.lst ds) => if ds.length < 16777216 then some (.val .non, h.set a (.lst (ds ++ [d]))) else none
    | _ => none
  | _, _, _ => none
theorem sim_app {w : World} {K : PySem.W.Frag} : SimR w K (fun x y H Q => rAppend x [y] H Q) oApp := by
  intro m h H x y dx dy d h' Q S rx ry e q
  unfold oApp at e
  split at e
  · split at e
    · rename_i hh
      obtain ⟨z, e⟩ := ite_some' e
      cases e
      cases rx with
      | val rx =>
        cases ry with
        | val ry =>
          cases rx with
          | ref e1 =>
            obtain ⟨vs, e2, rv⟩ := S.lst e1 hh
            exact ⟨_, vs, y, rfl, rfl, e2, by rw [rv.length, sizeLine_eq]; exact z, q m _ _ (Le.put S e1 _) (S.putL e1 (rv.append (.one ry))) (.val .non) (nwV _ _ _)⟩
    · cases e
  · cases e
theorem je_append {apos : Pos} (ho : JE X o fo) (ha : JE X a fa)
    (hbase : attributeBase o "append" X.env (eval o X.env) = eval o X.env := by rfl)
    (hfew : ((backTo pos (starEach (a :: []) X.env)).all (fun x => !x.1) && (backToKw pos (keywordEach [] X.env)).all (fun x => x.1.isSome)
      && decide ((a :: []).length + ([] : List Keyword).length + (if ([] : List Keyword).isEmpty then 0 else 1) < 30)) = true := by rfl)
    (hline : (apos.endLine == pos.line) = true := by rfl) (hs : starEach (a :: []) X.env = (false, eval a X.env) :: starEach [] X.env := by rfl) (hplain : (backTo pos (starEach [] X.env)).any (·.1) = false := by rfl) :
    JE X (.Call (.Attribute o "append" apos) [a] [] pos) (mMeth isLs oApp fo fa) :=
  pe_weak (pe_bm PySem.F.plainAttrs_list PySem.F.slot_list_append PySem.F.type_list_append mt_append ho (ja_cons ha ja_nil hs) hbase hfew hline hs hplain) (meth_sem (fun _ _ _ _ _ => isLs_ok) sim_app)
/-! name += e -/
def oIAdd : Op2
  | .val (.int i), .val (.int j), h => some (.val (.int (i + j)), h)
  | .val (.str x), .val (.str y), h => if x.length + y.length ≤ 16777216 then some (.val (.str (x ++ y)), h) else none
  | .val (.ref a), q, h => match h[a]? with
    | some (.lst xs) => (asM q h).bind fun ys => if xs.length + ys.length ≤ 16777216 then some (.val (.ref a), h.set a (.lst (xs ++ ys))) else none
    | _ => none
  | _, _, _ => none
theorem sim_iadd {w : World} {K : PySem.W.Frag} : SimR w K (fun x y H Q => rI0 (fun i j => .int (i + j)) x y H Q ∨ ((∃ i j, x = .str i ∧ y = .str j ∧ i.length + j.length ≤ sizeLine ∧ Q (.str (i ++ j)) H) ∨ rExt2 x y H Q)) oIAdd := by
  intro m h H x y dx dy d h' Q S rx ry e q
  unfold oIAdd at e
  split at e
  · cases e
    exact .inl ⟨_, _, inv_int rx, inv_int ry, q m H _ (Le.refl _ _) S (.val (.int _)) (nwV _ _ _)⟩
  · obtain ⟨z, e⟩ := ite_some' e
    cases e
    exact .inr (.inl ⟨_, _, inv_str rx, inv_str ry, szL z, q m H _ (Le.refl _ _) S (.val (.str _)) (nwV _ _ _)⟩)
  · split at e
    · rename_i hh
      obtain ⟨ys, e2, e⟩ := bind_some' e
      obtain ⟨z, e⟩ := ite_some' e
      cases e
      cases rx with
      | val rx =>
        cases rx with
        | ref e1 =>
          obtain ⟨vs, e3, rv⟩ := S.lst e1 hh
          obtain ⟨p2, ws, rfl, e4, rw'⟩ := asM_ok S ry e2
          exact .inr (.inr ⟨_, _, vs, ws, rfl, rfl, e3, e4, by rw [rv.length, rw'.length]; exact szL z, q m _ _ (Le.put S e1 _) (S.putL e1 (rv.append rw')) (.val (.ref e1)) (nwV _ _ _)⟩)
    · cases e
  · cases e
def mAug (i : Nat) (op : Op2) (fa : SE) : SS := fun τ h => match τ[i]? with
  | some (some d) => (fa τ h).bind fun p => (op (.val d) p.1 p.2).bind fun q => some (.nx (τ.set i (some (lay q.1 q.2).1)) (lay q.1 q.2).2)
  | _ => none
theorem js_aug {i : Nat} {x : Str} {op : Operator} {pos' : Pos} {r : R2} {f : Op2} (hN : X.N.Nodup) (hi : X.N[i]? = some x) (hx : Loc X.env.scope x) (he : JE X e fa) (ho : OpR X (inplaceOp op) r) (hs : SimR X.w X.K r f) (hf : X.fn x = true ∨ X.env.scope.names.lookup x = some .local := by first | exact .inl rfl | exact .inr rfl | assumption) :
    JS X (.AugAssign (.Name x pos') op e pos) (mAug i f fa) := by
  refine ps_weak (ps_aug hN hi hx he ho hf) fun D σ H ⟨m, τ, h, r, R, S, e, q⟩ => ?_
  unfold mAug at e
  split at e
  · rename_i d hd
    obtain ⟨⟨x, h1⟩, e1, e⟩ := bind_some' e
    obtain ⟨⟨y, h2⟩, e2, e⟩ := bind_some' e
    cases e
    obtain ⟨v, hv, rv⟩ := R.2 i d hd
    refine ⟨v, hv, m, τ, h, x, h1, R, S, e1, fun m1 H1 v1 L1 S1 r1 _ => ?_⟩
    refine hs m1 h1 H1 v v1 (.val d) x y h2 _ S1 (.val (rv.mono S.cl L1.toLw)) r1 e2 fun m2 H2 v2 L2 S2 r2 n2 => ?_
    obtain ⟨m3, L3, S3, r3⟩ := hold S2 (L1.trans L2) r2 (n2.back S1.cl L1)
    exact q m3 H2 _ L3 S3 ((R.mono S.cl L3.toLw).set r3 i)
  · cases e
theorem js_iadd {i : Nat} {x : Str} {pos' : Pos} (hN : X.N.Nodup) (hi : X.N[i]? = some x) (hx : Loc X.env.scope x) (he : JE X e fa) (hf : X.fn x = true ∨ X.env.scope.names.lookup x = some .local := by first | exact .inl rfl | exact .inr rfl | assumption) :
    JS X (.AugAssign (.Name x pos') .Add e pos) (mAug i oIAdd fa) := js_aug hN hi hx he (iop_add.or (iop_add_str.or iop_ext)) sim_iadd hf
end
end Sm
namespace Sm
open PySem PySem.Spec PyProof.Rows L2

/-! ## x.index(y) -/
theorem mt_tupIdx {X : Cx} : MtR X "tuple.index" (fun x xs H Q => ∃ (a : Addr) (ys : List V) (y : V) (j : Nat) (z : V), x = V.ref a ∧ xs = [y] ∧ SqT X.K H a ys ∧ flatV y = true ∧ ys.all flatV = true ∧ ys[j]? = some z ∧ eqV z y = true ∧
    (∀ (m : Nat) (z' : V), m < j → ys[m]? = some z' → eqV z' y = false) ∧ Q (.int (j : Nat)) H) := by
  intro pins s σ H x xs v us Q I rx rxs h
  obtain ⟨a, ys, y, j, z, rfl, rfl, hs, fy, fys, hz, hzj, hno, q⟩ := h
  cases rx
  obtain ⟨uy, rfl, ry⟩ := rxs.one
  obtain ⟨ws, rv, ⟨ob, ho, hc, n, hd⟩, hlen⟩ := I.tuple hs
  obtain ⟨cls, dd, dt, sl⟩ := ob
  dsimp only at hc hd
  cases hc
  cases hd
  obtain ⟨u, hu, ru⟩ := rv.get hz
  obtain ⟨hjl, hje⟩ := List.getElem?_eq_some_iff.mp hu
  have hvl := rv.length
  have hj : j < ws.toArray.size := by simpa using hjl
  refine call_meets PySem.F.slot_tuple_index ⟨_, ho, rfl⟩ PySem.F.entry_tuple_index (PySem.F.args_tuple_index_2 _ _) (TI.tuple_indexAt a ws.toArray n dd sl uy (eqU y) j hj ?_ fun k hk hkj => ?_)
    ⟨ho, fun u' hu' => mem_eqAt ry fy rv fys u' (by simpa using hu'), ⟨.int (j : Nat), H, I.tok _, ⟨_, rfl⟩, q⟩⟩
  · have e1 : ws.toArray[j] = u := by simpa using hje
    rw [e1, eqU_of ru (flat_at fys hz)]
    exact hzj
  · have hkl : k < ws.length := by simpa using hk
    have hky : k < ys.length := by omega
    have hy' : ys[k]? = some ys[k] := List.getElem?_eq_getElem hky
    obtain ⟨u2, hu2, ru2⟩ := rv.get hy'
    have e1 : ws.toArray[k] = u2 := by simpa using (List.getElem?_eq_some_iff.mp hu2).2
    rw [e1, eqU_of ru2 (flat_at fys hy')]
    exact hno k _ hkj hy'
/-- a method of a tuple that is known to have no dict -/
def tBT (K : PySem.W.Frag) (r : V → List V → Hp → VK → Prop) (to : TE) (t : TA) : TE := fun σ H Q => to σ H fun x H1 => (∃ p vs, x = .ref p ∧ FzT K H1 p vs) ∧ t σ H1 fun xs H2 => r x xs H2 Q
theorem pe_bmF {X : Cx} {o e : Expr} {es : List Expr} {to : TE} {t : TA} {name : Str} {apos cpos : Pos} {id : String} {r : V → List V → Hp → VK → Prop}
    (pa : PlainAttrs "tuple") (slot : Slot "tuple" name id) (hty : typeOf (.builtin id) = pure (.type "method_descriptor")) (hm : MtR X id r) (ho : PE X o to) (ha : PA X (e :: es) t)
    (hbase : attributeBase o name X.env (eval o X.env) = eval o X.env)
    (hfew : ((backTo cpos (starEach (e :: es) X.env)).all (fun x => !x.1) && (backToKw cpos (keywordEach [] X.env)).all (fun x => x.1.isSome)
      && decide ((e :: es).length + ([] : List Keyword).length + (if ([] : List Keyword).isEmpty then 0 else 1) < 30)) = true)
    (hline : (apos.endLine == cpos.line) = true) (hs : starEach (e :: es) X.env = (false, eval e X.env) :: starEach es X.env) (hplain : (backTo cpos (starEach es X.env)).any (·.1) = false) :
    PE X (.Call (.Attribute o name apos) (e :: es) [] cpos) (tBT X.K r to t) := by
  refine ⟨fun pins s σ H Q I h => ?_⟩
  refine wpAny_Call_method_late hbase hfew hline rfl ?_
  refine thn (ho.run pins s σ H _ I h) fun v s1 ⟨x, H1, I1, r1, ⟨p, vs, ex, hf⟩, q1⟩ => ?_
  subst ex
  cases r1
  have key : ∃ ob, s1.heap.get? p = some ob ∧ ob.cls = .type "tuple" ∧ ob.dict = none := by
    rcases hf with ⟨ob, e1, e2, e3⟩ | ⟨ob, its, n, e1, e2, e3, _⟩
    · exact ⟨ob, (I1.hok _ _ e1).1, e2, e3⟩
    · exact ⟨ob, I1.kIn _ _ e1, e2, e3⟩
  obtain ⟨ob, e1, e2, e3⟩ := key
  refine ⟨"tuple", id, pa, slot, hty, ⟨ob, e1, e2⟩, fun b eb => ?_, ?_⟩
  · cases eb
    exact ⟨ob, e1, e3⟩
  · have hA := ha.run cpos pins s1 σ H1 _ I1 q1
    rw [hs] at hA ⊢
    refine Calls.callWith_builtin (by show (false || (backTo cpos (starEach es X.env)).any (·.1)) = false; rw [hplain]; rfl) ?_
    refine Calls.evalArgs_plain (thn hA fun us s2 ⟨ws, H2, I2, r2, q2⟩ => ?_)
    exact hm pins s2 σ H2 (.ref p) ws (.ref p) us Q I2 rfl r2 q2
theorem pe_or {X : Cx} {e : Expr} {t t' : TE} (h : PE X e t) (h' : PE X e t') : PE X e (fun σ H Q => t σ H Q ∨ t' σ H Q) := ⟨fun pins s σ H Q I q => q.elim (h.run pins s σ H Q I) (h'.run pins s σ H Q I)⟩
/-- the first place -/
def idxD (d : D) : List D → Option Nat
  | [] => none
  | x :: r => if x = d then some 0 else (idxD d r).map (· + 1)
theorem idxD_ok {d : D} : ∀ {ds : List D} {j : Nat}, idxD d ds = some j → ds[j]? = some d ∧ ∀ k x, k < j → ds[k]? = some x → x ≠ d
  | [], _, h => by cases h
  | x :: r, j, h => by
    unfold idxD at h
    split at h
    · rename_i e
      cases h
      exact ⟨by rw [e]; rfl, fun k _ hk => absurd hk (Nat.not_lt_zero k)⟩
    · rename_i e
      cases q : idxD d r with
      | none => rw [q] at h; cases h
      | some i =>
        rw [q] at h
        cases h
        obtain ⟨h1, h2⟩ := idxD_ok q
        refine ⟨by simpa using h1, fun k y hk hy => ?_⟩
        cases k with
        | zero => simp at hy; rw [← hy]; exact e
        | succ k => exact h2 k y (Nat.lt_of_succ_lt_succ hk) (by simpa using hy)
def oIdx : Op2
  | q, .val d, h => (asQ q h).bind fun ds => if (d.flat && ds.all D.flat) = true then (idxD d ds).bind fun j => some (.val (.int (j : Nat)), h) else none
  | _, _, _ => none
def isTp (q : LV) (_ : AH) : Bool := match q with
  | .val (.tup _) => true
  | _ => false
theorem idx_ok {K : PySem.W.Frag} {m : List Addr} {H : Hp} {vs : List V} {ds : List D} {y : V} {d : D} {j : Nat} (r : RVs K m H vs ds) (ry : RV K m H y d) (c : (d.flat && ds.all D.flat) = true) (e : idxD d ds = some j) :
    ∃ z, flatV y = true ∧ vs.all flatV = true ∧ vs[j]? = some z ∧ eqV z y = true ∧ ∀ (k : Nat) (z' : V), k < j → vs[k]? = some z' → eqV z' y = false := by
  rw [Bool.and_eq_true] at c
  obtain ⟨h1, h2⟩ := idxD_ok e
  obtain ⟨z, hz, rz⟩ := r.get h1
  refine ⟨z, ry.flat c.1, r.flat c.2, hz, by rw [rz.eqf ry c.1 c.1]; simp, fun k z' hk hz' => ?_⟩
  have hl : k < ds.length := by rw [← r.length]; exact (List.getElem?_eq_some_iff.mp hz').1
  obtain ⟨z2, hz2, rz2⟩ := r.get (List.getElem?_eq_getElem hl)
  rw [hz'] at hz2
  cases hz2
  rw [rz2.eqf ry (List.all_eq_true.mp c.2 _ (List.getElem_mem hl)) c.1]
  exact decide_eq_false (h2 k _ hk (List.getElem?_eq_getElem hl))
section
variable {X : Cx} {a b e o : Expr} {es : List Expr} {fa fb fo : SE} {fr : SA} {p pos : Pos}
def mIdx (fo fa : SE) : SE := mMeth (fun q h => isTp q h || isLs q h) oIdx fo fa
theorem je_index {apos : Pos} (ho : JE X o fo) (ha : JE X a fa)
    (hbase : attributeBase o "index" X.env (eval o X.env) = eval o X.env := by rfl)
    (hfew : ((backTo pos (starEach (a :: []) X.env)).all (fun x => !x.1) && (backToKw pos (keywordEach [] X.env)).all (fun x => x.1.isSome)
      && decide ((a :: []).length + ([] : List Keyword).length + (if ([] : List Keyword).isEmpty then 0 else 1) < 30)) = true := by rfl)
    (hline : (apos.endLine == pos.line) = true := by rfl) (hs : starEach (a :: []) X.env = (false, eval a X.env) :: starEach [] X.env := by rfl) (hplain : (backTo pos (starEach [] X.env)).any (·.1) = false := by rfl) :
    JE X (.Call (.Attribute o "index" apos) [a] [] pos) (mIdx fo fa) := by
  refine pe_weak (pe_or (pe_bm PySem.F.plainAttrs_list PySem.F.slot_list_index PySem.F.type_list_index mt_index ho (ja_cons ha ja_nil hs) hbase hfew hline hs hplain)
    (pe_bmF PySem.F.plainAttrs_tuple PySem.F.slot_tuple_index PySem.F.type_tuple_index mt_tupIdx ho (ja_cons ha ja_nil hs) hbase hfew hline hs hplain)) fun σ H Q ⟨m, τ, h, d, h', R, S, e, q⟩ => ?_
  obtain ⟨⟨x, h1⟩, e1, e⟩ := bind_some' e
  obtain ⟨c, e⟩ := ite_some' e
  obtain ⟨⟨y, h2⟩, e2, e⟩ := bind_some' e
  dsimp only at e c e2
  have argR : mCons fa mNil τ h1 = some ([y], h2) := by
    unfold mCons mNil
    rw [e2]
    rfl
  unfold oIdx at e
  split at e
  · obtain ⟨ds, e3, e⟩ := bind_some' e
    obtain ⟨c2, e⟩ := ite_some' e
    obtain ⟨j, e4, e⟩ := bind_some' e
    cases e
    by_cases ht : isTp x h1 = true
    · refine .inr ⟨m, τ, h, x, h1, R, S, e1, fun m1 H1 v1 L1 S1 r1 _ => ⟨?_, m1, τ, h1, [.val _], h', R.mono S.cl L1.toLw, S1, argR, fun m2 H2 v2 L2 S2 r2 => ?_⟩⟩
      · unfold isTp at ht
        split at ht
        · cases r1 with
          | val r1 =>
            cases r1 with
            | tup f r => exact ⟨_, _, rfl, f⟩
        · cases ht
      · obtain ⟨w, rfl, r3⟩ := inv1 r2
        have r1' := r1.mono S1.cl L2
        unfold isTp at ht
        split at ht
        · cases e3
          cases r1' with
          | val r1' =>
            cases r1' with
            | tup f r =>
              cases r3 with
              | val r3 =>
                obtain ⟨z, k1, k2, k3, k4, k5⟩ := idx_ok r r3 c2 e4
                exact ⟨_, _, _, j, z, rfl, rfl, f.sq, k1, k2, k3, k4, k5, q m2 H2 _ (L1.trans L2) S2 (.val (.int _)) (nwV _ _ _)⟩
        · cases ht
    · have hl : isLs x h1 = true := by
        rw [Bool.or_eq_true] at c
        rcases c with c | c
        · exact absurd c ht
        · exact c
      refine .inl ⟨m, τ, h, x, h1, R, S, e1, fun m1 H1 v1 L1 S1 r1 _ => ⟨isLs_ok S1 r1 hl, m1, τ, h1, [.val _], h', R.mono S.cl L1.toLw, S1, argR, fun m2 H2 v2 L2 S2 r2 => ?_⟩⟩
      obtain ⟨w, rfl, r3⟩ := inv1 r2
      have r1' := r1.mono S1.cl L2
      have e5 : asL x h' = some ds := by
        unfold asQ at e3
        split at e3
        · exact absurd rfl ht
        · unfold isLs asL asM at hl
          cases hl
        · exact e3
      obtain ⟨pp, vs, rfl, hq, rv⟩ := asL_ok S2 r1' e5
      cases r3 with
      | val r3 =>
        obtain ⟨z, k1, k2, k3, k4, k5⟩ := idx_ok rv r3 c2 e4
        exact ⟨_, _, _, j, z, rfl, rfl, hq, k1, k2, k3, k4, k5, q m2 H2 _ (L1.trans L2) S2 (.val (.int _)) (nwV _ _ _)⟩
  · cases e
end
end Sm
namespace Sm
open PySem PySem.Spec PyProof.Rows L2

/-! ## zip of two, lists or tuples in any mix -/
def SqX (K : PySem.W.Frag) (H : Hp) (k : Bool) (a : Addr) (xs : List V) : Prop := match k with
  | true => SqL K H a xs
  | false => SqT K H a xs
def IterX (h : Heap) (k : Bool) (it a : Addr) (i : Nat) : Prop := match k with
  | true => h.IsListIter it a i
  | false => h.IsTupleIter it a i
def SeqX (h : Heap) (k : Bool) (a : Addr) (us : List Value) : Prop := match k with
  | true => h.IsList a us.toArray
  | false => h.IsTuple a us.toArray
theorem seqX {X : Cx} {pins : List (Addr × Obj)} {σ : L2.St} {H : Hp} {s : Shared} {k : Bool} {a : Addr} {xs : List V} (I : Inv X pins σ H s) (h : SqX X.K H k a xs) : ∃ us, Vals xs us ∧ SeqX s.heap k a us := by
  cases k with
  | true =>
    obtain ⟨us, r, pl, _⟩ := I.list h
    exact ⟨us, r, pl.isList⟩
  | false =>
    obtain ⟨us, r, pl, _⟩ := I.tuple h
    exact ⟨us, r, pl⟩
theorem seqX_inj {X : Cx} {pins : List (Addr × Obj)} {σ : L2.St} {H : Hp} {s : Shared} {k : Bool} {a : Addr} {xs ys : List V} (I : Inv X pins σ H s) (h : SqX X.K H k a xs) (h' : SqX X.K H k a ys) : xs = ys := by
  cases k with
  | true => exact I.list_inj h h'
  | false => exact I.tuple_inj h h'
theorem IterX.at {h h' : Heap} {k : Bool} {it a : Addr} {i : Nat} (x : IterX h k it a i) (e : ∀ o, h.get? it = some o → h'.get? it = some o) : IterX h' k it a i := by
  cases k with
  | true => exact Heap.IsListIter.at x e
  | false => exact Heap.IsTupleIter.at x e
theorem IterX.obj {h : Heap} {k : Bool} {it a : Addr} {i : Nat} (x : IterX h k it a i) : ∃ o, h.get? it = some o ∧ ∀ v, o.data ≠ .cell v := by
  cases k with
  | true =>
    obtain ⟨o, e, _, d⟩ := x
    exact ⟨o, e, fun v q => by rw [d] at q; cases q⟩
  | false =>
    obtain ⟨o, e, _, d⟩ := x
    exact ⟨o, e, fun v q => by rw [d] at q; cases q⟩
theorem SeqX.lt {h : Heap} {k : Bool} {a : Addr} {us : List Value} (x : SeqX h k a us) : a < h.objs.size := by
  cases k with
  | true =>
    obtain ⟨o, e, _⟩ := x
    exact Heap.lt_size e
  | false =>
    obtain ⟨o, e, _⟩ := x
    exact Heap.lt_size e
theorem drawsX {prog : Program} {w : World} {A : Around} (hh : A.handled = none) (k : Bool) (it a : Addr) (hne : a ≠ it) (us : List Value) :
    Draws prog w A it [it, a] us.length (fun i v => us[i]? = some v) (fun i h => IterX h k it a i ∧ SeqX h k a us) := by
  cases k with
  | true =>
    have q := Draws.list (prog := prog) (w := w) hh it a hne us.toArray
    simp only [List.size_toArray, List.getElem?_toArray] at q
    exact q
  | false =>
    have q := Draws.tuple (prog := prog) (w := w) hh it a hne us.toArray
    simp only [List.size_toArray, List.getElem?_toArray] at q
    exact q
def ItzM (K : PySem.W.Frag) (k1 k2 : Bool) (a b : Addr) : It :=
  ⟨fun i H => ∃ (xs ys : List V) (x y : V), SqX K H k1 a xs ∧ SqX K H k2 b ys ∧ xs[i]? = some x ∧ ys[i]? = some y,
    fun i H v H' => ∃ T x y, v = .ref T ∧ H T = none ∧ H' = upd H T (.tup [x, y]) ∧ (∀ xs, SqX K H k1 a xs → xs[i]? = some x) ∧ ∀ ys, SqX K H k2 b ys → ys[i]? = some y,
    fun i H => ∃ xs ys : List V, SqX K H k1 a xs ∧ SqX K H k2 b ys ∧ i ≤ xs.length ∧ i ≤ ys.length ∧ (i = xs.length ∨ i = ys.length)⟩
structure Ap (z TI TO i1 i2 a b : Addr) : Prop where
  sep : ZipSep2 z TI TO i1 i2 [i1, a] [i2, b]
  a1 : a ≠ i1
  b2 : b ≠ i2
  TIi1 : i1 ≠ TI
  z1 : i1 ≠ z
  z2 : i2 ≠ z
theorem turn_zipM {P : Program} {w : World} {K : PySem.W.Frag} {elts : List Expr} {kk : Nat} {tpos : Pos} {k1 k2 : Bool} {a b z TI TO i1 i2 : Addr} (D : Ap z TI TO i1 i2 a b) :
    Turn P w K (.Tuple elts kk tpos) (ItzM K k1 k2 a b) [z, TI, TO, i1, i2] z (fun i h => IsZip h z TI TO .none ∧ IsTupOf2 h TI (.ref i1) (.ref i2) ∧ (∃ x y, IsTupOf2 h TO x y) ∧ IterX h k1 i1 a i ∧ IterX h k2 i2 b i) where
  mem := List.mem_cons_self
  obj := fun i h st c hc => by
    obtain ⟨hz, hTI, ⟨x, y, hTO⟩, j1, j2⟩ := st
    have five : c = z ∨ c = TI ∨ c = TO ∨ c = i1 ∨ c = i2 := by simpa using hc
    rcases five with q | q | q | q | q
    · rw [q]
      exact ⟨_, hz, fun v q => nomatch q⟩
    · rw [q]
      exact ⟨_, hTI, fun v q => nomatch q⟩
    · rw [q]
      exact ⟨_, hTO, fun v q => nomatch q⟩
    · rw [q]
      exact j1.obj
    · rw [q]
      exact j2.obj
  keep := fun i h h' st k => by
    obtain ⟨hz, hTI, ⟨x, y, hTO⟩, j1, j2⟩ := st
    refine ⟨k z (by simp) _ hz, k TI (by simp) _ hTI, ⟨x, y, k TO (by simp) _ hTO⟩, ?_, ?_⟩
    · exact j1.at fun o q => k i1 (by simp) o q
    · exact j2.at fun o q => k i2 (by simp) o q
  item := by
    intro X hP hw hK hc i pins s σ H E I hf st hg
    subst hP hw hK
    obtain ⟨hz, hTI, ⟨x0, y0, hTO⟩, j1, j2⟩ := st
    obtain ⟨xs, ys, x, y, hqx, hqy, hx, hy⟩ := hg
    obtain ⟨us, rv, p1⟩ := seqX I hqx
    obtain ⟨ws, rv2, p2⟩ := seqX I hqy
    obtain ⟨u, hu, ru⟩ := rv.get hx
    obtain ⟨u2, hu2, ru2⟩ := rv2.get hy
    have hd : X.A.in1.handled = none := I.ok.hd hc
    refine wpAny_pyNext_zipD2_item D.sep (drawsX hd k1 i1 a D.a1 us) (drawsX hd k2 i2 b D.b2 ws) hz hTI hTO ⟨j1, p1⟩ ⟨j2, p2⟩ (List.getElem?_eq_some_iff.mp hu).1 (List.getElem?_eq_some_iff.mp hu2).1 fun x1 x2 h' tk e1 e2 z' TO' g1 g2 hT hsz hk => ?_
    rw [hu] at e1
    rw [hu2] at e2
    cases e1
    cases e2
    have hzl : z < s.heap.objs.size := Heap.lt_size hz
    refine ⟨_, rfl, wpAny_letOwnedTupleGo_zip (s := { s with heap := h', toks := tk }) z' fun h'' z'' sb => ?_⟩
    have all : ∀ (c : Addr) (o : Obj), c ∉ [z, TI, TO, i1, i2] → s.heap.get? c = some o → h''.get? c = some o := fun c o hb q => by
      have n1 : c ≠ z := fun q' => hb (by simp [q'])
      exact (sb.2 c n1).trans (hk c o n1 (fun q' => hb (by simp [q'])) (fun q' => hb (by simp [q'])) (fun q' => hb (by simp [q'])) q)
    have hT2 : h''.get? s.heap.objs.size = some { cls := .type "tuple", data := .seq #[u, u2] } := (sb.2 _ (Nat.ne_of_gt hzl)).trans hT
    have nw : ObjOk X.prog X.w (upd H s.heap.objs.size (.tup [x, y])) h'' s.heap.objs.size (.tup [x, y]) := by
      refine ⟨(show 2 ≤ sizeLine by decide), [u, u2], .cons ru (.cons ru2 .nil), ?_⟩
      exact ⟨_, hT2, rfl, _, rfl⟩
    have I1 : Inv X pins σ (upd H s.heap.objs.size (.tup [x, y])) { s with heap := h'', toks := tk } := I.turnedNew (t' := tk) (ch := [z, TI, TO, i1, i2]) all hf (Nat.le_refl _) nw
    refine ⟨.ref s.heap.objs.size, _, I1, rfl, ⟨_, x, y, rfl, I.hok.fresh (Nat.le_refl _), rfl, fun l hl => by rw [seqX_inj I hl hqx]; exact hx, fun l hl => by rw [seqX_inj I hl hqy]; exact hy⟩, ?_, fun c hcm => ?_⟩
    · refine ⟨z'', (sb.2 _ D.sep.TIz).trans (hk _ _ D.sep.TIz D.sep.TITO D.sep.TIi1 D.sep.TIi2 hTI), ⟨u, u2, (sb.2 _ D.sep.TOz).trans TO'⟩, ?_, ?_⟩
      · exact g1.1.at fun o q => (sb.2 _ D.z1).trans q
      · exact g2.1.at fun o q => (sb.2 _ D.z2).trans q
    · have hlt : c < s.heap.objs.size := by
        have five : c = z ∨ c = TI ∨ c = TO ∨ c = i1 ∨ c = i2 := by simpa using hcm
        rcases five with q | q | q | q | q
        · rw [q]; exact hzl
        · rw [q]; exact Heap.lt_size hTI
        · rw [q]; exact Heap.lt_size hTO
        · obtain ⟨_, e1, _⟩ := j1.obj
          rw [q]; exact Heap.lt_size e1
        · obtain ⟨_, e2, _⟩ := j2.obj
          rw [q]; exact Heap.lt_size e2
      rw [upd_ne (Nat.ne_of_lt hlt)]
      exact (hf c hcm).1
  done := by
    intro X hP hw hK hc i pins s σ H E I hf st hg
    subst hP hw hK
    obtain ⟨hz, hTI, ⟨x0, y0, hTO⟩, j1, j2⟩ := st
    obtain ⟨xs, ys, hqx, hqy, l1, l2, hend⟩ := hg
    obtain ⟨us, rv, p1⟩ := seqX I hqx
    obtain ⟨ws, rv2, p2⟩ := seqX I hqy
    have q1 := rv.length
    have q2 := rv2.length
    have hd : X.A.in1.handled = none := I.ok.hd hc
    refine wpAny_pyNext_zipD2_end D.sep (drawsX hd k1 i1 a D.a1 us) (drawsX hd k2 i2 b D.b2 ws) hz hTI hTO ⟨j1, p1⟩ ⟨j2, p2⟩ (by rw [← q1]; exact l1) (by rw [← q2]; exact l2) (by rw [← q1, ← q2]; exact hend) fun h' tk hk => ?_
    refine ⟨rfl, I.turnedL (t' := tk) (ch := [z, TI, TO, i1, i2]) (fun c o hb q => ?_) hf⟩
    exact hk c o (fun q' => hb (by simp [q'])) (fun q' => hb (by simp [q'])) (fun q' => hb (by simp [q'])) (fun q' => hb (by simp [q'])) q
  self := fun A i s Q E st h => wpAny_pyIter_zip st.1 h
def iZipM (K : PySem.W.Frag) (ta : TA) : TI := fun σ H R => ta σ H fun vs H1 => ∃ a b xs ys k1 k2, vs = [.ref a, .ref b] ∧ SqX K H1 k1 a xs ∧ SqX K H1 k2 b ys ∧ R (ItzM K k1 k2 a b) H1
theorem nin2 {x y a : Nat} (h1 : x ≠ y) (h2 : x ≠ a) : x ∉ [y, a] := fun h => by
  rcases List.mem_cons.mp h with z | z
  · exact h1 z
  · exact h2 (List.mem_singleton.mp z)
theorem ap_new (n a b : Nat) (ha : a < n) (hb : b < n) : Ap (n + 4) (n + 2) (n + 3) n (n + 1) a b := by
  have e1 : n + 2 ≠ n + 4 := by omega
  have e2 : n + 3 ≠ n + 4 := by omega
  have e3 : n + 2 ≠ n + 3 := by omega
  have e4 : n + 2 ≠ n := by omega
  have e5 : n + 4 ≠ n := by omega
  have e6 : n + 4 ≠ a := by omega
  have e7 : n + 3 ≠ n := by omega
  have e8 : n + 3 ≠ a := by omega
  have e9 : n + 2 ≠ n + 1 := by omega
  have f1 : n + 4 ≠ n + 1 := by omega
  have f2 : n + 4 ≠ b := by omega
  have f3 : n + 3 ≠ n + 1 := by omega
  have f4 : n + 3 ≠ b := by omega
  have f5 : n ≠ n + 1 := by omega
  have f6 : n ≠ b := by omega
  have f7 : n + 1 ≠ a := by omega
  have f8 : a ≠ n := by omega
  have f9 : b ≠ n + 1 := by omega
  exact ⟨⟨e1, e2, e3, e4, List.mem_cons_self, nin2 e5 e6, nin2 e7 e8, e9, List.mem_cons_self, nin2 f1 f2, nin2 f3 f4, nin2 f5 f6, nin2 f5.symm f7⟩, f8, f9, e4.symm, e5.symm, f1.symm⟩
/-- what zip begins with -/
def begX (k : Bool) (a : Addr) : Obj := match k with
  | true => { cls := .type "list_iterator", data := .fields #[.ref a, .int 0 0] }
  | false => { cls := .type "tuple_iterator", data := .fields #[.ref a, .int 0 0] }
theorem beginsX (k : Bool) (a : Addr) (us : List Value) : Begins (.ref a) (begX k a) fun h => SeqX h k a us := by
  cases k with
  | true => exact begins_list a us.toArray
  | false => exact begins_tuple a us.toArray
theorem iterX_new {h : Heap} {k : Bool} {it a : Addr} (e : h.get? it = some (begX k a)) : IterX h k it a 0 := by
  cases k with
  | true => exact ⟨_, e, rfl, rfl⟩
  | false => exact ⟨_, e, rfl, rfl⟩
theorem pi_zipM {X : Cx} {e e2 : Expr} {ta : TA} {p pos tpos : Pos} {elts : List Expr} {kk : Nat} (hg : Gl X "zip") (hm : X.mg "zip" = none) (ha : PA X [e, e2] ta)
    (hs : starEach [e, e2] X.env = (false, eval e X.env) :: starEach [e2] X.env) (hpl : (backTo pos (starEach [e2] X.env)).any (·.1) = false) :
    PI X (.Tuple elts kk tpos) (.Call (.Name "zip" p) [e, e2] [] pos) (iZipM X.K ta) := by
  refine ⟨fun pins s σ H R I h => ?_⟩
  refine Call_ (ld_blt I hg hm PyProof.Rows.boot_zip (PyProof.Rows.callWith_type1 (thn (ha.run pos pins s σ H _ I h) fun us s1 hq => ?_) hs hpl))
  obtain ⟨vs, H1, I1, r1, a, b, xs, ys, k1, k2, rfl, hqx, hqy, q⟩ := hq
  obtain ⟨u1, u2, rfl, w1, w2⟩ := r1.two
  cases w1
  cases w2
  obtain ⟨us, rv, p1⟩ := seqX I1 hqx
  obtain ⟨ws, rv2, p2⟩ := seqX I1 hqy
  refine zip_begins2 (beginsX k1 a us) (beginsX k2 b ws) p1 p2 fun h' hz hTI hTO o1 o2 hsz hk => wpAny_pyIter_zip hz ?_
  have I2 : Inv X pins σ H1 { s1 with heap := h' } := I1.kept (t' := s1.toks) hk
  refine ⟨s1.heap.objs.size + 4, [s1.heap.objs.size + 4, s1.heap.objs.size + 2, s1.heap.objs.size + 3, s1.heap.objs.size, s1.heap.objs.size + 1], _, _, H1, rfl, I2, turn_zipM (ap_new s1.heap.objs.size a b p1.lt p2.lt), ⟨hz, hTI, ⟨_, _, hTO⟩, iterX_new o1, iterX_new o2⟩, fun c hcm => ?_, q⟩
  have hle : s1.heap.objs.size ≤ c := by
    have five : c = s1.heap.objs.size + 4 ∨ c = s1.heap.objs.size + 2 ∨ c = s1.heap.objs.size + 3 ∨ c = s1.heap.objs.size ∨ c = s1.heap.objs.size + 1 := by simpa using hcm
    rcases five with z | z | z | z | z <;> rw [z] <;> first | exact Nat.le_refl _ | exact Nat.le_add_right _ _
  exact I1.fpOk hle (I1.hok.fresh hle)

/-- one of two that are walked -/
inductive SrcX (w : World) (K : PySem.W.Frag) (m : List Addr) (H : Hp) (h : AH) (v : V) (q : LV) (it : ItD) : Prop
  | mk (k : Bool) (p : Addr) (us : List V) : v = .ref p → SqX K H k p us → RVs K m H us it.items →
      (∀ m' h' H', Le m H m' H' → Sim w K m' h' H' → grdOk it.grd h' = true → ∃ us, SqX K H' k p us ∧ RVs K m' H' us it.items) → SrcX w K m H h v q it
theorem srcX_of {w : World} {K : PySem.W.Frag} {m : List Addr} {h : AH} {H : Hp} (S : Sim w K m h H) {v : V} {q : LV} {it : ItD} (r : RQ K m H v q) (e : iterOf q h = some it) : SrcX w K m H h v q it := by
  rcases srcL_of S r e with s | ⟨p, us, rfl, hq, rr, hg, _⟩
  · obtain ⟨p, rfl, ⟨us, hq, rr⟩, st⟩ := s.stays S
    exact .mk true p us rfl hq rr st
  · exact .mk false p us rfl hq rr fun m' h' H' L' S' _ => ⟨us, sqT_mono S.cl L'.toLw hq, rr.mono S.cl L'.toLw⟩
def zipD : List D → List D → List D
  | x :: xs, y :: ys => .zt [x, y] :: zipD xs ys
  | _, _ => []
theorem zipD_get : ∀ {xs ys : List D} {i : Nat} {d : D}, (zipD xs ys)[i]? = some d → ∃ x y, xs[i]? = some x ∧ ys[i]? = some y ∧ d = .zt [x, y]
  | x :: xs, y :: ys, 0, d, h => ⟨x, y, rfl, rfl, by simpa [zipD] using h.symm⟩
  | x :: xs, y :: ys, i + 1, d, h => by
    obtain ⟨a, b, h1, h2, h3⟩ := zipD_get (xs := xs) (ys := ys) (i := i) (d := d) (by simpa [zipD] using h)
    exact ⟨a, b, by simpa using h1, by simpa using h2, h3⟩
  | [], _, i, d, h => by simp [zipD] at h
  | _ :: _, [], i, d, h => by simp [zipD] at h
theorem zipD_len : ∀ (xs ys : List D), (zipD xs ys).length = min xs.length ys.length
  | x :: xs, y :: ys => by simp [zipD, zipD_len xs ys]
  | [], ys => by simp [zipD]
  | x :: xs, [] => by simp [zipD]
def zipOf : List LV → AH → Option ItD
  | [p, q], h => (iterOf p h).bind fun a => (iterOf q h).bind fun b => some ⟨zipD a.items b.items, a.grd ++ b.grd⟩
  | _, _ => none
def mZip (fr : SA) : SI := fun τ h => (fr τ h).bind fun p => (zipOf p.1 p.2).bind fun it => some (it, p.2)
theorem grd_app {g1 g2 : List (Nat × List D)} {h : AH} (G : grdOk (g1 ++ g2) h = true) : grdOk g1 h = true ∧ grdOk g2 h = true := by
  unfold grdOk at *
  rw [List.all_append, Bool.and_eq_true] at G
  exact G
theorem ji_zip {X : Cx} {e e2 : Expr} {fr : SA} {p pos tpos : Pos} {elts : List Expr} {kk : Nat} (hg : Gl X "zip") (hm : X.mg "zip" = none) (ha : JA X [e, e2] fr)
    (hs : starEach [e, e2] X.env = (false, eval e X.env) :: starEach [e2] X.env := by rfl) (hpl : (backTo pos (starEach [e2] X.env)).any (·.1) = false := by rfl) :
    JI X (.Tuple elts kk tpos) (.Call (.Name "zip" p) [e, e2] [] pos) (mZip fr) := by
  refine pi_weak (pi_zipM hg hm ha hs hpl) fun σ H R ⟨m, τ, h, it, h', Rs, S, e, q⟩ => ?_
  obtain ⟨⟨x, h1⟩, e1, e⟩ := bind_some' e
  obtain ⟨it', e2, e⟩ := bind_some' e
  cases e
  refine ⟨m, τ, h, x, h1, Rs, S, e1, fun m1 H1 v1 L1 S1 r1 => ?_⟩
  dsimp only at e2
  unfold zipOf at e2
  split at e2
  · obtain ⟨A, ea, e2⟩ := bind_some' e2
    obtain ⟨B, eb, e2⟩ := bind_some' e2
    cases e2
    obtain ⟨v, v', rfl, ra, rb⟩ := inv2 r1
    obtain ⟨k1, pa, us, rfl, qa, wa, sa⟩ := srcX_of S1 ra ea
    obtain ⟨k2, pb, ws, rfl, qb, wb, sb⟩ := srcX_of S1 rb eb
    refine ⟨pa, pb, us, ws, k1, k2, rfl, qa, qb, q m1 H1 _ L1 S1 fun i m2 h2 H2 L2 S2 G => ?_⟩
    obtain ⟨G1, G2⟩ := grd_app G
    obtain ⟨us2, qa2, wa2⟩ := sa m2 h2 H2 L2 S2 G1
    obtain ⟨ws2, qb2, wb2⟩ := sb m2 h2 H2 L2 S2 G2
    refine ⟨fun d hd => ?_, fun hi => ?_⟩
    · obtain ⟨x, y, hx, hy, rfl⟩ := zipD_get hd
      obtain ⟨vx, gx, rx⟩ := wa2.get hx
      obtain ⟨vy, gy, ry⟩ := wb2.get hy
      refine ⟨⟨us2, ws2, vx, vy, qa2, qb2, gx, gy⟩, fun v H3 hy3 => ?_⟩
      obtain ⟨T, x3, y3, rfl, hT, rfl, fx, fy⟩ := hy3
      have z1 := fx us2 qa2
      have z2 := fy ws2 qb2
      rw [gx] at z1
      rw [gy] at z2
      cases z1
      cases z2
      exact ⟨Le.upd S2.cl hT _, S2.upd hT _, RV.ztN S2 hT (.cons rx (.one ry))⟩
    · dsimp only at hi
      rw [zipD_len] at hi
      have z1 := wa2.length
      have z2 := wb2.length
      exact ⟨us2, ws2, qa2, qb2, by omega, by omega, by omega⟩
  · cases e2
end Sm
namespace Sm
open PySem PySem.Spec PyProof.Rows L2
/-! ## chains of two comparisons -/
def mChain (op op' : Op2) (fa fb fc : SE) : SE := fun τ h => (fa τ h).bind fun p => (fb τ p.2).bind fun q => (op p.1 q.1 q.2).bind fun r => match r.1 with
  | .val (.bl true) => (fc τ r.2).bind fun s => op' q.1 s.1 s.2
  | .val (.bl false) => some (.val (.bl false), r.2)
  | _ => none
section
variable {X : Cx} {a b c : Expr} {es rest : List Expr} {fa fb fc : SE} {pos : Pos}
theorem chain_sem {w : World} {K : PySem.W.Frag} {r r' : R2} {op op' : Op2} (hs : SimR w K r op) (hs' : SimR w K r' op') (σ : L2.St) (H : Hp) (Q : VK) (h : tE w K (mChain op op' fa fb fc) σ H Q) :
    tChain r r' (tE w K fa) (tE w K fb) (tE w K fc) σ H Q := by
  obtain ⟨m, τ, h, d, h', R, S, e, q⟩ := h
  obtain ⟨⟨x, h1⟩, e1, e⟩ := bind_some' e
  obtain ⟨⟨y, h2⟩, e2, e⟩ := bind_some' e
  obtain ⟨⟨z, h3⟩, e3, e⟩ := bind_some' e
  refine ⟨m, τ, h, x, h1, R, S, e1, fun m1 H1 v1 L1 S1 r1 _ => ?_⟩
  refine ⟨m1, τ, h1, y, h2, R.mono S.cl L1.toLw, S1, e2, fun m2 H2 v2 L2 S2 r2 _ => ?_⟩
  refine hs m2 h2 H2 v1 v2 x y z h3 _ S2 (r1.mono S1.cl L2) r2 e3 fun m3 H3 v3 L3 S3 r3 n3 => ?_
  dsimp only at e
  have L13 := L1.trans (L2.trans L3)
  split at e
  · cases r3 with
    | val r =>
      cases r
      refine ⟨true, rfl, ?_⟩
      rw [if_pos rfl]
      obtain ⟨⟨w, h4⟩, e4, e⟩ := bind_some' e
      refine ⟨m3, τ, h3, w, h4, R.mono S.cl L13.toLw, S3, e4, fun m4 H4 v4 L4 S4 r4 _ => ?_⟩
      exact hs' m4 h4 H4 v2 v4 y w d h' Q S4 (r2.mono S2.cl (L3.trans L4)) r4 e fun m' H' v L' S' r' n' => q m' H' v (L13.trans (L4.trans L')) S' r' (n'.back S4.cl (L13.trans L4))
  · cases e
    cases r3 with
    | val r =>
      cases r
      refine ⟨false, rfl, ?_⟩
      rw [if_neg (by decide)]
      exact q m3 H3 _ L13 S3 (.val (.bl false)) (nwV _ _ _)
  · cases e
theorem je_chain {o o' : CmpOp} {op op' : Op2} (c1 : CmpOk X o op b) (c2 : CmpOk X o' op' c) (ha : JE X a fa) (hb : JE X b fb) (hc : JE X c fc) (hm : lastMarks [o, o'] [b, c] = false := by with_unfolding_all rfl) : JE X (.Compare a [o, o'] [b, c] pos) (mChain op op' fa fb fc) := by
  obtain ⟨r, h1, h2, _⟩ := c1
  obtain ⟨r', h1', h2', _⟩ := c2
  exact pe_weak (pe_chain h1 h1' ha hb hc hm) (chain_sem h2 h2')
theorem jt_chain {o o' : CmpOp} {op op' : Op2} (c1 : CmpOk X o op b) (c2 : CmpOk X o' op' c) (ha : JE X a fa) (hb : JE X b fb) (hc : JE X c fc) (hm : lastMarks [o, o'] [b, c] = false := by with_unfolding_all rfl) : JT X (.Compare a [o, o'] [b, c] pos) (mB (mChain op op' fa fb fc)) := by
  obtain ⟨r, h1, h2, _⟩ := c1
  obtain ⟨r', h1', h2', _⟩ := c2
  refine pt_weak (pt_chain h1 h1' ha hb hc hm) fun σ H Q ⟨m, τ, h, d, h', R, S, e, q⟩ => ?_
  obtain ⟨⟨x, h4⟩, e1, e⟩ := bind_some' e
  refine chain_sem h2 h2' σ H _ ⟨m, τ, h, x, h4, R, S, e1, fun m1 H1 v L1 S1 r1 n1 => ?_⟩
  dsimp only at e
  split at e
  · cases e
    cases r1 with
    | val r => cases r; exact ⟨_, rfl, q m1 H1 L1 S1⟩
  · cases e
/-! ## the truth of a value -/
def tru (q : LV) (h : AH) : Option Bool := match q with
  | .val .non => some false
  | .val (.bl b) => some b
  | .val (.int i) => some (i != 0)
  | q => (asQ q h).map fun ds => !ds.isEmpty
theorem tru_sem {w : World} {K : PySem.W.Frag} {m : List Addr} {h : AH} {H : Hp} {v : V} {q : LV} {k : Bool} (S : Sim w K m h H) (r : RQ K m H v q) (e : tru q h = some k) : TruV K v H k := by
  unfold tru at e
  split at e
  · cases e
    cases r with
    | val r => cases r; exact rfl
  · cases e
    cases r with
    | val r => cases r; exact rfl
  · cases e
    cases r with
    | val r => cases r; exact rfl
  · obtain ⟨ds, e1, e2⟩ := Option.map_eq_some_iff.mp e
    obtain ⟨p, vs, rfl, hS, rv⟩ := asQ_ok S r e1
    have hl := rv.length
    have he : (!vs.isEmpty) = !ds.isEmpty := by
      cases vs <;> cases ds <;> first | rfl | (simp at hl)
    rcases hS with hS | hS
    · exact .inl ⟨vs, hS, by rw [he, e2]⟩
    · exact .inr (.inl ⟨vs, hS, by rw [he, e2]⟩)
def mTr (fa : SE) : ST := fun τ h => (fa τ h).bind fun p => (tru p.1 p.2).bind fun k => some (k, p.2)
theorem jt_tr (ha : JE X a fa) (he : ∀ whole, isTrue a X.env whole = (do let v ← whole; standAt a.pos; holding [v] (truthy v)) := by intro _; rfl) : JT X a (mTr fa) := by
  refine pt_weak (pt_truth ha he) fun σ H Q ⟨m, τ, h, d, h', R, S, e, q⟩ => ?_
  obtain ⟨⟨x, h1⟩, e1, e⟩ := bind_some' e
  obtain ⟨k, e2, e⟩ := bind_some' e
  cases e
  exact ⟨m, τ, h, x, h1, R, S, e1, fun m1 H1 v L1 S1 r1 n1 => ⟨d, tru_sem S1 r1 e2, q m1 H1 L1 S1⟩⟩
def mOrX (fa fb : SE) : SE := fun τ h => (fa τ h).bind fun p => (tru p.1 p.2).bind fun k => if k = true then some p else fb τ p.2
def mAndX (fa fb : SE) : SE := fun τ h => (fa τ h).bind fun p => (tru p.1 p.2).bind fun k => if k = true then fb τ p.2 else some p
def mNotX (fa : SE) : SE := fun τ h => (fa τ h).bind fun p => (tru p.1 p.2).bind fun k => some (.val (.bl (!k)), p.2)
theorem je_orX (ha : JE X a fa) (hb : JE X (.BoolOp .Or (b :: rest) pos) fb) : JE X (.BoolOp .Or (a :: b :: rest) pos) (mOrX fa fb) := by
  refine pe_weak (pe_orT ha hb) fun σ H Q ⟨m, τ, h, d, h', R, S, e, q⟩ => ?_
  obtain ⟨⟨x, h1⟩, e1, e⟩ := bind_some' e
  obtain ⟨k, e2, e⟩ := bind_some' e
  refine ⟨m, τ, h, x, h1, R, S, e1, fun m1 H1 v L1 S1 r1 n1 => ⟨k, tru_sem S1 r1 e2, ?_⟩⟩
  cases k with
  | true =>
    rw [if_pos rfl] at e ⊢
    cases e
    exact q m1 H1 v L1 S1 r1 n1
  | false =>
    rw [if_neg (by decide)] at e ⊢
    exact ⟨m1, τ, h1, d, h', R.mono S.cl L1.toLw, S1, e, fun m2 H2 v L2 S2 r2 n2 => q m2 H2 v (L1.trans L2) S2 r2 (n2.back S1.cl L1)⟩
theorem je_andX (ha : JE X a fa) (hb : JE X (.BoolOp .And (b :: rest) pos) fb) : JE X (.BoolOp .And (a :: b :: rest) pos) (mAndX fa fb) := by
  refine pe_weak (pe_andT ha hb) fun σ H Q ⟨m, τ, h, d, h', R, S, e, q⟩ => ?_
  obtain ⟨⟨x, h1⟩, e1, e⟩ := bind_some' e
  obtain ⟨k, e2, e⟩ := bind_some' e
  refine ⟨m, τ, h, x, h1, R, S, e1, fun m1 H1 v L1 S1 r1 n1 => ⟨k, tru_sem S1 r1 e2, ?_⟩⟩
  cases k with
  | false =>
    rw [if_neg (by decide)] at e ⊢
    cases e
    exact q m1 H1 v L1 S1 r1 n1
  | true =>
    rw [if_pos rfl] at e ⊢
    exact ⟨m1, τ, h1, d, h', R.mono S.cl L1.toLw, S1, e, fun m2 H2 v L2 S2 r2 n2 => q m2 H2 v (L1.trans L2) S2 r2 (n2.back S1.cl L1)⟩
theorem je_notX (ha : JE X a fa) : JE X (.UnaryOp .Not a pos) (mNotX fa) := by
  refine pe_weak (pe_notT ha) fun σ H Q ⟨m, τ, h, d, h', R, S, e, q⟩ => ?_
  obtain ⟨⟨x, h1⟩, e1, e⟩ := bind_some' e
  obtain ⟨k, e2, e⟩ := bind_some' e
  cases e
  exact ⟨m, τ, h, x, h1, R, S, e1, fun m1 H1 v L1 S1 r1 n1 => ⟨k, tru_sem S1 r1 e2, q m1 H1 _ L1 S1 (.val (.bl _)) (nwV _ _ _)⟩⟩
end
end Sm
namespace Sm
open PySem PySem.Spec PyProof.Rows L2
/-! ## enumerate of a list or a tuple -/
set_option maxHeartbeats 1000000 in
theorem newEnum {v : Value} {o : Obj} {G : Heap → Prop} (B : Begins v o G) :
    Meets (Builtin.«enumerate.__new__» ⟨[.type "enumerate", v], []⟩) fun _ R s => G s.heap ∧
      R (.ok (.ret (.ref (s.heap.push o).objs.size))) { s with heap := (s.heap.push o).push { cls := .type "enumerate", data := .fields #[.none, .bool false, .ref s.heap.objs.size, rawInt 0, .none, .none] } } :=
  .of_wp fun prog w A R s h => by
    obtain ⟨hp, gens, dd, tk, os⟩ := s
    obtain ⟨g1, h⟩ := h
    have isub := sub_enumerate
    have go : ∀ {A' : Around} {E Q : Value → Shared → Prop}, Q (.ref hp.objs.size) ⟨hp.push o, gens, dd, tk, os⟩ → wpAny (model prog w) A' (pyIter v) Q E ⟨hp, gens, dd, tk, os⟩ :=
      fun z => B.iter prog w _ _ ⟨hp, gens, dd, tk, os⟩ _ g1 z
    wp_walk using go
    refine wpAny_stack_any fun st => wpAny_pure ?_
    split
    · rename_i c _ _ _ _ _
      cases (c == Value.type "enumerate") <;> (wp_walk using go; exact ⟨_, rfl, h⟩)
    · wp_walk using go
      exact ⟨_, rfl, h⟩
theorem enumBegins {prog : Program} {w : World} {A : Around} {E : Value → Shared → Prop} {s : Shared} {v : Value} {o : Obj} {G : Heap → Prop} {Q : Value → Shared → Prop} (B : Begins v o G) (g1 : G s.heap)
    (h : ∀ h', IsEnum h' (s.heap.objs.size + 1) s.heap.objs.size 0 .none → h'.get? s.heap.objs.size = some o → (∀ b o, s.heap.get? b = some o → h'.get? b = some o) → Q (.ref (s.heap.objs.size + 1)) { s with heap := h' }) :
    wpAny (model prog w) A (call (.type "enumerate") [v]) Q E s := by
  refine callType_new F.called_enumerate (by decide) (F.typeCall_enumerate_1 _) (F.newCall_enumerate_1 _) (fun ob => F.args_object_init_2 ob _) F.entry_enumerate_new (newEnum B) ⟨g1, ?_⟩
  have hz : (s.heap.push o).objs.size = s.heap.objs.size + 1 := Heap.size_push ..
  show _ ∧ _
  rw [hz]
  have e1 : IsEnum ((s.heap.push o).push { cls := .type "enumerate", data := .fields #[.none, .bool false, .ref s.heap.objs.size, rawInt 0, .none, .none] }) (s.heap.objs.size + 1) s.heap.objs.size 0 .none := by
    have z := Heap.get?_push_size (s.heap.push o) (o := { cls := .type "enumerate", data := .fields #[.none, .bool false, .ref s.heap.objs.size, rawInt 0, .none, .none] }) rfl
    rwa [hz] at z
  exact ⟨⟨_, e1, rfl⟩, h _ e1 (Heap.get?_push_of_some _ (Heap.get?_push_size _ B.free)) fun b o' x => Heap.get?_push_of_some _ (Heap.get?_push_of_some _ x)⟩
def ItnM (K : PySem.W.Frag) (k : Bool) (a : Addr) : It :=
  ⟨fun i H => ∃ (xs : List V) (x : V), SqX K H k a xs ∧ xs[i]? = some x,
    fun i H v H' => ∃ T x, v = .ref T ∧ H T = none ∧ H' = upd H T (.tup [.int (i : Nat), x]) ∧ ∀ xs, SqX K H k a xs → xs[i]? = some x,
    fun i H => ∃ xs : List V, SqX K H k a xs ∧ i = xs.length⟩
theorem turn_enumM {P : Program} {w : World} {K : PySem.W.Frag} {elts : List Expr} {kk : Nat} {tpos : Pos} {k : Bool} {a e it : Addr} (hne : e ≠ it) (hea : e ≠ a) (hai : a ≠ it) :
    Turn P w K (.Tuple elts kk tpos) (ItnM K k a) [e, it] e (fun i h => (∃ old, IsEnum h e it ((i : Nat) : Int) old) ∧ IterX h k it a i) where
  mem := List.mem_cons_self
  obj := fun i h st c hc => by
    obtain ⟨⟨old, he⟩, j⟩ := st
    have two : c = e ∨ c = it := by simpa using hc
    rcases two with q | q
    · rw [q]; exact ⟨_, he, fun v z => nomatch z⟩
    · rw [q]; exact j.obj
  keep := fun i h h' st kp => by
    obtain ⟨⟨old, he⟩, j⟩ := st
    exact ⟨⟨old, kp e (by simp) _ he⟩, j.at fun o q => kp it (by simp) o q⟩
  item := by
    intro X hP hw hK hc i pins s σ H E I hf st hg
    subst hP hw hK
    obtain ⟨⟨old, he⟩, j⟩ := st
    obtain ⟨xs, x, hq, hx⟩ := hg
    obtain ⟨us, rv, p1⟩ := seqX I hq
    obtain ⟨u, hu, ru⟩ := rv.get hx
    have hd : X.A.in1.handled = none := I.ok.hd hc
    have hel : e < s.heap.objs.size := Heap.lt_size he
    refine wpAny_pyNext_enum_itemC (drawsX hd k it a hai us) he ⟨j, p1⟩ (List.getElem?_eq_some_iff.mp hu).1 hne (nin2 hne hea) fun x1 h' tk e1 ho st2 hT hsz hk => ?_
    rw [hu] at e1
    cases e1
    refine ⟨_, rfl, wpAny_letOwnedTupleGo_enum (s := { s with heap := h', toks := tk + 1 }) ho fun h'' he' sb => ?_⟩
    have all : ∀ (c : Addr) (o : Obj), c ∉ [e, it] → s.heap.get? c = some o → h''.get? c = some o := fun c o hb q => by
      have n1 : c ≠ e := fun z => hb (by simp [z])
      exact (sb.2 c n1).trans (hk c o n1 (fun z => hb (by simp [z])) q)
    have hT2 : h''.get? s.heap.objs.size = some { cls := .type "tuple", data := .seq #[.int i tk, u] } := (sb.2 _ (Nat.ne_of_gt hel)).trans hT
    have nw : ObjOk X.prog X.w (upd H s.heap.objs.size (.tup [.int (i : Nat), x])) h'' s.heap.objs.size (.tup [.int (i : Nat), x]) :=
      ⟨(show 2 ≤ sizeLine by decide), [.int i tk, u], .cons ⟨_, rfl⟩ (.cons ru .nil), _, hT2, rfl, _, rfl⟩
    have I1 : Inv X pins σ (upd H s.heap.objs.size (.tup [.int (i : Nat), x])) { s with heap := h'', toks := tk + 1 } := I.turnedNew (t' := tk + 1) (ch := [e, it]) all hf (Nat.le_refl _) nw
    refine ⟨.ref s.heap.objs.size, _, I1, rfl, ⟨_, x, rfl, I.hok.fresh (Nat.le_refl _), rfl, fun l hl => by rw [seqX_inj I hl hq]; exact hx⟩, ⟨⟨u, ?_⟩, st2.1.at fun o q => (sb.2 _ (Ne.symm hne)).trans q⟩, fun c hcm => ?_⟩
    · rw [show ((i + 1 : Nat) : Int) = (i : Int) + 1 by omega]
      exact he'
    · have hlt : c < s.heap.objs.size := by
        have two : c = e ∨ c = it := by simpa using hcm
        rcases two with q | q
        · rw [q]; exact hel
        · obtain ⟨_, e2, _⟩ := j.obj
          rw [q]; exact Heap.lt_size e2
      rw [upd_ne (Nat.ne_of_lt hlt)]
      exact (hf c hcm).1
  done := by
    intro X hP hw hK hc i pins s σ H E I hf st hg
    subst hP hw hK
    obtain ⟨⟨old, he⟩, j⟩ := st
    obtain ⟨xs, hq, hi⟩ := hg
    obtain ⟨us, rv, p1⟩ := seqX I hq
    have q1 := rv.length
    have hd : X.A.in1.handled = none := I.ok.hd hc
    have hi' : i = us.length := hi.trans q1
    subst hi'
    refine wpAny_pyNext_enum_endD (drawsX hd k it a hai us) he ⟨j, p1⟩ fun h' hk => ?_
    exact ⟨rfl, I.turnedL (t' := s.toks) (ch := [e, it]) (fun c o hb q => hk c o (fun z => hb (by simp [z])) q) hf⟩
  self := fun A i s Q E st h => by
    obtain ⟨⟨old, he⟩, _⟩ := st
    exact wpAny_pyIter_enum he h
def iEnumM (K : PySem.W.Frag) (ta : TA) : TI := fun σ H R => ta σ H fun vs H1 => ∃ a xs k, vs = [.ref a] ∧ SqX K H1 k a xs ∧ R (ItnM K k a) H1
theorem pi_enumM {X : Cx} {e : Expr} {ta : TA} {p pos tpos : Pos} {elts : List Expr} {kk : Nat} (hg : Gl X "enumerate") (hm : X.mg "enumerate" = none) (ha : PA X [e] ta) (hs : starEach [e] X.env = [(false, eval e X.env)] := by rfl) :
    PI X (.Tuple elts kk tpos) (.Call (.Name "enumerate" p) [e] [] pos) (iEnumM X.K ta) := by
  refine ⟨fun pins s σ H R I h => ?_⟩
  refine Call_ (ld_blt I hg hm boot_enumerate (PyProof.Rows.callWith_type1 (thn (ha.run pos pins s σ H _ I h) fun us s1 hq => ?_) hs rfl))
  obtain ⟨vs, H1, I1, r1, a, xs, k, rfl, hqx, q⟩ := hq
  cases r1 with
  | cons w1 rr =>
    cases rr
    cases w1
    obtain ⟨us, rv, p1⟩ := seqX I1 hqx
    have alt := p1.lt
    refine enumBegins (beginsX k a us) p1 fun h' he o1 hk => wpAny_pyIter_enum he ?_
    have I2 : Inv X pins σ H1 { s1 with heap := h' } := I1.kept (t' := s1.toks) hk
    refine ⟨s1.heap.objs.size + 1, [s1.heap.objs.size + 1, s1.heap.objs.size], _, _, H1, rfl, I2, turn_enumM (Nat.succ_ne_self _) (Nat.ne_of_gt (Nat.lt_succ_of_lt alt)) (Nat.ne_of_lt alt), ⟨⟨_, he⟩, iterX_new o1⟩, fun c hcm => ?_, q⟩
    have hle : s1.heap.objs.size ≤ c := by
      have two : c = s1.heap.objs.size + 1 ∨ c = s1.heap.objs.size := by simpa using hcm
      rcases two with z | z <;> rw [z]
      · exact Nat.le_succ _
      · exact Nat.le_refl _
    exact I1.fpOk hle (I1.hok.fresh hle)
def numD (ds : List D) : Nat → List D := fun n => match ds with
  | [] => []
  | d :: r => .zt [.int (n : Int), d] :: numD r (n + 1)
theorem numD_get : ∀ {ds : List D} {n i : Nat} {d : D}, (numD ds n)[i]? = some d → ∃ x, ds[i]? = some x ∧ d = .zt [.int ((n + i : Nat) : Int), x]
  | x :: r, n, 0, d, h => ⟨x, rfl, by
    unfold numD at h
    simpa using h.symm⟩
  | x :: r, n, i + 1, d, h => by
    unfold numD at h
    obtain ⟨y, h1, h2⟩ := numD_get (ds := r) (n := n + 1) (i := i) (d := d) (by simpa using h)
    exact ⟨y, by simpa using h1, by rw [h2, show n + 1 + i = n + (i + 1) by omega]⟩
  | [], n, i, d, h => by
    unfold numD at h
    simp at h
theorem numD_len : ∀ (ds : List D) (n : Nat), (numD ds n).length = ds.length
  | [], n => by unfold numD; rfl
  | x :: r, n => by unfold numD; rw [List.length_cons, List.length_cons, numD_len r]
def enumOf : List LV → AH → Option ItD
  | [p], h => (iterOf p h).bind fun a => some ⟨numD a.items 0, a.grd⟩
  | _, _ => none
def mEnum (fr : SA) : SI := fun τ h => (fr τ h).bind fun p => (enumOf p.1 p.2).bind fun it => some (it, p.2)
theorem ji_enum {X : Cx} {e : Expr} {fr : SA} {p pos tpos : Pos} {elts : List Expr} {kk : Nat} (hg : Gl X "enumerate") (hm : X.mg "enumerate" = none) (ha : JA X [e] fr) (hs : starEach [e] X.env = [(false, eval e X.env)] := by rfl) :
    JI X (.Tuple elts kk tpos) (.Call (.Name "enumerate" p) [e] [] pos) (mEnum fr) := by
  refine pi_weak (pi_enumM hg hm ha hs) fun σ H R ⟨m, τ, h, it, h', Rs, S, e, q⟩ => ?_
  obtain ⟨⟨x, h1⟩, e1, e⟩ := bind_some' e
  obtain ⟨it', e2, e⟩ := bind_some' e
  cases e
  refine ⟨m, τ, h, x, h1, Rs, S, e1, fun m1 H1 v1 L1 S1 r1 => ?_⟩
  dsimp only at e2
  unfold enumOf at e2
  split at e2
  · obtain ⟨A, ea, e2⟩ := bind_some' e2
    cases e2
    cases r1 with
    | cons ra rr =>
      cases rr
      obtain ⟨k1, pa, us, rfl, qa, wa, sa⟩ := srcX_of S1 ra ea
      refine ⟨pa, us, k1, rfl, qa, q m1 H1 _ L1 S1 fun i m2 h2 H2 L2 S2 G => ?_⟩
      obtain ⟨us2, qa2, wa2⟩ := sa m2 h2 H2 L2 S2 G
      refine ⟨fun d hd => ?_, fun hi => ?_⟩
      · obtain ⟨x, hx, rfl⟩ := numD_get hd
        obtain ⟨vx, gx, rx⟩ := wa2.get hx
        refine ⟨⟨us2, vx, qa2, gx⟩, fun v H3 hy3 => ?_⟩
        obtain ⟨T, x3, rfl, hT, rfl, fx⟩ := hy3
        have z1 := fx us2 qa2
        rw [gx] at z1
        cases z1
        refine ⟨Le.upd S2.cl hT _, S2.upd hT _, ?_⟩
        rw [Nat.zero_add]
        exact RV.ztN S2 hT (.cons (.int _) (.cons rx .nil))
      · exact ⟨us2, qa2, by rw [hi, wa2.length]; exact numD_len _ _⟩
  · cases e2
end Sm
namespace Sm
open PySem PySem.Spec PyProof.Rows L2
/-! ## a def that is called where no repr is under way -/
structure FnG (P : Program) (w : World) (K : PySem.W.Frag) (mg : Str → Option Value) (base : Heap) (k : Nat) (f : Addr) (fd : FuncData) (ps : List Str) (sp : Sp) : Prop where
  len : ∀ vs H Q E, sp vs H Q E → vs.length = ps.length
  run : ∀ (A : Around) (outer : List Env) (s : Shared) (H : Hp) (args : Args) (us : List Value) (vs : List V) (Q : VK) (E : XK), Room k A → A.guards = some [] → Env0 P w K mg base A outer s H → BindsTo s fd args (ps.zip us) → Vals vs us → sp vs H Q E →
    codeAny (model P w) A (.call (.ref f) args) (CR CX0 outer P w H s Q E) s
theorem FnG.of {P : Program} {w : World} {K : PySem.W.Frag} {mg : Str → Option Value} {base : Heap} {k : Nat} {f : Addr} {fd : FuncData} {ps : List Str} {sp : Sp} (G : FnOk P w K mg base CX0 k f fd ps sp) : FnG P w K mg base k f fd ps sp :=
  ⟨G.len, fun A o s H a us vs Q E hr _ e0 hb hv hs => G.run A o s H a us vs Q E hr e0 hb hv hs⟩
section
variable {P : Program} {w : World} {K : PySem.W.Frag} {mg : Str → Option Value} {base : Heap}
theorem fnG_of {x qual : Str} {st : Stmt} {f : Addr} {fd : FuncData} {N ps : List Str} {k : Nat} {sp : Sp} (F : Fun K x qual st f fd) (S : FnScope N ps (defScope st)) (len : ∀ vs H Q E, sp vs H Q E → vs.length = ps.length)
    (hbody : ∀ (cdv : Value) (A : Around) (outer : List Env) (s : Shared) (H : Hp) (vs : List V) (Q : VK) (E : XK), Room k (A.deeper (envOfC qual (defScope st) s.heap.objs.size f cdv)) → A.guards = some [] → sp vs H Q E →
      ∃ t, PSs (cxOf CX0 P w K mg base N qual (defScope st) f cdv A outer s H E).nox (defBody st) t ∧ t { nx := fun _ H' => Q .non H', rt := Q } (start N vs) H) : FnG P w K mg base (k + 1) f fd ps sp := by
  obtain ⟨oc, od, kV, doc, pm, an, cdv, ct, osl, rfl, lk, hcd⟩ := F.ex
  refine ⟨len, fun A outer s H args us vs Q E hr hgu e0 hb r hsp => ?_⟩
  have vl := len _ _ _ _ hsp
  have kin : K.In s.heap := e0.mod.kin.keeps fun b o z => (e0.bs b o z).1
  have nol : s.heap.NoLimit := e0.mod.nolimit.keeps fun b o z => (e0.bs b o z).1
  refine codeAny_call_function hr.depth (kin _ _ lk) rfl S.co S.gen rfl (PySem.W.codeRec_of kin hcd) (hb _ _ _ _ ?_)
  refine wpAny_newFunctionEnv_cells S.kind (fun y hy => ?_) fun env he s1 xx => ?_
  · obtain ⟨n, v⟩ := y
    rcases S.par n (List.of_mem_zip hy).1 with z | z
    · exact .inl z
    · exact .inr ⟨z, PySem.W.cellsFrom_some _ _ _ (.inl z)⟩
  · subst he
    refine ⟨nol.keeps xx.toInCall.keep, codeAny_func ?_⟩
    obtain ⟨t, ht, hq⟩ := hbody cdv A outer s H vs Q E (hr.deeper _) hgu hsp
    have I := inv_start (CX := CX0) (E := E) S hr.hd e0 vl r xx
    refine wpAny_mono (ht.nox.run [] s1 (start N vs) H _ I hq) (fun fl s' hs => ?_) fun e s' hs => hs
    cases fl with
    | ret u =>
      obtain ⟨v, σ', H', J, rv, z⟩ := hs
      exact ⟨v, H', J.os, J.bare, J.base, J.hok, rv, z⟩
    | next =>
      obtain ⟨σ', H', J, z⟩ := hs
      exact ⟨.non, H', J.os, J.bare, J.base, J.hok, rfl, z⟩
    | brk =>
      obtain ⟨_, _, _, z⟩ := hs
      exact z.elim
    | cont =>
      obtain ⟨_, _, _, z⟩ := hs
      exact z.elim
end
section
variable {X : Cx} {a : Expr} {es : List Expr} {fr : SA} {pos : Pos}
theorem run_fnG {pins : List (Addr × Obj)} {σ : L2.St} {H : Hp} {s : Shared} {Q : VK} {us : List Value} {vs : List V} {k : Nat} {f : Addr} {fd : FuncData} {ps : List Str} {sp : Sp} {E : XK} (G : FnG X.prog X.w X.K X.mg X.base k f fd ps sp) (hr : Room k X.A) (hgu : X.A.guards = some []) (hb : Binds X.K fd ps []) (hx : Passes CX0 X E)
    (I : Inv X pins σ H s) (r : Vals vs us) (h : sp vs H Q E) : wpAny (model X.prog X.w) X.A (call (.ref f) us) (EP X pins σ Q) X.xe s := by
  have ul : us.length = ps.length := by rw [← r.length]; exact G.len _ _ _ _ h
  have bb := hb s us I.kIn (by rw [List.append_nil]; exact ul)
  rw [List.append_nil] at bb
  refine wpAny_call (codeAny_mono (G.run X.A X.stack s H ⟨us, []⟩ us vs Q E hr hgu I.env0 bb r h) fun res s' hq => ?_)
  cases res with
  | error e => exact hx pins σ H s e s' I hq
  | ok fl =>
    cases fl <;> first | exact I.after hq | exact hq.elim
theorem je_callG {x : Str} {p : Pos} {k n : Nat} {f : Addr} {fd : FuncData} {ps : List Str} {F : SF} (G : FnG X.prog X.w X.K X.mg X.base k f fd ps (spF X.w X.K n F)) (hr : Room k X.A) (hgu : X.A.guards = some []) (hg : Gl X x) (hm : X.mg x = some (.ref f)) (hk : PySem.W.keepIn X.K (.ref f) = true) (hb : Binds X.K fd ps [])
    (ha : JA X (a :: es) fr) (hl : LenA fr n) (hp : ps.length = n) (hdb : (x == ("__debug__" : Str)) = false := by decide) (he : starEach (a :: es) X.env = (false, eval a X.env) :: starEach es X.env := by rfl) (hpl : (backTo pos (starEach es X.env)).any (·.1) = false := by rfl) :
    JE X (.Call (.Name x p) (a :: es) [] pos) (mCall F fr) := by
  refine ⟨fun pins s σ H Q I h => ?_⟩
  obtain ⟨m, τ, h0, qs, h', R, S, e, q⟩ := call_sem hp hl h
  refine wpAny_Call_Name_kw (ld_glob I hg hm ?_ hdb)
  refine PySem.W.callWith_K (h₀ := X.base) I.ok.mod.kin hk (thn (ha.run pos pins s σ H (fun vs H' => spF X.w X.K n F vs H' Q E0) I ⟨m, τ, h0, qs, h', R, S, e, q⟩) fun us s1 ⟨vs, H1, I1, r, z⟩ => ⟨I1.kIn, ?_⟩) he hpl
  exact run_fnG G hr hgu hb pass0 I1 r z
end
theorem fn_semG {P : Program} {w : World} {K : PySem.W.Frag} {mg : Str → Option Value} {base : Heap} {x qual : Str} {st : Stmt} {f : Addr} {fd : FuncData} {N ps : List Str} {k n nn : Nat} {body : SS}
    (F : Fun K x qual st f fd) (Sc : FnScope N ps (defScope st)) (hn : ps.length = n) (hN : N.length = nn)
    (hb : ∀ (cdv : Value) (A : Around) (outer : List Env) (s : Shared) (H : Hp) (E : XK), Room k (A.deeper (envOfC qual (defScope st) s.heap.objs.size f cdv)) → A.guards = some [] →
      JB (cxOf CX0 P w K mg base N qual (defScope st) f cdv A outer s H E).nox (defBody st) body) : FnG P w K mg base (k + 1) f fd ps (spF w K n (runDef n nn body)) := by
  refine fnG_of F Sc (fun vs H Q E ⟨m, h, ds, d, h', S, r, hl, _⟩ => by rw [r.length, hl, hn]) fun cdv A outer s H vs Q E hr hgu hsp => ?_
  obtain ⟨m, h, ds, d, h', S, r, hl, e, q⟩ := hsp
  refine ⟨_, hb cdv A outer s H E hr hgu, ?_⟩
  unfold runDef at e
  rw [if_pos hl] at e
  obtain ⟨r1, e1, e⟩ := bind_some' e
  have R := rst_start r (nn - n)
  refine ⟨m, _, h, r1, ?_, S, e1, ?_⟩
  · unfold L2.start
    rw [hN, r.length, hl]
    exact R
  · cases r1 with
    | nx τ' h1 =>
      intro m' H' σ' L' S' R'
      obtain ⟨m2, L2, S2, r2⟩ := gc_ok S L' S' (RV.non (K := K) (m := m') (H := H'))
      have e2 := Option.some.inj e
      rw [e2] at S2 r2
      exact q m2 H' _ L2 S2 r2
    | rt d1 h1 =>
      intro m' H' v L' S' r'
      obtain ⟨m2, L2, S2, r2⟩ := gc_ok S L' S' r'
      have e2 := Option.some.inj e
      rw [e2] at S2 r2
      exact q m2 H' v L2 S2 r2
    | bk τ' h1 => cases e
    | ct τ' h1 => cases e
end Sm
namespace Sm
open PySem PySem.Spec PyProof.Rows L2
/-! ## the law's call, where no repr is under way -/
/-- one list is known, nothing else -/
def OneL (H : Hp) (a : Addr) (ob : Obj) (xs : List V) : Prop := (∀ b, H b = none) ∨ ∀ b, H b = if b = a then some (.frz ob (.lst xs)) else none
theorem lawG_core {P : Program} {w : World} {K : PySem.W.Frag} {mg mb : Str → Option Value} {k : Nat} {fa a : Addr} {fd : FuncData} {x : Str} {sp : Sp} {s₁ : Shared} {vs : List Value} {xs : List V} {H : Hp}
    (KX : K.In s₁.heap) (hns : s₁.heap.Ns mainGlobals mg) (hb : s₁.heap.Ns builtinsNs mb) (hbb : ∀ x : Str, x ≠ "__name__" → mb x = bootBuiltins x) (hlim : s₁.heap.NoLimit) (hg : s₁.gens = #[])
    (ha : s₁.heap.get? a = some { cls := .type "list", data := .seq vs.toArray }) (hr : Room k callerA)
    (F : ∀ base : Heap, K.In base → base.Ns mainGlobals mg → FnG P w K mg base k fa fd [x] sp) (hbind : ∀ (s : Shared) (u : Value), BindsTo s fd ⟨[u], []⟩ [(x, u)])
    (one : OneL H a { cls := .type "list", data := .seq vs.toArray } xs) (hok : HOk P w H s₁.heap) (free : H a ≠ none → K.lookup a = none) (hsp : sp [.ref a] H (fun v _ => v = .bl true) E0) :
    codeAny (model P w) callerA (.call (.ref fa) ⟨[.ref a], []⟩) (fun r s' => r = .ok (.ret (.bool true)) ∧ OldK s₁.heap s'.heap ∧ s'.os = s₁.os ∧ AllBare s'.gens) s₁ := by
  have off : ∀ b, b ≠ a → H b = none := fun b hn => by
    rcases one with z | z
    · exact z b
    · rw [z, if_neg hn]
  have low : ∀ {b : Addr} {o : Obj}, s₁.heap.get? b = some o → H b = none → (hidT s₁.heap H).get? b = some o := fun e n => hidT_get e n
  have ns2 : ∀ {b : Addr} {m : Str → Option Value}, s₁.heap.Ns b m → (hidT s₁.heap H).Ns b m := fun {b m} hn => by
    obtain ⟨o, es, ep, e, dd, rr⟩ := hn
    refine ⟨o, es, ep, low e (off b fun z => ?_), dd, rr⟩
    subst z
    rw [ha] at e
    cases e
    cases dd
  have kin : K.In (hidT s₁.heap H) := fun b o e => by
    refine low (KX b o e) ?_
    cases z : H b with
    | none => rfl
    | some u =>
      have hba : b = a := Classical.byContradiction fun hn => by rw [off b hn] at z; cases z
      subst hba
      rw [free (by rw [z]; exact fun q => nomatch q)] at e
      cases e
  have nl : (hidT s₁.heap H).NoLimit := by
    obtain ⟨mc, n1, n2⟩ := hlim
    exact ⟨mc, ns2 n1, n2⟩
  have e0 : Env0 P w K mg (hidT s₁.heap H) callerA [] s₁ H := ⟨rfl, ⟨kin, ns2 hns, ⟨mb, ns2 hb, hbb⟩, nl⟩, fun b o e => of_hidT e, Nat.le_of_eq (hidT_size _ _), trivial, fun b q => (by cases q), hok, .of_eq hg⟩
  refine codeAny_mono ((F _ kin (ns2 hns)).run callerA [] s₁ H ⟨[.ref a], []⟩ [.ref a] [.ref a] _ _ hr rfl e0 (hbind s₁ (.ref a)) (.cons rfl .nil) hsp) fun r s' z => ?_
  cases r with
  | error e => exact (show False from z).elim
  | ok fl =>
    cases fl with
    | next => exact z.elim
    | brk => exact z.elim
    | cont => exact z.elim
    | ret u =>
      obtain ⟨v, H', os, bare, un, hok', rv, q⟩ := z
      have q : v = .bl true := q
      subst q
      have rv : u = Value.bool true := rv
      subst rv
      refine ⟨rfl, OldK.of_keep fun b o e => ?_, os, bare⟩
      cases zb : H b with
      | none => exact un.keep b o e zb (fun q => nomatch q) (fun q => nomatch q)
      | some u =>
        have hba : b = a := Classical.byContradiction fun hn => by rw [off b hn] at zb; cases zb
        rcases one with o1 | o1
        · rw [o1 b] at zb; cases zb
        · have hb2 := o1 b
          rw [if_pos hba] at hb2
          have w1 := (hok b _ hb2).1
          have w2 := (hok' b _ (un.frzs b _ _ hb2)).1
          rw [e] at w1
          rw [w1]
          exact w2
theorem walk_ofG {l : PySem.W.OpenLaw} {n k : Nat} {q : Program} {loose : List Str} {XP : (Str → Option Value) → Heap → Prop} {YP : World → Heap → Prop} {d : DefRec} {K : Params → PySem.W.Frag} {sp : World → Sp} {x : Str}
    (hn : l.most = some n) (hn2 : n ≤ sizeLine) (hdf : d.params.defaults = []) (hr : Room k callerA) (hY : ∀ (w : World) (h : Heap), YP w h → (K w.params).In h)
    (F : ∀ (w : World) (mg : Str → Option Value) (fa : Addr) (h : Heap), (K w.params).In h → h.Ns mainGlobals mg → mg d.name = some (.ref fa) →
      ∃ fd : FuncData, (∀ (s : Shared) (u : Value), BindsTo s fd ⟨[u], []⟩ [(x, u)]) ∧ ∀ base : Heap, (K w.params).In base → base.Ns mainGlobals mg → FnG l.prog w (K w.params) mg base k fa fd [x] (sp w))
    (hsp : ∀ (w : World) (H : Hp) (a : Addr) (ns : List Int), ns.length ≤ n → L2.Only H → SqL (K w.params) H a (ns.map V.int) → sp w [.ref a] H (fun v _ => v = .bl true) E0) :
    PySem.W.WalkO q loose XP YP l.row.toRowW d [] (fun f vs => PySem.call f vs) := by
  refine Att.attach_call hn hdf fun w s₀ s₁ mg mb fa o pm cd doc a vs ns G Y ho hd hcd hmg hobj hints hlen hg => ?_
  have KX := hY w _ Y
  obtain ⟨fd, hb, hF⟩ := F w mg fa _ KX G.T.g hmg
  have rv := vals_ints hints
  have lenV := hints.length
  cases hk : (K w.params).lookup a with
  | some ob =>
    have e := KX a ob hk
    rw [hobj] at e
    cases e
    refine lawG_core (xs := []) (H := fun _ => none) KX G.T.g G.T.b G.T.builtins G.T.nolimit hg hobj hr hF hb (.inl fun _ => rfl) (fun b u z => nomatch z) (fun z => absurd rfl z) (hsp w _ a ns hlen (fun _ => .inl rfl) (.inr ⟨_, vs.toArray, _, hk, rfl, rfl, rfl, ?_, by simpa using rv⟩))
    rw [List.size_toArray, lenV]
    exact Nat.le_trans hlen hn2
  | none =>
    refine lawG_core (xs := ns.map V.int) (H := fun b => if b = a then some (.frz { cls := .type "list", data := .seq vs.toArray } (.lst (ns.map V.int))) else none) KX G.T.g G.T.b G.T.builtins G.T.nolimit hg hobj hr hF hb (.inr fun _ => rfl) (fun b u z => ?_) (fun _ => hk) (hsp w _ a ns hlen (fun b => ?_) (.inl (.inr ⟨_, if_pos rfl⟩)))
    · by_cases hba : b = a
      · have z2 := (if_pos hba).symm.trans z
        cases z2
        subst hba
        exact ⟨hobj, by rw [List.length_map]; exact Nat.le_trans hlen hn2, vs, _, rv, hobj⟩
      · have z2 := (if_neg hba).symm.trans z
        cases z2
    · by_cases hba : b = a
      · exact .inr ⟨_, _, if_pos hba⟩
      · exact .inl (if_neg hba)
end Sm
namespace Sm
open PySem PySem.Spec PyProof.Rows L2
/-! ## repr -/
def rRepr (K : PySem.W.Frag) : List V → Hp → VK → Prop := fun xs H Q => ∃ x d, xs = [x] ∧ Dp K H x d ∧ d.showable = true ∧ d.hasDict = false ∧ d.depth ≤ 64 ∧ d.shown.length ≤ sizeLine ∧ Q (.str d.shown) H
theorem call_reprD {X : Cx} {k : Nat} (hr : Room k X.A) (hgu : X.A.guards = some []) : CallR X (.builtin "repr") (rRepr X.K) := by
  intro pins s σ H xs us Q I r h
  obtain ⟨x, d, rfl, D, hs, hd, dp, sz, q⟩ := h
  cases r with
  | cons rx rr =>
    cases rr
    obtain ⟨as, R⟩ := Dp.reads I _ _ _ D rx
    have un := hr.un
    have fin : ∀ (a : Addr), Reads s.heap (.ref a) d as → wpAny (model X.prog X.w) X.A (call (.builtin "repr") [.ref a]) (EP X pins σ Q) X.xe s := fun a R =>
      PySem.repr_of_reads' R hs (fun z => by rw [hd] at z; cases z) hgu (by omega) (fun b o z => z) (fun h' u tk hk => ⟨.str d.shown, H, I.kept (t' := tk) hk, ⟨u, rfl⟩, q⟩) sz
    cases R with
    | none => exact PySem.P.repr_of_none ⟨.str _, H, I.tok _, ⟨_, rfl⟩, q⟩
    | bool b => exact PySem.P.repr_of_bool ⟨.str _, H, I.tok _, ⟨_, rfl⟩, q⟩
    | int i t => exact PySem.P.repr_of_int (of_decide_eq_true hs) ⟨.str _, H, I.tok _, ⟨_, rfl⟩, q⟩
    | str y t => exact PySem.P.repr_of_str ⟨.str _, H, I.tok _, ⟨_, rfl⟩, q⟩ sz
    | list a1 a2 a3 a4 => exact fin _ (.list a1 a2 a3 a4)
    | tuple a1 a2 a3 a4 => exact fin _ (.tuple a1 a2 a3 a4)
    | dict a1 a2 a3 a4 a5 => cases D
end Sm
namespace Sm
open PySem PySem.Spec PyProof.Rows L2
/-! ## in, over data of any depth -/
def inDC (neg : Bool) : Op2 := fun p q h => match dat q h with
  | .fl ds => if ((dat p h).nb && (D.fl ds).nb && decide ((dat p h).dep ≤ 64) && decide ((D.fl ds).dep ≤ 64)) = true then some (.val (.bl (if neg then !ds.contains (dat p h) else ds.contains (dat p h))), h) else none
  | _ => none
theorem any_eqv {d : D} (hd : d.nb = true) : ∀ {ds : List D}, D.nbs ds = true → ((D.toPs ds).any fun z => PyData.eqv z d.toP) = ds.contains d
  | [], _ => rfl
  | x :: r, h => by
    unfold D.nbs at h
    rw [Bool.and_eq_true] at h
    unfold D.toPs
    rw [List.any_cons, List.contains_cons, any_eqv hd h.2, toP_eqv x d h.1 hd]
    congr 1
    rw [Bool.eq_iff_iff]
    simp
    exact eq_comm
theorem sim_inD {w : World} {K : PySem.W.Frag} : SimR w K (rInD K) (inDC false) := by
  intro m h H x y dx dy d h' Q S rx ry e q
  unfold inDC at e
  split at e
  · rename_i ds hds
    obtain ⟨c, e⟩ := ite_some' e
    cases e
    rw [Bool.and_eq_true, Bool.and_eq_true, Bool.and_eq_true] at c
    obtain ⟨⟨⟨c1, c2⟩, c3⟩, c4⟩ := c
    have ry' := dat_dp S ry (by rw [hds]; exact c2)
    rw [hds] at ry'
    refine ⟨_, D.toPs ds, dat_dp S rx c1, by unfold D.toP at ry'; exact ry', ?_, ?_, ?_⟩
    · unfold SeqAt.shaped; rw [toP_lay _ c1, toP_dep, c3]; rfl
    · have z1 := toP_lay _ c2
      have z2 := toP_dep (D.fl ds)
      unfold D.toP at z1 z2
      unfold SeqAt.shaped; rw [z1, z2, c4]; rfl
    · rw [any_eqv c1 (by unfold D.nb at c2; exact c2)]
      exact q m H _ (Le.refl _ _) S (.val (.bl _)) (nwV _ _ _)
  · cases e
theorem sim_notinD {w : World} {K : PySem.W.Frag} : SimR w K (rNotInD K) (inDC true) := by
  intro m h H x y dx dy d h' Q S rx ry e q
  unfold inDC at e
  split at e
  · rename_i ds hds
    obtain ⟨c, e⟩ := ite_some' e
    cases e
    rw [Bool.and_eq_true, Bool.and_eq_true, Bool.and_eq_true] at c
    obtain ⟨⟨⟨c1, c2⟩, c3⟩, c4⟩ := c
    have ry' := dat_dp S ry (by rw [hds]; exact c2)
    rw [hds] at ry'
    refine ⟨_, D.toPs ds, dat_dp S rx c1, by unfold D.toP at ry'; exact ry', ?_, ?_, ?_⟩
    · unfold SeqAt.shaped; rw [toP_lay _ c1, toP_dep, c3]; rfl
    · have z1 := toP_lay _ c2
      have z2 := toP_dep (D.fl ds)
      unfold D.toP at z1 z2
      unfold SeqAt.shaped; rw [z1, z2, c4]; rfl
    · rw [any_eqv c1 (by unfold D.nb at c2; exact c2)]
      exact q m H _ (Le.refl _ _) S (.val (.bl _)) (nwV _ _ _)
  · cases e
def oInD : Op2 := inDC false
def oNotInD : Op2 := inDC true
section
variable {X : Cx} {a b : Expr} {es : List Expr} {fa fb : SE} {fr : SA} {pos : Pos} {k : Nat}
theorem c_inD (hr : Room k X.A) (hm : behindInMarks .In b = false := by rfl) : CmpOk X .In oInD b := ⟨_, op_inD (by have := hr.un; omega), sim_inD, hm⟩
theorem c_notinD (hr : Room k X.A) (hm : behindInMarks .NotIn b = false := by rfl) : CmpOk X .NotIn oNotInD b := ⟨_, op_notInD (by have := hr.un; omega), sim_notinD, hm⟩
/-! ## tuple * int -/
def oTMul : Op2 := fun p q h => match asT p, q with
  | some xs, .val (.int k) => if (!xs.isEmpty && decide (2 ≤ k) && decide (k ≤ 1000) && decide (xs.length ≤ 1000)) = true then some (.val (.zt (List.replicate k.toNat xs).flatten), h) else none
  | _, _ => none
theorem sim_tmul {w : World} {K : PySem.W.Frag} : SimR w K (rRepT K) oTMul := by
  intro m h H x y dx dy d h' Q S rx ry e q
  unfold oTMul at e
  split at e
  · rename_i xs k hx
    obtain ⟨c, e⟩ := ite_some' e
    cases e
    rw [Bool.and_eq_true, Bool.and_eq_true, Bool.and_eq_true] at c
    obtain ⟨⟨⟨c1, c2⟩, c3⟩, c4⟩ := c
    obtain ⟨p, vs, rfl, hS, rv⟩ := asT_ok rx hx
    refine ⟨p, k, vs, rfl, inv_int ry, hS, ?_, of_decide_eq_true c2, of_decide_eq_true c3, by rw [rv.length]; exact of_decide_eq_true c4, fun p hp => ?_⟩
    · intro z
      subst z
      cases rv
      cases c1
    · exact q m _ _ (Le.upd S.cl hp _) (S.upd hp _) (.val (RV.ztN S hp (rv.replicate _))) (nwV _ _ _)
  · cases e
theorem je_tmul (ha : JE X a fa) (hb : JE X b fb) : JE X (.BinOp a .Mult b pos) (mBin oTMul fa fb) := je_bin op_repT sim_tmul ha hb
/-! ## in a dict of the module, by texts -/
def oKd (ks : List Str) (neg : Bool) : Op1 := fun p h => match p with
  | .val (.str z) => some (.val (.bl (if neg then !ks.contains z else ks.contains z)), h)
  | _ => none
theorem find_keys {P : Params} {z : Str} : ∀ {l : List DictEntry} {ks : List Str}, l.map He.keyOf = He.keysIn P ks → (l.find? (·.key.isStr z)).isSome = ks.contains z ∧ l.any (·.refKey) = false
  | [], [], _ => ⟨rfl, rfl⟩
  | [], _ :: _, h => by cases h
  | e :: r, [], h => by cases h
  | e :: r, k :: ks, h => by
    have h1 : He.keyOf e :: r.map He.keyOf = some (k, PyData.keyHash P k) :: He.keysIn P ks := h
    injection h1 with h2 h3
    obtain ⟨i1, i2⟩ := find_keys (z := z) h3
    unfold He.keyOf at h2
    split at h2
    · rename_i x t q
      obtain ⟨h5, h6⟩ := Prod.mk.inj (Option.some.inj h2)
      subst h5
      refine ⟨?_, ?_⟩
      · rw [List.find?_cons, List.contains_cons]
        have e1 : e.key.isStr z = (z == x) := by
          rw [q]
          show (_ == _) = _
          rw [Bool.eq_iff_iff]
          simp
          exact eq_comm
        rw [e1]
        cases z == x with
        | true => rfl
        | false => simpa using i1
      · rw [List.any_cons, i2]
        unfold DictEntry.refKey
        rw [q]
        rfl
    · cases h2
theorem nsIn_keys {K : PySem.W.Frag} {w : World} {a : Addr} {ks : List Str} (h : He.dicW K a = some (He.keysIn w.params ks)) (z : Str) : ∃ r, PySem.W.nsIn K a z = some r ∧ r.isSome = ks.contains z := by
  unfold He.dicW at h
  unfold PySem.W.nsIn
  split at h
  · rename_i c es n sl ho
    rw [ho]
    dsimp only
    split at h
    · obtain ⟨f1, f2⟩ := find_keys (z := z) (Option.some.inj h)
      cases e : es.toList.find? (·.key.isStr z) with
      | some en =>
        rw [e] at f1
        exact ⟨_, rfl, f1⟩
      | none =>
        rw [e] at f1
        refine ⟨none, ?_, f1⟩
        dsimp only
        rw [f2]
        rfl
    · cases h
  · cases h
theorem inKd_sem {w : World} {K : PySem.W.Frag} {d : Addr} {ks : List Str} {neg : Bool} {r : R2} (hr : ∀ z H (Q : VK), Q (.bl (if neg then !ks.contains z else ks.contains z)) H → r (.str z) (.ref d) H Q) (σ : L2.St) (H : Hp) (Q : VK) (h : tE w K (mUn (oKd ks neg) fa) σ H Q) : tOp r (tE w K fa) (tC (.ref d)) σ H Q := by
  obtain ⟨m, τ, h, q, h', R, S, e, q0⟩ := h
  obtain ⟨⟨x, h1⟩, e1, e⟩ := bind_some' e
  refine ⟨m, τ, h, x, h1, R, S, e1, fun m1 H1 v1 L1 S1 r1 _ => ?_⟩
  show r v1 (.ref d) H1 Q
  unfold oKd at e
  split at e
  · rename_i x0 z e0
    dsimp only at e0
    subst e0
    cases e
    rw [inv_str r1]
    exact hr _ _ _ (q0 m1 H1 _ L1 S1 (.val (.bl _)) (nwV _ _ _))
  · cases e
theorem je_inKd {d : Addr} {ks : List Str} {x : Str} {p : Pos} (hd : He.dicW X.K d = some (He.keysIn X.w.params ks)) (hg : Gl X x) (hm : X.mg x = some (.ref d)) (ha : JE X a fa) (hx : (x == ("__debug__" : Str)) = false := by decide) (hb : behindInMarks .In (.Name x p) = false := by rfl) :
    JE X (.Compare a [.In] [.Name x p] pos) (mUn (oKd ks false) fa) := by
  obtain ⟨es, n, D⟩ := He.dicW_ok hd
  refine pe_weak (pe_cmpR (op_in_kd D) ha (pe_glob hg hm (v := .ref d) rfl hx) hb) (inKd_sem fun z H Q q => ?_)
  obtain ⟨r, h1, h2⟩ := nsIn_keys hd z
  exact ⟨z, r, rfl, rfl, h1, by rw [h2]; exact q⟩
theorem je_notinKd {d : Addr} {ks : List Str} {x : Str} {p : Pos} (hd : He.dicW X.K d = some (He.keysIn X.w.params ks)) (hg : Gl X x) (hm : X.mg x = some (.ref d)) (ha : JE X a fa) (hx : (x == ("__debug__" : Str)) = false := by decide) (hb : behindInMarks .NotIn (.Name x p) = false := by rfl) :
    JE X (.Compare a [.NotIn] [.Name x p] pos) (mUn (oKd ks true) fa) := by
  obtain ⟨es, n, D⟩ := He.dicW_ok hd
  refine pe_weak (pe_cmpR (op_notIn_kd D) ha (pe_glob hg hm (v := .ref d) rfl hx) hb) (inKd_sem fun z H Q q => ?_)
  obtain ⟨r, h1, h2⟩ := nsIn_keys hd z
  exact ⟨z, r, rfl, rfl, h1, by rw [h2]; exact q⟩
theorem tKd_sem {r : R2} {d : Addr} {ks : List Str} {neg : Bool} (hr : ∀ z H (Q : VK), Q (.bl (if neg then !ks.contains z else ks.contains z)) H → r (.str z) (.ref d) H Q) (σ : L2.St) (H : Hp) (Q : Bool → Hp → Prop) (h : tT X.w X.K (mB (mUn (oKd ks neg) fa)) σ H Q) : tTest (tOp r (tE X.w X.K fa) (tC (.ref d))) σ H Q := by
  obtain ⟨m, τ, h, d', h', R, S, e, q⟩ := h
  obtain ⟨⟨x, h1⟩, e1, e⟩ := bind_some' e
  refine inKd_sem hr σ H _ ⟨m, τ, h, x, h1, R, S, e1, fun m1 H1 v L1 S1 r1 n1 => ?_⟩
  dsimp only at e
  split at e
  · cases e
    cases r1 with
    | val r => cases r; exact ⟨_, rfl, q m1 H1 L1 S1⟩
  · cases e
theorem jt_inKd {d : Addr} {ks : List Str} {x : Str} {p : Pos} (hd : He.dicW X.K d = some (He.keysIn X.w.params ks)) (hg : Gl X x) (hm : X.mg x = some (.ref d)) (ha : JE X a fa) (hx : (x == ("__debug__" : Str)) = false := by decide) (hb : behindInMarks .In (.Name x p) = false := by rfl) :
    JT X (.Compare a [.In] [.Name x p] pos) (mB (mUn (oKd ks false) fa)) := by
  obtain ⟨es, n, D⟩ := He.dicW_ok hd
  refine pt_weak (pt_cmpR (op_in_kd D) ha (pe_glob hg hm (v := .ref d) rfl hx) hb) (tKd_sem fun z H Q q => ?_)
  obtain ⟨r, h1, h2⟩ := nsIn_keys hd z
  exact ⟨z, r, rfl, rfl, h1, by rw [h2]; exact q⟩
theorem jt_notinKd {d : Addr} {ks : List Str} {x : Str} {p : Pos} (hd : He.dicW X.K d = some (He.keysIn X.w.params ks)) (hg : Gl X x) (hm : X.mg x = some (.ref d)) (ha : JE X a fa) (hx : (x == ("__debug__" : Str)) = false := by decide) (hb : behindInMarks .NotIn (.Name x p) = false := by rfl) :
    JT X (.Compare a [.NotIn] [.Name x p] pos) (mB (mUn (oKd ks true) fa)) := by
  obtain ⟨es, n, D⟩ := He.dicW_ok hd
  refine pt_weak (pt_cmpR (op_notIn_kd D) ha (pe_glob hg hm (v := .ref d) rfl hx) hb) (tKd_sem fun z H Q q => ?_)
  obtain ⟨r, h1, h2⟩ := nsIn_keys hd z
  exact ⟨z, r, rfl, rfl, h1, by rw [h2]; exact q⟩
end
/-! ## repr -/
mutual
/-- what repr may be asked of: no objects, no classes -/
def D.rb : D → Bool
  | .non => true
  | .bl _ => true
  | .int i => decide (-999999999999 ≤ i) && decide (i ≤ 999999999999)
  | .str x => x.cps.toList.all fun c => decide (c < 16 ^ 8)
  | .tup ds => D.rbs ds
  | .zt ds => D.rbs ds
  | .fl ds => D.rbs ds
  | _ => false
def D.rbs : List D → Bool
  | [] => true
  | d :: r => D.rb d && D.rbs r
end
mutual
def D.toR : D → PyData
  | .bl b => .bool b
  | .int i => .int i
  | .str x => .str x
  | .tup ds => .tuple (D.toRs ds)
  | .zt ds => .tuple (D.toRs ds)
  | .fl ds => .list (D.toRs ds)
  | _ => .none
def D.toRs : List D → List PyData
  | [] => []
  | d :: r => D.toR d :: D.toRs r
end
mutual
/-- at most so many signs -/
def D.rsz : D → Nat
  | .str x => 10 * x.length + 2
  | .tup ds => D.rszs ds + 3
  | .zt ds => D.rszs ds + 3
  | .fl ds => D.rszs ds + 3
  | _ => 13
def D.rszs : List D → Nat
  | [] => 0
  | d :: r => D.rsz d + 2 + D.rszs r
end
mutual
def D.rdp : D → Nat
  | .tup ds => D.rdps ds + 1
  | .zt ds => D.rdps ds + 1
  | .fl ds => D.rdps ds + 1
  | _ => 0
def D.rdps : List D → Nat
  | [] => 0
  | d :: r => max (D.rdp d) (D.rdps r)
end
mutual
theorem toR_dep : ∀ d : D, d.toR.depth = d.rdp
  | .non => rfl
  | .bl _ => rfl
  | .int _ => rfl
  | .str x => rfl
  | .tup ds => by unfold D.toR PyData.depth D.rdp; rw [toRs_dep ds]
  | .zt ds => by unfold D.toR PyData.depth D.rdp; rw [toRs_dep ds]
  | .fl ds => by unfold D.toR PyData.depth D.rdp; rw [toRs_dep ds]
  | .ref _ => rfl
  | .ty _ => rfl
theorem toRs_dep : ∀ ds : List D, PyData.depthAll (D.toRs ds) = D.rdps ds
  | [] => rfl
  | d :: r => by unfold D.toRs PyData.depthAll D.rdps; rw [toR_dep d, toRs_dep r]
end
mutual
theorem toR_nd : ∀ d : D, d.toR.hasDict = false
  | .non => rfl
  | .bl _ => rfl
  | .int _ => rfl
  | .str x => rfl
  | .tup ds => by unfold D.toR PyData.hasDict; exact toRs_nd ds
  | .zt ds => by unfold D.toR PyData.hasDict; exact toRs_nd ds
  | .fl ds => by unfold D.toR PyData.hasDict; exact toRs_nd ds
  | .ref _ => rfl
  | .ty _ => rfl
theorem toRs_nd : ∀ ds : List D, PyData.hasDictAll (D.toRs ds) = false
  | [] => rfl
  | d :: r => by unfold D.toRs PyData.hasDictAll; rw [toR_nd d, toRs_nd r]; rfl
end
theorem log_small {i : Int} (h1 : -999999999999 ≤ i) (h2 : i ≤ 999999999999) : i.natAbs.log2 < 1920 := by
  rcases Nat.eq_zero_or_pos i.natAbs with z | z
  · rw [z]; decide
  · have : i.natAbs.log2 < 40 := by rw [Nat.log2_lt (by omega)]; omega
    omega
mutual
theorem toR_show : ∀ d : D, d.rb = true → d.toR.showable = true ∧ d.toR.shown.length ≤ d.rsz
  | .non, _ => ⟨rfl, by decide⟩
  | .bl b, _ => ⟨rfl, by cases b <;> decide⟩
  | .int i, h => by
    unfold D.rb at h
    rw [Bool.and_eq_true] at h
    have h1 := of_decide_eq_true h.1
    have h2 := of_decide_eq_true h.2
    exact ⟨by unfold D.toR PyData.showable; exact decide_eq_true (log_small h1 h2), PyData.shown_int_le2 h1 h2⟩
  | .str x, h => by
    unfold D.rb at h
    refine ⟨rfl, ?_⟩
    have := StrLaws.reprText_len x (fun c hc => of_decide_eq_true (List.all_eq_true.mp h c hc))
    unfold D.toR PyData.shown D.rsz
    have e2 : x.length = x.cps.size := rfl
    omega
  | .tup ds, h => by
    unfold D.rb at h
    obtain ⟨h1, h2⟩ := toRs_show ds h
    refine ⟨by unfold D.toR PyData.showable; exact h1, ?_⟩
    unfold D.toR PyData.shown D.rsz
    exact Nat.le_trans (tupleText_len_le _) (by omega)
  | .zt ds, h => by
    unfold D.rb at h
    obtain ⟨h1, h2⟩ := toRs_show ds h
    refine ⟨by unfold D.toR PyData.showable; exact h1, ?_⟩
    unfold D.toR PyData.shown D.rsz
    exact Nat.le_trans (tupleText_len_le _) (by omega)
  | .fl ds, h => by
    unfold D.rb at h
    obtain ⟨h1, h2⟩ := toRs_show ds h
    refine ⟨by unfold D.toR PyData.showable; exact h1, ?_⟩
    unfold D.toR PyData.shown D.rsz
    exact Nat.le_trans (listText_len_le _) (by omega)
  | .ref _, h => by cases h
  | .ty _, h => by cases h
theorem toRs_show : ∀ ds : List D, D.rbs ds = true → PyData.showableAll (D.toRs ds) = true ∧ ((PyData.shownAll (D.toRs ds)).map (·.length)).sum + 2 * (PyData.shownAll (D.toRs ds)).length ≤ D.rszs ds
  | [], _ => ⟨rfl, Nat.le_refl _⟩
  | d :: r, h => by
    unfold D.rbs at h
    rw [Bool.and_eq_true] at h
    obtain ⟨a1, a2⟩ := toR_show d h.1
    obtain ⟨b1, b2⟩ := toRs_show r h.2
    unfold D.toRs PyData.showableAll PyData.shownAll D.rszs
    refine ⟨by rw [a1, b1]; rfl, ?_⟩
    rw [List.map_cons, List.sum_cons, List.length_cons]
    omega
end
section
variable {w : World} {K : PySem.W.Frag} {m : List Addr} {h : AH} {H : Hp}
mutual
theorem RV.dpR : ∀ {v : V} {d : D}, RV K m H v d → d.rb = true → Dp K H v d.toR
  | _, _, .non, _ => .non
  | _, _, .bl b, _ => .bl b
  | _, _, .int i, _ => .int i
  | _, _, .str x, _ => .str x
  | _, _, .tup f r, b => .tup f.sq (RVs.dpR r (by unfold D.rb at b; exact b))
  | _, _, .zt f r, b => .tup f (RVs.dpR r (by unfold D.rb at b; exact b))
  | _, _, .fl f r, b => .lst f.sq (RVs.dpR r (by unfold D.rb at b; exact b))
  | _, _, .ty _, b => by simp [D.rb] at b
  | _, _, .ref _, b => by simp [D.rb] at b
theorem RVs.dpR : ∀ {vs : List V} {ds : List D}, RVs K m H vs ds → D.rbs ds = true → DpAll K H vs (D.toRs ds)
  | _, _, .nil, _ => .nil
  | _, _, .cons r t, b => by
    unfold D.rbs at b
    rw [Bool.and_eq_true] at b
    exact .cons (RV.dpR r b.1) (RVs.dpR t b.2)
end
theorem dat_dpR (S : Sim w K m h H) {v : V} {q : LV} (r : RQ K m H v q) (b : (dat q h).rb = true) : Dp K H v (dat q h).toR := by
  cases r with
  | new hn e r z => exact .lst (SqL.of e) (r.dpR (by unfold dat D.rb at b; exact b))
  | val r =>
    cases r with
    | ref e =>
      unfold dat at b ⊢
      dsimp only at b ⊢
      split at b
      · rename_i ds hh
        obtain ⟨vs, e2, r2⟩ := S.lst e hh
        exact .lst (SqL.of e2) (r2.dpR (by unfold D.rb at b; exact b))
      · cases b
    | non => exact .non
    | bl _ => exact .bl _
    | ty _ => cases b
    | zt f r => exact (RV.zt f r).dpR b
    | int i => exact .int i
    | str x => exact .str x
    | tup f r => exact (RV.tup f r).dpR b
    | fl f r => exact (RV.fl f r).dpR b
end
def okR (d : D) : Bool := d.rb && decide (d.rdp ≤ 64) && decide (d.rsz ≤ 16777216)
def oRepr : OpN
  | [q], h => if okR (dat q h) = true then some (.val (.str (dat q h).toR.shown), h) else none
  | _, _ => none
theorem sim_repr {w : World} {K : PySem.W.Frag} : SimN w K (rRepr K) oRepr := by
  intro m h H xs dxs d h' Q S r e q
  unfold oRepr at e
  split at e
  · rename_i q1
    obtain ⟨c, e⟩ := ite_some' e
    cases e
    unfold okR at c
    rw [Bool.and_eq_true, Bool.and_eq_true] at c
    obtain ⟨⟨c1, c2⟩, c3⟩ := c
    cases r with
    | cons r1 rr =>
      cases rr
      obtain ⟨s1, s2⟩ := toR_show _ c1
      refine ⟨_, _, rfl, dat_dpR S r1 c1, s1, toR_nd _, by rw [toR_dep]; exact of_decide_eq_true c2, by rw [sizeLine_eq]; exact Nat.le_trans s2 (of_decide_eq_true c3), ?_⟩
      exact q m H _ (Le.refl _ _) S (.val (.str _)) (nwV _ _ _)
  · cases e
section
variable {X : Cx} {a : Expr} {es : List Expr} {fr : SA} {p pos : Pos} {k : Nat}
theorem je_repr (hr : Room k X.A) (hgu : X.A.guards = some []) (hg : Gl X "repr") (hm : X.mg "repr" = none) (ha : JA X (a :: es) fr) (he : starEach (a :: es) X.env = (false, eval a X.env) :: starEach es X.env := by rfl) (hpl : (backTo pos (starEach es X.env)).any (·.1) = false := by rfl) : JE X (.Call (.Name "repr" p) (a :: es) [] pos) (mFn oRepr fr) :=
  je_fnB (call_reprD hr hgu) sim_repr hg hm boot_repr ha (by decide) (by decide) he hpl
end
/-! ## a, b = x, y -/
def mPar (i j : Nat) (fa : SA) : SS := fun τ h => (fa τ h).bind fun p => (plain p.1).bind fun ds => match ds with
  | [d, e] => some (.nx ((τ.set i (some d)).set j (some e)) p.2)
  | _ => none
theorem js_par {X : Cx} {i j : Nat} {x y : Str} {a b : Expr} {fa : SA} {px py pt pos : Pos} {kt k2 pt2} (hN : X.N.Nodup) (hi : X.N[i]? = some x) (hj : X.N[j]? = some y) (hij : i ≠ j)
    (hx : X.env.scope.names.lookup x = some .local) (hy : X.env.scope.names.lookup y = some .local) (ha : JA X [a, b] fa)
    (hc : X.calm = true := by rfl) (hw : swappedStores [.Tuple [.Name x px, .Name y py] kt pt] (.Tuple [a, b] k2 pt2) X.env = pure (some [x, y]) := by rfl)
    (hs : swapsWithSole [.Tuple [.Name x px, .Name y py] kt pt] (.Tuple [a, b] k2 pt2) pos.line X.env = pure false := by rfl) :
    JS X (.Assign [.Tuple [.Name x px, .Name y py] kt pt] (.Tuple [a, b] k2 pt2) pos) (mPar i j fa) := by
  refine ps_weak (ps_par hc hN hi hj hij hx hy ha hw hs) fun D σ H ⟨m, τ, h, r, R, S, e, q⟩ => ?_
  obtain ⟨⟨x, h1⟩, e1, e⟩ := bind_some' e
  obtain ⟨ds, e2, e⟩ := bind_some' e
  refine ⟨m, τ, h, x, h1, R, S, e1, fun m1 H1 vs L1 S1 r1 => ?_⟩
  have r2 := r1.plain e2
  split at e
  · cases e
    cases r2 with
    | cons ra rr => cases rr with
      | cons rb rr =>
        cases rr
        exact ⟨_, _, rfl, q m1 H1 _ L1 S1 (((R.mono S.cl L1.toLw).set ra i).set rb j)⟩
  · cases e
end Sm
namespace Sm
open PySem PySem.Spec PyProof.Rows L2
/-! ## sorted(xs), xs tuples of ints and texts of one shape -/
abbrev Ik := List (Int ⊕ List Nat)
def itemsV (shape : Nat → Bool) : Nat → List V → Option Ik
  | _, [] => some []
  | i, .int n :: r => if shape i = true then none else (itemsV shape (i + 1) r).map (Sum.inl n :: ·)
  | i, .str x :: r => if shape i = true then (itemsV shape (i + 1) r).map (Sum.inr x.cps.toList :: ·) else none
  | _, _ :: _ => none
def RowIs (K : PySem.W.Frag) (H : Hp) (shape : Nat → Bool) (v : V) (k : Ik) : Prop := ∃ (p : Addr) (cs : List V), v = .ref p ∧ SqT K H p cs ∧ cs ≠ [] ∧ itemsV shape 0 cs = some k
theorem items_ok {shape : Nat → Bool} : ∀ {cs : List V} {us : List Value} {i : Nat} {k : Ik}, Vals cs us → itemsV shape i cs = some k → tupItems shape i us = some k
  | [], _, i, k, r, h => by
    cases r
    unfold itemsV at h
    unfold tupItems
    exact h
  | c :: cs, _, i, k, r, h => by
    cases r with
    | @cons a b as bs r1 r2 =>
      cases c with
      | int n =>
        obtain ⟨t, rfl⟩ := r1
        unfold itemsV at h
        unfold tupItems
        split at h
        · cases h
        · rename_i hc
          rw [if_neg hc]
          cases e : itemsV shape (i + 1) cs with
          | none => rw [e] at h; cases h
          | some l =>
            rw [e] at h
            rw [items_ok r2 e]
            exact h
      | str x =>
        obtain ⟨t, rfl⟩ := r1
        unfold itemsV at h
        unfold tupItems
        split at h
        · rename_i hc
          rw [if_pos hc]
          cases e : itemsV shape (i + 1) cs with
          | none => rw [e] at h; cases h
          | some l =>
            rw [e] at h
            rw [items_ok r2 e]
            exact h
        · cases h
      | _ => cases h
def rSortedR (K : PySem.W.Frag) : List V → Hp → VK → Prop := fun vs H Q => ∃ (a : Addr) (shape : Nat → Bool) (xs : List V), vs = [V.ref a] ∧ SqL K H a xs ∧ (∀ x ∈ xs, ∃ k, RowIs K H shape x k) ∧
  ∀ (out : List V) (p : Addr), out.Perm xs → out.Pairwise (fun x y => ∀ kx ky, RowIs K H shape x kx → RowIs K H shape y ky → lexLt itemOrd ky kx = false) → H p = none → Q (.ref p) (upd H p (.lst out))
def ltK (h : Heap) (shape : Nat → Bool) (v u : Value) : Bool := lexLt itemOrd ((tupKey h shape v).getD []) ((tupKey h shape u).getD [])
theorem lex_asym {a b : Ik} (h : lexLt itemOrd a b = true) : lexLt itemOrd b a = false := by
  cases e : lexLt itemOrd b a with
  | false => rfl
  | true =>
    have z := lex_trans (O := itemOrd) a b a h e
    rw [lex_irrefl] at z
    cases z
theorem swo_ltK (h : Heap) (shape : Nat → Bool) : SrtO.Swo (ltK h shape) := by
  refine ⟨fun x y e => lex_asym e, fun x y z h1 h2 => ?_⟩
  unfold ltK at *
  cases e : lexLt itemOrd ((tupKey h shape z).getD []) ((tupKey h shape x).getD []) with
  | false => rfl
  | true =>
    rcases lex_negTrans (O := itemOrd) _ ((tupKey h shape y).getD []) _ e with w | w
    · rw [h2] at w; cases w
    · rw [h1] at w; cases w
theorem tupKey_keep {h h' : Heap} {shape : Nat → Bool} {v : Value} {k : Ik} (e : tupKey h shape v = some k) (hk : ∀ b o, v = .ref b → h.get? b = some o → h'.get? b = some o) : tupKey h' shape v = some k := by
  obtain ⟨a, o, xs, n, rfl, ho, hd, hi⟩ := tupKey_some e
  unfold tupKey
  dsimp only
  rw [hk a o rfl ho]
  dsimp only
  rw [hd]
  exact hi
def TupK (h : Heap) (shape : Nat → Bool) (v : Value) (k : Ik) : Prop := ∃ (a : Addr) (us : List Value), v = .ref a ∧ IsTup h a us.toArray ∧ us ≠ [] ∧ tupItems shape 0 us = some k
theorem TupK.key {h : Heap} {shape : Nat → Bool} {v : Value} {k : Ik} (t : TupK h shape v k) : tupKey h shape v = some k := by
  obtain ⟨a, us, rfl, ⟨o, ho, hc, n, hd⟩, _, hi⟩ := t
  unfold tupKey
  dsimp only
  rw [ho]
  dsimp only
  rw [hd]
  simpa using hi
theorem TupK.keep {h h' : Heap} {shape : Nat → Bool} {v : Value} {k : Ik} (t : TupK h shape v k) (hk : ∀ b o, v = .ref b → h.get? b = some o → h'.get? b = some o) : TupK h' shape v k := by
  obtain ⟨a, us, rfl, ⟨o, ho, hc, n, hd⟩, h1, h2⟩ := t
  exact ⟨a, us, rfl, ⟨o, hk a o rfl ho, hc, n, hd⟩, h1, h2⟩
theorem TupK.of {h : Heap} {shape : Nat → Bool} {v : Value} {k : Ik} (t : TupK h shape v k) : ∃ f, TupOf h shape v f := by
  obtain ⟨a, us, rfl, ⟨o, ho, hc, n, hd⟩, h1, h2⟩ := t
  cases us with
  | nil => exact absurd rfl h1
  | cons f us =>
    refine ⟨f, a, o, (f :: us).toArray, n, rfl, ho, hc, hd, by simp, fun hs => ?_, fun hs => ?_⟩
    · obtain ⟨m, t, l', e, _⟩ := tupItems_int hs h2
      exact ⟨m, t, e⟩
    · obtain ⟨m, t, l', e, _⟩ := tupItems_str hs h2
      exact ⟨m, t, e⟩
theorem tupsOf {h : Heap} {shape : Nat → Bool} : ∀ {vs : List Value}, (∀ v ∈ vs, ∃ k, TupK h shape v k) → ∃ fs, TupsOf h shape vs fs ∧ fs.length = vs.length
  | [], _ => ⟨[], .nil, rfl⟩
  | v :: vs, hv => by
    obtain ⟨k, t⟩ := hv v List.mem_cons_self
    obtain ⟨f, t⟩ := t.of
    obtain ⟨fs, r, e⟩ := tupsOf (vs := vs) fun u hu => hv u (List.mem_cons_of_mem _ hu)
    exact ⟨f :: fs, .cons t r, by simp [e]⟩
theorem rows_sortable {prog : Program} {w : World} {A : Around} {s : Shared} {h₁ : Heap} {shape : Nat → Bool} {a : Addr} {vs : List Value} (h2 : 2 ≤ vs.length) (hv : ∀ v ∈ vs, ∃ k, TupK s.heap shape v k)
    (hk : ∀ b o, s.heap.get? b = some o → b ≠ a ∧ h₁.get? b = some o) : SrtO.SortableO prog w A { s with heap := h₁ } a vs (ltK s.heap shape) := by
  intro h' hh
  have keep : ∀ v k, TupK s.heap shape v k → TupK h' shape v k := fun v k t => t.keep fun b o e ho => by
    obtain ⟨z1, z2⟩ := hk b o ho
    exact hh b o z1 z2
  have hv' : ∀ v ∈ vs, ∃ k, TupK h' shape v k := fun v m => by
    obtain ⟨k, t⟩ := hv v m
    exact ⟨k, keep v k t⟩
  obtain ⟨fs, ht, hlen⟩ := tupsOf hv'
  refine ⟨tuples' true, fun Q E hq => tup_kind (s := { s with heap := h' }) (by omega) ht hq, ?_⟩
  intro p q hp hq
  obtain ⟨k1, t1⟩ := hv _ hp
  obtain ⟨k2, t2⟩ := hv _ hq
  refine tup_ltAt (s := { s with heap := h' }) (shape := shape) true _ _ p.1 q.1 k1 k2 (keep _ _ t1).key (keep _ _ t2).key ⟨rfl, ?_⟩
  show lexLt itemOrd k1 k2 = ltK s.heap shape p.1 q.1
  unfold ltK
  rw [t1.key, t2.key]
  rfl
section
variable {X : Cx}
theorem row_key {pins : List (Addr × Obj)} {σ : L2.St} {H : Hp} {s : Shared} (I : Inv X pins σ H s) {shape : Nat → Bool} {v : V} {k : Ik} {u : Value} (r : RowIs X.K H shape v k) (rv : RelV v u) : TupK s.heap shape u k := by
  obtain ⟨p, cs, rfl, hs, hne, hi⟩ := r
  cases rv
  obtain ⟨us, r, ht, _⟩ := I.tuple hs
  refine ⟨p, us, rfl, ht, fun z => hne ((Vals.nil_iff r).mp z), items_ok r hi⟩
theorem cr_sortedR : CallR X (.builtin "sorted") (rSortedR X.K) := by
  intro pins s σ H vs us Q I r h
  obtain ⟨a, shape, xs, rfl, hs, hk, q⟩ := h
  obtain ⟨its, rv, hl, hz⟩ := I.list hs
  rw [Vals.ref1 r]
  obtain ⟨e1, e2⟩ := refs_back rv fun x m => by
    obtain ⟨k, p, cs, e, h1, h2⟩ := hk x m
    exact ⟨p, e⟩
  have hT : ∀ v ∈ its, ∃ k, RowIs X.K H shape (backV v) k ∧ TupK s.heap shape v k := fun v hv => by
    have hm : backV v ∈ xs := by rw [e1]; exact List.mem_map.mpr ⟨_, hv, rfl⟩
    obtain ⟨k, w⟩ := hk _ hm
    obtain ⟨t, rfl⟩ := e2 v hv
    exact ⟨k, w, row_key I w rfl⟩
  refine SrtO.sorted_ord (swo_ltK s.heap shape) hl.isList (by rw [← rv.length]; exact hz) (fun h2 h₁ a' _ hh => rows_sortable h2 (fun v hv => let ⟨k, _, t⟩ := hT v hv; ⟨k, t⟩) hh) fun out h1 h2 => ?_
  obtain ⟨ep, he'⟩ := PyProof.Rows.sortedAll_at s.heap its out.toArray
  have hp := h2.perm
  have hpv : (out.map backV).Perm xs := by rw [e1]; exact hp.map backV
  have hvals : Vals (out.map backV) out := by
    have : ∀ l : List Value, (∀ v ∈ l, v ∈ its) → Vals (l.map backV) l := fun l => by
      induction l with
      | nil => intro _; exact .nil
      | cons v l ih =>
        intro hm
        obtain ⟨t, e⟩ := e2 v (hm v List.mem_cons_self)
        exact .cons (by rw [e]; rfl) (ih fun u hu => hm u (List.mem_cons_of_mem _ hu))
    exact this out fun v hv => hp.mem_iff.mp hv
  have hlen : (out.map backV).length ≤ sizeLine := by
    rw [hpv.length_eq]
    exact hz
  refine ⟨.ref _, upd H (s.heap.objs.size + 1) (.lst (out.map backV)), I.laid (t' := s.toks) (fun _ _ => PyProof.Rows.sortedAll_old) (Nat.le_succ _) ⟨hlen, out, ep, hvals, he'⟩, rfl, q _ _ hpv ?_ (I.hok.fresh (Nat.le_succ _))⟩
  refine List.pairwise_map.mpr (h1.imp_of_mem fun {x y} hx hy hlt kx ky rx ry => ?_)
  obtain ⟨t, ex⟩ := e2 x (hp.mem_iff.mp hx)
  obtain ⟨t', ey⟩ := e2 y (hp.mem_iff.mp hy)
  have kx' := (row_key I rx (u := x) (by rw [ex]; rfl)).key
  have ky' := (row_key I ry (u := y) (by rw [ey]; rfl)).key
  have hlt : ltK s.heap shape y x = false := hlt
  unfold ltK at hlt
  rw [kx', ky'] at hlt
  exact hlt
end
/-! the data -/
def itm : D → Int ⊕ List Nat
  | .int n => .inl n
  | .str x => .inr x.cps.toList
  | _ => .inl 0
def rowKey : D → Ik
  | .tup cs => cs.map itm
  | _ => []
def kdD : D → Option Bool
  | .int _ => some false
  | .str _ => some true
  | _ => none
def kdsD : List D → Option (List Bool)
  | [] => some []
  | d :: r => (kdD d).bind fun k => (kdsD r).bind fun s => some (k :: s)
def rowKd : D → Option (List Bool)
  | .tup cs => kdsD cs
  | _ => none
def rowLt (a b : D) : Bool := lexLt itemOrd (rowKey a) (rowKey b)
def insR (x : D) : List D → List D
  | [] => [x]
  | y :: r => if rowLt y x = true then y :: insR x r else x :: y :: r
def sortR : List D → List D
  | [] => []
  | x :: r => insR x (sortR r)
def rowsOk (ks : List Bool) (ds : List D) : Bool := !ks.isEmpty && decide (ds.length ≤ 16777216) && ds.all fun d => decide (rowKd d = some ks)
def oSorted : OpN
  | [q], h => (asL q h).bind fun ds => match ds with
    | [] => some (.new [], h)
    | d :: r => (rowKd d).bind fun ks => if rowsOk ks (d :: r) = true then some (.new (sortR (d :: r)), h) else none
  | _, _ => none
theorem insR_perm (x : D) : ∀ l, (insR x l).Perm (x :: l)
  | [] => List.Perm.refl _
  | y :: r => by
    unfold insR
    split
    · exact ((insR_perm x r).cons y).trans (List.Perm.swap _ _ _)
    · exact List.Perm.refl _
theorem sortR_perm : ∀ l, (sortR l).Perm l
  | [] => List.Perm.refl _
  | x :: r => (insR_perm x (sortR r)).trans ((sortR_perm r).cons x)
def LeR (a b : D) : Prop := rowLt b a = false
theorem rowLt_irr (a : D) : rowLt a a = false := lex_irrefl _
theorem LeR.trans {a b c : D} (h1 : LeR a b) (h2 : LeR b c) : LeR a c := by
  unfold LeR at *
  cases e : rowLt c a with
  | false => rfl
  | true =>
    rcases lex_negTrans (O := itemOrd) _ (rowKey b) _ e with w | w
    · exact absurd (h2.symm.trans w) Bool.false_ne_true
    · exact absurd (h1.symm.trans w) Bool.false_ne_true
theorem LeR.of_lt {a b : D} (h : rowLt a b = true) : LeR a b := lex_asym h
theorem insR_sorted (x : D) : ∀ {l : List D}, l.Pairwise LeR → (insR x l).Pairwise LeR
  | [], _ => List.pairwise_singleton _ _
  | y :: r, h => by
    obtain ⟨h1, h2⟩ := List.pairwise_cons.mp h
    unfold insR
    split
    · rename_i c
      refine List.pairwise_cons.mpr ⟨fun z hz => ?_, insR_sorted x h2⟩
      rcases List.mem_cons.mp ((insR_perm x r).mem_iff.mp hz) with e | e
      · rw [e]; exact LeR.of_lt c
      · exact h1 z e
    · rename_i c
      have c : LeR x y := by
        unfold LeR
        cases e : rowLt y x with
        | false => rfl
        | true => exact absurd e c
      refine List.pairwise_cons.mpr ⟨fun z hz => ?_, h⟩
      rcases List.mem_cons.mp hz with e | e
      · rw [e]; exact c
      · exact c.trans (h1 z e)
theorem sortR_sorted : ∀ l : List D, (sortR l).Pairwise LeR
  | [] => .nil
  | x :: r => insR_sorted x (sortR_sorted r)
theorem itm_one {x y : D} {k : Bool} (h1 : kdD x = some k) (h2 : kdD y = some k) (h : itm x = itm y) : x = y := by
  cases x with
  | int n =>
    cases h1
    cases y <;> cases h2
    cases h
    rfl
  | str u =>
    cases h1
    cases y with
    | str v =>
      have hc : u.cps = v.cps := Array.toList_inj.mp (Sum.inr.inj h)
      cases u
      cases v
      simp only at hc
      rw [hc]
    | _ => cases h2
  | _ => cases h1
theorem itm_inj : ∀ {a b : List D} {ks : List Bool}, kdsD a = some ks → kdsD b = some ks → a.map itm = b.map itm → a = b
  | [], [], _, _, _, _ => rfl
  | [], _ :: _, _, _, _, h => by cases h
  | _ :: _, [], _, _, _, h => by cases h
  | x :: a, y :: b, ks, h1, h2, h => by
    obtain ⟨k, e1, h1⟩ := bind_some' h1
    obtain ⟨s, e2, h1⟩ := bind_some' h1
    obtain ⟨k', e3, h2⟩ := bind_some' h2
    obtain ⟨s', e4, h2⟩ := bind_some' h2
    cases h1
    obtain ⟨rfl, rfl⟩ := List.cons.inj (Option.some.inj h2)
    rw [List.map_cons, List.map_cons] at h
    obtain ⟨i1, i2⟩ := List.cons.inj h
    have := itm_inj e2 e4 i2
    subst this
    congr 1
    exact itm_one e1 e3 i1
theorem row_inj {a b : D} {ks : List Bool} (h1 : rowKd a = some ks) (h2 : rowKd b = some ks) (h : rowKey a = rowKey b) : a = b := by
  cases a <;> (first | cases h1 | skip)
  cases b <;> (first | cases h2 | skip)
  unfold rowKd at h1 h2
  unfold rowKey at h
  rw [itm_inj h1 h2 h]
theorem LeR.anti {a b : D} {ks : List Bool} (h1 : rowKd a = some ks) (h2 : rowKd b = some ks) (h3 : LeR a b) (h4 : LeR b a) : a = b :=
  row_inj h1 h2 (lex_total (O := itemOrd) _ _ h4 h3)
theorem sorted_uniq {ks : List Bool} : ∀ {a b : List D}, a.Perm b → a.Pairwise LeR → b.Pairwise LeR → (∀ d ∈ a, rowKd d = some ks) → a = b
  | [], b, p, _, _, _ => (List.nil_perm.mp p).symm ▸ rfl
  | x :: a, [], p, _, _, _ => by cases List.perm_nil.mp p
  | x :: a, y :: b, p, ha, hb, hk => by
    obtain ⟨a1, a2⟩ := List.pairwise_cons.mp ha
    obtain ⟨b1, b2⟩ := List.pairwise_cons.mp hb
    have hy : y ∈ x :: a := p.mem_iff.mpr List.mem_cons_self
    have hx : x ∈ y :: b := p.mem_iff.mp List.mem_cons_self
    have e : x = y := by
      rcases List.mem_cons.mp hy with e | e
      · exact e.symm
      · rcases List.mem_cons.mp hx with e' | e'
        · exact e'
        · exact LeR.anti (hk x List.mem_cons_self) (hk y hy) (a1 y e) (b1 x e')
    subst e
    rw [sorted_uniq ((List.perm_cons x).mp p) a2 b2 fun d hd => hk d (List.mem_cons_of_mem _ hd)]
theorem RVs.perm {K : PySem.W.Frag} {m : List Addr} {H : Hp} : ∀ {vs out : List V} {ds : List D}, out.Perm vs → RVs K m H vs ds → ∃ ds' : List D, ds'.Perm ds ∧ RVs K m H out ds' := by
  intro vs out ds p r
  replace p := p.symm
  induction p generalizing ds with
  | nil => exact ⟨_, List.Perm.refl _, r⟩
  | cons x _ ih =>
    cases r with
    | cons r1 r2 =>
      obtain ⟨s, p1, r3⟩ := ih r2
      exact ⟨_ :: s, p1.cons _, .cons r1 r3⟩
  | swap x y l =>
    cases r with
    | cons r1 r2 =>
      cases r2 with
      | cons r2 r3 => exact ⟨_, List.Perm.swap _ _ _, .cons r2 (.cons r1 r3)⟩
  | trans _ _ i1 i2 =>
    obtain ⟨s, p1, r1⟩ := i1 r
    obtain ⟨s', p2, r2⟩ := i2 r1
    exact ⟨s', p2.trans p1, r2⟩
def shapeF (ks : List Bool) : Nat → Bool := fun i => ks.getD i false
theorem items_row {K : PySem.W.Frag} {m : List Addr} {H : Hp} {all : List Bool} : ∀ {cs : List V} {ds : List D} {ks : List Bool} {i : Nat}, RVs K m H cs ds → kdsD ds = some ks → all.drop i = ks → itemsV (shapeF all) i cs = some (ds.map itm)
  | _, _, ks, i, .nil, _, _ => rfl
  | _, _, ks, i, .cons (v := v) (d := d) (vs := vs) (ds := ds) r1 r2, h, hd => by
    obtain ⟨k, e1, h⟩ := bind_some' h
    obtain ⟨s, e2, h⟩ := bind_some' h
    cases h
    have h1 : shapeF all i = k := by
      have := congrArg (fun l => l[0]?) hd
      simp at this
      unfold shapeF
      rw [List.getD_eq_getElem?_getD, this]
      rfl
    have h2 : all.drop (i + 1) = s := by
      rw [← List.drop_drop, hd]
      rfl
    have ih := items_row (i := i + 1) r2 e2 h2
    cases r1 <;> cases e1
    · unfold itemsV
      rw [h1, if_neg Bool.false_ne_true, ih]
      rfl
    · unfold itemsV
      rw [h1, if_pos rfl, ih]
      rfl
theorem row_is {K : PySem.W.Frag} {m : List Addr} {H : Hp} {ks : List Bool} {v : V} {d : D} (hne : ks ≠ []) (r : RV K m H v d) (h : rowKd d = some ks) : RowIs K H (shapeF ks) v (rowKey d) := by
  cases r with
  | @tup a vs ds f r =>
    unfold rowKd at h
    refine ⟨a, vs, rfl, f.sq, fun z => ?_, items_row r h rfl⟩
    subst z
    cases r
    cases h
    exact hne rfl
  | _ => cases h
theorem RVs.memP {K : PySem.W.Frag} {m : List Addr} {H : Hp} : ∀ {vs : List V} {ds : List D} {v : V}, RVs K m H vs ds → v ∈ vs → ∃ d ∈ ds, RV K m H v d
  | _, _, v, .cons r1 r2, h => by
    rcases List.mem_cons.mp h with e | e
    · rw [e]; exact ⟨_, List.mem_cons_self, r1⟩
    · obtain ⟨d, h1, h2⟩ := RVs.memP r2 e
      exact ⟨d, List.mem_cons_of_mem _ h1, h2⟩
theorem pair_rows {K : PySem.W.Frag} {m : List Addr} {H : Hp} {ks : List Bool} (hne : ks ≠ []) : ∀ {vs : List V} {ds : List D}, RVs K m H vs ds → (∀ d ∈ ds, rowKd d = some ks) →
    vs.Pairwise (fun x y => ∀ kx ky, RowIs K H (shapeF ks) x kx → RowIs K H (shapeF ks) y ky → lexLt itemOrd ky kx = false) → ds.Pairwise LeR
  | _, _, .nil, _, _ => .nil
  | _, _, .cons (v := v) (d := d) (vs := vs) (ds := ds) r1 r2, hk, h => by
    obtain ⟨h1, h2⟩ := List.pairwise_cons.mp h
    refine List.pairwise_cons.mpr ⟨fun e he => ?_, pair_rows hne r2 (fun x hx => hk x (List.mem_cons_of_mem _ hx)) h2⟩
    obtain ⟨i, hi⟩ := List.getElem?_of_mem he
    obtain ⟨y, hy, ry⟩ := r2.get hi
    exact h1 y (List.mem_of_getElem? hy) _ _ (row_is hne r1 (hk d List.mem_cons_self)) (row_is hne ry (hk e (List.mem_cons_of_mem _ he)))
theorem sim_sorted {w : World} {K : PySem.W.Frag} : SimN w K (rSortedR K) oSorted := by
  intro m h H xs dxs d h' Q S r e q
  unfold oSorted at e
  split at e
  · obtain ⟨ds, e1, e⟩ := bind_some' e
    obtain ⟨v, rfl, r1⟩ := inv1 r
    obtain ⟨pp, vs, rfl, hq, rv⟩ := asL_ok S r1 e1
    split at e
    · cases e
      cases rv
      refine ⟨pp, fun _ => false, [], rfl, hq, fun x hx => (by cases hx), fun out p hp _ hn => ?_⟩
      cases List.perm_nil.mp hp
      exact q m _ _ (Le.upd S.cl hn _) (S.upd hn _) (RQ.newN S hn .nil (Nat.zero_le _)) hn
    · obtain ⟨ks, e2, e⟩ := bind_some' e
      obtain ⟨c, e⟩ := ite_some' e
      cases e
      unfold rowsOk at c
      rw [Bool.and_eq_true, Bool.and_eq_true] at c
      obtain ⟨⟨c1, c3⟩, c2⟩ := c
      have hne : ks ≠ [] := fun z => by rw [z] at c1; cases c1
      have hk : ∀ x ∈ _ :: _, rowKd x = some ks := fun x hx => of_decide_eq_true (List.all_eq_true.mp c2 x hx)
      refine ⟨pp, shapeF ks, vs, rfl, hq, fun x hx => ?_, fun out p hp hs hn => ?_⟩
      · obtain ⟨dd, hd, rd⟩ := rv.memP hx
        exact ⟨_, row_is hne rd (hk dd hd)⟩
      · obtain ⟨ds', p1, r2⟩ := rv.perm hp
        have hk' : ∀ x ∈ ds', rowKd x = some ks := fun x hx => hk x (p1.mem_iff.mp hx)
        have := sorted_uniq (p1.trans (sortR_perm _).symm) (pair_rows hne r2 hk' hs) (sortR_sorted _) hk'
        subst this
        exact q m _ _ (Le.upd S.cl hn _) (S.upd hn _) (RQ.newN S hn r2 (by rw [(sortR_perm _).length_eq]; exact of_decide_eq_true c3)) hn
  · cases e
end Sm
namespace Sm
open PySem PySem.Spec PyProof.Rows L2
/-! ## t < u, tuples of ints and texts of one shape -/
theorem items_get {shape : Nat → Bool} : ∀ {us : List Value} {i : Nat} {ks : Ik}, tupItems shape i us = some ks → us.length = ks.length ∧
    ∀ (j : Nat) (u : Value), us[j]? = some u → (shape (i + j) = false ∧ ∃ n t, u = .int n t ∧ ks[j]? = some (.inl n)) ∨ (shape (i + j) = true ∧ ∃ x t, u = .str x t ∧ ks[j]? = some (.inr x.cps.toList))
  | [], i, ks, h => by
    unfold tupItems at h
    cases h
    exact ⟨rfl, fun j u e => by simp at e⟩
  | v :: us, i, ks, h => by
    cases hs : shape i with
    | false =>
      obtain ⟨n, t, l', rfl, rfl, h2⟩ := tupItems_int hs h
      obtain ⟨i1, i2⟩ := items_get h2
      refine ⟨by simp [i1], fun j u e => ?_⟩
      cases j with
      | zero =>
        simp at e
        subst e
        exact .inl ⟨hs, n, t, rfl, rfl⟩
      | succ j =>
        have := i2 j u (by simpa using e)
        rw [show i + 1 + j = i + (j + 1) by omega] at this
        simpa using this
    | true =>
      obtain ⟨n, t, l', rfl, rfl, h2⟩ := tupItems_str hs h
      obtain ⟨i1, i2⟩ := items_get h2
      refine ⟨by simp [i1], fun j u e => ?_⟩
      cases j with
      | zero =>
        simp at e
        subst e
        exact .inr ⟨hs, n, t, rfl, rfl⟩
      | succ j =>
        have := i2 j u (by simpa using e)
        rw [show i + 1 + j = i + (j + 1) by omega] at this
        simpa using this
def eK (as bs : Ik) (j : Nat) : Bool := decide (as[j]? = bs[j]?)
def rK (as bs : Ik) (j : Nat) : Bool := itemLt (as.getD j (.inl 0)) (bs.getD j (.inl 0))
theorem lexAt_lex {as bs : Ik} (hl : as.length = bs.length) : ∀ (n i : Nat), n = as.length - i → Ob.lexAt (eK as bs) (rK as bs) false i n = lexLt itemOrd (as.drop i) (bs.drop i)
  | 0, i, h => by
    rw [List.drop_of_length_le (by omega), List.drop_of_length_le (by omega)]
    rfl
  | n + 1, i, h => by
    have h1 : i < as.length := by omega
    have h2 : i < bs.length := by omega
    rw [Ob.lexAt_succ, lexAt_lex hl n (i + 1) (by omega), List.drop_eq_getElem_cons h1, List.drop_eq_getElem_cons h2]
    by_cases e : as[i] = bs[i]
    · have c : eK as bs i = true := decide_eq_true (by rw [List.getElem?_eq_getElem h1, List.getElem?_eq_getElem h2, e])
      rw [if_pos c, e, lex_self]
    · have c : ¬ eK as bs i = true := fun z => e (by
        have z := of_decide_eq_true z
        rw [List.getElem?_eq_getElem h1, List.getElem?_eq_getElem h2] at z
        exact Option.some.inj z)
      rw [if_neg c, lex_diff e]
      unfold rK
      rw [List.getD_eq_getElem?_getD, List.getD_eq_getElem?_getD, List.getElem?_eq_getElem h1, List.getElem?_eq_getElem h2]
      rfl
theorem lt_rows {prog : Program} {w : World} {A : Around} {E : Value → Shared → Prop} {s : Shared} {l b : Addr} {us us2 : List Value} {shape : Nat → Bool} {as bs : Ik} {Q : Value → Shared → Prop} (hl : IsTup s.heap l us.toArray) (hb : IsTup s.heap b us2.toArray)
    (h1 : tupItems shape 0 us = some as) (h2 : tupItems shape 0 us2 = some bs) (hz : as.length = bs.length) (hu : A.units < cLine) (h : Q (.bool (lexLt itemOrd as bs)) s) : wpAny (model prog w) A (compareOp .Lt (.ref l) (.ref b)) Q E s := by
  obtain ⟨l1, g1⟩ := items_get h1
  obtain ⟨l2, g2⟩ := items_get h2
  have hh := lexAt_lex hz as.length 0 (by omega)
  have q := Ob.RcOp.tuples_lt (A := A) (s := s) (e := eK as bs) (r := rK as bs) hl hb hu (fun j j1 j2 => ?_) (fun j j1 j2 he => ?_) prog w E Q
  · refine q ?_
    have e1 : us.toArray.size = as.length := by simp [l1]
    have e2 : us2.toArray.size = as.length := by simp [l2, hz]
    rw [e1, e2, Nat.min_self, show decide (as.length < as.length) = false by simp, hh]
    exact h
  · have z1 := g1 j us[j] (by simp)
    have z2 := g2 j us2[j] (by simp)
    simp only [Nat.zero_add] at z1 z2
    rcases z1 with ⟨a1, n, t, a2, a3⟩ | ⟨a1, n, t, a2, a3⟩ <;> rcases z2 with ⟨b1, m, u, b2, b3⟩ | ⟨b1, m, u, b2, b3⟩
    · simp only [List.getElem_toArray, a2, b2]
      have := PySem.SeqAt.EqAt.int_int (A := A.in1) (s := s) n t m u
      unfold eK
      rw [a3, b3]
      rw [show decide (some (Sum.inl n : Int ⊕ List Nat) = some (.inl m)) = (n == m) by rw [Bool.eq_iff_iff]; simp]
      exact this
    · rw [a1] at b1; cases b1
    · rw [a1] at b1; cases b1
    · simp only [List.getElem_toArray, a2, b2]
      have := PySem.SeqAt.EqAt.str_str (A := A.in1) (s := s) n t m u
      unfold eK
      rw [a3, b3]
      have hs : decide (some (Sum.inr n.cps.toList : Int ⊕ List Nat) = some (.inr m.cps.toList)) = (n == m) := by
        rw [Bool.eq_iff_iff]
        simp
        constructor
        · intro z
          cases n; cases m
          simp only at z
          rw [z]
        · intro z
          rw [z]
      rw [hs]
      exact this
  · have z1 := g1 j us[j] (by simp)
    have z2 := g2 j us2[j] (by simp)
    simp only [Nat.zero_add] at z1 z2
    rcases z1 with ⟨a1, n, t, a2, a3⟩ | ⟨a1, n, t, a2, a3⟩ <;> rcases z2 with ⟨b1, m, u, b2, b3⟩ | ⟨b1, m, u, b2, b3⟩
    · simp only [List.getElem_toArray, a2, b2]
      unfold rK
      rw [List.getD_eq_getElem?_getD, List.getD_eq_getElem?_getD, a3, b3]
      exact Ob.RcOp.lt_int n m t u
    · rw [a1] at b1; cases b1
    · rw [a1] at b1; cases b1
    · simp only [List.getElem_toArray, a2, b2]
      unfold rK
      rw [List.getD_eq_getElem?_getD, List.getD_eq_getElem?_getD, a3, b3]
      exact fun _ _ _ _ h => P.lt_str h
def rLtR (K : PySem.W.Frag) : R2 := fun x y H Q => ∃ (shape : Nat → Bool) (kx ky : Ik), RowIs K H shape x kx ∧ RowIs K H shape y ky ∧ kx.length = ky.length ∧ Q (.bl (lexLt itemOrd kx ky)) H
theorem op_ltR {X : Cx} (hu : X.A.units < cLine) : OpR X (compareOp .Lt) (rLtR X.K) := by
  intro pins s σ H x y v u Q I rx ry h
  obtain ⟨shape, kx, ky, hx, hy, hz, q⟩ := h
  obtain ⟨p, us, e1, t1, n1, i1⟩ := row_key I hx rx
  obtain ⟨p2, us2, e2, t2, n2, i2⟩ := row_key I hy ry
  subst e1
  subst e2
  exact lt_rows t1 t2 i1 i2 hz hu ⟨.bl _, H, I, rfl, q⟩
def oLtR : Op2 := fun p q h => match p, q with
  | .val (.tup a), .val (.tup b) => (kdsD a).bind fun ks => if (decide (kdsD b = some ks) && !ks.isEmpty) = true then some (.val (.bl (rowLt (.tup a) (.tup b))), h) else none
  | p, q => oLt p q h
theorem sim_ltR {w : World} {K : PySem.W.Frag} : SimR w K (fun x y H Q => rLtR K x y H Q ∨ rI0 (fun i j => .bl (decide (i < j))) x y H Q) oLtR := by
  intro m h H x y dx dy d h' Q S rx ry e q
  unfold oLtR at e
  split at e
  · obtain ⟨ks, e1, e⟩ := bind_some' e
    obtain ⟨c, e⟩ := ite_some' e
    cases e
    rw [Bool.and_eq_true] at c
    have c1 := of_decide_eq_true c.1
    have hne : ks ≠ [] := fun z => by rw [z] at c; cases c.2
    cases rx with
    | val rx =>
      cases ry with
      | val ry =>
        refine .inl ⟨shapeF ks, _, _, row_is hne rx (show rowKd (.tup _) = some ks from e1), row_is hne ry (show rowKd (.tup _) = some ks from c1), ?_, q m H _ (Le.refl _ _) S (.val (.bl _)) (nwV _ _ _)⟩
        have len : ∀ {a : List D} {ks : List Bool}, kdsD a = some ks → a.length = ks.length := fun {a} => by
          induction a with
          | nil => intro ks h; cases h; rfl
          | cons x a ih =>
            intro ks h
            obtain ⟨k, z1, h⟩ := bind_some' h
            obtain ⟨s, z2, h⟩ := bind_some' h
            cases h
            simp [ih z2]
        unfold rowKey
        rw [List.length_map, List.length_map, len e1, len c1]
  · exact .inr (simII0 (fun _ _ _ _ => .bl _) m h H x y _ _ d h' Q S rx ry e q)
end Sm
namespace Sm
open PySem PySem.Spec PyProof.Rows L2
section
variable {X : Cx} {a b : Expr} {es : List Expr} {fa fb : SE} {fr : SA} {p pos : Pos} {k : Nat}
theorem c_ltR (hr : Room k X.A) : CmpOk X .Lt oLtR b := ⟨_, (op_ltR (by have := hr.un; omega)).or op_lt, sim_ltR, nomark _⟩
/-! ## str(int), sum -/
def oStrI : OpN
  | [.val (.int i)], h => if i.natAbs < 18446744073709551616 then some (.val (.str (toString i)), h) else none
  | _, _ => none
theorem log_small64 {n : Nat} (h : n < 18446744073709551616) : n.log2 < 1920 := by
  by_cases z : n = 0
  · subst z; decide
  · have := (Nat.log2_lt z).mpr (show n < 2 ^ 64 from h)
    omega
theorem sim_strI {w : World} {K : PySem.W.Frag} : SimN w K (fun xs H Q => ∃ i, xs = [.int i] ∧ i.natAbs.log2 < 1920 ∧ Q (.str (toString i)) H) oStrI := by
  intro m h H xs dxs d h' Q S r e q
  unfold oStrI at e
  split at e
  · obtain ⟨c, e⟩ := ite_some' e
    cases e
    obtain ⟨v, rfl, r1⟩ := inv1 r
    rw [inv_int r1]
    exact ⟨_, rfl, log_small64 c, q m H _ (Le.refl _ _) S (.val (.str _)) (nwV _ _ _)⟩
  · cases e
theorem je_strI (hg : Gl X "str") (hm : X.mg "str" = none) (ha : JA X (a :: es) fr) (he : starEach (a :: es) X.env = (false, eval a X.env) :: starEach es X.env := by rfl) (hpl : (backTo pos (starEach es X.env)).any (·.1) = false := by rfl) : JE X (.Call (.Name "str" p) (a :: es) [] pos) (mFn oStrI fr) :=
  je_fnT call_str_int sim_strI hg hm (by decide +kernel) ha (by decide) (by decide) he hpl
def oSum : OpN
  | [q], h => (asL q h).bind fun ds => (intsD ds).bind fun ns => some (.val (.int ns.sum), h)
  | _, _ => none
theorem sim_sum {w : World} {K : PySem.W.Frag} : SimN w K (rSum K) oSum := by
  intro m h H xs dxs d h' Q S r e q
  unfold oSum at e
  split at e
  · obtain ⟨ds, e1, e⟩ := bind_some' e
    obtain ⟨ns, e2, e⟩ := bind_some' e
    cases e
    obtain ⟨v, rfl, r1⟩ := inv1 r
    obtain ⟨pp, vs, rfl, hq, rv⟩ := asL_ok S r1 e1
    rw [intsD_map e2] at rv
    have e3 := rv.ints
    subst e3
    exact ⟨pp, ns, rfl, hq, q m H _ (Le.refl _ _) S (.val (.int _)) (nwV _ _ _)⟩
  · cases e
theorem je_sum (hc : X.calm = true) (hg : Gl X "sum") (hm : X.mg "sum" = none) (ha : JA X (a :: es) fr) (he : starEach (a :: es) X.env = (false, eval a X.env) :: starEach es X.env := by rfl) (hpl : (backTo pos (starEach es X.env)).any (·.1) = false := by rfl) : JE X (.Call (.Name "sum" p) (a :: es) [] pos) (mFn oSum fr) :=
  je_fnB (cr_sum hc) sim_sum hg hm (by decide +kernel) ha (by decide) (by decide) he hpl
theorem je_sorted (hg : Gl X "sorted") (hm : X.mg "sorted" = none) (ha : JA X (a :: es) fr) (he : starEach (a :: es) X.env = (false, eval a X.env) :: starEach es X.env := by rfl) (hpl : (backTo pos (starEach es X.env)).any (·.1) = false := by rfl) : JE X (.Call (.Name "sorted" p) (a :: es) [] pos) (mFn oSorted fr) :=
  je_fnB cr_sortedR sim_sorted hg hm (by decide +kernel) ha (by decide) (by decide) he hpl
end
/-! ## loops over what never changes -/
theorem Ls.refl' (m : List Addr) (H : Hp) : Ls m H m H := ⟨⟨[], by simp⟩, fun _ _ h => h, fun _ _ _ h => h⟩
theorem Ls.trans' {m m1 m2 : List Addr} {H H1 H2 : Hp} (a : Ls m H m1 H1) (b : Ls m1 H1 m2 H2) : Ls m H m2 H2 := by
  refine ⟨?_, fun p vs e => b.tu p vs (a.tu p vs e), fun p o u e => b.fz p o u (a.fz p o u e)⟩
  obtain ⟨t, rfl⟩ := a.pre
  obtain ⟨u, rfl⟩ := b.pre
  exact ⟨t ++ u, by simp⟩
def ItOkS (w : World) (K : PySem.W.Frag) (J : It) (m0 : List Addr) (H0 : Hp) (it : ItD) : Prop :=
  ∀ (i : Nat) (m : List Addr) (h : AH) (H : Hp), Ls m0 H0 m H → Sim w K m h H →
    (∀ d, it.items[i]? = some d → J.go i H ∧ ∀ x H', J.yld i H x H' → Le m H m H' ∧ Sim w K m h H' ∧ RV K m H' x d) ∧ (i = it.items.length → J.stop i H)
def tIS (w : World) (K : PySem.W.Frag) (f : SI) : TI := fun σ H R => ∃ m τ h it h', RSt K m H σ τ ∧ Sim w K m h H ∧ f τ h = some (it, h') ∧ ∀ m' H' J, Le m H m' H' → Sim w K m' h' H' → ItOkS w K J m' H' it → R J H'
def JIS (X : Cx) (tg e : Expr) (f : SI) : Prop := PI X tg e (tIS X.w X.K f)
def iterT : LV → Option ItD
  | .val (.tup ds) => some ⟨ds, []⟩
  | .val (.zt ds) => some ⟨ds, []⟩
  | _ => none
def mIterT (fa : SE) : SI := fun τ h => (fa τ h).bind fun p => (iterT p.1).bind fun it => some (it, p.2)
theorem itOkS_tup {w : World} {K : PySem.W.Frag} {m : List Addr} {H : Hp} {a : Addr} {ds : List D} {us : List V} (hq : SqT K H a us) (r : RVs K m H us ds) : ItOkS w K (Itt K a) m H ⟨ds, []⟩ := fun i m1 h1 H1 L S => by
  have hq := L.sqT hq
  have r := r.monoS L
  refine ⟨fun d e => ?_, fun e => ⟨us, hq, by rw [r.length, e]; exact Nat.le_refl _⟩⟩
  obtain ⟨v, e1, r1⟩ := r.get e
  refine ⟨⟨us, v, hq, e1⟩, fun x H2 ⟨e2, y⟩ => ?_⟩
  subst e2
  have := y us hq
  rw [e1] at this
  cases this
  exact ⟨Le.refl _ _, S, r1⟩
theorem iterT_ok {K : PySem.W.Frag} {m : List Addr} {H : Hp} {v : V} {x : LV} {it : ItD} (r : RQ K m H v x) (e : iterT x = some it) : ∃ p us, v = .ref p ∧ SqT K H p us ∧ RVs K m H us it.items ∧ it.grd = [] := by
  unfold iterT at e
  split at e
  · cases e
    cases r with
    | val r =>
      cases r with
      | tup f r => exact ⟨_, _, rfl, f.sq, r, rfl⟩
  · cases e
    cases r with
    | val r =>
      cases r with
      | zt f r => exact ⟨_, _, rfl, f, r, rfl⟩
  · cases e
theorem jis_tup {X : Cx} {tg e : Expr} {fa : SE} (he : JE X e fa) : JIS X tg e (mIterT fa) := by
  refine pi_weak (pi_tup he) fun σ H R ⟨m, τ, h, it, h', Rs, S, e, q⟩ => ?_
  obtain ⟨⟨x, h1⟩, e1, e⟩ := bind_some' e
  obtain ⟨it', e2, e⟩ := bind_some' e
  cases e
  refine ⟨m, τ, h, x, h1, Rs, S, e1, fun m1 H1 v1 L1 S1 r1 _ => ?_⟩
  obtain ⟨p, us, rfl, hq, rr, hg⟩ := iterT_ok r1 e2
  obtain ⟨its, grd⟩ := it
  cases hg
  exact ⟨_, rfl, ⟨_, hq⟩, q m1 H1 _ L1 S1 (itOkS_tup hq rr)⟩
/-! ## [elt for tg in iter if .. for tg1 in iter1 if ..] -/
def compL2 (grd : List (Nat × List D)) (g : SG) (ft : ST) (fi1 : SI) (g1 : SG) (ft1 : ST) (fe : SE) (vs1 : List Nat) (τ : AT) : List D → AH → Option (List D × AH)
  | [], h => if grdOk grd h = true then some ([], h) else none
  | x :: xs, h => if grdOk grd h = true then (g x τ h).bind fun p => (ft p.1 p.2).bind fun b => if b.1 = true then
      (fi1 p.1 b.2).bind fun it => (compL it.1.grd g1 ft1 fe (wipeA p.1 vs1) it.1.items it.2).bind fun ys => (compL2 grd g ft fi1 g1 ft1 fe vs1 τ xs ys.2).bind fun z => some (ys.1 ++ z.1, z.2)
    else compL2 grd g ft fi1 g1 ft1 fe vs1 τ xs b.2 else none
def mComp2 (fi : SI) (g : SG) (ft : ST) (fi1 : SI) (g1 : SG) (ft1 : ST) (fe : SE) (vs vs1 : List Nat) : SE := fun τ h => (fi τ h).bind fun p => (compL2 p.1.grd g ft fi1 g1 ft1 fe vs1 (wipeA τ vs) p.1.items p.2).bind fun z =>
  if z.1.length ≤ 16777216 then some (.new z.1, z.2) else none
section
variable {X : Cx} {elt tg iter tg1 iter1 : Expr} {ifs ifs1 : List Expr} {scope : Scope} {own : List (Str × Nat)} {pos : Pos} {fi fi1 : SI} {g g1 : SG} {ft ft1 : ST} {fe : SE}
theorem RSt.monoS {K : PySem.W.Frag} {m m' : List Addr} {H H' : Hp} {σ : L2.St} {τ : AT} (r : RSt K m H σ τ) (L : Ls m H m' H') : RSt K m' H' σ τ :=
  ⟨r.1, fun i d e => by
    obtain ⟨v, h1, h2⟩ := r.2 i d e
    exact ⟨v, h1, h2.monoS L⟩⟩
theorem comp2_sem {w : World} {K : PySem.W.Frag} {vs vs1 : List Nat} (hsub : ∀ i ∈ vs1, i ∈ vs) (σ : L2.St) (H : Hp) (Q : VK) (h : tE w K (mComp2 fi g ft fi1 g1 ft1 fe vs vs1) σ H Q) : tLc2 (tI w K fi) (tG w K vs g) (tT w K ft) (tIS w K fi1) (tG w K vs1 g1) (tT w K ft1) (tE w K (mAd fe)) vs vs1 σ H Q := by
  obtain ⟨m, τ, h, r, h', R, S, e, q⟩ := h
  obtain ⟨⟨it, h1⟩, e1, e⟩ := bind_some' e
  obtain ⟨⟨total, hf⟩, e2, e⟩ := bind_some' e
  obtain ⟨hz, e⟩ := ite_some' e
  obtain ⟨e8, e9⟩ := Prod.mk.inj (Option.some.inj e)
  dsimp only at e8 e9 hz e2
  subst e8
  subst e9
  refine ⟨m, τ, h, it, h1, R, S, e1, fun m1 H1 J L1 S1 J1 => ?_⟩
  intro Dn hD
  have hD0 : H Dn = none := fresh_back S1.cl L1 hD
  have LD := Le.upd S1.cl hD (.lst [])
  refine ⟨fun i n H2 => ∃ m2 h2 acc accV rest', n = (it.items.drop i).length ∧ i ≤ it.items.length ∧ Le m1 H1 m2 H2 ∧ Sim w K m2 h2 H2 ∧ Dn ∉ m2 ∧ H2 Dn = some (.lst accV) ∧ RVs K m2 H2 accV acc ∧
      compL2 it.grd g ft fi1 g1 ft1 fe vs1 (wipeA τ vs) (it.items.drop i) h2 = some (rest', hf) ∧ acc ++ rest' = total,
    ⟨_, m1, h1, [], [], total, rfl, Nat.zero_le _, LD, S1.upd hD _, S1.cl.non hD, upd_same, .nil, e2, rfl⟩, ?_⟩
  rintro i n H2 ⟨m2, h2, acc, accV, rest', rfl, hi2, L2, S2, hn2, hD2, rv2, e3, et⟩
  cases hd : it.items.drop i with
  | nil =>
    rw [hd] at e3
    unfold compL2 at e3
    obtain ⟨G, e3⟩ := ite_some' e3
    cases e3
    have hi3 : i = it.items.length := by
      have := congrArg List.length hd
      rw [List.length_drop, List.length_nil] at this
      omega
    rw [List.append_nil] at et
    subst et
    exact .inl ⟨(J1 i m2 _ H2 L2 S2 G).2 hi3, q m2 H2 _ (L1.trans L2) S2 (.new hn2 hD2 rv2 hz) hD0⟩
  | cons x xs =>
    rw [hd] at e3
    unfold compL2 at e3
    obtain ⟨G, e3⟩ := ite_some' e3
    obtain ⟨⟨τ3, h3⟩, e4, e3⟩ := bind_some' e3
    obtain ⟨⟨b, h4⟩, e5, e3⟩ := bind_some' e3
    have hx : it.items[i]? = some x := by
      have := congrArg (fun l => l[0]?) hd
      simpa using this
    have hlt : i < it.items.length := (List.getElem?_eq_some_iff.mp hx).1
    have hxs : it.items.drop (i + 1) = xs := by
      rw [← List.drop_drop, hd]
      rfl
    obtain ⟨go, yl⟩ := (J1 i m2 h2 H2 L2 S2 G).1 x hx
    refine .inr ⟨go, fun H' => ∃ m' h' acc' accV' rest'', Le m1 H1 m' H' ∧ Sim w K m' h' H' ∧ Dn ∉ m' ∧ H' Dn = some (.lst accV') ∧ RVs K m' H' accV' acc' ∧
        compL2 it.grd g ft fi1 g1 ft1 fe vs1 (wipeA τ vs) xs h' = some (rest'', hf) ∧ acc' ++ rest'' = total, fun H' ⟨m', h', acc', accV', rest'', L', S', n', d', r', e', t'⟩ => ?_, fun v H' y => ?_⟩
    · exact ⟨xs.length, by rw [List.length_cons]; exact Nat.lt_succ_self _, m', h', acc', accV', rest'', by rw [hxs], hlt, L', S', n', d', r', by rw [hxs]; exact e', t'⟩
    · obtain ⟨L3, S3, rv⟩ := yl v H' y
      have Rw := (((R.mono S.cl L1.toLw).mono S1.cl L2.toLw).mono S2.cl L3.toLw).wipe vs
      have keepD : ∀ {m3 H3}, Le m2 H2 m3 H3 → Dn ∉ m3 ∧ H3 Dn = some (.lst accV) := fun {m3 H3} L => by
        refine ⟨fun z => ?_, L.fr _ _ hD2 hn2⟩
        have w := L.nw _ z hn2
        rw [hD2] at w
        cases w
      refine ⟨m2, x, _, h2, τ3, h3, rv, Rw, S3, e4, fun m5 H5 σ5 L5 S5 R5 w5 => ⟨w5.trans (wipe_wipe σ vs), m5, τ3, h3, b, h4, R5, S5, e5, fun m6 H6 L6 S6 => ?_⟩⟩
      have L7 := L3.trans (L5.trans L6)
      dsimp only at e3
      cases b with
      | false =>
        rw [if_neg Bool.false_ne_true] at e3
        refine iteF ?_
        obtain ⟨n', d'⟩ := keepD L7
        exact ⟨m6, h4, acc, accV, rest', L2.trans L7, S6, n', d', rv2.mono S2.cl L7.toLw, e3, et⟩
      | true =>
        rw [if_pos rfl] at e3
        refine iteT ?_
        obtain ⟨⟨itI, hI⟩, e6, e3⟩ := bind_some' e3
        obtain ⟨⟨ys, h6⟩, e7, e3⟩ := bind_some' e3
        obtain ⟨⟨zs, h7⟩, e8, e3⟩ := bind_some' e3
        obtain ⟨f8, f9⟩ := Prod.mk.inj (Option.some.inj e3)
        dsimp only at f8 f9 e7 e8
        subst f9
        subst f8
        have R6 := R5.mono S5.cl L6.toLw
        refine ⟨m6, τ3, h4, itI, hI, R6, S6, e6, fun m7 H7 JI L8 S7 JJ => ?_⟩
        have L9 := L7.trans L8
        obtain ⟨n7, d7⟩ := keepD L9
        refine ⟨fun j k H8 => ∃ m8 h8 accI accW restI, k = (itI.items.drop j).length ∧ j ≤ itI.items.length ∧ Ls m7 H7 m8 H8 ∧ Le m1 H1 m8 H8 ∧ Sim w K m8 h8 H8 ∧ Dn ∉ m8 ∧ H8 Dn = some (.lst accW) ∧ RVs K m8 H8 accW accI ∧
            compL itI.grd g1 ft1 fe (wipeA τ3 vs1) (itI.items.drop j) h8 = some (restI, h6) ∧ accI ++ (restI ++ zs) = total,
          ⟨_, m7, hI, acc, accV, ys, rfl, Nat.zero_le _, Ls.refl' _ _, L2.trans L9, S7, n7, d7, rv2.mono S2.cl L9.toLw, e7, et⟩, ?_⟩
        rintro j k H8 ⟨m8, h8, accI, accW, restI, rfl, hj2, M2, M1, S8, n8, d8, rv8, E3, Et⟩
        cases hdI : itI.items.drop j with
        | nil =>
          rw [hdI] at E3
          unfold compL at E3
          obtain ⟨GI, E3⟩ := ite_some' E3
          cases E3
          have hj3 : j = itI.items.length := by
            have := congrArg List.length hdI
            rw [List.length_drop, List.length_nil] at this
            omega
          rw [List.nil_append] at Et
          exact .inl ⟨(JJ j m8 _ H8 M2 S8).2 hj3, ⟨m8, _, accI, accW, zs, M1, S8, n8, d8, rv8, e8, Et⟩⟩
        | cons x' xs' =>
          rw [hdI] at E3
          unfold compL at E3
          obtain ⟨GI, E3⟩ := ite_some' E3
          obtain ⟨⟨τ9, h9⟩, E4, E3⟩ := bind_some' E3
          obtain ⟨⟨b', h10⟩, E5, E3⟩ := bind_some' E3
          have hxI : itI.items[j]? = some x' := by
            have := congrArg (fun l => l[0]?) hdI
            simpa using this
          have hltI : j < itI.items.length := (List.getElem?_eq_some_iff.mp hxI).1
          have hxsI : itI.items.drop (j + 1) = xs' := by
            rw [← List.drop_drop, hdI]
            rfl
          obtain ⟨goI, ylI⟩ := (JJ j m8 h8 H8 M2 S8).1 x' hxI
          refine .inr ⟨goI, fun H' => ∃ m' h' acc' accV' rest'', Ls m7 H7 m' H' ∧ Le m1 H1 m' H' ∧ Sim w K m' h' H' ∧ Dn ∉ m' ∧ H' Dn = some (.lst accV') ∧ RVs K m' H' accV' acc' ∧
              compL itI.grd g1 ft1 fe (wipeA τ3 vs1) xs' h' = some (rest'', h6) ∧ acc' ++ (rest'' ++ zs) = total, fun H' ⟨m', h', acc', accV', rest'', K1, L', S', n', d', r', e', t'⟩ => ?_, fun v' H9 y' => ?_⟩
          · exact ⟨xs'.length, by rw [List.length_cons]; exact Nat.lt_succ_self _, m', h', acc', accV', rest'', by rw [hxsI], hltI, K1, L', S', n', d', r', by rw [hxsI]; exact e', t'⟩
          · obtain ⟨N3, T3, rvI⟩ := ylI v' H9 y'
            have RwI := (((R6.mono S6.cl L8.toLw).monoS M2).mono S8.cl N3.toLw).wipe vs1
            have keepI : ∀ {m3 H3}, Le m8 H8 m3 H3 → Dn ∉ m3 ∧ H3 Dn = some (.lst accW) := fun {m3 H3} L => by
              refine ⟨fun z => ?_, L.fr _ _ d8 n8⟩
              have w := L.nw _ z n8
              rw [d8] at w
              cases w
            refine ⟨m8, x', _, h8, τ9, h9, rvI, RwI, T3, E4, fun m10 H10 σ10 N5 T5 R10 w10 => ⟨w10.trans (wipe_wipe σ5 vs1), m10, τ9, h9, b', h10, R10, T5, E5, fun m11 H11 N6 T6 => ?_⟩⟩
            have N7 := N3.trans (N5.trans N6)
            dsimp only at E3
            cases b' with
            | false =>
              rw [if_neg Bool.false_ne_true] at E3
              refine iteF ?_
              obtain ⟨n', d'⟩ := keepI N7
              exact ⟨m11, h10, accI, accW, restI, M2.trans' (N7.toLw.ls S8.cl), M1.trans N7, T6, n', d', rv8.mono S8.cl N7.toLw, E3, Et⟩
            | true =>
              rw [if_pos rfl] at E3
              refine iteT ?_
              obtain ⟨⟨yy, h11⟩, E6, E3⟩ := bind_some' E3
              obtain ⟨⟨zs', h12⟩, E7, E3⟩ := bind_some' E3
              obtain ⟨g8, g9⟩ := Prod.mk.inj (Option.some.inj E3)
              dsimp only at g8 g9 E7
              subst g9
              subst g8
              refine ⟨m11, τ9, h10, .val (lay yy h11).1, (lay yy h11).2, R10.mono T5.cl N6.toLw, T6, ?_, fun m12 H12 v12 N8 T12 r12 _ => ?_⟩
              · unfold mAd
                rw [E6]
                rfl
              · have N9 := N7.trans N8
                obtain ⟨n', d'⟩ := keepI N9
                cases r12 with
                | val r12 =>
                  have ru : RVs K m12 H12 (accW ++ [v12]) (accI ++ [(lay yy h11).1]) := (rv8.mono S8.cl N9.toLw).append (.one r12)
                  refine ⟨accW, d', ?_, m12, (lay yy h11).2, accI ++ [(lay yy h11).1], accW ++ [v12], zs', (M2.trans' (N9.toLw.ls S8.cl)).trans' (Ls.side d'), (M1.trans N9).side _ hD, T12.side _ d' n', n', upd_same, ru.monoS (Ls.side d'), E7, by rw [← Et]; simp⟩
                  have z1 := rv8.length
                  have z2 := congrArg List.length Et
                  rw [List.length_append, List.length_append, List.length_cons] at z2
                  rw [sizeLine_eq]
                  omega
theorem je_comp2 {vs1 : List Nat} (hc : X.calm = true) (hN : X.N.Nodup) (hi : JI X tg iter fi) (ok : BlkOk X.N X.env.scope scope own) (hv : ∀ i ∈ vs1, i ∈ own.map (·.2))
    (hg : ∀ (s : Shared) (H : Hp) (C : Addr) (cl : List (Str × Addr)) (fp : List Addr), JG (X.blk s H scope (compEnvC scope cl C X.env) fp) (own.map (·.2)) tg g)
    (ht : ∀ (s : Shared) (H : Hp) (C : Addr) (cl : List (Str × Addr)) (fp : List Addr), JTs (X.blk s H scope (compEnvC scope cl C X.env) fp) ifs ft)
    (hi1 : ∀ (s : Shared) (H : Hp) (C : Addr) (cl : List (Str × Addr)) (fp : List Addr), JIS (X.blk s H scope (compEnvC scope cl C X.env) fp) tg1 iter1 fi1)
    (hg1 : ∀ (s : Shared) (H : Hp) (C : Addr) (cl : List (Str × Addr)) (fp : List Addr), JG (X.blk s H scope (compEnvC scope cl C X.env) fp) vs1 tg1 g1)
    (ht1 : ∀ (s : Shared) (H : Hp) (C : Addr) (cl : List (Str × Addr)) (fp : List Addr), JTs (X.blk s H scope (compEnvC scope cl C X.env) fp) ifs1 ft1)
    (he : ∀ (s : Shared) (H : Hp) (C : Addr) (cl : List (Str × Addr)) (fp : List Addr), JE (X.blk s H scope (compEnvC scope cl C X.env) fp) elt fe) (hs : ∀ x, foldedSetIterable iter X.env x = pure x := by intro _; rfl) (hs1 : ∀ env x, foldedSetIterable iter1 env x = pure x := by intro _ _; rfl) :
    JE X (.ListComp elt [⟨tg, iter, ifs, 0⟩, ⟨tg1, iter1, ifs1, 0⟩] scope pos) (mComp2 fi g ft fi1 g1 ft1 fe (own.map (·.2)) vs1) :=
  pe_weak (pe_lc2 (g := tG X.w X.K (own.map fun x : Str × Nat => x.2) g) (tt := tT X.w X.K ft) (wi1 := tIS X.w X.K fi1) (g1 := tG X.w X.K vs1 g1) (tt1 := tT X.w X.K ft1) (te := tE X.w X.K (mAd fe)) hc hN hi ok hv hg ht hi1 hg1 ht1 (fun s H C cl fp => je_ad (he s H C cl fp)) hs hs1) (comp2_sem hv)
end
end Sm
namespace Sm
open PySem PySem.Spec PyProof.Rows L2
/-! ## constants of the module -/
section
variable {X : Cx} {pos : Pos}
theorem je_globI {x : Str} {n : Int} {t : Tok} (hg : Gl X x) (hm : X.mg x = some (.int n t)) (hd : (x == ("__debug__" : Str)) = false := by decide) : JE X (.Name x pos) (mC (.int n)) :=
  je_const (pe_glob (v := .int n) hg hm ⟨t, rfl⟩ hd) fun _ _ => .int n
end
def valsS : List Value → Option (List Str)
  | [] => some []
  | .str x _ :: r => (valsS r).map (x :: ·)
  | _ => none
def tupW (K : PySem.W.Frag) (a : Addr) : Option (List Str) := match K.lookup a with
  | some ⟨.type n, none, .seq its _, _⟩ => if (n == "tuple" && decide (its.size ≤ 1000)) = true then valsS its.toList else none
  | _ => none
theorem valsS_ok : ∀ {us : List Value} {xs : List Str}, valsS us = some xs → Vals (xs.map V.str) us
  | [], xs, h => by cases h; exact .nil
  | u :: us, xs, h => by
    cases u with
    | str x t =>
      unfold valsS at h
      cases e : valsS us with
      | none => rw [e] at h; cases h
      | some l =>
        rw [e] at h
        cases h
        exact .cons ⟨t, rfl⟩ (valsS_ok e)
    | _ => cases h
theorem rvs_strs {K : PySem.W.Frag} {m : List Addr} {H : Hp} : ∀ xs : List Str, RVs K m H (xs.map V.str) (xs.map D.str)
  | [] => .nil
  | x :: r => .cons (.str x) (rvs_strs r)
theorem tupW_ok {K : PySem.W.Frag} {a : Addr} {xs : List Str} (h : tupW K a = some xs) (m : List Addr) (H : Hp) : RV K m H (.ref a) (.tup (xs.map D.str)) := by
  unfold tupW at h
  split at h
  · rename_i n its k sl e
    obtain ⟨c, hv⟩ : (n == "tuple" && decide (its.size ≤ 1000)) = true ∧ valsS its.toList = some xs := by
      split at h
      · rename_i c; exact ⟨c, h⟩
      · cases h
    rw [Bool.and_eq_true] at c
    have c1 := eq_of_beq c.1
    subst c1
    exact .tup (.inr ⟨_, its, _, e, rfl, rfl, rfl, by have := of_decide_eq_true c.2; rw [sizeLine_eq]; omega, valsS_ok hv⟩) (rvs_strs xs)
  · cases h
theorem je_globT {X : Cx} {pos : Pos} {x : Str} {a : Addr} {xs : List Str} (ht : tupW X.K a = some xs) (hg : Gl X x) (hm : X.mg x = some (.ref a)) (hd : (x == ("__debug__" : Str)) = false := by decide) : JE X (.Name x pos) (mC (.tup (xs.map D.str))) :=
  je_const (pe_glob (v := .ref a) hg hm rfl hd) fun m H => tupW_ok ht m H
/-! ## {k: v, ..}, keys texts -/
def mPairs : List (Str × SE) → AT → AH → Option (List (D × D) × AH)
  | [], _, h => some ([], h)
  | (k, f) :: r, τ, h => (f τ h).bind fun p => (mPairs r τ (lay p.1 p.2).2).bind fun q => some ((.str k, (lay p.1 p.2).1) :: q.1, q.2)
def mDisp (prs : List (Str × SE)) : SE := fun τ h => (mPairs prs τ h).bind fun p => some (.val (.ref p.2.length), p.2 ++ [.dic p.1])
def JPs (X : Cx) (pos : Pos) (keys : List (Option Expr)) (values : List Expr) (prs : List (Str × SE)) : Prop := PPs X pos keys values (prs.map fun p : Str × SE => (tC (.str p.1), tE X.w X.K (mAd p.2)))
theorem jps_nil {X : Cx} {pos : Pos} : JPs X pos [] [] [] := pps_nil
theorem jps_cons {X : Cx} {pos : Pos} {x : Str} {j p} {v : Expr} {ks : List (Option Expr)} {vs : List Expr} {f : SE} {prs : List (Str × SE)} (hv : JE X v f) (hr : JPs X pos ks vs prs) : JPs X pos (some (.Constant (.str x) j p) :: ks) (v :: vs) ((x, f) :: prs) :=
  pps_cons pe_str (je_ad hv) hr
theorem pairs_keys : ∀ {prs : List (Str × SE)} {τ : AT} {h h' : AH} {kvs : List (D × D)}, mPairs prs τ h = some (kvs, h') → kvs.map (·.1) = prs.map fun p => D.str p.1
  | [], τ, h, h', kvs, e => by cases e; rfl
  | (k, f) :: r, τ, h, h', kvs, e => by
    obtain ⟨p, e1, e⟩ := bind_some' e
    obtain ⟨⟨q, h2⟩, e2, e⟩ := bind_some' e
    cases e
    rw [List.map_cons, List.map_cons, pairs_keys e2]
theorem pairs_sem {w : World} {K : PySem.W.Frag} {σ : L2.St} : ∀ {prs : List (Str × SE)} {τ : AT} {m : List Addr} {h h' : AH} {H : Hp} {kvs : List (D × D)} {Q : List (V × V) → Hp → Prop}, RSt K m H σ τ → Sim w K m h H → mPairs prs τ h = some (kvs, h') →
    (∀ m' H' ks, Le m H m' H' → Sim w K m' h' H' → RKs K m' H' ks kvs → Q (ks.map fun kv : Key × V => (kV kv.1, kv.2)) H') → tPairs (prs.map fun p : Str × SE => (tC (.str p.1), tE w K (mAd p.2))) σ H Q
  | [], τ, m, h, h', H, kvs, Q, R, S, e, q => by
    cases e
    exact q m H [] (Le.refl _ _) S .nil
  | (k, f) :: r, τ, m, h, h', H, kvs, Q, R, S, e, q => by
    obtain ⟨⟨x, h1⟩, e1, e⟩ := bind_some' e
    obtain ⟨⟨y, h2⟩, e2, e⟩ := bind_some' e
    cases e
    refine ⟨m, τ, h, .val (lay x h1).1, (lay x h1).2, R, S, by unfold mAd; show ((f τ h).bind _) = _; rw [e1]; rfl, fun m1 H1 v L1 S1 r1 n1 => ?_⟩
    refine pairs_sem (R.mono S.cl L1.toLw) S1 e2 fun m2 H2 ks L2 S2 r2 => ?_
    cases r1 with
    | val r1 => exact q m2 H2 ((.inr k, v) :: ks) (L1.trans L2) S2 (.str (r1.mono S1.cl L2.toLw) r2)
theorem rks_keys {K : PySem.W.Frag} {m : List Addr} {H : Hp} : ∀ {ks : List (Key × V)} {kvs : List (D × D)}, RKs K m H ks kvs → ks.length = kvs.length
  | _, _, .nil => rfl
  | _, _, .int _ r => by rw [List.length_cons, List.length_cons, rks_keys r]
  | _, _, .str _ r => by rw [List.length_cons, List.length_cons, rks_keys r]
theorem rks_strs {K : PySem.W.Frag} {m : List Addr} {H : Hp} : ∀ {ks : List (Key × V)} {kvs : List (D × D)} {xs : List Str}, RKs K m H ks kvs → kvs.map (·.1) = xs.map D.str → ks.map (·.1) = xs.map Sum.inr
  | _, _, [], .nil, _ => rfl
  | _, _, x :: xs, .str _ r, e => by
    rw [List.map_cons, List.map_cons] at e
    obtain ⟨e1, e2⟩ := List.cons.inj e
    cases e1
    rw [List.map_cons, List.map_cons, rks_strs r e2]
  | _, _, x :: xs, .int _ r, e => by
    rw [List.map_cons, List.map_cons] at e
    obtain ⟨e1, e2⟩ := List.cons.inj e
    cases e1
  | _, _, _ :: _, .nil, e => by cases e
  | _, _, [], .int _ _, e => by cases e
  | _, _, [], .str _ _, e => by cases e
theorem merge_nd : ∀ {more acc : List (Key × V)}, ((acc ++ more).map (·.1)).Nodup → mergeK acc more = acc ++ more
  | [], acc, _ => by rw [List.append_nil]; rfl
  | (k, v) :: r, acc, h => by
    have hk : k ∉ acc.map (·.1) := fun z => by
      rw [List.map_append, List.nodup_append] at h
      exact h.2.2 k z k (by simp) rfl
    have e : putK acc k v = acc ++ [(k, v)] := by
      unfold putK
      rw [if_neg]
      intro z
      obtain ⟨p, hp, hq⟩ := List.any_eq_true.mp z
      exact hk (List.mem_map.mpr ⟨p, hp, of_decide_eq_true hq⟩)
    show mergeK (putK acc k v) r = _
    rw [e, merge_nd (by rw [List.append_assoc]; exact h), List.append_assoc]
    rfl
theorem ro_side {m m' : List Addr} {H : Hp} {p : Addr} {ks ks' : List (Key × V)} (hp : H p = some (.dK ks)) (hm : ∃ t, m' = m ++ t) : Ls m H m' (L2.upd H p (.dK ks')) := by
  refine ⟨hm, fun a vs e => ?_, fun a o u e => ?_⟩
  · rw [upd_ne (fun z => by rw [z, hp] at e; cases e)]; exact e
  · rw [upd_ne (fun z => by rw [z, hp] at e; cases e)]; exact e
section
variable {X : Cx} {pos : Pos} {keys : List (Option Expr)} {values : List Expr} {prs : List (Str × SE)} {a b : Expr} {fa fb : SE} {k : Nat}
theorem je_disp (h : JPs X pos keys values prs) (hall : keys.all (·.isSome) = true := by rfl) (hl : keys.length = values.length := by rfl) (h0 : keys ≠ [] := by simp) (h15 : keys.length ≤ 15 := by decide) (hp : prs.length ≤ 15 := by decide) (hnd : (prs.map fun p => p.1).Nodup := by decide) :
    JE X (.Dict keys values pos) (mDisp prs) := by
  refine pe_weak (pe_disp h hall hl h0 h15) fun σ H Q ⟨m, τ, h, d, h', R, S, e, q⟩ => ?_
  obtain ⟨⟨kvs, h1⟩, e1, e⟩ := bind_some' e
  cases e
  intro p hp0
  have hpm : p ∉ m := S.cl.non hp0
  have LD := Le.upd S.cl hp0 (.dK [])
  refine pairs_sem (R.mono S.cl LD.toLw) (S.upd hp0 _) e1 fun m1 H1 ks L1 S1 rk => ?_
  have hp1 : H1 p = some (.dK []) := L1.fr p _ upd_same hpm
  have hpm1 : p ∉ m1 := fun z => by
    have := L1.nw p z hpm
    rw [upd_same] at this
    cases this
  have hk := pairs_keys e1
  have hk2 := rks_strs (xs := prs.map fun p => p.1) rk (by rw [hk, List.map_map]; rfl)
  have hlen : ks.length ≤ 15 := by
    have z1 := congrArg List.length hk2
    simp only [List.length_map] at z1
    omega
  refine ⟨hp1, ks, rfl, hlen, ?_⟩
  rw [merge_nd (acc := []) (by
    rw [List.nil_append, hk2]
    exact List.Pairwise.map _ (fun a b hab z => hab (Sum.inr.inj z)) hnd), List.nil_append]
  have Ld : Ls m1 H1 (m1 ++ [p]) (L2.upd H1 p (.dK ks)) := ro_side hp1 ⟨[p], rfl⟩
  refine q (m1 ++ [p]) _ _ ⟨⟨?_, fun a o ha hn => ?_⟩, fun a ha hn => ?_⟩ ⟨by simp [S1.len], nodup_add S1.nd hpm1, fun i a o e1 e2 => ?_⟩ (.val (.ref ?_)) (nwV _ _ _)
  · obtain ⟨t, rfl⟩ := L1.pre
    exact ⟨t ++ [p], by simp⟩
  · rw [upd_ne (fun z => by rw [z, hp0] at ha; cases ha)]
    exact L1.fr a o (by rw [upd_ne (fun z => by rw [z, hp0] at ha; cases ha)]; exact ha) hn
  · rcases List.mem_append.mp ha with z | z
    · have := L1.nw a z hn
      by_cases e : a = p
      · rw [e]; exact hp0
      · rw [upd_ne e] at this; exact this
    · rw [List.mem_singleton.mp z]; exact hp0
  · rcases get_add e1 with z | ⟨z, rfl⟩
    · have hi : i < m1.length := by
        rcases Nat.lt_or_ge i m1.length with w | w
        · exact w
        · rw [List.getElem?_eq_none w] at z
          cases z
      rw [List.getElem?_append_left (by rw [← S1.len]; exact hi)] at e2
      have r := S1.ob i a o z e2
      have hne : a ≠ p := fun w => hpm1 (by rw [← w]; exact List.mem_of_getElem? z)
      cases o with
      | lst ds =>
        obtain ⟨vs, r1, r2⟩ := r
        exact ⟨vs, by rw [upd_ne hne]; exact r1, r2.monoS Ld⟩
      | dic ds =>
        obtain ⟨vs, r1, r2⟩ := r
        exact ⟨vs, by rw [upd_ne hne]; exact r1, r2.monoS Ld⟩
      | ndc ds =>
        obtain ⟨ob, xs, r1, n1, y, z1, r2⟩ := r
        exact ⟨ob, xs, by rw [upd_ne hne]; exact r1, n1, y, z1, r2.monoS Ld⟩
    · rw [z, S1.len, List.getElem?_append_right (Nat.le_refl _), Nat.sub_self] at e2
      cases e2
      exact ⟨ks, upd_same, rk.monoS Ld⟩
  · rw [← S1.len, List.getElem?_append_right (Nat.le_refl _), Nat.sub_self]
    rfl
/-! ## d[x] -/
def lookD (kvs : List (D × D)) (z : Str) : Option D := (kvs.find? fun kv => decide (kv.1 = .str z)).map (·.2)
def mDGet (fa fb : SE) : SE := fun τ h => (fa τ h).bind fun p => (fb τ p.2).bind fun q => match p.1, q.1 with
  | .val (.ref a), .val (.str z) => match q.2[a]? with
    | some (.dic kvs) => (lookD kvs z).bind fun d => some (.val d, q.2)
    | _ => none
  | _, _ => none
theorem rks_look {K : PySem.W.Frag} {m : List Addr} {H : Hp} {z : Str} {d : D} : ∀ {ks : List (Key × V)} {kvs : List (D × D)}, RKs K m H ks kvs → lookD kvs z = some d → ∃ v, valV ks (.inr z) = some v ∧ RV K m H v d
  | _, _, .nil, e => by cases e
  | _, _, .int (i := i) r t, e => by
    unfold lookD at e
    rw [List.find?_cons, show decide (((D.int i, _) : D × D).1 = D.str z) = false by simp] at e
    obtain ⟨v, h1, h2⟩ := rks_look t e
    exact ⟨v, by rw [valV_neg (by simp)]; exact h1, h2⟩
  | _, _, .str (x := x) r t, e => by
    unfold lookD at e
    by_cases hx : x = z
    · subst hx
      rw [List.find?_cons, show decide (((D.str x, _) : D × D).1 = D.str x) = true by simp] at e
      cases e
      exact ⟨_, valV_pos rfl, r⟩
    · rw [List.find?_cons, show decide (((D.str x, _) : D × D).1 = D.str z) = false by simp [hx]] at e
      obtain ⟨v, h1, h2⟩ := rks_look t e
      exact ⟨v, by rw [valV_neg (by simpa using hx)]; exact h1, h2⟩
theorem je_dget (hr : Room k X.A) (ha : JE X a fa) (hb : JE X b fb) (hs : NoSl b := by intro _ _; rfl) : JE X (.Subscript a b pos) (mDGet fa fb) := by
  refine pe_weak (pe_dget (by have := hr.un; omega) ha hb hs) fun σ H Q ⟨m, τ, h, d, h', R, S, e, q⟩ => ?_
  obtain ⟨⟨x, h1⟩, e1, e⟩ := bind_some' e
  obtain ⟨⟨y, h2⟩, e2, e⟩ := bind_some' e
  refine ⟨m, τ, h, x, h1, R, S, e1, fun m1 H1 v1 L1 S1 r1 _ => ?_⟩
  refine ⟨m1, τ, h1, y, h2, R.mono S.cl L1.toLw, S1, e2, fun m2 H2 v2 L2 S2 r2 _ => ?_⟩
  dsimp only at e
  split at e
  · rename_i p z
    split at e
    · rename_i kvs hh
      obtain ⟨dd, e3, e⟩ := bind_some' e
      cases e
      cases r1 with
      | val r1 =>
        cases r1 with
        | ref g1 =>
          cases r2 with
          | val r2 =>
            cases r2
            obtain ⟨ks, g2, g3⟩ := S2.ob _ _ _ (L2.get g1) hh
            obtain ⟨v, g4, g5⟩ := rks_look g3 e3
            refine ⟨_, v, rfl, ?_, q m2 H2 v (L1.trans L2) S2 (.val g5) (nwV _ _ _)⟩
            rw [← g4]
            exact DGet.k (k := .inr _) g2
    · cases e
  · cases e
end
/-! ## a, b, c = x, y, z -/
def mPar3 (i j l : Nat) (fa : SA) : SS := fun τ h => (fa τ h).bind fun p => (plain p.1).bind fun ds => match ds with
  | [d, e, f] => some (.nx (((τ.set i (some d)).set j (some e)).set l (some f)) p.2)
  | _ => none
theorem js_par3 {X : Cx} {i j l : Nat} {x y z : Str} {a b c : Expr} {fa : SA} {px py pz pt pos : Pos} {kt k2 pt2} (hN : X.N.Nodup) (hi : X.N[i]? = some x) (hj : X.N[j]? = some y) (hl : X.N[l]? = some z) (hij : i ≠ j) (hil : i ≠ l) (hjl : j ≠ l)
    (hx : X.env.scope.names.lookup x = some .local) (hy : X.env.scope.names.lookup y = some .local) (hz : X.env.scope.names.lookup z = some .local) (ha : JA X [a, b, c] fa)
    (hc : X.calm = true := by rfl) (hw : swappedStores [.Tuple [.Name x px, .Name y py, .Name z pz] kt pt] (.Tuple [a, b, c] k2 pt2) X.env = pure (some [x, y, z]) := by rfl)
    (hs : swapsWithSole [.Tuple [.Name x px, .Name y py, .Name z pz] kt pt] (.Tuple [a, b, c] k2 pt2) pos.line X.env = pure false := by rfl) :
    JS X (.Assign [.Tuple [.Name x px, .Name y py, .Name z pz] kt pt] (.Tuple [a, b, c] k2 pt2) pos) (mPar3 i j l fa) := by
  refine ps_weak (ps_par3 hc hN hi hj hl hij hil hjl hx hy hz ha hw hs) fun D σ H ⟨m, τ, h, r, R, S, e, q⟩ => ?_
  obtain ⟨⟨x, h1⟩, e1, e⟩ := bind_some' e
  obtain ⟨ds, e2, e⟩ := bind_some' e
  refine ⟨m, τ, h, x, h1, R, S, e1, fun m1 H1 vs L1 S1 r1 => ?_⟩
  have r2 := r1.plain e2
  split at e
  · cases e
    cases r2 with
    | cons ra rr => cases rr with
      | cons rb rr => cases rr with
        | cons rc rr =>
          cases rr
          exact ⟨_, _, _, rfl, q m1 H1 _ L1 S1 ((((R.mono S.cl L1.toLw).set ra i).set rb j).set rc l)⟩
  · cases e
end Sm
namespace Sm
open PySem PySem.Spec PyProof.Rows L2
/-! ## dicts with nested keys -/
section
variable {X : Cx} {pins : List (Addr × Obj)} {σ : L2.St} {H : Hp} {s : Shared} {m : List Addr}
mutual
theorem key_is (I : Inv X pins σ H s) : ∀ {v : V} {d : D} {k : NestedKey} {u : Value}, RV X.K m H v d → kD d = some k → RelV v u → NestedIs s.heap k u
  | _, _, _, _, .non, e, r => by cases e; cases r; exact .none
  | _, _, _, _, .bl b, e, r => by cases e; cases r; exact .bool rfl
  | _, _, _, _, .int i, e, r => by cases e; obtain ⟨t, rfl⟩ := r; exact .int _ _
  | _, _, _, _, .str x, e, r => by cases e; obtain ⟨t, rfl⟩ := r; exact .text _ _
  | _, _, _, _, .tup (vs := vs) (ds := ds) f rs, e, r => by
    unfold kD at e
    obtain ⟨ks, e1, e⟩ := bind_some' e
    cases e
    cases (show _ = Value.ref _ from r)
    rcases f with ⟨o, h1, h2, h3⟩ | ⟨o, its, n, h1, h2, h3, h4, h5, h6⟩
    · obtain ⟨g, _, its, rv, o', g', hc, n, hd⟩ := I.hok _ _ h1
      rw [g] at g'
      cases g'
      exact .tup g h2 hd (by simpa using keys_is I rs e1 rv)
    · exact .tup (I.kIn _ _ h1) h2 h4 (keys_is I rs e1 h6)
  | _, _, _, _, .zt f rs, e, r => by cases e
  | _, _, _, _, .fl f rs, e, r => by cases e
  | _, _, _, _, .ref _, e, r => by cases e
  | _, _, _, _, .ty _, e, r => by cases e
theorem keys_is (I : Inv X pins σ H s) : ∀ {vs : List V} {ds : List D} {ks : List NestedKey} {us : List Value}, RVs X.K m H vs ds → kDs ds = some ks → Vals vs us → NestedAll s.heap ks us
  | _, _, _, _, .nil, e, .nil => by cases e; exact .nil
  | _, _, _, _, .cons r rs, e, .cons a b => by
    unfold kDs at e
    obtain ⟨k, e1, e⟩ := bind_some' e
    obtain ⟨t, e2, e⟩ := bind_some' e
    cases e
    exact .cons (key_is I r e1 a) (keys_is I rs e2 b)
end
/-- the dict that stands at p -/
theorem nd_of (I : Inv X pins σ H s) {p : Addr} {o : Obj} {xs : List (NestedKey × Addr × Value)} {kvs : List (D × D)} (e : H p = some (ndH p o)) (N : NdObj X.w o xs) (R : RNs X.K m H xs kvs) : s.heap.DictOfH (nestedKind X.prog X.w) p xs := by
  obtain ⟨c, es, ep, hd, he, hn⟩ := N
  have g : s.heap.get? p = some o := (show (s.heap.get? p = some o) ∧ _ from I.hok _ _ e).1
  refine ⟨o, es, ep, g, c, hd, he, fun x hx => ?_, hn⟩
  clear he hn
  induction R with
  | nil => cases hx
  | cons e1 e2 r1 rl r2 t ih =>
    rcases List.mem_cons.mp hx with rfl | hx
    · exact ⟨key_is I r1 e1 rfl, e2⟩
    · exact ih hx
/-- a key's value, by what the keys stand for -/
def getN (kvs : List (D × D)) (k : D) : Option D := (kvs.find? fun p => decide (kD p.1 = kD k)).map (·.2)
def hasN (kvs : List (D × D)) (k : D) : Bool := kvs.any fun p => decide (kD p.1 = kD k)
def putN (kvs : List (D × D)) (k d : D) : List (D × D) := if hasN kvs k = true then kvs.map fun p => if kD p.1 = kD k then (p.1, d) else p else kvs ++ [(k, d)]
theorem RNs.has {xs : List (NestedKey × Addr × Value)} {kvs : List (D × D)} (R : RNs X.K m H xs kvs) {kd : D} {k : NestedKey} (e : kD kd = some k) : (atKey xs k).isSome = hasN kvs kd := by
  induction R with
  | nil => rfl
  | @cons x xs kd' d v kvs e1 e2 r1 rl r2 t ih =>
    have ed : decide (kD kd' = kD kd) = decide (x.1 = k) := by rw [e1, e]; simp
    have h1 : hasN ((kd', d) :: kvs) kd = (decide (x.1 = k) || hasN kvs kd) := by
      show (decide (kD kd' = kD kd) || hasN kvs kd) = _
      rw [ed]
    rw [h1, ← ih]
    unfold atKey
    rw [List.find?_cons]
    cases decide (x.1 = k) <;> rfl
theorem RNs.get {xs : List (NestedKey × Addr × Value)} {kvs : List (D × D)} (R : RNs X.K m H xs kvs) {kd d : D} {k : NestedKey} (e : kD kd = some k) (hg : getN kvs kd = some d) : ∃ a u v, atKey xs k = some (a, u) ∧ RelV v u ∧ RV X.K m H v d := by
  induction R with
  | nil => cases hg
  | @cons x xs kd' d' v kvs e1 e2 r1 rl r2 t ih =>
    have ed : decide (kD kd' = kD kd) = decide (x.1 = k) := by rw [e1, e]; simp
    unfold getN at hg
    rw [List.find?_cons] at hg
    dsimp only at hg
    rw [ed] at hg
    unfold atKey
    rw [List.find?_cons]
    by_cases c : x.1 = k
    · rw [decide_eq_true c] at hg ⊢
      have hg : d' = d := Option.some.inj hg
      exact ⟨x.2.1, x.2.2, v, rfl, rl, hg ▸ r2⟩
    · rw [decide_eq_false c] at hg ⊢
      exact ih hg
theorem RNs.app {xs ys : List (NestedKey × Addr × Value)} {kvs lvs : List (D × D)} (R : RNs X.K m H xs kvs) (S : RNs X.K m H ys lvs) : RNs X.K m H (xs ++ ys) (kvs ++ lvs) := by
  induction R with
  | nil => exact S
  | cons e1 e2 r1 rl r2 t ih => exact .cons e1 e2 r1 rl r2 ih
theorem RNs.put {xs : List (NestedKey × Addr × Value)} {kvs : List (D × D)} (R : RNs X.K m H xs kvs) {kd d : D} {k : NestedKey} {b : Addr} {v : V} {u : Value} (e : kD kd = some k) (hdp : k.depth ≤ 8) (rk : RV X.K m H (.ref b) kd) (rl : RelV v u) (rv : RV X.K m H v d) : RNs X.K m H (storedH xs k b u) (putN kvs kd d) := by
  have hh := R.has e
  unfold storedH putN
  rw [hh]
  by_cases c : hasN kvs kd = true
  · rw [if_pos c, if_pos c]
    clear hh c
    induction R with
    | nil => exact .nil
    | @cons x xs kd' d' v' kvs e1 e2 r1 rl' r2 t ih =>
      rw [List.map_cons, List.map_cons]
      unfold putAt
      by_cases c : x.1 = k
      · rw [if_pos c, if_pos (by rw [e1, e, c])]
        exact .cons e1 e2 r1 rl rv ih
      · rw [if_neg c, if_neg (by rw [e1, e]; exact fun z => c (Option.some.inj z))]
        exact .cons e1 e2 r1 rl' r2 ih
  · rw [if_neg c, if_neg c]
    exact R.app (.cons e hdp rk rl rv .nil)
theorem storedH_len {xs : List (NestedKey × Addr × Value)} {k : NestedKey} {b : Addr} {u : Value} : (storedH xs k b u).length ≤ xs.length + 1 := by
  unfold storedH
  split
  · rw [List.length_map]; omega
  · rw [List.length_append]; exact Nat.le_refl _
/-- d[k] = v -/
def rSetN (w : World) (K : PySem.W.Frag) : TSet := fun o i v H Q => ∃ (p b : Addr) (ob : Obj) (xs : List (NestedKey × Addr × Value)) (k : NestedKey) (m : List Addr) (kd : D) (kvs : List (D × D)),
  o = .ref p ∧ i = .ref b ∧ H p = some (ndH p ob) ∧ NdObj w ob xs ∧ xs.length < sizeLine ∧ RNs K m H xs kvs ∧ RV K m H (.ref b) kd ∧ kD kd = some k ∧ k.depth ≤ 8 ∧
    ∀ ob2 u, RelV v u → NdObj w ob2 (storedH xs k b u) → Q (upd H p (ndH p ob2))
theorem ndH_ok {P : Program} {w : World} {H : Hp} {h : Heap} {p : Addr} {o : Obj} (e : h.get? p = some o) : ObjOk P w H h p (ndH p o) := ⟨e, ⟨_, e⟩, fun h1 h2 q k => k _ q⟩
theorem set_nd (hu : X.A.units + 64 < cLine) : PSet X (rSetN X.w X.K) := by
  intro pins s σ H o i v ov iv u Q I ro ri rv h
  obtain ⟨p, b, ob, xs, k, m, kd, kvs, rfl, rfl, e, N, hz, R, rk, ek, hdp, q⟩ := h
  cases (show ov = Value.ref p from ro)
  cases (show iv = Value.ref b from ri)
  refine wpAny_setItem_heap (knd := nestedKind X.prog X.w) (k := k) (hsz := by omega) (by show X.A.units + 1 + 8 < cLine; omega) ⟨key_is I rk ek rfl, hdp⟩ (nd_of I e N R) fun h' dd hs => ?_
  obtain ⟨o2, es, ep, hq, hex, hdat, hes, _, hnd⟩ := dd
  exact ⟨_, I.write (x := p) (e := p) (by rw [e]; exact True.intro) (.inl rfl) (fun c z hc y => (hs.2 c hc).trans y) ⟨_, hq⟩ (ndH_ok hq), q o2 u rv ⟨hex, es, ep, hdat, hes, hnd⟩⟩
end
/-! d[k] = v, as a target -/
def setN : LV → LV → D → AH → Option AH
  | .val (.ref a), .val kd, d, h => match h[a]? with
    | some (.ndc kvs) => (kD kd).bind fun k => match kd with
      | .tup _ => if k.depth ≤ 8 ∧ kvs.length < 16777216 then some (h.set a (.ndc (putN kvs kd d))) else none
      | _ => none
    | _ => none
  | _, _, _, _ => none
theorem sizeLine_16 : sizeLine = 16777216 := by first | exact sizeLine_eq | rfl | decide
theorem RNs.len {K : PySem.W.Frag} {m : List Addr} {H : Hp} {xs : List (NestedKey × Addr × Value)} {kvs : List (D × D)} (R : RNs K m H xs kvs) : xs.length = kvs.length := by
  induction R with
  | nil => rfl
  | cons _ _ _ _ _ _ ih => rw [List.length_cons, List.length_cons, ih]
def gSN (fo fi : SE) : SG := fun d τ h => (fo τ h).bind fun p => (fi τ p.2).bind fun q => (setN p.1 q.1 d q.2).bind fun h' => some (τ, h')
section
variable {X : Cx} {o : Expr} {fo : SE} {pos : Pos} {vs : List Nat}
theorem jg_subN {i : Expr} {fi : SE} (hu : X.A.units + 64 < cLine) (ho : JE X o fo) (hi : JE X i fi) (ha : ∀ v, assign (.Subscript o i pos) X.env v = (do
      let ov ← holding [v] (eval o X.env)
      let iv ← holding [v, ov] (eval i X.env)
      standAt pos
      holding [v, ov, iv] (setItem ov iv v)
      release [v, ov, iv] []) := by intro _; rfl) : JG X vs (.Subscript o i pos) (gSN fo fi) := by
  refine pg_weak (pg_sub ho hi (set_nd hu) ha) fun v σ H Q ⟨m, d, τ, h, τ', h', r, R, S, e, q⟩ => ?_
  obtain ⟨⟨x, h1⟩, e1, e⟩ := bind_some' e
  obtain ⟨⟨y, h2⟩, e2, e⟩ := bind_some' e
  obtain ⟨h3, e3, e⟩ := bind_some' e
  cases e
  refine ⟨m, τ, h, x, h1, R, S, e1, fun m1 H1 v1 L1 S1 r1 _ => ⟨m1, τ, h1, y, h2, R.mono S.cl L1.toLw, S1, e2, fun m2 H2 v2 L2 S2 r2 _ => ?_⟩⟩
  have r1' := r1.mono S1.cl L2
  have rv := (r.mono S.cl L1.toLw).mono S1.cl L2.toLw
  dsimp only at e3
  unfold setN at e3
  split at e3
  · split at e3
    · rename_i kvs hx
      obtain ⟨k, ek, e3⟩ := bind_some' e3
      split at e3
      · obtain ⟨⟨c1, c2⟩, e3⟩ := ite_some' e3
        cases e3
        cases r1' with
        | val r1' =>
          cases r1' with
          | ref ea =>
            cases r2 with
            | val r2 =>
              obtain ⟨ob, xs, eH, N, hsys, hz, RN⟩ := S2.ob _ _ _ ea hx
              cases r2 with
              | tup f rs =>
                refine ⟨_, _, ob, xs, k, m2, _, kvs, rfl, rfl, eH, N, by rw [RN.len, sizeLine_16]; exact c2, RN, .tup f rs, ek, c1, fun ob2 u ru N2 => ?_⟩
                refine q m2 _ σ (L1.trans (L2.trans (Le.put S2 ea _))) (S2.put ea ⟨ob2, _, upd_same, N2, hsys, ?_, (RN.put ek c1 (.tup f rs) ru rv).mono S2.cl (Le.put S2 ea _).toLw⟩) (((R.mono S.cl L1.toLw).mono S1.cl L2.toLw).mono S2.cl (Le.put S2 ea _).toLw) rfl
                refine Nat.le_trans storedH_len ?_
                rw [RN.len, sizeLine_16]
                exact c2
      · cases e3
    · cases e3
  · cases e3
/-- {} -/
def mNewN : SE := fun _ h => some (.val (.ref h.length), h ++ [.ndc []])
def tNewN (w : World) : TE := fun _ H Q => ∀ p o, H p = none → (p == sysModules) = false → NdObj w o [] → Q (.ref p) (upd H p (ndH p o))
theorem pe_newN : PE X (.Dict [] [] pos) (tNewN X.w) := ⟨fun pins s σ H Q I h =>
  wpAny_Dict_empty ⟨.ref s.heap.objs.size, _, I.laid (a := s.heap.objs.size) (o := ndH s.heap.objs.size { cls := .type "dict", data := .dict #[] }) (t' := s.toks) (fun _ _ q => Heap.get?_push_of_some _ q) (Nat.le_refl _) (ndH_ok (Heap.get?_push_size _ rfl)), rfl,
    h _ _ (I.hok.fresh (Nat.le_refl _)) (beq_eq_false_iff_ne.mpr (Ne.symm (Nat.ne_of_lt I.big))) ⟨⟨rfl, rfl, rfl⟩, #[], 0, rfl, rfl, List.nodup_nil⟩⟩⟩
theorem je_newN : JE X (.Dict [] [] pos) mNewN := by
  refine pe_weak pe_newN fun σ H Q ⟨m, τ, h, q, h', R, S, e, k⟩ => ?_
  cases e
  intro p o hp hs N
  exact k _ _ (.ref p) (Le.lay S hp _) (S.lay hp ⟨o, [], upd_same, N, hs, Nat.zero_le _, .nil⟩) (.val (RV.new S)) (nwV _ _ _)
end
end Sm
namespace Sm
open PySem PySem.Spec PyProof.Rows L2
section
open PySem.W PyProof.Rows
variable {prog : Program} {w : World} {A : Around} {E : Value → Shared → Prop} {s : Shared}
theorem items_eq {es : Array DictEntry} {acc : Array Value} (h : ItemsOf (fun i v => ∃ hi : i < es.size, v = es[i].key) acc es.size) : acc.toList = es.toList.map (·.key) := by
  obtain ⟨hs, hi⟩ := h
  refine List.ext_getElem? fun i => ?_
  rw [Array.getElem?_toList, List.getElem?_map, Array.getElem?_toList]
  by_cases c : i < es.size
  · have c2 : i < acc.size := by omega
    obtain ⟨_, e⟩ := hi i acc[i] (Array.getElem?_eq_getElem c2)
    rw [Array.getElem?_eq_getElem c2, Array.getElem?_eq_getElem c, e]
    rfl
  · rw [Array.getElem?_eq_none (by omega), Array.getElem?_eq_none (by omega)]
    rfl
theorem collect_raw {d : Addr} {es : Array DictEntry} {ep : Nat} {Q : List Value → Shared → Prop} (hh : A.handled = none) (lo : (d == sysModules) = false) (hm : s.heap.DictRaw d es ep) (hz : es.size ≤ sizeLine)
    (h : ∀ h' tk, s.heap.objs.size ≤ h'.objs.size → (∀ b o, s.heap.get? b = some o → h'.get? b = some o) → Q (es.toList.map (·.key)) { s with heap := h', toks := tk }) : wpAny (model prog w) A (collect (.ref d)) Q E s := by
  have hlt : d < s.heap.objs.size := hm.lt_size
  unfold collect
  refine wpAny_bind (wpAny_runValue (codeAny_builtin entry_proto_collect' ?_))
  show wpAny _ _ (do again (.builtin "list.__iadd__" ⟨[← newList [], .ref d], []⟩)) _ _ s
  refine wpAny_bind (wpAny_newList (wpAny_pure ⟨Code.quiet_builtin _ (by decide +kernel), codeAny_builtin entry_list_iadd' ?_⟩))
  show wpAny _ _ (Builtin.List.listExtendWith (.ref s.heap.objs.size) (.ref d) (.ref s.heap.objs.size)) _ _ { s with heap := s.heap.push (seqObj "list" #[] 0) }
  rw [Around.under_plainId (by decide +kernel) _]
  have go : ∀ (h' : Heap) (tk : Nat) (acc' : Array Value) (c' : Nat), (∀ b o, b ≠ s.heap.objs.size → (s.heap.push (seqObj "list" #[] 0)).get? b = some o → h'.get? b = some o) →
      h'.get? s.heap.objs.size = some { cls := .type "list", dict := none, data := .seq acc' c', slots := #[] } → ItemsOf (fun i v => ∃ hi : i < es.size, v = es[i].key) acc' es.size →
      wpAny (model prog w) A (do
        let o ← load s.heap.objs.size
        match o.data with
        | .seq xs _ => pure xs.toList
        | _ => unsupported "internal:collect") Q E { s with heap := h', toks := tk } := fun h' tk acc' c' hk hS hi => by
    have ek := items_eq hi
    refine wpAny_bind (wpAny_load hS ?_)
    show wpAny _ _ (pure acc'.toList) Q E _
    rw [ek]
    exact wpAny_pure (h h' tk (Nat.le_of_lt (Heap.lt_size hS)) fun b o e => hk b o (Nat.ne_of_lt (Heap.lt_size e)) (Heap.get?_push_of_some _ e))
  refine wpAny_mono (kdl_extend (R := fun r s' => ∃ (h' : Heap) (tk : Nat) (acc' : Array Value) (c' : Nat), r = .ok (.ret (.ref s.heap.objs.size)) ∧ s' = { s with heap := h', toks := tk } ∧ (∀ b o, b ≠ s.heap.objs.size → (s.heap.push (seqObj "list" #[] 0)).get? b = some o → h'.get? b = some o) ∧
      h'.get? s.heap.objs.size = some { cls := .type "list", dict := none, data := .seq acc' c', slots := #[] } ∧ ItemsOf (fun i v => ∃ hi : i < es.size, v = es[i].key) acc' es.size)
    (s := { s with heap := s.heap.push (seqObj "list" #[] 0) }) (A := A) (PySem.KdlSrc.rawDict (es := es) (ep := ep) lo) hh (hm.push _) s.heap.objs.size (Nat.ne_of_gt hlt) (Nat.ne_of_gt hlt) (.ref s.heap.objs.size) 0 (Heap.get?_push_size _ rfl) (fun h' tk acc' c' hk hS hi => ⟨h', tk, acc', c', rfl, rfl, hk, hS, hi⟩) hz) (fun fin s' q => ?_) (fun e s' q => ?_)
  · cases fin with
    | done f =>
      obtain ⟨h', tk, acc', c', e, rfl, hk, hS, hi⟩ := q
      cases e
      exact go h' tk acc' c' hk hS hi
    | again c2 =>
      obtain ⟨q1, q2⟩ := q
      refine ⟨q1, codeAny_mono q2 fun r s2 q => ?_⟩
      obtain ⟨h', tk, acc', c', rfl, rfl, hk, hS, hi⟩ := q
      exact go h' tk acc' c' hk hS hi
  · obtain ⟨h', tk, acc', c', e, _⟩ := q
    cases e
theorem sorted_raw {d : Addr} {es : Array DictEntry} {ep : Nat} {ltv : Value → Value → Bool} {Q : Value → Shared → Prop} (hh : A.handled = none) (lo : (d == sysModules) = false) (hm : s.heap.DictRaw d es ep) (O : SrtO.Swo ltv) (hz : es.size ≤ sizeLine)
    (hS : 2 ≤ (es.toList.map (·.key)).length → ∀ (h₁ : Heap) (a : Addr) (tk : Nat), (∀ b o, s.heap.get? b = some o → b ≠ a ∧ h₁.get? b = some o) → SrtO.SortableO prog w A.in1.in1 { s with heap := h₁, toks := tk } a (es.toList.map (·.key)) ltv)
    (h : ∀ (out : List Value) (h' : Heap) (a tk n : Nat), SrtO.Srtd ltv out → SrtO.Stb ltv out (es.toList.map (·.key)) → (∀ b o, s.heap.get? b = some o → h'.get? b = some o) → s.heap.objs.size ≤ a → h'.get? a = some (seqObj "list" out.toArray n) → Q (.ref a) { s with heap := h', toks := tk }) :
    wpAny (model prog w) A (call (.builtin "sorted") [.ref d]) Q E s := by
  have hlen : (es.toList.map (·.key)).length ≤ sizeLine := by rw [List.length_map, Array.length_toList]; exact hz
  refine Calls.call_function_entry kind_sorted plain_sorted entry_sorted (args_sorted1 _) ?_
  unfold Builtin.«sorted»
  refine wpAny_bind (m := checkCount "sorted" 1 1 _) (wpAny_pure ?_)
  refine wpAny_bind (collect_raw hh lo hm hz fun h1 tk k0 k1 => ?_)
  generalize hvs : es.toList.map (·.key) = vs at *
  refine wpAny_bind (wpAny_newList ?_ hlen)
  have hoL : (h1.push (seqObj "list" vs.toArray 0)).get? h1.objs.size = some (seqObj "list" vs.toArray 0) := Heap.get?_push_size _ rfl
  have keep : ∀ b o, s.heap.get? b = some o → b ≠ h1.objs.size ∧ (h1.push (seqObj "list" vs.toArray 0)).get? b = some o := fun b o q =>
    ⟨Nat.ne_of_lt (Heap.lt_size (k1 b o q)), Heap.get?_push_of_some _ (k1 b o q)⟩
  show wpAny _ _ _ _ _ { s with heap := h1.push (seqObj "list" vs.toArray 0), toks := tk }
  refine wpAny_bind (wpAny_holding (wpAny_call_entry slot_list_sort ⟨_, hoL, rfl⟩ entry_list_sort (SrtO.list_sort_ord O hoL hlen (fun h2 => hS h2 _ _ tk keep) fun out hs hb => ⟨_, rfl, ?_⟩) (args_list_sort _)))
  obtain ⟨n, hat⟩ := sortedHeap_at (vs := vs) (out := out.toArray) hoL
  refine wpAny_pure ⟨_, rfl, h out _ _ tk n hs hb (fun b o e => ?_) ?_ hat⟩
  · have := keep b o e
    exact (sortedHeap_old this.1 (Heap.lt_size this.2)).trans this.2
  · exact k0
end
end Sm
namespace Sm
open PySem PySem.Spec PyProof.Rows L2
/-! ## sorted(d), d a dict whose keys are rows -/
def rSortN (w : World) (K : PySem.W.Frag) : List V → Hp → VK → Prop := fun vs H Q => ∃ (p : Addr) (ob : Obj) (xs : List (NestedKey × Addr × Value)) (kvs : List (D × D)) (m : List Addr) (shape : Nat → Bool), vs = [V.ref p] ∧ H p = some (ndH p ob) ∧ NdObj w ob xs ∧ (p == sysModules) = false ∧ xs.length ≤ sizeLine ∧
  RNs K m H xs kvs ∧ (∀ x ∈ xs, ∃ k, RowIs K H shape (.ref x.2.1) k) ∧
  ∀ (out : List V) (q : Addr), out.Perm (xs.map fun x => V.ref x.2.1) → out.Pairwise (fun x y => ∀ kx ky, RowIs K H shape x kx → RowIs K H shape y ky → lexLt itemOrd ky kx = false) → H q = none → Q (.ref q) (upd H q (.lst out))
section
variable {X : Cx}
theorem vals_refs : ∀ as : List Addr, Vals (as.map V.ref) (as.map Value.ref)
  | [] => .nil
  | a :: r => .cons rfl (vals_refs r)
theorem cr_sortedN (hh : X.A.handled = none) : CallR X (.builtin "sorted") (rSortN X.w X.K) := by
  intro pins s σ H vs us Q I r h
  obtain ⟨p, ob, xs, kvs, m, shape, rfl, e, N, hsys, hz, R, hk, q⟩ := h
  rw [Vals.ref1 r]
  obtain ⟨c, es, ep, hd, he, hn⟩ := N
  have g : s.heap.get? p = some ob := (show (s.heap.get? p = some ob) ∧ _ from I.hok _ _ e).1
  have hraw : s.heap.DictRaw p es ep := ⟨ob, g, c, hd⟩
  have hkeys : es.toList.map (·.key) = xs.map fun x => Value.ref x.2.1 := by rw [he, List.map_map]; rfl
  have hsz : es.size = xs.length := by rw [← Array.length_toList, he, List.length_map]
  have hT : ∀ v ∈ (xs.map fun x => Value.ref x.2.1), ∃ k, TupK s.heap shape v k := fun v hv => by
    obtain ⟨x, hx, rfl⟩ := List.mem_map.mp hv
    obtain ⟨k, w⟩ := hk x hx
    exact ⟨k, row_key I w rfl⟩
  refine sorted_raw hh hsys hraw (swo_ltK s.heap shape) (by rw [hsz]; exact hz) (fun h2 h₁ a tk hkp => ?_) fun out h' a tk n h1 h2 hold hfr hat => ?_
  · rw [hkeys] at h2 ⊢
    exact rows_sortable (s := { s with toks := tk }) h2 hT hkp
  · rw [hkeys] at h2
    have hp := h2.perm
    obtain ⟨as, rfl⟩ : ∃ as : List Addr, out = as.map Value.ref := by
      have : ∀ l : List Value, (∀ v ∈ l, v ∈ xs.map fun x => Value.ref x.2.1) → ∃ as : List Addr, l = as.map Value.ref := fun l => by
        induction l with
        | nil => intro _; exact ⟨[], rfl⟩
        | cons v l ih =>
          intro hm
          obtain ⟨x, _, ex⟩ := List.mem_map.mp (hm v List.mem_cons_self)
          obtain ⟨as, e2⟩ := ih fun u hu => hm u (List.mem_cons_of_mem _ hu)
          exact ⟨x.2.1 :: as, by rw [List.map_cons, ← e2, ← ex]⟩
      exact this out fun v hv => hp.mem_iff.mp hv
    have hpa : as.Perm (xs.map fun x => x.2.1) := by
      have := hp.map backV
      rw [List.map_map, List.map_map] at this
      have e1 : (backV ∘ Value.ref) = V.ref := rfl
      have e2 : (backV ∘ fun x : NestedKey × Addr × Value => Value.ref x.2.1) = fun x => V.ref x.2.1 := rfl
      rw [e1, e2] at this
      have := this.map (fun v : V => match v with | .ref a => a | _ => 0)
      rw [List.map_map, List.map_map] at this
      have e3 : ((fun v : V => match v with | .ref a => a | _ => 0) ∘ V.ref) = id := rfl
      have e4 : ((fun v : V => match v with | .ref a => a | _ => 0) ∘ fun x : NestedKey × Addr × Value => V.ref x.2.1) = fun x => x.2.1 := rfl
      rw [e3, e4, List.map_id] at this
      exact this
    have hpv : (as.map V.ref).Perm (xs.map fun x => V.ref x.2.1) := by
      have := hpa.map V.ref
      rwa [List.map_map] at this
    have hlen : (as.map V.ref).length ≤ sizeLine := by rw [hpv.length_eq, List.length_map]; exact hz
    refine ⟨.ref _, upd H a (.lst (as.map V.ref)), I.laid (t' := tk) hold hfr ⟨hlen, as.map Value.ref, n, vals_refs as, hat⟩, rfl, q _ _ hpv ?_ (I.hok.fresh hfr)⟩
    have h1 := List.pairwise_map.mp h1
    refine List.pairwise_map.mpr (h1.imp fun {x y} hlt kx ky rx ry => ?_)
    have kx' := (row_key I rx (u := .ref x) rfl).key
    have ky' := (row_key I ry (u := .ref y) rfl).key
    have hlt : ltK s.heap shape (.ref y) (.ref x) = false := hlt
    unfold ltK at hlt
    rw [kx', ky'] at hlt
    exact hlt
end
def oSortN : OpN
  | [.val (.ref a)], h => match h[a]? with
    | some (.ndc kvs) => match kvs.map (·.1) with
      | [] => some (.new [], h)
      | d :: r => (rowKd d).bind fun ks => if rowsOk ks (d :: r) = true then some (.new (sortR (d :: r)), h) else none
    | _ => none
  | _, _ => none
theorem RNs.keys {K : PySem.W.Frag} {m : List Addr} {H : Hp} {xs : List (NestedKey × Addr × Value)} {kvs : List (D × D)} (R : RNs K m H xs kvs) : RVs K m H (xs.map fun x => V.ref x.2.1) (kvs.map (·.1)) := by
  induction R with
  | nil => exact .nil
  | cons _ _ r1 _ _ _ ih => exact .cons r1 ih
theorem sim_sortN {w : World} {K : PySem.W.Frag} : SimN w K (rSortN w K) oSortN := by
  intro m h H xs dxs d h' Q S r e q
  unfold oSortN at e
  split at e
  · rename_i a
    split at e
    · rename_i kvs hx
      obtain ⟨v, rfl, r1⟩ := inv1 r
      cases r1 with
      | val r1 =>
        cases r1 with
        | ref ea =>
          obtain ⟨ob, es, eH, N, hsys, hz, R⟩ := S.ob _ _ _ ea hx
          have rv := R.keys
          have hl := R.len
          split at e
          · rename_i e0
            cases e
            rw [e0] at rv
            have hl0 := rv.length
            have es0 : es = [] := by
              rw [List.length_map, List.length_nil] at hl0
              exact List.eq_nil_of_length_eq_zero hl0
            subst es0
            refine ⟨_, ob, [], kvs, m, fun _ => false, rfl, eH, N, hsys, hz, R, fun x hx => (by cases hx), fun out p hp _ hn => ?_⟩
            cases List.perm_nil.mp hp
            exact q m _ _ (Le.upd S.cl hn _) (S.upd hn _) (RQ.newN S hn .nil (Nat.zero_le _)) hn
          · rename_i d0 r0 e0
            obtain ⟨ks, e2, e⟩ := bind_some' e
            obtain ⟨c, e⟩ := ite_some' e
            cases e
            rw [e0] at rv
            unfold rowsOk at c
            rw [Bool.and_eq_true, Bool.and_eq_true] at c
            obtain ⟨⟨c1, c3⟩, c2⟩ := c
            have hne : ks ≠ [] := fun z => by rw [z] at c1; cases c1
            have hk : ∀ x ∈ _ :: _, rowKd x = some ks := fun x hx => of_decide_eq_true (List.all_eq_true.mp c2 x hx)
            refine ⟨_, ob, es, kvs, m, shapeF ks, rfl, eH, N, hsys, hz, R, fun x hx => ?_, fun out p hp hs hn => ?_⟩
            · obtain ⟨dd, hd, rd⟩ := rv.memP (List.mem_map_of_mem (f := fun x : NestedKey × Addr × Value => V.ref x.2.1) hx)
              exact ⟨_, row_is hne rd (hk dd hd)⟩
            · obtain ⟨ds', p1, r2⟩ := rv.perm hp
              have hk' : ∀ x ∈ ds', rowKd x = some ks := fun x hx => hk x (p1.mem_iff.mp hx)
              have := sorted_uniq (p1.trans (sortR_perm _).symm) (pair_rows hne r2 hk' hs) (sortR_sorted _) hk'
              subst this
              exact q m _ _ (Le.upd S.cl hn _) (S.upd hn _) (RQ.newN S hn r2 (by rw [(sortR_perm _).length_eq]; exact of_decide_eq_true c3)) hn
    · cases e
  · cases e
section
variable {X : Cx} {a : Expr} {es : List Expr} {fr : SA} {p pos : Pos} {k : Nat}
theorem je_sortN (hr : Room k X.A) (hg : Gl X "sorted") (hm : X.mg "sorted" = none) (ha : JA X (a :: es) fr) (he : starEach (a :: es) X.env = (false, eval a X.env) :: starEach es X.env := by rfl) (hpl : (backTo pos (starEach es X.env)).any (·.1) = false := by rfl) : JE X (.Call (.Name "sorted" p) (a :: es) [] pos) (mFn oSortN fr) :=
  je_fnB (cr_sortedN hr.hd) sim_sortN hg hm PyProof.Rows.boot_sorted ha (by decide) (by decide) he hpl
end
end Sm
namespace Sm
open PySem PySem.Spec PyProof.Rows L2
/-! ## min of a tuple of ints -/
section
variable {prog : Program} {w : World} {A : Around} {E : Value → Shared → Prop} {s : Shared} {l : Addr}
theorem minT_items {xs : Array (Int × Tok)} {Q : Value → Shared → Prop} (hh : A.handled = none) (hl : s.heap.IsTuple l (intItems xs)) (hne : 0 < xs.size)
    (h : ∀ v h' tk, (intItems xs)[argBest (fun i j => decide (numAt xs i < numAt xs j)) (xs.size - 1)]? = some v → (∀ b o, s.heap.get? b = some o → h'.get? b = some o) → Q v { s with heap := h', toks := tk }) :
    wpAny (model prog w) A (call (.builtin "min") [.ref l]) Q E s := by
  have hlt : l < s.heap.objs.size := by obtain ⟨_, e, _⟩ := hl; exact Heap.lt_size e
  refine call_min_walk (wpAny_pyIter_tuple hl ?_)
  refine ⟨_, _, _, _, _, _, _, rfl, Walks.tuple (A := A.in1) hh _ l (Nat.ne_of_lt hlt) (intItems xs), ⟨⟨_, Heap.get?_push_size _ rfl, rfl, rfl⟩, hl.push _⟩, fun b hb => ?_, by simpa [intItems] using hne, CmpOf.ints_lt (numAt xs) (fun _ _ => intItems_at), fun v h' tk hP hk => ?_⟩
  · show b < (s.heap.push _).objs.size
    rw [Heap.size_push]
    rcases List.mem_cons.mp hb with rfl | hb
    · exact Nat.lt_succ_self _
    · rcases List.mem_cons.mp hb with rfl | hb
      · exact Nat.lt_succ_of_lt hlt
      · cases hb
  · refine h v h' tk (by simpa [intItems] using hP) fun b o e => hk b o (fun hm => ?_) (Heap.get?_push_of_some _ e)
    rcases List.mem_cons.mp hm with e1 | hm
    · exact absurd (e1 ▸ Heap.lt_size e) (Nat.lt_irrefl _)
    · cases hm
theorem minT_raw {its : List Value} {ns : List Int} {Q : Value → Shared → Prop} (hh : A.handled = none) (hl : s.heap.IsTuple l its.toArray) (hi : IntsAre its ns) (hne : 0 < ns.length)
    (h : ∀ h' tk M t', (∀ b o, s.heap.get? b = some o → h'.get? b = some o) → M ∈ ns → (∀ a, a ∈ ns → M ≤ a) → Q (.int M t') { s with heap := h', toks := tk }) : wpAny (model prog w) A (call (.builtin "min") [.ref l]) Q E s := by
  obtain ⟨xs, e⟩ := hi.allInts.items
  have hn : numsOf (intItems xs).toList = ns := by rw [← e]; exact hi.numsOf
  rw [nums_intItems] at hn
  subst hn
  rw [e] at hl
  have hsz : 0 < xs.size := by simpa using hne
  refine minT_items hh hl hsz fun v h' tk hv hk => ?_
  obtain ⟨t, rfl⟩ := intItems_at hv
  obtain ⟨h1, h2⟩ := argBest_lt (numAt xs) (xs.size - 1)
  refine h h' tk _ t hk ?_ fun a ha => ?_
  · rw [numAt_eq]; exact PySem.getD_mem (by rw [List.length_map, Array.length_toList]; omega)
  · obtain ⟨j, hj, rfl⟩ := mem_getD ha
    rw [List.length_map, Array.length_toList] at hj
    rw [← numAt_eq]; exact h2 j (by omega)
end
section
variable {X : Cx} {a : Expr} {es : List Expr} {fr : SA} {p pos : Pos}
def rMinT (K : PySem.W.Frag) : List V → Hp → VK → Prop := fun vs H Q => ∃ (a : Addr) (ns : List Int), vs = [V.ref a] ∧ SqT K H a (ns.map V.int) ∧ 0 < ns.length ∧ ∀ m, m ∈ ns → (∀ y, y ∈ ns → m ≤ y) → Q (.int m) H
theorem cr_minT (hc : X.calm = true) : CallR X (.builtin "min") (rMinT X.K) := by
  intro pins s σ H vs us Q I r h
  obtain ⟨a, ns, rfl, hs, hne, q⟩ := h
  obtain ⟨its, rv, hl, _⟩ := I.tuple hs
  rw [Vals.ref1 r]
  exact minT_raw (I.ok.hd hc) hl rv.ints hne fun h' tk m t' hk h1 h2 => ⟨.int _, H, I.kept hk, ⟨_, rfl⟩, q m h1 h2⟩
def oMinT : OpN
  | [.val (.tup ds)], h => (intsD ds).bind fun ns => if 0 < ns.length then some (.val (.int (minL ns)), h) else none
  | _, _ => none
theorem sim_minT {w : World} {K : PySem.W.Frag} : SimN w K (rMinT K) oMinT := by
  intro m h H xs dxs d h' Q S r e q
  unfold oMinT at e
  split at e
  · obtain ⟨ns, e2, e⟩ := bind_some' e
    obtain ⟨c, e⟩ := ite_some' e
    cases e
    obtain ⟨v, rfl, r1⟩ := inv1 r
    cases r1 with
    | val r2 =>
      cases r2 with
      | tup f rv =>
        rw [intsD_map e2] at rv
        have e3 := rv.ints
        subst e3
        refine ⟨_, ns, rfl, f.sq, c, fun mx h1 h2 => ?_⟩
        obtain ⟨g1, g2⟩ := minL_mem c
        have : mx = minL ns := by
          have := h2 _ g1
          have := g2 _ h1
          omega
        subst this
        exact q m H _ (Le.refl _ _) S (.val (.int _)) (nwV _ _ _)
  · cases e
theorem je_minT (hc : X.calm = true) (hg : Gl X "min") (hm : X.mg "min" = none) (ha : JA X (a :: es) fr) (he : starEach (a :: es) X.env = (false, eval a X.env) :: starEach es X.env := by rfl) (hpl : (backTo pos (starEach es X.env)).any (·.1) = false := by rfl) : JE X (.Call (.Name "min" p) (a :: es) [] pos) (mFn oMinT fr) :=
  je_fnB (cr_minT hc) sim_minT hg hm (by decide +kernel) ha (by decide) (by decide) he hpl
end
end Sm
namespace Sm
open PySem PySem.Spec PyProof.Rows L2
def b_less_of : SS := (mSeq (mIfS (mOr (mB (mBin oIs (mVar 0) (mC .non))) (mB (mBin oIs (mVar 1) (mC .non)))) (mRet (mIf (mB (mBin oIs (mVar 0) (mC .non))) (mVar 1) (mVar 0))) mPass) (mRet (mFn oMin (mCons (mVar 0) (mCons (mVar 1) mNil)))))
def F_less_of : SF := runDef 2 2 b_less_of
def b_sum_of : SS := (mRet (mIf (mOr (mB (mBin oIs (mVar 0) (mC .non))) (mB (mBin oIs (mVar 1) (mC .non)))) (mC .non) (mBin oAdd (mVar 0) (mVar 1))))
def F_sum_of : SF := runDef 2 2 b_sum_of
def l_tight_rows_1 : SS := (mSeq (mAsg (gS (mBin oIx (mVar 2) (mVar 3)) (mVar 3)) (mCall F_less_of (mCons (mBin oIx (mBin oIx (mVar 2) (mVar 3)) (mVar 3)) (mCons (mC (.int 0)) mNil)))) (mAsg (gS (mBin oIx (mVar 2) (mC (.int 0))) (mVar 3)) (mCall F_less_of (mCons (mBin oIx (mBin oIx (mVar 2) (mC (.int 0))) (mVar 3)) (mCons (mC (.int 0)) mNil)))))
def l_tight_rows_2 : SS := (mSeq (mAsg (gN 8) (mCall F_sum_of (mCons (mBin oIx (mBin oIx (mVar 2) (mVar 5)) (mVar 4)) (mCons (mBin oIx (mBin oIx (mVar 2) (mVar 4)) (mVar 7)) mNil)))) (mAsg (gS (mBin oIx (mVar 2) (mVar 5)) (mVar 7)) (mCall F_less_of (mCons (mBin oIx (mBin oIx (mVar 2) (mVar 5)) (mVar 7)) (mCons (mVar 8) mNil)))))
def l_tight_rows_3 : SS := (mFor (mRng1 (mCons (mVar 1) mNil)) (gN 7) l_tight_rows_2)
def l_tight_rows_4 : SS := (mFor (mRng1 (mCons (mVar 1) mNil)) (gN 5) l_tight_rows_3)
def b_tight_rows : SS := (mSeq (mAsg (gN 1) (mFn oLen (mCons (mVar 0) mNil))) (mSeq (mAsg (gN 2) (mComp (mIter (mVar 0)) (gN 6) mYes (mFn oList (mCons (mVar 6) mNil)) [6])) (mSeq (mFor (mRng1 (mCons (mVar 1) mNil)) (gN 3) l_tight_rows_1) (mSeq (mFor (mRng1 (mCons (mVar 1) mNil)) (gN 4) l_tight_rows_4) (mRet (mIf (mB (mFn oAll (mCons (mComp (mRng1 (mCons (mVar 1) mNil)) (gN 3) mYes (mBin oEq (mBin oIx (mBin oIx (mVar 2) (mVar 3)) (mVar 3)) (mC (.int 0))) [3]) mNil))) (mVar 2) (mC .non)))))))
def F_tight_rows : SF := runDef 1 9 b_tight_rows
def b_tight : SS := (mSeq (mAsg (gN 1) (mCall F_tight_rows (mCons (mVar 0) mNil))) (mRet (mIf (mB (mBin oIs (mVar 1) (mC .non))) (mC .non) (mFn oTuple (mCons (mComp (mIter (mVar 1)) (gN 2) mYes (mFn oTuple (mCons (mVar 2) mNil)) [2]) mNil)))))
def F_tight : SF := runDef 1 3 b_tight
def l_later_1 : SS := (mAsg (gS (mBin oIx (mVar 1) (mVar 2)) (mC (.int 0))) (mC .non))
def b_later : SS := (mSeq (mAsg (gN 1) (mComp (mIter (mVar 0)) (gN 3) mYes (mFn oList (mCons (mVar 3) mNil)) [3])) (mSeq (mFor (mRng2 (mCons (mC (.int 1)) (mCons (mFn oLen (mCons (mVar 1) mNil)) mNil))) (gN 2) l_later_1) (mRet (mFn oTuple (mCons (mComp (mIter (mVar 1)) (gN 3) mYes (mFn oTuple (mCons (mVar 3) mNil)) [3]) mNil)))))
def F_later : SF := runDef 1 4 b_later
def b_bounded : SS := (mSeq (mAsg (gN 4) (mComp (mIter (mVar 0)) (gN 5) mYes (mFn oList (mCons (mVar 5) mNil)) [5])) (mSeq (mIfS (mB (mBin oEq (mVar 2) (mC (.str ("<=" : Str))))) (mAsg (gS (mBin oIx (mVar 4) (mVar 1)) (mC (.int 0))) (mCall F_less_of (mCons (mBin oIx (mBin oIx (mVar 4) (mVar 1)) (mC (.int 0))) (mCons (mVar 3) mNil)))) (mAsg (gS (mBin oIx (mVar 4) (mC (.int 0))) (mVar 1)) (mCall F_less_of (mCons (mBin oIx (mBin oIx (mVar 4) (mC (.int 0))) (mVar 1)) (mCons (mBin oSub (mC (.int 0)) (mVar 3)) mNil))))) (mRet (mCall F_tight (mCons (mVar 4) mNil)))))
def F_bounded : SF := runDef 4 6 b_bounded
def l_reset_1 : SS := (mIfS (mB (mBin oNe (mVar 3) (mVar 1))) (mSeq (mAsg (gS (mBin oIx (mVar 2) (mVar 1)) (mVar 3)) (mBin oIx (mBin oIx (mVar 2) (mC (.int 0))) (mVar 3))) (mAsg (gS (mBin oIx (mVar 2) (mVar 3)) (mVar 1)) (mBin oIx (mBin oIx (mVar 2) (mVar 3)) (mC (.int 0))))) mPass)
def b_reset : SS := (mSeq (mAsg (gN 2) (mComp (mIter (mVar 0)) (gN 4) mYes (mFn oList (mCons (mVar 4) mNil)) [4])) (mSeq (mFor (mRng1 (mCons (mFn oLen (mCons (mVar 2) mNil)) mNil)) (gN 3) l_reset_1) (mRet (mFn oTuple (mCons (mComp (mIter (mVar 2)) (gN 4) mYes (mFn oTuple (mCons (mVar 4) mNil)) [4]) mNil)))))
def F_reset : SF := runDef 2 5 b_reset
def l_widened_1 : SS := (mSeq (mAsg (gN 6) (mBin oIx (mBin oIx (mVar 2) (mVar 3)) (mVar 4))) (mIfS (mAnd (mB (mBin oNe (mVar 3) (mVar 4))) (mB (mBin oIsNot (mVar 6) (mC .non)))) (mIfS (mB (mBin oGt (mVar 6) (mVar 1))) (mAsg (gS (mBin oIx (mVar 2) (mVar 3)) (mVar 4)) (mC .non)) (mIfS (mB (mBin oLt (mVar 6) (mBin oSub (mBin oSub (mC (.int 0)) (mVar 1)) (mC (.int 1))))) (mAsg (gS (mBin oIx (mVar 2) (mVar 3)) (mVar 4)) (mBin oSub (mBin oSub (mC (.int 0)) (mVar 1)) (mC (.int 1)))) mPass)) mPass))
def l_widened_2 : SS := (mFor (mRng1 (mCons (mFn oLen (mCons (mVar 2) mNil)) mNil)) (gN 4) l_widened_1)
def b_widened : SS := (mSeq (mAsg (gN 2) (mComp (mIter (mVar 0)) (gN 5) mYes (mFn oList (mCons (mVar 5) mNil)) [5])) (mSeq (mFor (mRng1 (mCons (mFn oLen (mCons (mVar 2) mNil)) mNil)) (gN 3) l_widened_2) (mRet (mCall F_tight (mCons (mVar 2) mNil)))))
def F_widened : SF := runDef 2 7 b_widened
def l_has_point_1 : SS := (mIfS (mAnd (mB (mBin oIsNot (mVar 6) (mC .non))) (mB (mBin oGt (mBin oSub (mBin oIx (mVar 2) (mVar 3)) (mBin oIx (mVar 2) (mVar 5))) (mVar 6)))) (mRet (mC (.bl false))) mPass)
def l_has_point_2 : SS := (mFor (mEnum (mCons (mVar 4) mNil)) (gT 2 (gsC (gN 5) (gsC (gN 6) gsN))) l_has_point_1)
def b_has_point : SS := (mSeq (mAsg (gN 2) (mBin oAdd (mTup (mCons (mC (.int 0)) mNil)) (mVar 1))) (mSeq (mFor (mEnum (mCons (mVar 0) mNil)) (gT 2 (gsC (gN 3) (gsC (gN 4) gsN))) l_has_point_2) (mRet (mC (.bl true)))))
def F_has_point : SF := runDef 2 7 b_has_point
def l_within_1 : SS := (mIfS (mAnd (mB (mBin oIsNot (mVar 5) (mC .non))) (mOr (mB (mBin oIs (mVar 4) (mC .non))) (mB (mBin oGt (mVar 4) (mVar 5))))) (mRet (mC (.bl false))) mPass)
def l_within_2 : SS := (mFor (mZip (mCons (mVar 2) (mCons (mVar 3) mNil))) (gT 2 (gsC (gN 4) (gsC (gN 5) gsN))) l_within_1)
def b_within : SS := (mSeq (mFor (mZip (mCons (mVar 0) (mCons (mVar 1) mNil))) (gT 2 (gsC (gN 2) (gsC (gN 3) gsN))) l_within_2) (mRet (mC (.bl true))))
def F_within : SF := runDef 2 6 b_within
def l_gather_1 (self : SF) : SS := (mSeq (mAsg (gN 6) (mCall F_bounded (mCons (mVar 0) (mCons (mVar 2) (mCons (mC (.str (">=" : Str))) (mCons (mVar 5) mNil)))))) (mSeq (mIfS (mAnd (mB (mBin oIsNot (mVar 6) (mC .non))) (mB (mBin oLe (mVar 5) (mVar 1)))) (mAsg (gN 6) (mCall F_bounded (mCons (mVar 6) (mCons (mVar 2) (mCons (mC (.str ("<=" : Str))) (mCons (mVar 5) mNil)))))) mPass) (mIfS (mB (mBin oIsNot (mVar 6) (mC .non))) (mExpr (mCall self (mCons (mVar 6) (mCons (mVar 1) (mCons (mAd (mBin oAdd (mVar 2) (mC (.int 1)))) (mCons (mAd (mBin oAdd (mVar 3) (mTup (mCons (mVar 5) mNil)))) (mCons (mVar 4) mNil))))))) mPass)))
def b_gather (self : SF) : SS := (mSeq (mIfS (mB (mBin oEq (mVar 2) (mFn oLen (mCons (mVar 0) mNil)))) (mSeq (mAsg (gSN (mVar 4) (mVar 3)) (mC (.bl true))) mRetN) mPass) (mFor (mRng1 (mCons (mBin oAdd (mVar 1) (mC (.int 2))) mNil)) (gN 5) (l_gather_1 self)))
def F_gather : Nat → SF
  | 0 => fun _ _ => none
  | k + 1 => runDef 5 7 (b_gather (F_gather k))
def b_points : SS := (mSeq (mAsg (gN 2) mNewN) (mSeq (mExpr (mCall (F_gather 6) (mCons (mVar 0) (mCons (mVar 1) (mCons (mC (.int 1)) (mCons (mTup mNil) (mCons (mVar 2) mNil))))))) (mRet (mFn oTuple (mCons (mFn oSortN (mCons (mVar 2) mNil)) mNil)))))
def F_points : SF := runDef 2 3 b_points
def b_law_cell : SS := (mSeq (mIfS (mB (mBin oLt (mVar 1) (mFn oLen (mCons (mVar 0) mNil)))) (mRet (mBin oIx (mVar 0) (mVar 1))) mPass) (mRet (mC (.int 0))))
def F_law_cell : SF := runDef 2 2 b_law_cell
def l_law_digits_1 : SS := (mIfS (mB (mBin oGt (mVar 5) (mC (.int 0)))) (mSeq (mExpr (mMeth isLs oApp (mVar 3) (mBin oMod (mFn oInt (mCons (mVar 5) mNil)) (mC (.int 1009))))) (mAsg (gN 5) (mBin oDiv (mVar 5) (mC (.int 1009))))) mPass)
def l_law_digits_2 : SS := (mSeq (mAsg (gN 7) (mBin oMod (mFn oInt (mCons (mBin oAdd (mBin oAdd (mBin oMul (mVar 7) (mC (.int 16807))) (mBin oMul (mC (.int 7)) (mVar 6))) (mC (.int 1))) mNil)) (mC (.int 2147483647)))) (mExpr (mMeth isLs oApp (mVar 3) (mBin oMod (mFn oInt (mCons (mBin oDiv (mVar 7) (mC (.int 997))) mNil)) (mC (.int 1009))))))
def l_law_digits_3 : SS := (mSeq (mAsg (gN 5) (mCall F_law_cell (mCons (mVar 0) (mCons (mVar 4) mNil)))) (mSeq (mIfS (mB (mBin oLt (mVar 5) (mC (.int 0)))) (mAsg (gN 5) (mBin oSub (mC (.int 1)) (mBin oMul (mC (.int 2)) (mVar 5)))) mPass) (mIfS (mB (mBin oGe (mVar 5) (mBin oPow (mC (.int 10)) (mC (.int 18))))) (mFor (mRng1 (mCons (mC (.int 60)) mNil)) (gN 6) l_law_digits_1) (mSeq (mAsg (gN 7) (mBin oMod (mFn oInt (mCons (mBin oAdd (mBin oAdd (mBin oMul (mVar 5) (mC (.int 48271))) (mBin oMul (mVar 4) (mC (.int 69621)))) (mC (.int 11))) mNil)) (mC (.int 2147483647)))) (mFor (mRng1 (mCons (mC (.int 12)) mNil)) (gN 6) l_law_digits_2)))))
def b_law_digits : SS := (mSeq (mAsg (gN 3) (mLst mNil)) (mSeq (mFor (mRng2 (mCons (mVar 1) (mCons (mVar 2) mNil))) (gN 4) l_law_digits_3) (mRet (mVar 3))))
def F_law_digits : SF := runDef 3 8 b_law_digits
def b_law_draw : SS := (mSeq (mAsg (gN 2) (mBin oIx (mVar 0) (mC (.int 1)))) (mSeq (mAsg (gS (mVar 0) (mC (.int 1))) (mBin oAdd (mVar 2) (mC (.int 1)))) (mSeq (mIfS (mB (mBin oLt (mVar 2) (mFn oLen (mCons (mBin oIx (mVar 0) (mC (.int 0))) mNil)))) (mRet (mBin oMod (mFn oInt (mCons (mBin oIx (mBin oIx (mVar 0) (mC (.int 0))) (mVar 2)) mNil)) (mVar 1))) mPass) (mRet (mBin oMod (mFn oInt (mCons (mBin oAdd (mBin oAdd (mBin oAdd (mBin oMul (mBin oMul (mVar 2) (mVar 2)) (mC (.int 3))) (mBin oMul (mVar 2) (mC (.int 4)))) (mBin oDiv (mVar 2) (mC (.int 3)))) (mC (.int 1))) mNil)) (mVar 1))))))
def F_law_draw : SF := runDef 2 3 b_law_draw
def l_law_like_1 (self : SF) : SS := (mIfS (mNot (mB (mCall self (mCons (mBin oIx (mVar 0) (mVar 2)) (mCons (mBin oIx (mVar 1) (mVar 2)) mNil))))) (mRet (mC (.bl false))) mPass)
def b_law_like (self : SF) : SS := (mSeq (mIfS (mOr (mB (mFn oIsi (mCons (mVar 1) (mCons (mC (.ty "tuple")) mNil)))) (mB (mFn oIsi (mCons (mVar 1) (mCons (mC (.ty "list")) mNil))))) (mSeq (mIfS (mOr (mAnd (mB (mFn oIsi (mCons (mVar 1) (mCons (mC (.ty "tuple")) mNil)))) (mNot (mB (mFn oIsi (mCons (mVar 0) (mCons (mC (.ty "tuple")) mNil)))))) (mAnd (mB (mFn oIsi (mCons (mVar 1) (mCons (mC (.ty "list")) mNil)))) (mNot (mB (mFn oIsi (mCons (mVar 0) (mCons (mC (.ty "list")) mNil))))))) (mRet (mC (.bl false))) mPass) (mSeq (mIfS (mB (mBin oNe (mFn oLen (mCons (mVar 0) mNil)) (mFn oLen (mCons (mVar 1) mNil)))) (mRet (mC (.bl false))) mPass) (mSeq (mFor (mRng1 (mCons (mFn oLen (mCons (mVar 1) mNil)) mNil)) (gN 2) (l_law_like_1 self)) (mRet (mC (.bl true)))))) mPass) (mSeq (mIfS (mB (mBin oIs (mVar 1) (mC .non))) (mRet (mBin oIs (mVar 0) (mC .non))) mPass) (mSeq (mIfS (mB (mFn oIsi (mCons (mVar 1) (mCons (mC (.ty "bool")) mNil)))) (mRet (mAndV (mFn oIsi (mCons (mVar 0) (mCons (mC (.ty "bool")) mNil))) (mBin oEq (mVar 0) (mVar 1)))) mPass) (mSeq (mIfS (mB (mFn oIsi (mCons (mVar 1) (mCons (mC (.ty "int")) mNil)))) (mRet (mAndV (mFn oIsi (mCons (mVar 0) (mCons (mC (.ty "int")) mNil))) (mAndV (mNotV (mFn oIsi (mCons (mVar 0) (mCons (mC (.ty "bool")) mNil)))) (mBin oEq (mVar 0) (mVar 1))))) mPass) (mRet (mAndV (mFn oIsi (mCons (mVar 0) (mCons (mC (.ty "str")) mNil))) (mBin oEq (mVar 0) (mVar 1))))))))
def F_law_like : Nat → SF
  | 0 => fun _ _ => none
  | k + 1 => runDef 2 3 (b_law_like (F_law_like k))
def b_law_less : SS := (mSeq (mIfS (mB (mBin oIs (mVar 0) (mC .non))) (mRet (mVar 1)) mPass) (mSeq (mIfS (mB (mBin oIs (mVar 1) (mC .non))) (mRet (mVar 0)) mPass) (mRet (mFn oMin (mCons (mVar 0) (mCons (mVar 1) mNil))))))
def F_law_less : SF := runDef 2 2 b_law_less
def l_law_tight_1 : SS := (mSeq (mAsg (gS (mBin oIx (mVar 2) (mVar 3)) (mVar 3)) (mCall F_law_less (mCons (mBin oIx (mBin oIx (mVar 2) (mVar 3)) (mVar 3)) (mCons (mC (.int 0)) mNil)))) (mAsg (gS (mBin oIx (mVar 2) (mC (.int 0))) (mVar 3)) (mCall F_law_less (mCons (mBin oIx (mBin oIx (mVar 2) (mC (.int 0))) (mVar 3)) (mCons (mC (.int 0)) mNil)))))
def l_law_tight_2 : SS := (mIfS (mAnd (mB (mBin oIsNot (mBin oIx (mBin oIx (mVar 2) (mVar 4)) (mVar 3)) (mC .non))) (mB (mBin oIsNot (mBin oIx (mBin oIx (mVar 2) (mVar 3)) (mVar 6)) (mC .non)))) (mAsg (gS (mBin oIx (mVar 2) (mVar 4)) (mVar 6)) (mCall F_law_less (mCons (mBin oIx (mBin oIx (mVar 2) (mVar 4)) (mVar 6)) (mCons (mAd (mBin oAdd (mBin oIx (mBin oIx (mVar 2) (mVar 4)) (mVar 3)) (mBin oIx (mBin oIx (mVar 2) (mVar 3)) (mVar 6)))) mNil)))) mPass)
def l_law_tight_3 : SS := (mFor (mRng1 (mCons (mVar 1) mNil)) (gN 6) l_law_tight_2)
def l_law_tight_4 : SS := (mFor (mRng1 (mCons (mVar 1) mNil)) (gN 4) l_law_tight_3)
def b_law_tight : SS := (mSeq (mAsg (gN 1) (mFn oLen (mCons (mVar 0) mNil))) (mSeq (mAsg (gN 2) (mComp (mIter (mVar 0)) (gN 5) mYes (mFn oList (mCons (mVar 5) mNil)) [5])) (mSeq (mFor (mRng1 (mCons (mVar 1) mNil)) (gN 3) l_law_tight_1) (mSeq (mFor (mRng1 (mCons (mVar 1) mNil)) (gN 3) l_law_tight_4) (mSeq (mIfS (mB (mBin oNe (mComp (mRng1 (mCons (mVar 1) mNil)) (gN 3) (mB (mBin oLt (mBin oIx (mBin oIx (mVar 2) (mVar 3)) (mVar 3)) (mC (.int 0)))) (mVar 3) [3]) (mLst mNil))) (mRet (mC .non)) mPass) (mRet (mFn oTuple (mCons (mComp (mIter (mVar 2)) (gN 5) mYes (mFn oTuple (mCons (mVar 5) mNil)) [5]) mNil))))))))
def F_law_tight : SF := runDef 1 7 b_law_tight
def b_law_with : SS := (mSeq (mIfS (mB (mBin oIs (mVar 0) (mC .non))) (mRet (mC .non)) mPass) (mSeq (mAsg (gN 4) (mComp (mIter (mVar 0)) (gN 5) mYes (mFn oList (mCons (mVar 5) mNil)) [5])) (mSeq (mAsg (gS (mBin oIx (mVar 4) (mVar 1)) (mVar 2)) (mCall F_law_less (mCons (mBin oIx (mBin oIx (mVar 4) (mVar 1)) (mVar 2)) (mCons (mVar 3) mNil)))) (mRet (mCall F_law_tight (mCons (mVar 4) mNil))))))
def F_law_with : SF := runDef 4 6 b_law_with
def l_law_later_zone_1 : SS := (mAsg (gS (mBin oIx (mVar 1) (mVar 2)) (mC (.int 0))) (mC .non))
def b_law_later_zone : SS := (mSeq (mAsg (gN 1) (mComp (mIter (mVar 0)) (gN 3) mYes (mFn oList (mCons (mVar 3) mNil)) [3])) (mSeq (mFor (mRng2 (mCons (mC (.int 1)) (mCons (mFn oLen (mCons (mVar 1) mNil)) mNil))) (gN 2) l_law_later_zone_1) (mRet (mCall F_law_tight (mCons (mVar 1) mNil)))))
def F_law_later_zone : SF := runDef 1 4 b_law_later_zone
def l_law_reset_zone_1 : SS := (mIfS (mB (mBin oNe (mVar 3) (mVar 1))) (mSeq (mAsg (gS (mBin oIx (mVar 2) (mVar 1)) (mVar 3)) (mC .non)) (mAsg (gS (mBin oIx (mVar 2) (mVar 3)) (mVar 1)) (mC .non))) mPass)
def b_law_reset_zone : SS := (mSeq (mAsg (gN 2) (mComp (mIter (mVar 0)) (gN 4) mYes (mFn oList (mCons (mVar 4) mNil)) [4])) (mSeq (mFor (mRng1 (mCons (mFn oLen (mCons (mVar 2) mNil)) mNil)) (gN 3) l_law_reset_zone_1) (mSeq (mAsg (gS (mBin oIx (mVar 2) (mVar 1)) (mC (.int 0))) (mC (.int 0))) (mSeq (mAsg (gS (mBin oIx (mVar 2) (mC (.int 0))) (mVar 1)) (mC (.int 0))) (mRet (mCall F_law_tight (mCons (mVar 2) mNil)))))))
def F_law_reset_zone : SF := runDef 2 5 b_law_reset_zone
def l_law_wide_1 : SS := (mIfS (mAnd (mB (mBin oNe (mVar 3) (mVar 4))) (mB (mBin oIsNot (mBin oIx (mBin oIx (mVar 2) (mVar 3)) (mVar 4)) (mC .non)))) (mIfS (mB (mBin oGt (mBin oIx (mBin oIx (mVar 2) (mVar 3)) (mVar 4)) (mVar 1))) (mAsg (gS (mBin oIx (mVar 2) (mVar 3)) (mVar 4)) (mC .non)) (mIfS (mB (mBin oLt (mBin oIx (mBin oIx (mVar 2) (mVar 3)) (mVar 4)) (mBin oSub (mBin oSub (mC (.int 0)) (mVar 1)) (mC (.int 1))))) (mAsg (gS (mBin oIx (mVar 2) (mVar 3)) (mVar 4)) (mBin oSub (mBin oSub (mC (.int 0)) (mVar 1)) (mC (.int 1)))) mPass)) mPass)
def l_law_wide_2 : SS := (mFor (mRng1 (mCons (mFn oLen (mCons (mVar 2) mNil)) mNil)) (gN 4) l_law_wide_1)
def b_law_wide : SS := (mSeq (mAsg (gN 2) (mComp (mIter (mVar 0)) (gN 5) mYes (mFn oList (mCons (mVar 5) mNil)) [5])) (mSeq (mFor (mRng1 (mCons (mFn oLen (mCons (mVar 2) mNil)) mNil)) (gN 3) l_law_wide_2) (mRet (mCall F_law_tight (mCons (mVar 2) mNil)))))
def F_law_wide : SF := runDef 2 6 b_law_wide
def l_law_caps_1 : SS := (mSeq (mAsg (gN 9) (mCall F_law_with (mCons (mBin oIx (mVar 3) (mVar 7)) (mCons (mC (.int 0)) (mCons (mVar 4) (mCons (mBin oSub (mC (.int 0)) (mVar 8)) mNil)))))) (mSeq (mIfS (mB (mBin oLe (mVar 8) (mVar 1))) (mAsg (gN 9) (mCall F_law_with (mCons (mVar 9) (mCons (mVar 4) (mCons (mC (.int 0)) (mCons (mVar 8) mNil)))))) mPass) (mIfS (mB (mBin oIsNot (mVar 9) (mC .non))) (mSeq (mExpr (mMeth isLs oApp (mVar 5) (mAd (mBin oAdd (mBin oIx (mVar 2) (mVar 7)) (mTup (mCons (mVar 8) mNil)))))) (mExpr (mMeth isLs oApp (mVar 6) (mVar 9)))) mPass)))
def l_law_caps_2 : SS := (mFor (mRng1 (mCons (mBin oAdd (mVar 1) (mC (.int 2))) mNil)) (gN 8) l_law_caps_1)
def l_law_caps_3 : SS := (mSeq (mAsg (gN 5) (mLst mNil)) (mSeq (mAsg (gN 6) (mLst mNil)) (mSeq (mFor (mRng1 (mCons (mFn oLen (mCons (mVar 2) mNil)) mNil)) (gN 7) l_law_caps_2) (mSeq (mAsg (gN 2) (mVar 5)) (mAsg (gN 3) (mVar 6))))))
def b_law_caps : SS := (mSeq (mAsg (gN 2) (mLst (mCons (mTup mNil) mNil))) (mSeq (mAsg (gN 3) (mLst (mCons (mVar 0) mNil))) (mSeq (mFor (mRng2 (mCons (mC (.int 1)) (mCons (mFn oLen (mCons (mVar 0) mNil)) mNil))) (gN 4) l_law_caps_3) (mRet (mVar 2)))))
def F_law_caps : SF := runDef 2 10 b_law_caps
def l_law_drawn_zone_1 : SS := (mSeq (mAsg (gN 9) (mBin oAdd (mFn oMax (mCons (mComp (mIter (mVar 3)) (gN 11) mYes (mBin oSub (mBin oIx (mVar 11) (mVar 5)) (mBin oIx (mVar 11) (mVar 7))) [11]) mNil)) (mCall F_law_draw (mCons (mVar 0) (mCons (mC (.int 3)) mNil))))) (mSeq (mIfS (mTr (mVar 2)) (mAsg (gN 9) (mBin oSub (mCall F_law_draw (mCons (mVar 0) (mCons (mC (.int 11)) mNil))) (mC (.int 4)))) mPass) (mExpr (mMeth isLs oApp (mVar 6) (mIf (mB (mBin oEq (mCall F_law_draw (mCons (mVar 0) (mCons (mC (.int 3)) mNil))) (mC (.int 0)))) (mC .non) (mVar 9))))))
def l_law_drawn_zone_2 : SS := (mSeq (mAsg (gN 6) (mLst mNil)) (mSeq (mFor (mRng1 (mCons (mBin oAdd (mVar 1) (mC (.int 1))) mNil)) (gN 7) l_law_drawn_zone_1) (mExpr (mMeth isLs oApp (mVar 4) (mFn oTuple (mCons (mVar 6) mNil))))))
def b_law_drawn_zone : SS := (mSeq (mAsg (gN 2) (mBin oEq (mCall F_law_draw (mCons (mVar 0) (mCons (mC (.int 4)) mNil))) (mC (.int 0)))) (mSeq (mAsg (gN 3) (mComp (mRng1 (mCons (mC (.int 2)) mNil)) (gN 8) mYes (mBin oAdd (mLst (mCons (mC (.int 0)) mNil)) (mComp (mRng1 (mCons (mVar 1) mNil)) (gN 10) mYes (mCall F_law_draw (mCons (mVar 0) (mCons (mC (.int 9)) mNil))) [10])) [8])) (mSeq (mAsg (gN 4) (mLst mNil)) (mSeq (mFor (mRng1 (mCons (mBin oAdd (mVar 1) (mC (.int 1))) mNil)) (gN 5) l_law_drawn_zone_2) (mRet (mFn oTuple (mCons (mVar 4) mNil)))))))
def F_law_drawn_zone : SF := runDef 2 12 b_law_drawn_zone
def l_law_in_zone_1 : SS := (mIfS (mAnd (mB (mBin oIsNot (mBin oIx (mBin oIx (mVar 0) (mVar 3)) (mVar 4)) (mC .non))) (mB (mBin oGt (mBin oSub (mBin oIx (mVar 2) (mVar 3)) (mBin oIx (mVar 2) (mVar 4))) (mBin oIx (mBin oIx (mVar 0) (mVar 3)) (mVar 4))))) (mRet (mC (.bl false))) mPass)
def l_law_in_zone_2 : SS := (mFor (mRng1 (mCons (mFn oLen (mCons (mVar 0) mNil)) mNil)) (gN 4) l_law_in_zone_1)
def b_law_in_zone : SS := (mSeq (mAsg (gN 2) (mBin oAdd (mTup (mCons (mC (.int 0)) mNil)) (mVar 1))) (mSeq (mFor (mRng1 (mCons (mFn oLen (mCons (mVar 0) mNil)) mNil)) (gN 3) l_law_in_zone_2) (mRet (mC (.bl true)))))
def F_law_in_zone : SF := runDef 2 5 b_law_in_zone
def l_law_holds_of_1 : SS := (mSeq (mAsg (gN 12) (mCall F_law_with (mCons (mVar 12) (mCons (mC (.int 0)) (mCons (mAd (mBin oAdd (mVar 13) (mC (.int 1)))) (mCons (mBin oSub (mC (.int 0)) (mFn oMin (mCons (mBin oIx (mVar 6) (mVar 13)) (mCons (mBin oAdd (mVar 5) (mC (.int 1))) mNil)))) mNil)))))) (mIfS (mB (mBin oLe (mBin oIx (mVar 6) (mVar 13)) (mVar 5))) (mAsg (gN 12) (mCall F_law_with (mCons (mVar 12) (mCons (mAd (mBin oAdd (mVar 13) (mC (.int 1)))) (mCons (mC (.int 0)) (mCons (mBin oIx (mVar 6) (mVar 13)) mNil)))))) mPass))
def b_law_holds_of : SS := (mSeq (mAsg (gN 6) (mFn oTuple (mCons (mComp (mRng1 (mCons (mBin oSub (mFn oLen (mCons (mVar 1) mNil)) (mC (.int 1))) mNil)) (gN 13) mYes (mCall F_law_draw (mCons (mVar 0) (mCons (mC (.int 9)) mNil))) [13]) mNil))) (mSeq (mAsg (gN 7) (mCall F_law_in_zone (mCons (mVar 1) (mCons (mVar 6) mNil)))) (mSeq (mIfS (mNot (mB (mCall (F_law_like 6) (mCons (mCall F_has_point (mCons (mVar 1) (mCons (mVar 6) mNil))) (mCons (mVar 7) mNil))))) (mRet (mC (.bl false))) mPass) (mSeq (mAsg (gN 8) (mComp (mRng1 (mCons (mBin oAdd (mFn oMinT (mCons (mVar 6) mNil)) (mC (.int 1))) mNil)) (gN 14) (mB (mCall F_law_in_zone (mCons (mVar 1) (mCons (mFn oTuple (mCons (mComp (mIter (mVar 6)) (gN 15) mYes (mBin oSub (mVar 15) (mVar 14)) [15]) mNil)) mNil)))) (mVar 14) [14])) (mSeq (mIfS (mNot (mB (mCall (F_law_like 6) (mCons (mCall F_has_point (mCons (mCall F_later (mCons (mVar 1) mNil)) (mCons (mVar 6) mNil))) (mCons (mBin oNe (mVar 8) (mLst mNil)) mNil))))) (mRet (mC (.bl false))) mPass) (mSeq (mAsg (gN 9) (mCall F_bounded (mCons (mVar 1) (mCons (mVar 2) (mCons (mVar 3) (mCons (mVar 4) mNil)))))) (mSeq (mAsg (gN 10) (mIf (mB (mBin oEq (mVar 3) (mC (.str ("<=" : Str))))) (mBin oLe (mBin oIx (mVar 6) (mBin oSub (mVar 2) (mC (.int 1)))) (mVar 4)) (mBin oGe (mBin oIx (mVar 6) (mBin oSub (mVar 2) (mC (.int 1)))) (mVar 4)))) (mSeq (mIfS (mNot (mB (mCall (F_law_like 6) (mCons (mAndV (mBin oIsNot (mVar 9) (mC .non)) (mCall F_has_point (mCons (mVar 9) (mCons (mVar 6) mNil)))) (mCons (mAndV (mVar 7) (mVar 10)) mNil))))) (mRet (mC (.bl false))) mPass) (mSeq (mIfS (mAnd (mB (mVar 7)) (mNot (mB (mCall F_has_point (mCons (mCall F_reset (mCons (mVar 1) (mCons (mVar 2) mNil))) (mCons (mAd (mBin oAdd (mBin oAdd (mSl (mVar 6) mNoP (mPart (mBin oSub (mVar 2) (mC (.int 1))))) (mTup (mCons (mC (.int 0)) mNil))) (mSl (mVar 6) (mPart (mVar 2)) mNoP))) mNil)))))) (mRet (mC (.bl false))) mPass) (mSeq (mAsg (gN 11) (mCall F_widened (mCons (mVar 1) (mCons (mVar 5) mNil)))) (mSeq (mIfS (mAnd (mB (mVar 7)) (mNot (mB (mCall F_has_point (mCons (mVar 11) (mCons (mVar 6) mNil)))))) (mRet (mC (.bl false))) mPass) (mSeq (mIfS (mB (mCall F_has_point (mCons (mVar 11) (mCons (mVar 6) mNil)))) (mSeq (mAsg (gN 12) (mVar 1)) (mSeq (mFor (mRng1 (mCons (mFn oLen (mCons (mVar 6) mNil)) mNil)) (gN 13) l_law_holds_of_1) (mRet (mBin oIsNot (mVar 12) (mC .non))))) mPass) (mRet (mC (.bl true)))))))))))))))
def F_law_holds_of : SF := runDef 6 16 b_law_holds_of
def l_law_1 : SS := (mIfS (mNot (mTr (mCall F_law_holds_of (mCons (mVar 1) (mCons (mVar 4) (mCons (mVar 5) (mCons (mVar 6) (mCons (mVar 7) (mCons (mVar 8) mNil))))))))) (mRet (mC (.bl false))) mPass)
def l_law_2 : SS := (mSeq (mAsg (gN 14) (mComp (mRng1 (mCons (mBin oAdd (mVar 2) (mC (.int 1))) mNil)) (gN 15) (mB (mBin oNe (mComp (mRng1 (mCons (mBin oAdd (mVar 2) (mC (.int 1))) mNil)) (gN 16) (mAnd (mB (mBin oIsNot (mBin oIx (mBin oIx (mVar 13) (mVar 15)) (mVar 16)) (mC .non))) (mOr (mB (mBin oIs (mBin oIx (mBin oIx (mVar 12) (mVar 15)) (mVar 16)) (mC .non))) (mB (mBin oGt (mBin oIx (mBin oIx (mVar 12) (mVar 15)) (mVar 16)) (mBin oIx (mBin oIx (mVar 13) (mVar 15)) (mVar 16)))))) (mC (.int 1)) [16]) (mLst mNil))) (mC (.int 1)) [15])) (mIfS (mNot (mB (mCall (F_law_like 6) (mCons (mCall F_within (mCons (mVar 12) (mCons (mVar 13) mNil))) (mCons (mBin oEq (mVar 14) (mLst mNil)) mNil))))) (mRet (mC (.bl false))) mPass))
def b_law : SS := (mSeq (mAsg (gN 1) (mLst (mCons (mCall F_law_digits (mCons (mVar 0) (mCons (mC (.int 0)) (mCons (mC (.int 63)) mNil)))) (mCons (mC (.int 0)) mNil)))) (mSeq (mAsg (gN 2) (mBin oAdd (mC (.int 1)) (mCall F_law_draw (mCons (mVar 1) (mCons (mC (.int 4)) mNil))))) (mSeq (mAsg (gN 3) (mCall F_law_drawn_zone (mCons (mVar 1) (mCons (mVar 2) mNil)))) (mSeq (mAsg (gN 4) (mCall F_law_tight (mCons (mVar 3) mNil))) (mSeq (mIfS (mNot (mB (mCall (F_law_like 6) (mCons (mCall F_tight (mCons (mVar 3) mNil)) (mCons (mVar 4) mNil))))) (mRet (mC (.bl false))) mPass) (mSeq (mIfS (mB (mBin oIs (mVar 4) (mC .non))) (mAsg (gN 4) (mOrX (mCall F_law_tight (mCons (mCall F_law_drawn_zone (mCons (mVar 1) (mCons (mVar 2) mNil))) mNil)) (mCall F_law_later_zone (mCons (mFn oTuple (mCons (mBin oMul (mLst (mCons (mAd (mBin oTMul (mTup (mCons (mC (.int 0)) mNil)) (mBin oAdd (mVar 2) (mC (.int 1))))) mNil)) (mBin oAdd (mVar 2) (mC (.int 1)))) mNil)) mNil)))) mPass) (mSeq (mAsg (gN 5) (mBin oAdd (mC (.int 1)) (mCall F_law_draw (mCons (mVar 1) (mCons (mVar 2) mNil))))) (mSeq (mAsg (gN 6) (mBin oIx (mLst (mCons (mC (.str ("<=" : Str))) (mCons (mC (.str (">=" : Str))) mNil))) (mCall F_law_draw (mCons (mVar 1) (mCons (mC (.int 2)) mNil))))) (mSeq (mAsg (gN 7) (mCall F_law_draw (mCons (mVar 1) (mCons (mC (.int 8)) mNil)))) (mSeq (mAsg (gN 8) (mCall F_law_draw (mCons (mVar 1) (mCons (mIf (mB (mBin oLt (mVar 2) (mC (.int 4)))) (mC (.int 5)) (mC (.int 3))) mNil)))) (mSeq (mAsg (gN 9) (mIf (mB (mBin oEq (mVar 6) (mC (.str ("<=" : Str))))) (mCall F_law_with (mCons (mVar 4) (mCons (mVar 5) (mCons (mC (.int 0)) (mCons (mVar 7) mNil))))) (mCall F_law_with (mCons (mVar 4) (mCons (mC (.int 0)) (mCons (mVar 5) (mCons (mBin oSub (mC (.int 0)) (mVar 7)) mNil))))))) (mSeq (mIfS (mOr (mNot (mB (mCall (F_law_like 6) (mCons (mCall F_later (mCons (mVar 4) mNil)) (mCons (mCall F_law_later_zone (mCons (mVar 4) mNil)) mNil))))) (mNot (mB (mCall (F_law_like 6) (mCons (mCall F_bounded (mCons (mVar 4) (mCons (mVar 5) (mCons (mVar 6) (mCons (mVar 7) mNil))))) (mCons (mVar 9) mNil)))))) (mRet (mC (.bl false))) mPass) (mSeq (mIfS (mOr (mNot (mB (mCall (F_law_like 6) (mCons (mCall F_reset (mCons (mVar 4) (mCons (mVar 5) mNil))) (mCons (mCall F_law_reset_zone (mCons (mVar 4) (mCons (mVar 5) mNil))) mNil))))) (mNot (mB (mCall (F_law_like 6) (mCons (mCall F_widened (mCons (mVar 4) (mCons (mVar 8) mNil))) (mCons (mCall F_law_wide (mCons (mVar 4) (mCons (mVar 8) mNil))) mNil)))))) (mRet (mC (.bl false))) mPass) (mSeq (mFor (mRng1 (mCons (mC (.int 4)) mNil)) (gN 10) l_law_1) (mSeq (mAsg (gN 11) (mCall F_law_drawn_zone (mCons (mVar 1) (mCons (mVar 2) mNil)))) (mSeq (mFor (mIter (mLst (mCons (mTup (mCons (mVar 4) (mCons (mVar 4) mNil))) (mCons (mTup (mCons (mVar 4) (mCons (mVar 11) mNil))) (mCons (mTup (mCons (mVar 4) (mCons (mCall F_later (mCons (mVar 4) mNil)) mNil))) (mCons (mTup (mCons (mCall F_later (mCons (mVar 4) mNil)) (mCons (mVar 4) mNil))) (mCons (mTup (mCons (mOrX (mVar 9) (mVar 4)) (mCons (mVar 4) mNil))) mNil))))))) (gT 2 (gsC (gN 12) (gsC (gN 13) gsN))) l_law_2) (mRet (mCall (F_law_like 6) (mCons (mCall F_points (mCons (mVar 4) (mCons (mVar 8) mNil))) (mCons (mFn oTuple (mCons (mCall F_law_caps (mCons (mVar 4) (mCons (mVar 8) mNil))) mNil)) mNil))))))))))))))))))))
def F_law : SF := runDef 1 17 b_law
end Sm
namespace Sm
open PySem PySem.Spec PyProof.Rows L2
/-! ## the plain semantics as rewriting -/
section
variable {τ τ' : AT} {h h' h1 h2 : AH} {fa fb fe : SE} {fr : SA} {ft fu : ST} {f1 f2 f : SS} {op : Op2} {o1 : Op1} {oN : OpN} {x y q : LV} {d : D} {ds : List D} {qs : List LV} {b : Bool} {i j n nn : Nat} {g : SG} {gs : SGs} {F : SF} {vs : List Nat} {grd : List (Nat × List D)} {fi : SI} {r : Res}
def varK (o : Option (Option D)) (h : AH) : Option (LV × AH) := match o with
  | some (some d) => some (.val d, h)
  | _ => none
@[simp] theorem mVar_eq : mVar i τ h = varK τ[i]? h := rfl
@[simp] theorem varK_some : varK (some (some d)) h = some (.val d, h) := rfl
@[simp] theorem mC_eq : mC d τ h = some (.val d, h) := rfl
def binK (o : Option (LV × AH)) (op : Op2) (fb : SE) (τ : AT) : Option (LV × AH) := o.bind fun p => (fb τ p.2).bind fun q => op p.1 q.1 q.2
def binK2 (o : Option (LV × AH)) (op : Op2) (x : LV) : Option (LV × AH) := o.bind fun q => op x q.1 q.2
@[simp] theorem mBin_eq : mBin op fa fb τ h = binK (fa τ h) op fb τ := rfl
@[simp] theorem binK_some : binK (some (x, h1)) op fb τ = binK2 (fb τ h1) op x := rfl
@[simp] theorem binK2_some : binK2 (some (y, h2)) op x = op x y h2 := rfl
def unK (o : Option (LV × AH)) (op : Op1) : Option (LV × AH) := o.bind fun p => op p.1 p.2
@[simp] theorem mUn_eq : mUn o1 fa τ h = unK (fa τ h) o1 := rfl
@[simp] theorem unK_some : unK (some (x, h1)) o1 = o1 x h1 := rfl
@[simp] theorem mNil_eq : mNil τ h = some ([], h) := rfl
def consK (o : Option (LV × AH)) (fr : SA) (τ : AT) : Option (List LV × AH) := o.bind fun p => (fr τ p.2).bind fun q => some (p.1 :: q.1, q.2)
def consK2 (o : Option (List LV × AH)) (x : LV) : Option (List LV × AH) := o.bind fun q => some (x :: q.1, q.2)
@[simp] theorem mCons_eq : mCons fa fr τ h = consK (fa τ h) fr τ := rfl
@[simp] theorem consK_some : consK (some (x, h1)) fr τ = consK2 (fr τ h1) x := rfl
@[simp] theorem consK2_some : consK2 (some (qs, h1)) x = some (x :: qs, h1) := rfl
@[simp] theorem plain_nil : plain [] = some [] := rfl
def plainK (o : Option (List D)) (d : D) : Option (List D) := o.bind fun s => some (d :: s)
@[simp] theorem plain_cons : plain (.val d :: qs) = plainK (plain qs) d := rfl
@[simp] theorem plainK_some : plainK (some ds) d = some (d :: ds) := rfl
def tupK (o : Option (List LV × AH)) : Option (LV × AH) := o.bind fun p => (plain p.1).bind fun ds => if ds.length ≤ 16777216 then some (.val (.tup ds), p.2) else none
def tupK2 (o : Option (List D)) (h : AH) : Option (LV × AH) := o.bind fun ds => if ds.length ≤ 16777216 then some (.val (.tup ds), h) else none
@[simp] theorem mTup_eq : mTup fr τ h = tupK (fr τ h) := rfl
@[simp] theorem tupK_some : tupK (some (qs, h1)) = tupK2 (plain qs) h1 := rfl
@[simp] theorem tupK2_some : tupK2 (some ds) h1 = if ds.length ≤ 16777216 then some (.val (.tup ds), h1) else none := rfl
def lstK (o : Option (List LV × AH)) : Option (LV × AH) := o.bind fun p => (plain p.1).bind fun ds => if ds.length ≤ 16777216 then some (.new ds, p.2) else none
def lstK2 (o : Option (List D)) (h : AH) : Option (LV × AH) := o.bind fun ds => if ds.length ≤ 16777216 then some (.new ds, h) else none
@[simp] theorem mLst_eq : mLst fr τ h = lstK (fr τ h) := rfl
@[simp] theorem lstK_some : lstK (some (qs, h1)) = lstK2 (plain qs) h1 := rfl
@[simp] theorem lstK2_some : lstK2 (some ds) h1 = if ds.length ≤ 16777216 then some (.new ds, h1) else none := rfl
@[simp] theorem lay_val : lay (.val d) h = (d, h) := rfl
@[simp] theorem lay_new : lay (.new ds) h = (.ref h.length, h ++ [.lst ds]) := rfl
def adK (o : Option (LV × AH)) : Option (LV × AH) := o.bind fun p => some (.val (lay p.1 p.2).1, (lay p.1 p.2).2)
@[simp] theorem mAd_eq : mAd fa τ h = adK (fa τ h) := rfl
@[simp] theorem adK_some : adK (some (x, h1)) = some (.val (lay x h1).1, (lay x h1).2) := rfl
def ifK (o : Option (Bool × AH)) (fa fb : SE) (τ : AT) : Option (LV × AH) := o.bind fun p => if p.1 = true then fa τ p.2 else fb τ p.2
@[simp] theorem mIf_eq : mIf ft fa fb τ h = ifK (ft τ h) fa fb τ := rfl
@[simp] theorem ifK_some : ifK (some (b, h1)) fa fb τ = if b = true then fa τ h1 else fb τ h1 := rfl
def bK (o : Option (LV × AH)) : Option (Bool × AH) := o.bind fun p => match p.1 with
  | .val (.bl b) => some (b, p.2)
  | _ => none
@[simp] theorem mB_eq : mB fa τ h = bK (fa τ h) := rfl
@[simp] theorem bK_some : bK (some (.val (.bl b), h1)) = some (b, h1) := rfl
def andK (o : Option (Bool × AH)) (tb : ST) (τ : AT) : Option (Bool × AH) := o.bind fun p => if p.1 = true then tb τ p.2 else some (false, p.2)
def orK (o : Option (Bool × AH)) (tb : ST) (τ : AT) : Option (Bool × AH) := o.bind fun p => if p.1 = true then some (true, p.2) else tb τ p.2
def notK (o : Option (Bool × AH)) : Option (Bool × AH) := o.bind fun p => some (!p.1, p.2)
@[simp] theorem mAnd_eq : mAnd ft fu τ h = andK (ft τ h) fu τ := rfl
@[simp] theorem mOr_eq : mOr ft fu τ h = orK (ft τ h) fu τ := rfl
@[simp] theorem mNot_eq : mNot ft τ h = notK (ft τ h) := rfl
@[simp] theorem andK_some : andK (some (b, h1)) fu τ = if b = true then fu τ h1 else some (false, h1) := rfl
@[simp] theorem orK_some : orK (some (b, h1)) fu τ = if b = true then some (true, h1) else fu τ h1 := rfl
@[simp] theorem notK_some : notK (some (b, h1)) = some (!b, h1) := rfl
def andVK (o : Option (LV × AH)) (fb : SE) (τ : AT) : Option (LV × AH) := o.bind fun p => match p.1 with
  | .val (.bl true) => fb τ p.2
  | .val (.bl false) => some (.val (.bl false), p.2)
  | _ => none
def orVK (o : Option (LV × AH)) (fb : SE) (τ : AT) : Option (LV × AH) := o.bind fun p => match p.1 with
  | .val (.bl false) => fb τ p.2
  | .val (.bl true) => some (.val (.bl true), p.2)
  | _ => none
def notVK (o : Option (LV × AH)) : Option (LV × AH) := o.bind fun p => match p.1 with
  | .val (.bl b) => some (.val (.bl (!b)), p.2)
  | _ => none
@[simp] theorem mAndV_eq : mAndV fa fb τ h = andVK (fa τ h) fb τ := rfl
@[simp] theorem mOrV_eq : mOrV fa fb τ h = orVK (fa τ h) fb τ := rfl
@[simp] theorem mNotV_eq : mNotV fa τ h = notVK (fa τ h) := rfl
@[simp] theorem andVK_some : andVK (some (.val (.bl b), h1)) fb τ = if b = true then fb τ h1 else some (.val (.bl false), h1) := by cases b <;> rfl
@[simp] theorem orVK_some : orVK (some (.val (.bl b), h1)) fb τ = if b = true then some (.val (.bl true), h1) else fb τ h1 := by cases b <;> rfl
@[simp] theorem notVK_some : notVK (some (.val (.bl b), h1)) = some (.val (.bl (!b)), h1) := rfl
def callK (F : SF) (o : Option (List LV × AH)) : Option (LV × AH) := o.bind fun p => (plain p.1).bind fun ds => (F ds p.2).bind fun q => some (.val q.1, q.2)
def callK2 (F : SF) (o : Option (List D)) (h : AH) : Option (LV × AH) := o.bind fun ds => (F ds h).bind fun q => some (.val q.1, q.2)
def valK (o : Option (D × AH)) : Option (LV × AH) := o.bind fun q => some (.val q.1, q.2)
@[simp] theorem mCall_eq : mCall F fr τ h = callK F (fr τ h) := rfl
@[simp] theorem callK_some : callK F (some (qs, h1)) = callK2 F (plain qs) h1 := rfl
@[simp] theorem callK2_some : callK2 F (some ds) h1 = valK (F ds h1) := rfl
@[simp] theorem valK_some : valK (some (d, h1)) = some (.val d, h1) := rfl
def fnK (op : OpN) (o : Option (List LV × AH)) : Option (LV × AH) := o.bind fun p => op p.1 p.2
@[simp] theorem mFn_eq : mFn oN fr τ h = fnK oN (fr τ h) := rfl
@[simp] theorem fnK_some : fnK oN (some (qs, h1)) = oN qs h1 := rfl
/-! targets, statements -/
@[simp] theorem gN_eq : gN i d τ h = some (τ.set i (some d), h) := rfl
@[simp] theorem gT_tup : gT n gs (.tup ds) τ h = if ds.length = n then gs ds τ h else none := rfl
@[simp] theorem gT_zt : gT n gs (.zt ds) τ h = if ds.length = n then gs ds τ h else none := rfl
@[simp] theorem gsN_eq : gsN [] τ h = some (τ, h) := rfl
def gsK (o : Option (AT × AH)) (gs : SGs) (ds : List D) : Option (AT × AH) := o.bind fun p => gs ds p.1 p.2
@[simp] theorem gsC_eq : gsC g gs (d :: ds) τ h = gsK (g d τ h) gs ds := rfl
@[simp] theorem gsK_some : gsK (some (τ', h1)) gs ds = gs ds τ' h1 := rfl
def gSK (o : Option (LV × AH)) (fi : SE) (d : D) (τ : AT) : Option (AT × AH) := o.bind fun p => (fi τ p.2).bind fun q => (setD p.1 q.1 d q.2).bind fun h' => some (τ, h')
def gSK2 (o : Option (LV × AH)) (x : LV) (d : D) (τ : AT) : Option (AT × AH) := o.bind fun q => (setD x q.1 d q.2).bind fun h' => some (τ, h')
def gSK3 (o : Option AH) (τ : AT) : Option (AT × AH) := o.bind fun h' => some (τ, h')
@[simp] theorem gS_eq : gS fa fb d τ h = gSK (fa τ h) fb d τ := rfl
@[simp] theorem gSK_some : gSK (some (x, h1)) fb d τ = gSK2 (fb τ h1) x d τ := rfl
@[simp] theorem gSK2_some : gSK2 (some (y, h1)) x d τ = gSK3 (setD x y d h1) τ := rfl
@[simp] theorem gSK3_some : gSK3 (some h1) τ = some (τ, h1) := rfl
def asgK (g : SG) (o : Option (LV × AH)) (τ : AT) : Option Res := o.bind fun p => (g (lay p.1 p.2).1 τ (lay p.1 p.2).2).bind fun q => some (.nx q.1 q.2)
def asgK2 (o : Option (AT × AH)) : Option Res := o.bind fun q => some (.nx q.1 q.2)
@[simp] theorem mAsg_eq : mAsg g fa τ h = asgK g (fa τ h) τ := rfl
@[simp] theorem asgK_some : asgK g (some (x, h1)) τ = asgK2 (g (lay x h1).1 τ (lay x h1).2) := rfl
@[simp] theorem asgK2_some : asgK2 (some (τ', h1)) = some (.nx τ' h1) := rfl
def exprK (o : Option (LV × AH)) (τ : AT) : Option Res := o.bind fun p => some (.nx τ p.2)
@[simp] theorem mExpr_eq : mExpr fa τ h = exprK (fa τ h) τ := rfl
@[simp] theorem exprK_some : exprK (some (x, h1)) τ = some (.nx τ h1) := rfl
def retK (o : Option (LV × AH)) : Option Res := o.bind fun p => some (.rt (lay p.1 p.2).1 (lay p.1 p.2).2)
@[simp] theorem mRet_eq : mRet fa τ h = retK (fa τ h) := rfl
@[simp] theorem retK_some : retK (some (x, h1)) = some (.rt (lay x h1).1 (lay x h1).2) := rfl
@[simp] theorem mRetN_eq : mRetN τ h = some (.rt .non h) := rfl
@[simp] theorem mPass_eq : mPass τ h = some (.nx τ h) := rfl
@[simp] theorem mBrk_eq : mBrk τ h = some (.bk τ h) := rfl
@[simp] theorem mCnt_eq : mCnt τ h = some (.ct τ h) := rfl
def seqK (o : Option Res) (f2 : SS) : Option Res := o.bind fun r => match r with
  | .nx τ' h' => f2 τ' h'
  | r => some r
@[simp] theorem mSeq_eq : mSeq f1 f2 τ h = seqK (f1 τ h) f2 := rfl
@[simp] theorem seqK_nx : seqK (some (.nx τ' h1)) f2 = f2 τ' h1 := rfl
@[simp] theorem seqK_rt : seqK (some (.rt d h1)) f2 = some (.rt d h1) := rfl
@[simp] theorem seqK_bk : seqK (some (.bk τ h1)) f2 = some (.bk τ h1) := rfl
@[simp] theorem seqK_ct : seqK (some (.ct τ h1)) f2 = some (.ct τ h1) := rfl
def ifSK (o : Option (Bool × AH)) (f1 f2 : SS) (τ : AT) : Option Res := o.bind fun p => if p.1 = true then f1 τ p.2 else f2 τ p.2
@[simp] theorem mIfS_eq : mIfS ft f1 f2 τ h = ifSK (ft τ h) f1 f2 τ := rfl
@[simp] theorem ifSK_some : ifSK (some (b, h1)) f1 f2 τ = if b = true then f1 τ h1 else f2 τ h1 := rfl
theorem toNat_inj : ∀ {a b : List Char}, a.map Char.toNat = b.map Char.toNat → a = b
  | [], [], _ => rfl
  | [], _ :: _, h => by cases h
  | _ :: _, [], h => by cases h
  | x :: r, y :: t, h => by
    rw [List.map_cons, List.map_cons] at h
    injection h with h1 h2
    rw [toNat_inj h2, Char.toNat_inj.mp h1]
@[simp] theorem ofString_iff {a b : String} : Str.ofString a = Str.ofString b ↔ a = b := by
  refine ⟨fun h => ?_, fun h => by rw [h]⟩
  rw [Str.ofString_eq_toList, Str.ofString_eq_toList] at h
  injection h with h
  exact String.toList_inj.mp (toNat_inj (by simpa using congrArg Array.toList h))
/-! an if within -/
variable {c : Prop} [Decidable c]
@[simp] theorem seqK_ite {o p : Option Res} : seqK (if c then o else p) f2 = if c then seqK o f2 else seqK p f2 := by split <;> rfl
@[simp] theorem retK_ite {o p : Option (LV × AH)} : retK (if c then o else p) = if c then retK o else retK p := by split <;> rfl
@[simp] theorem asgK_ite {o p : Option (LV × AH)} : asgK g (if c then o else p) τ = if c then asgK g o τ else asgK g p τ := by split <;> rfl
@[simp] theorem binK_ite {o p : Option (LV × AH)} : binK (if c then o else p) op fb τ = if c then binK o op fb τ else binK p op fb τ := by split <;> rfl
@[simp] theorem binK2_ite {o p : Option (LV × AH)} : binK2 (if c then o else p) op x = if c then binK2 o op x else binK2 p op x := by split <;> rfl
@[simp] theorem ifSK_ite {o p : Option (Bool × AH)} : ifSK (if c then o else p) f1 f2 τ = if c then ifSK o f1 f2 τ else ifSK p f1 f2 τ := by split <;> rfl
@[simp] theorem ifK_ite {o p : Option (Bool × AH)} : ifK (if c then o else p) fa fb τ = if c then ifK o fa fb τ else ifK p fa fb τ := by split <;> rfl
@[simp] theorem notK_ite {o p : Option (Bool × AH)} : notK (if c then o else p) = if c then notK o else notK p := by split <;> rfl
@[simp] theorem andK_ite {o p : Option (Bool × AH)} : andK (if c then o else p) fu τ = if c then andK o fu τ else andK p fu τ := by split <;> rfl
@[simp] theorem orK_ite {o p : Option (Bool × AH)} : orK (if c then o else p) fu τ = if c then orK o fu τ else orK p fu τ := by split <;> rfl
@[simp] theorem consK_ite {o p : Option (LV × AH)} : consK (if c then o else p) fr τ = if c then consK o fr τ else consK p fr τ := by split <;> rfl
@[simp] theorem consK2_ite {o p : Option (List LV × AH)} : consK2 (if c then o else p) x = if c then consK2 o x else consK2 p x := by split <;> rfl
@[simp] theorem callK_ite {o p : Option (List LV × AH)} : callK F (if c then o else p) = if c then callK F o else callK F p := by split <;> rfl
@[simp] theorem fnK_ite {o p : Option (List LV × AH)} : fnK oN (if c then o else p) = if c then fnK oN o else fnK oN p := by split <;> rfl
@[simp] theorem tupK_ite {o p : Option (List LV × AH)} : tupK (if c then o else p) = if c then tupK o else tupK p := by split <;> rfl
@[simp] theorem lstK_ite {o p : Option (List LV × AH)} : lstK (if c then o else p) = if c then lstK o else lstK p := by split <;> rfl
@[simp] theorem exprK_ite {o p : Option (LV × AH)} : exprK (if c then o else p) τ = if c then exprK o τ else exprK p τ := by split <;> rfl
@[simp] theorem bK_ite {o p : Option (LV × AH)} : bK (if c then o else p) = if c then bK o else bK p := by split <;> rfl
@[simp] theorem valK_ite {o p : Option (D × AH)} : valK (if c then o else p) = if c then valK o else valK p := by split <;> rfl
/-! operators -/
variable {k l : Int} {s t : Str}
@[simp] theorem oAdd_int : oAdd (.val (.int k)) (.val (.int l)) h = some (.val (.int (k + l)), h) := rfl
@[simp] theorem oAdd_str : oAdd (.val (.str s)) (.val (.str t)) h = if s.length + t.length ≤ 16777216 then some (.val (.str (s ++ t)), h) else none := rfl
@[simp] theorem oAdd_tup {es : List D} : oAdd (.val (.tup ds)) (.val (.tup es)) h = if ds.length + es.length ≤ 16777216 then some (.val (.tup (ds ++ es)), h) else none := rfl
def catK (o p : Option (List D)) (h : AH) : Option (LV × AH) := o.bind fun xs => p.bind fun ys => if xs.length + ys.length ≤ 16777216 then some (.new (xs ++ ys), h) else none
@[simp] theorem catK_some {es : List D} : catK (some ds) (some es) h = if ds.length + es.length ≤ 16777216 then some (.new (ds ++ es), h) else none := rfl
@[simp] theorem oAdd_nn {es : List D} : oAdd (.new ds) (.new es) h = if ds.length + es.length ≤ 16777216 then some (.new (ds ++ es), h) else none := rfl
@[simp] theorem oAdd_nr {a : Nat} : oAdd (.new ds) (.val (.ref a)) h = catK (some ds) (asM (.val (.ref a)) h) h := rfl
@[simp] theorem oAdd_rn {a : Nat} {es : List D} : oAdd (.val (.ref a)) (.new es) h = catK (asM (.val (.ref a)) h) (some es) h := rfl
@[simp] theorem oAdd_rr {a a' : Nat} : oAdd (.val (.ref a)) (.val (.ref a')) h = catK (asM (.val (.ref a)) h) (asM (.val (.ref a')) h) h := rfl
def lsK (o : Option O) : Option (List D) := match o with
  | some (.lst ds) => some ds
  | _ => none
@[simp] theorem lsK_some : lsK (some (.lst ds)) = some ds := rfl
@[simp] theorem asM_new : asM (.new ds) h = some ds := rfl
@[simp] theorem asM_ref {a : Nat} : asM (.val (.ref a)) h = lsK h[a]? := rfl
@[simp] theorem asL_new : asL (.new ds) h = some ds := rfl
@[simp] theorem asL_ref {a : Nat} : asL (.val (.ref a)) h = lsK h[a]? := rfl
@[simp] theorem asL_fl : asL (.val (.fl ds)) h = some ds := rfl
@[simp] theorem asQ_new : asQ (.new ds) h = some ds := rfl
@[simp] theorem asQ_ref {a : Nat} : asQ (.val (.ref a)) h = lsK h[a]? := rfl
@[simp] theorem asQ_fl : asQ (.val (.fl ds)) h = some ds := rfl
@[simp] theorem asQ_tup : asQ (.val (.tup ds)) h = some ds := rfl
@[simp] theorem asQ_zt : asQ (.val (.zt ds)) h = some ds := rfl
@[simp] theorem oSub_int : oSub (.val (.int k)) (.val (.int l)) h = some (.val (.int (k - l)), h) := rfl
@[simp] theorem oLt_int : oLt (.val (.int k)) (.val (.int l)) h = some (.val (.bl (decide (k < l))), h) := rfl
@[simp] theorem oLe_int : oLe (.val (.int k)) (.val (.int l)) h = some (.val (.bl (decide (k ≤ l))), h) := rfl
@[simp] theorem oGt_int : oGt (.val (.int k)) (.val (.int l)) h = some (.val (.bl (decide (l < k))), h) := rfl
@[simp] theorem oGe_int : oGe (.val (.int k)) (.val (.int l)) h = some (.val (.bl (decide (l ≤ k))), h) := rfl
@[simp] theorem oNeg_int : oNeg (.val (.int k)) h = some (.val (.int (-k)), h) := rfl
theorem oMul_int : oMul (.val (.int k)) (.val (.int l)) h = if mulC k l = true then some (.val (.int (k * l)), h) else none := rfl
theorem oMul_ok (c : mulC k l = true) : oMul (.val (.int k)) (.val (.int l)) h = some (.val (.int (k * l)), h) := by rw [oMul_int, if_pos c]
theorem mulC_left (h1 : -18446744073709551616 < k) (h2 : k < 18446744073709551616) : mulC k l = true := by unfold mulC; rw [decide_eq_true (show k.natAbs < 18446744073709551616 by omega)]; rfl
theorem mulC_right (h1 : -18446744073709551616 < l) (h2 : l < 18446744073709551616) : mulC k l = true := by unfold mulC; rw [decide_eq_true (show l.natAbs < 18446744073709551616 by omega)]; simp
@[simp] theorem oMul_left (h1 : -18446744073709551616 < k) (h2 : k < 18446744073709551616) : oMul (.val (.int k)) (.val (.int l)) h = some (.val (.int (k * l)), h) := oMul_ok (mulC_left h1 h2)
@[simp] theorem oMul_right (h1 : -18446744073709551616 < l) (h2 : l < 18446744073709551616) : oMul (.val (.int k)) (.val (.int l)) h = some (.val (.int (k * l)), h) := oMul_ok (mulC_right h1 h2)
@[simp] theorem oPow_lit (c1 : 0 ≤ l) (c2 : l ≤ 1000000) (c3 : k.natAbs < 18446744073709551616) : oPow (.val (.int k)) (.val (.int l)) h = some (.val (.int (k ^ l.toNat)), h) := by
  show (if (decide (0 ≤ l) && decide (l ≤ 1000000) && decide (k.natAbs < 18446744073709551616)) = true then _ else _) = _
  rw [decide_eq_true c1, decide_eq_true c2, decide_eq_true c3]
  rfl
@[simp] theorem oDiv_int (h1 : l ≠ 0) (h2 : l.natAbs < 1073741824) : oDiv (.val (.int k)) (.val (.int l)) h = some (.val (.int (k.fdiv l)), h) := by
  show (if (decide (l ≠ 0) && decide (l.natAbs < 1073741824)) = true then _ else _) = _
  rw [decide_eq_true h1, decide_eq_true h2]
  rfl
@[simp] theorem oMod_int (h1 : l ≠ 0) : oMod (.val (.int k)) (.val (.int l)) h = some (.val (.int (k.fmod l)), h) := by
  show (if (decide (l ≠ 0)) = true then _ else _) = _
  rw [decide_eq_true h1]
  rfl
@[simp] theorem oEq_str : oEq (.val (.str s)) (.val (.str t)) h = some (.val (.bl (decide (s = t))), h) := rfl
@[simp] theorem oEq_bl {a b : Bool} : oEq (.val (.bl a)) (.val (.bl b)) h = some (.val (.bl (decide (a = b))), h) := rfl
@[simp] theorem oEq_int : oEq (.val (.int k)) (.val (.int l)) h = some (.val (.bl (decide (k = l))), h) := by
  show (if okEq (.int k) (.int l) = true then some (LV.val (.bl (decide (D.int k = .int l))), h) else none) = _
  rw [if_pos (by rfl)]
  have : decide (D.int k = .int l) = decide (k = l) := by rw [Bool.eq_iff_iff]; simp
  rw [this]
@[simp] theorem oNe_str : oNe (.val (.str s)) (.val (.str t)) h = some (.val (.bl (!decide (s = t))), h) := rfl
@[simp] theorem oNe_int : oNe (.val (.int k)) (.val (.int l)) h = some (.val (.bl (!decide (k = l))), h) := by
  show (if okEq (.int k) (.int l) = true then some (LV.val (.bl (!decide (D.int k = .int l))), h) else none) = _
  rw [if_pos (by rfl)]
  have : decide (D.int k = .int l) = decide (k = l) := by rw [Bool.eq_iff_iff]; simp
  rw [this]
theorem oEq_dat (c : okEq (dat x h) (dat y h) = true) (n1 : ∀ s t, x = .val (.str s) → y ≠ .val (.str t)) (n2 : ∀ a b, x = .val (.bl a) → y ≠ .val (.bl b)) : oEq x y h = some (.val (.bl (decide (dat x h = dat y h))), h) := by
  unfold oEq eqC
  split
  · exact absurd rfl (n1 _ _ rfl)
  · exact absurd rfl (n2 _ _ rfl)
  · rw [if_pos c]; rfl
theorem oNe_dat (c : okEq (dat x h) (dat y h) = true) (n1 : ∀ s t, x = .val (.str s) → y ≠ .val (.str t)) (n2 : ∀ a b, x = .val (.bl a) → y ≠ .val (.bl b)) : oNe x y h = some (.val (.bl (!decide (dat x h = dat y h))), h) := by
  unfold oNe eqC
  split
  · exact absurd rfl (n1 _ _ rfl)
  · exact absurd rfl (n2 _ _ rfl)
  · rw [if_pos c]; rfl
@[simp] theorem oIs_eq : oIs x (.val .non) h = some (.val (.bl (isN x)), h) := by cases x <;> rfl
@[simp] theorem oIsNot_eq : oIsNot x (.val .non) h = some (.val (.bl (!isN x)), h) := by cases x <;> rfl
@[simp] theorem isN_non : isN (.val .non) = true := rfl
@[simp] theorem isN_int : isN (.val (.int k)) = false := rfl
@[simp] theorem isN_str : isN (.val (.str s)) = false := rfl
@[simp] theorem isN_tup : isN (.val (.tup ds)) = false := rfl
@[simp] theorem isN_bl {a : Bool} : isN (.val (.bl a)) = false := rfl
@[simp] theorem isN_ref {a : Nat} : isN (.val (.ref a)) = false := rfl
@[simp] theorem isN_new : isN (.new ds) = false := rfl
def inK (neg : Bool) (d : D) (o : Option (List D)) (h : AH) : Option (LV × AH) := o.bind fun ds => if (d.flat && ds.all D.flat) = true then some (.val (.bl (if neg then !ds.contains d else ds.contains d)), h) else none
@[simp] theorem oIn_eq : oIn (.val d) q h = inK false d (asQ q h) h := rfl
@[simp] theorem oNotIn_eq : oNotIn (.val d) q h = inK true d (asQ q h) h := rfl
theorem inK_some {neg : Bool} (c : (d.flat && ds.all D.flat) = true) : inK neg d (some ds) h = some (.val (.bl (if neg then !ds.contains d else ds.contains d)), h) := if_pos c
def ixK (o : Option (List D)) (k : Int) (h : AH) : Option (LV × AH) := o.bind fun ds => (L2.atI ds k).bind fun d => some (.val d, h)
def ixK2 (o : Option D) (h : AH) : Option (LV × AH) := o.bind fun d => some (.val d, h)
@[simp] theorem oIx_tup : oIx (.val (.tup ds)) (.val (.int k)) h = ixK2 (L2.atI ds k) h := rfl
@[simp] theorem oIx_zt : oIx (.val (.zt ds)) (.val (.int k)) h = ixK2 (L2.atI ds k) h := rfl
@[simp] theorem oIx_fl : oIx (.val (.fl ds)) (.val (.int k)) h = ixK2 (L2.atI ds k) h := rfl
@[simp] theorem oIx_new : oIx (.new ds) (.val (.int k)) h = ixK2 (L2.atI ds k) h := rfl
@[simp] theorem oIx_ref {a : Nat} : oIx (.val (.ref a)) (.val (.int k)) h = ixK (lsK h[a]?) k h := rfl
@[simp] theorem ixK_some : ixK (some ds) k h = ixK2 (L2.atI ds k) h := rfl
@[simp] theorem ixK2_some : ixK2 (some d) h = some (.val d, h) := rfl
def strIxK (o : Option Nat) (h : AH) : Option (LV × AH) := o.bind fun c => some (.val (.str ⟨#[c]⟩), h)
@[simp] theorem oIx_str : oIx (.val (.str s)) (.val (.int k)) h = if s.length ≤ 16777216 then strIxK (L2.atI s.cps.toList k) h else none := rfl
@[simp] theorem strIxK_some {c : Nat} : strIxK (some c) h = some (.val (.str ⟨#[c]⟩), h) := rfl
@[simp] theorem atI_0 {α : Type} {a : α} {l : List α} : L2.atI (a :: l) 0 = some a := by
  unfold L2.atI L2.ixN
  simp
@[simp] theorem atI_pos {α : Type} {l : List α} {k : Int} (h0 : 0 ≤ k) : L2.atI l k = l[k.toNat]? := by
  unfold L2.atI L2.ixN
  rw [if_pos h0]
  by_cases hk : k < l.length
  · rw [if_pos hk]; rfl
  · rw [if_neg hk, List.getElem?_eq_none (by omega)]; rfl
theorem atI_cast {α : Type} {l : List α} (n : Nat) : L2.atI l (n : Int) = l[n]? := by
  rw [atI_pos (by omega)]
  rfl
theorem atI_m1 {α : Type} {l : List α} : L2.atI l (-1) = l.getLast? := by
  rw [List.getLast?_eq_getElem?]
  unfold L2.atI L2.ixN
  rw [if_neg (by decide)]
  cases l with
  | nil => rfl
  | cons a r =>
    rw [if_pos (by simp; omega)]
    show (a :: r)[(-1 + ((a :: r).length : Int)).toNat]? = _
    congr 1
    rw [List.length_cons]
    omega
def setK (o : Option O) (a : Nat) (k : Int) (d : D) (h : AH) : Option AH := match o with
  | some (.lst xs) => (ixN xs.length k).bind fun j => some (h.set a (.lst (xs.set j d)))
  | _ => none
@[simp] theorem setD_eq {a : Nat} : setD (.val (.ref a)) (.val (.int k)) d h = setK h[a]? a k d h := rfl
@[simp] theorem setK_some {a : Nat} (h0 : 0 ≤ k) (h1 : k < ds.length) : setK (some (.lst ds)) a k d h = some (h.set a (.lst (ds.set k.toNat d))) := by
  unfold setK ixN
  dsimp only
  rw [if_pos h0, if_pos h1]
  rfl
/-! functions -/
def lenK (o : Option (List D)) (h : AH) : Option (LV × AH) := o.bind fun ds => some (.val (.int ds.length), h)
@[simp] theorem lenK_some : lenK (some ds) h = some (.val (.int ds.length), h) := rfl
@[simp] theorem oLen_str : oLen [.val (.str s)] h = if s.length ≤ 16777216 then some (.val (.int s.length), h) else none := rfl
@[simp] theorem oLen_tup : oLen [.val (.tup ds)] h = some (.val (.int ds.length), h) := rfl
@[simp] theorem oLen_fl : oLen [.val (.fl ds)] h = some (.val (.int ds.length), h) := rfl
@[simp] theorem oLen_new : oLen [.new ds] h = some (.val (.int ds.length), h) := rfl
@[simp] theorem oLen_ref {a : Nat} : oLen [.val (.ref a)] h = lenK (lsK h[a]?) h := rfl
@[simp] theorem oInt_int : oInt [.val (.int k)] h = some (.val (.int k), h) := rfl
@[simp] theorem oInt_bl {a : Bool} : oInt [.val (.bl a)] h = some (.val (.int (if a then 1 else 0)), h) := rfl
def toTupK (o : Option (List D)) (h : AH) : Option (LV × AH) := o.bind fun ds => some (.val (.tup ds), h)
@[simp] theorem toTupK_some : toTupK (some ds) h = some (.val (.tup ds), h) := rfl
@[simp] theorem oTuple_tup : oTuple [.val (.tup ds)] h = some (.val (.tup ds), h) := rfl
@[simp] theorem oTuple_new : oTuple [.new ds] h = some (.val (.tup ds), h) := rfl
@[simp] theorem oTuple_fl : oTuple [.val (.fl ds)] h = some (.val (.tup ds), h) := rfl
@[simp] theorem oTuple_ref {a : Nat} : oTuple [.val (.ref a)] h = toTupK (lsK h[a]?) h := rfl
def toLstK (o : Option (List D)) (h : AH) : Option (LV × AH) := o.bind fun ds => if ds.length ≤ 16777216 then some (.new ds, h) else none
@[simp] theorem toLstK_some : toLstK (some ds) h = if ds.length ≤ 16777216 then some (.new ds, h) else none := rfl
@[simp] theorem oList_eq : oList [q] h = toLstK (asQ q h) h := rfl
def appK (o : Option O) (a : Nat) (d : D) (h : AH) : Option (LV × AH) := match o with
  | some (.lst ds) => if ds.length < 16777216 then some (.val .non, h.set a (.lst (ds ++ [d]))) else none
  | _ => none
@[simp] theorem oApp_eq {a : Nat} : oApp (.val (.ref a)) (.val d) h = appK h[a]? a d h := rfl
@[simp] theorem appK_some {a : Nat} : appK (some (.lst ds)) a d h = if ds.length < 16777216 then some (.val .non, h.set a (.lst (ds ++ [d]))) else none := rfl
def methK (chk : LV → AH → Bool) (op : Op2) (o : Option (LV × AH)) (fa : SE) (τ : AT) : Option (LV × AH) := o.bind fun p => if chk p.1 p.2 = true then (fa τ p.2).bind fun q => op p.1 q.1 q.2 else none
@[simp] theorem mMeth_eq {chk : LV → AH → Bool} : mMeth chk op fa fb τ h = methK chk op (fa τ h) fb τ := rfl
@[simp] theorem methK_some {chk : LV → AH → Bool} : methK chk op (some (x, h1)) fb τ = if chk x h1 = true then binK2 (fb τ h1) op x else none := rfl
@[simp] theorem isLs_eq : isLs q h = (asL q h).isSome := rfl
@[simp] theorem mIdx_eq : mIdx fa fb τ h = methK (fun q h => isTp q h || isLs q h) oIdx (fa τ h) fb τ := rfl
@[simp] theorem isTp_tup : isTp (.val (.tup ds)) h = true := rfl
@[simp] theorem isTp_ref {a : Nat} : isTp (.val (.ref a)) h = false := rfl
def idxK (o : Option (List D)) (d : D) (h : AH) : Option (LV × AH) := o.bind fun ds => if (d.flat && ds.all D.flat) = true then (idxD d ds).bind fun j => some (.val (.int (j : Nat)), h) else none
@[simp] theorem oIdx_eq : oIdx q (.val d) h = idxK (asQ q h) d h := rfl
theorem idxK_some {j : Nat} (c : (d.flat && ds.all D.flat) = true) (e : idxD d ds = some j) : idxK (some ds) d h = some (.val (.int (j : Nat)), h) := by
  show (if (d.flat && ds.all D.flat) = true then _ else _) = _
  rw [if_pos c, e]
  rfl
def augK (o : Option (Option D)) (i : Nat) (op : Op2) (fa : SE) (τ : AT) (h : AH) : Option Res := match o with
  | some (some d) => (fa τ h).bind fun p => (op (.val d) p.1 p.2).bind fun q => some (.nx (τ.set i (some (lay q.1 q.2).1)) (lay q.1 q.2).2)
  | _ => none
def augK2 (o : Option (LV × AH)) (d : D) (i : Nat) (op : Op2) (τ : AT) : Option Res := o.bind fun p => (op (.val d) p.1 p.2).bind fun q => some (.nx (τ.set i (some (lay q.1 q.2).1)) (lay q.1 q.2).2)
def augK3 (o : Option (LV × AH)) (i : Nat) (τ : AT) : Option Res := o.bind fun q => some (.nx (τ.set i (some (lay q.1 q.2).1)) (lay q.1 q.2).2)
@[simp] theorem mAug_eq : mAug i op fa τ h = augK τ[i]? i op fa τ h := rfl
@[simp] theorem augK_some : augK (some (some d)) i op fa τ h = augK2 (fa τ h) d i op τ := rfl
@[simp] theorem augK2_some : augK2 (some (x, h1)) d i op τ = augK3 (op (.val d) x h1) i τ := rfl
@[simp] theorem augK3_some : augK3 (some (x, h1)) i τ = some (.nx (τ.set i (some (lay x h1).1)) (lay x h1).2) := rfl
@[simp] theorem oIAdd_int : oIAdd (.val (.int k)) (.val (.int l)) h = some (.val (.int (k + l)), h) := rfl
def iaddK (o : Option O) (p : Option (List D)) (a : Nat) (h : AH) : Option (LV × AH) := match o with
  | some (.lst xs) => p.bind fun ys => if xs.length + ys.length ≤ 16777216 then some (.val (.ref a), h.set a (.lst (xs ++ ys))) else none
  | _ => none
@[simp] theorem oIAdd_ref {a : Nat} : oIAdd (.val (.ref a)) q h = iaddK h[a]? (asM q h) a h := by cases q <;> rfl
@[simp] theorem iaddK_some {a : Nat} {es : List D} : iaddK (some (.lst ds)) (some es) a h = if ds.length + es.length ≤ 16777216 then some (.val (.ref a), h.set a (.lst (ds ++ es))) else none := rfl
/-! what is walked -/
def iterK (o : Option (LV × AH)) : Option (ItD × AH) := o.bind fun p => (iterOf p.1 p.2).bind fun it => some (it, p.2)
def iterK2 (o : Option ItD) (h : AH) : Option (ItD × AH) := o.bind fun it => some (it, h)
@[simp] theorem mIter_eq : mIter fa τ h = iterK (fa τ h) := rfl
@[simp] theorem iterK_some : iterK (some (x, h1)) = iterK2 (iterOf x h1) h1 := rfl
@[simp] theorem iterK2_some {it : ItD} : iterK2 (some it) h1 = some (it, h1) := id rfl
@[simp] theorem iterOf_new : iterOf (.new ds) h = some ⟨ds, []⟩ := rfl
@[simp] theorem iterOf_tup : iterOf (.val (.tup ds)) h = some ⟨ds, []⟩ := rfl
@[simp] theorem iterOf_fl : iterOf (.val (.fl ds)) h = some ⟨ds, []⟩ := rfl
def iterRK (o : Option O) (a : Nat) : Option ItD := match o with
  | some (.lst ds) => some ⟨ds, [(a, ds)]⟩
  | _ => none
@[simp] theorem iterOf_ref {a : Nat} : iterOf (.val (.ref a)) h = iterRK h[a]? a := rfl
@[simp] theorem iterRK_some {a : Nat} : iterRK (some (.lst ds)) a = some ⟨ds, [(a, ds)]⟩ := rfl
def rng1K (o : Option (List LV × AH)) : Option (ItD × AH) := o.bind fun p => (rng1 p.1).bind fun it => some (it, p.2)
def rng2K (o : Option (List LV × AH)) : Option (ItD × AH) := o.bind fun p => (rng2 p.1).bind fun it => some (it, p.2)
@[simp] theorem mRng1_eq : mRng1 fr τ h = rng1K (fr τ h) := id rfl
@[simp] theorem mRng2_eq : mRng2 fr τ h = rng2K (fr τ h) := id rfl
@[simp] theorem rng1K_some : rng1K (some (qs, h1)) = iterK2 (rng1 qs) h1 := id rfl
@[simp] theorem rng2K_some : rng2K (some (qs, h1)) = iterK2 (rng2 qs) h1 := id rfl
@[simp] theorem rng1_int (c1 : -4611686018427387904 < k) (c2 : k < 4611686018427387904) : rng1 [.val (.int k)] = some ⟨rngD 0 k.toNat, []⟩ := if_pos (by omega)
@[simp] theorem rng2_int (c1 : -4611686018427387904 < k) (c2 : k < 4611686018427387904) (c3 : -4611686018427387904 < l) (c4 : l < 4611686018427387904) : rng2 [.val (.int k), .val (.int l)] = some ⟨rngD k (l - k).toNat, []⟩ := if_pos (by omega)
def zipK (o : Option (List LV × AH)) : Option (ItD × AH) := o.bind fun p => (zipOf p.1 p.2).bind fun it => some (it, p.2)
@[simp] theorem mZip_eq : mZip fr τ h = zipK (fr τ h) := rfl
@[simp] theorem zipK_some : zipK (some (qs, h1)) = iterK2 (zipOf qs h1) h1 := rfl
def zip2K (o p : Option ItD) : Option ItD := o.bind fun a => p.bind fun b => some ⟨zipD a.items b.items, a.grd ++ b.grd⟩
@[simp] theorem zipOf_eq : zipOf [x, y] h = zip2K (iterOf x h) (iterOf y h) := rfl
@[simp] theorem zip2K_some {a b : ItD} : zip2K (some a) (some b) = some ⟨zipD a.items b.items, a.grd ++ b.grd⟩ := rfl
def forK (o : Option (ItD × AH)) (g : SG) (f : SS) (τ : AT) : Option Res := o.bind fun p => forL p.1.grd g f p.1.items τ p.2
@[simp] theorem mFor_eq : mFor fi g f τ h = forK (fi τ h) g f τ := rfl
@[simp] theorem forK_some {it : ItD} : forK (some (it, h1)) g f τ = forL it.grd g f it.items τ h1 := rfl
def compK (o : Option (ItD × AH)) (g : SG) (ft : ST) (fe : SE) (vs : List Nat) (τ : AT) : Option (LV × AH) := o.bind fun p => (compL p.1.grd g ft fe (wipeA τ vs) p.1.items p.2).bind fun z =>
  if z.1.length ≤ 16777216 then some (.new z.1, z.2) else none
def compK2 (o : Option (List D × AH)) : Option (LV × AH) := o.bind fun z => if z.1.length ≤ 16777216 then some (.new z.1, z.2) else none
@[simp] theorem mComp_eq : mComp fi g ft fe vs τ h = compK (fi τ h) g ft fe vs τ := rfl
@[simp] theorem compK_some {it : ItD} : compK (some (it, h1)) g ft fe vs τ = compK2 (compL it.grd g ft fe (wipeA τ vs) it.items h1) := rfl
@[simp] theorem compK2_some : compK2 (some (ds, h1)) = if ds.length ≤ 16777216 then some (.new ds, h1) else none := rfl
@[simp] theorem mYes_eq : mYes τ h = some (true, h) := rfl
@[simp] theorem wipeA_nil : wipeA τ [] = τ := rfl
@[simp] theorem wipeA_cons : wipeA τ (i :: vs) = (wipeA τ vs).set i none := rfl
@[simp] theorem grdOk_nil : grdOk [] h = true := rfl
@[simp] theorem grdOk_cons {a : Nat} : grdOk ((a, ds) :: grd) h = (decide (h[a]? = some (.lst ds)) && grdOk grd h) := rfl
def tupRgK (o : Option (Int × Int × AH)) : Option (LV × AH) := o.bind fun p => if rgOkB p.1 p.2.1 = true then some (.val (.tup (rngD p.1 (p.2.1 - p.1).toNat)), p.2.2) else none
def rgK (o : Option (List LV × AH)) : Option (Int × Int × AH) := o.bind fun p => match p.1 with
  | [.val (.int n)] => some (0, n, p.2)
  | [.val (.int i), .val (.int j)] => some (i, j, p.2)
  | _ => none
@[simp] theorem mTupRg_eq : mTupRg fr τ h = tupRgK (rgK (fr τ h)) := rfl
@[simp] theorem rgK_1 : rgK (some ([.val (.int k)], h1)) = some (0, k, h1) := rfl
@[simp] theorem rgK_2 : rgK (some ([.val (.int k), .val (.int l)], h1)) = some (k, l, h1) := rfl
@[simp] theorem tupRgK_some (c : rgOkB k l = true) : tupRgK (some (k, l, h1)) = some (.val (.tup (rngD k (l - k).toNat)), h1) := if_pos c
/-! slices -/
def slK (o : Option (LV × AH)) (fl fu : SO) (τ : AT) : Option (LV × AH) := o.bind fun p => (fl τ p.2).bind fun l => (fu τ l.2).bind fun u => oSl p.1 l.1 u.1 u.2
def slK2 (o : Option (Option Int × AH)) (x : LV) (fu : SO) (τ : AT) : Option (LV × AH) := o.bind fun l => (fu τ l.2).bind fun u => oSl x l.1 u.1 u.2
def slK3 (o : Option (Option Int × AH)) (x : LV) (lo : Option Int) : Option (LV × AH) := o.bind fun u => oSl x lo u.1 u.2
@[simp] theorem mSl_eq {fl fu : SO} : mSl fa fl fu τ h = slK (fa τ h) fl fu τ := rfl
@[simp] theorem slK_some {fl fu : SO} : slK (some (x, h1)) fl fu τ = slK2 (fl τ h1) x fu τ := rfl
@[simp] theorem slK2_some {fu : SO} {lo : Option Int} : slK2 (some (lo, h1)) x fu τ = slK3 (fu τ h1) x lo := rfl
@[simp] theorem slK3_some {lo hi : Option Int} : slK3 (some (hi, h1)) x lo = oSl x lo hi h1 := rfl
@[simp] theorem mNoP_eq : mNoP τ h = some (none, h) := rfl
def partK (o : Option (LV × AH)) : Option (Option Int × AH) := o.bind fun p => match p.1 with
  | .val (.int i) => some (some i, p.2)
  | _ => none
@[simp] theorem mPart_eq : mPart fa τ h = partK (fa τ h) := rfl
@[simp] theorem partK_some : partK (some (.val (.int k), h1)) = some (some k, h1) := rfl
@[simp] theorem oSl_tup {lo hi : Option Int} : oSl (.val (.tup ds)) lo hi h = some (.val (.tup (cutA ds lo hi)), h) := rfl
def slLK (o : Option (List D)) (lo hi : Option Int) (h : AH) : Option (LV × AH) := o.bind fun ds => if ds.length ≤ 16777216 then some (.new (cutA ds lo hi), h) else none
@[simp] theorem oSl_new {lo hi : Option Int} : oSl (.new ds) lo hi h = slLK (some ds) lo hi h := rfl
@[simp] theorem oSl_fl {lo hi : Option Int} : oSl (.val (.fl ds)) lo hi h = slLK (some ds) lo hi h := rfl
@[simp] theorem oSl_ref {lo hi : Option Int} {a : Nat} : oSl (.val (.ref a)) lo hi h = slLK (lsK h[a]?) lo hi h := rfl
@[simp] theorem slLK_some {lo hi : Option Int} : slLK (some ds) lo hi h = if ds.length ≤ 16777216 then some (.new (cutA ds lo hi), h) else none := rfl
/-! defs -/
def defK (o : Option Res) (h : AH) : Option (D × AH) := o.bind fun r => match r with
  | .nx _ h' => some (gc h .non h')
  | .rt d h' => some (gc h d h')
  | _ => none
theorem runDef_eq {ds : List D} (e : ds.length = n) : runDef n nn f ds h = defK (f (ds.map some ++ List.replicate (nn - n) none) h) h := by
  unfold runDef defK
  rw [if_pos e]
  all_goals (cases f (ds.map some ++ List.replicate (nn - n) none) h with
    | none => rfl
    | some r => cases r <;> rfl)
theorem runDef_if {ds : List D} : runDef n nn f ds h = if ds.length = n then defK (f (ds.map some ++ List.replicate (nn - n) none) h) h else none := by
  by_cases e : ds.length = n
  · rw [if_pos e, runDef_eq e]
  · rw [if_neg e]
    unfold runDef
    rw [if_neg e]
@[simp] theorem defK_nx : defK (some (.nx τ h1)) h = some (gc h .non h1) := rfl
@[simp] theorem defK_rt : defK (some (.rt d h1)) h = some (gc h d h1) := rfl
@[simp] theorem defK_ite {o p : Option Res} : defK (if c then o else p) h = if c then defK o h else defK p h := by split <;> rfl
end
end Sm
namespace Sm
open PySem PySem.Spec PyProof.Rows L2
section
variable {τ τ' : AT} {h h' h1 h2 : AH} {fa fb fc fe : SE} {fr : SA} {ft fu : ST} {op op' : Op2} {o1 : Op1} {oN : OpN} {x y q : LV} {d : D} {ds : List D} {qs : List LV} {b : Bool} {i j n nn : Nat} {k l : Int}
def chK (o : Option (LV × AH)) (op op' : Op2) (fb fc : SE) (τ : AT) : Option (LV × AH) := o.bind fun p => (fb τ p.2).bind fun q => (op p.1 q.1 q.2).bind fun r => match r.1 with
  | .val (.bl true) => (fc τ r.2).bind fun s => op' q.1 s.1 s.2
  | .val (.bl false) => some (.val (.bl false), r.2)
  | _ => none
def chK2 (o : Option (LV × AH)) (op op' : Op2) (x : LV) (fc : SE) (τ : AT) : Option (LV × AH) := o.bind fun q => (op x q.1 q.2).bind fun r => match r.1 with
  | .val (.bl true) => (fc τ r.2).bind fun s => op' q.1 s.1 s.2
  | .val (.bl false) => some (.val (.bl false), r.2)
  | _ => none
def chK3 (o : Option (LV × AH)) (op' : Op2) (y : LV) (fc : SE) (τ : AT) : Option (LV × AH) := o.bind fun r => match r.1 with
  | .val (.bl true) => (fc τ r.2).bind fun s => op' y s.1 s.2
  | .val (.bl false) => some (.val (.bl false), r.2)
  | _ => none
@[simp] theorem mChain_eq : mChain op op' fa fb fc τ h = chK (fa τ h) op op' fb fc τ := rfl
@[simp] theorem chK_some : chK (some (x, h1)) op op' fb fc τ = chK2 (fb τ h1) op op' x fc τ := rfl
@[simp] theorem chK2_some : chK2 (some (y, h1)) op op' x fc τ = chK3 (op x y h1) op' y fc τ := rfl
@[simp] theorem chK3_some : chK3 (some (.val (.bl b), h1)) op' y fc τ = if b = true then binK2 (fc τ h1) op' y else some (.val (.bl false), h1) := by cases b <;> rfl
def truK (o : Option (List D)) : Option Bool := o.map fun ds => !ds.isEmpty
@[simp] theorem truK_some : truK (some ds) = some (!ds.isEmpty) := rfl
@[simp] theorem tru_non : tru (.val .non) h = some false := rfl
@[simp] theorem tru_bl : tru (.val (.bl b)) h = some b := rfl
@[simp] theorem tru_int : tru (.val (.int k)) h = some (k != 0) := rfl
@[simp] theorem tru_tup : tru (.val (.tup ds)) h = some (!ds.isEmpty) := rfl
@[simp] theorem tru_zt : tru (.val (.zt ds)) h = some (!ds.isEmpty) := rfl
@[simp] theorem tru_fl : tru (.val (.fl ds)) h = some (!ds.isEmpty) := rfl
@[simp] theorem tru_new : tru (.new ds) h = some (!ds.isEmpty) := rfl
@[simp] theorem tru_ref {a : Nat} : tru (.val (.ref a)) h = truK (lsK h[a]?) := rfl
def trK (o : Option (LV × AH)) : Option (Bool × AH) := o.bind fun p => (tru p.1 p.2).bind fun k => some (k, p.2)
def trK2 (o : Option Bool) (h : AH) : Option (Bool × AH) := o.bind fun k => some (k, h)
@[simp] theorem mTr_eq : mTr fa τ h = trK (fa τ h) := rfl
@[simp] theorem trK_some : trK (some (x, h1)) = trK2 (tru x h1) h1 := rfl
@[simp] theorem trK2_some : trK2 (some b) h1 = some (b, h1) := rfl
def orXK (o : Option (LV × AH)) (fb : SE) (τ : AT) : Option (LV × AH) := o.bind fun p => (tru p.1 p.2).bind fun k => if k = true then some p else fb τ p.2
def orXK2 (o : Option Bool) (x : LV) (h : AH) (fb : SE) (τ : AT) : Option (LV × AH) := o.bind fun k => if k = true then some (x, h) else fb τ h
def andXK (o : Option (LV × AH)) (fb : SE) (τ : AT) : Option (LV × AH) := o.bind fun p => (tru p.1 p.2).bind fun k => if k = true then fb τ p.2 else some p
def andXK2 (o : Option Bool) (x : LV) (h : AH) (fb : SE) (τ : AT) : Option (LV × AH) := o.bind fun k => if k = true then fb τ h else some (x, h)
def notXK (o : Option (LV × AH)) : Option (LV × AH) := o.bind fun p => (tru p.1 p.2).bind fun k => some (.val (.bl (!k)), p.2)
def notXK2 (o : Option Bool) (h : AH) : Option (LV × AH) := o.bind fun k => some (.val (.bl (!k)), h)
@[simp] theorem mOrX_eq : mOrX fa fb τ h = orXK (fa τ h) fb τ := rfl
@[simp] theorem orXK_some : orXK (some (x, h1)) fb τ = orXK2 (tru x h1) x h1 fb τ := rfl
@[simp] theorem orXK2_some : orXK2 (some b) x h1 fb τ = if b = true then some (x, h1) else fb τ h1 := rfl
@[simp] theorem mAndX_eq : mAndX fa fb τ h = andXK (fa τ h) fb τ := rfl
@[simp] theorem andXK_some : andXK (some (x, h1)) fb τ = andXK2 (tru x h1) x h1 fb τ := rfl
@[simp] theorem andXK2_some : andXK2 (some b) x h1 fb τ = if b = true then fb τ h1 else some (x, h1) := rfl
@[simp] theorem mNotX_eq : mNotX fa τ h = notXK (fa τ h) := rfl
@[simp] theorem notXK_some : notXK (some (x, h1)) = notXK2 (tru x h1) h1 := rfl
@[simp] theorem notXK2_some : notXK2 (some b) h1 = some (.val (.bl (!b)), h1) := rfl
def enumK (o : Option (List LV × AH)) : Option (ItD × AH) := o.bind fun p => (enumOf p.1 p.2).bind fun it => some (it, p.2)
@[simp] theorem mEnum_eq : mEnum fr τ h = enumK (fr τ h) := rfl
@[simp] theorem enumK_some : enumK (some (qs, h1)) = iterK2 (enumOf qs h1) h1 := rfl
@[simp] theorem enumOf_tup : enumOf [.val (.tup ds)] h = some ⟨numD ds 0, []⟩ := rfl
@[simp] theorem oKd_str {ks : List Str} {neg : Bool} {z : Str} : oKd ks neg (.val (.str z)) h = some (.val (.bl (if neg then !ks.contains z else ks.contains z)), h) := id rfl
def parK (o : Option (List LV × AH)) (i j : Nat) (τ : AT) : Option Res := o.bind fun p => (plain p.1).bind fun ds => match ds with
  | [d, e] => some (.nx ((τ.set i (some d)).set j (some e)) p.2)
  | _ => none
@[simp] theorem mPar_eq : mPar i j fr τ h = parK (fr τ h) i j τ := rfl
@[simp] theorem parK_some {e : D} : parK (some ([.val d, .val e], h1)) i j τ = some (.nx ((τ.set i (some d)).set j (some e)) h1) := rfl
def gTK (o : Option O) (n : Nat) (gs : SGs) (τ : AT) (h : AH) : Option (AT × AH) := match o with
  | some (.lst ds) => if ds.length = n then gs ds τ h else none
  | _ => none
@[simp] theorem gT_ref {gs : SGs} {a : Nat} : gT n gs (.ref a) τ h = gTK h[a]? n gs τ h := id rfl
@[simp] theorem gT_fl {gs : SGs} : gT n gs (.fl ds) τ h = if ds.length = n then gs ds τ h else none := rfl
@[simp] theorem gTK_some {gs : SGs} : gTK (some (.lst ds)) n gs τ h = if ds.length = n then gs ds τ h else none := rfl
theorem oRepr_ok (c : okR (dat q h) = true) : oRepr [q] h = some (.val (.str (dat q h).toR.shown), h) := if_pos c
theorem oTMul_ok {xs : List D} (c : (!xs.isEmpty && decide (2 ≤ k) && decide (k ≤ 1000) && decide (xs.length ≤ 1000)) = true) : oTMul (.val (.tup xs)) (.val (.int k)) h = some (.val (.zt (List.replicate k.toNat xs).flatten), h) := if_pos c
theorem oNotInD_ok {ds : List D} (e : dat q h = .fl ds) (c : ((dat x h).nb && (D.fl ds).nb && decide ((dat x h).dep ≤ 64) && decide ((D.fl ds).dep ≤ 64)) = true) : oNotInD x q h = some (.val (.bl (!ds.contains (dat x h))), h) := by
  unfold oNotInD inDC
  rw [e]
  dsimp only
  rw [if_pos c]
  rfl
variable {c : Prop} [Decidable c]
@[simp] theorem trK_ite {o p : Option (LV × AH)} : trK (if c then o else p) = if c then trK o else trK p := by split <;> rfl
@[simp] theorem andXK_ite {o p : Option (LV × AH)} : andXK (if c then o else p) fb τ = if c then andXK o fb τ else andXK p fb τ := by split <;> rfl
@[simp] theorem orXK_ite {o p : Option (LV × AH)} : orXK (if c then o else p) fb τ = if c then orXK o fb τ else orXK p fb τ := by split <;> rfl
@[simp] theorem notXK_ite {o p : Option (LV × AH)} : notXK (if c then o else p) = if c then notXK o else notXK p := by split <;> rfl
@[simp] theorem chK3_ite {o p : Option (LV × AH)} : chK3 (if c then o else p) op' y fc τ = if c then chK3 o op' y fc τ else chK3 p op' y fc τ := by split <;> rfl
@[simp] theorem unK_ite {o p : Option (LV × AH)} : unK (if c then o else p) o1 = if c then unK o o1 else unK p o1 := by split <;> rfl
@[simp] theorem callK2_ite {F : SF} {o p : Option (List D)} : callK2 F (if c then o else p) h = if c then callK2 F o h else callK2 F p h := by split <;> rfl
end
end Sm
namespace Sm
open PySem PySem.Spec PyProof.Rows L2
section
variable {τ τ' : AT} {h h' h1 h2 : AH} {fa fb fc fe : SE} {fr : SA} {ft ft1 fu : ST} {fi fi1 : SI} {g g1 : SG} {op op' : Op2} {o1 : Op1} {oN : OpN} {x y q : LV} {d : D} {ds xs ys : List D} {qs : List LV} {b : Bool} {i j l n nn : Nat} {k m : Int}
/-! sorted, sum, str -/
def soK (o : Option (List D)) (h : AH) : Option (LV × AH) := o.bind fun ds => match ds with
    | [] => some (.new [], h)
    | d :: r => (rowKd d).bind fun ks => if rowsOk ks (d :: r) = true then some (.new (sortR (d :: r)), h) else none
@[simp] theorem oSorted_eq : oSorted [q] h = soK (asL q h) h := rfl
theorem soK_ok {ks : List Bool} (hne : ks ≠ []) (hl : ds.length ≤ 16777216) (hk : ∀ d ∈ ds, rowKd d = some ks) : soK (some ds) h = some (.new (sortR ds), h) := by
  cases ds with
  | nil => rfl
  | cons d r =>
    show ((rowKd d).bind _) = _
    rw [hk d List.mem_cons_self]
    refine if_pos ?_
    unfold rowsOk
    rw [Bool.and_eq_true, Bool.and_eq_true]
    refine ⟨⟨?_, decide_eq_true hl⟩, List.all_eq_true.mpr fun x hx => decide_eq_true (hk x hx)⟩
    cases ks with
    | nil => exact absurd rfl hne
    | cons _ _ => rfl
def suK (o : Option (List D)) (h : AH) : Option (LV × AH) := o.bind fun ds => (intsD ds).bind fun ns => some (.val (.int ns.sum), h)
@[simp] theorem oSum_eq : oSum [q] h = suK (asL q h) h := rfl
theorem suK_ok {ns : List Int} : suK (some (ns.map D.int)) h = some (.val (.int ns.sum), h) := by
  have : intsD (ns.map D.int) = some ns := by
    induction ns with
    | nil => rfl
    | cons n r ih => show ((intsD (r.map D.int)).bind _) = _; rw [ih]; rfl
  show ((intsD (ns.map D.int)).bind _) = _
  rw [this]
  rfl
@[simp] theorem oStrI_int : oStrI [.val (.int k)] h = if k.natAbs < 18446744073709551616 then some (.val (.str (toString k)), h) else none := rfl
/-! < of rows -/
@[simp] theorem oLtR_int : oLtR (.val (.int k)) (.val (.int m)) h = some (.val (.bl (decide (k < m))), h) := rfl
theorem oLtR_tup {ks : List Bool} (hne : ks ≠ []) (h1 : kdsD xs = some ks) (h2 : kdsD ys = some ks) : oLtR (.val (.tup xs)) (.val (.tup ys)) h = some (.val (.bl (rowLt (.tup xs) (.tup ys))), h) := by
  show ((kdsD xs).bind _) = _
  rw [h1]
  refine if_pos ?_
  rw [Bool.and_eq_true]
  refine ⟨decide_eq_true h2, ?_⟩
  cases ks with
  | nil => exact absurd rfl hne
  | cons _ _ => rfl
/-! displays -/
def prK (o : Option (LV × AH)) (k : Str) (r : List (Str × SE)) (τ : AT) : Option (List (D × D) × AH) := o.bind fun p => (mPairs r τ (lay p.1 p.2).2).bind fun q => some ((.str k, (lay p.1 p.2).1) :: q.1, q.2)
def prK2 (o : Option (List (D × D) × AH)) (k : Str) (d : D) : Option (List (D × D) × AH) := o.bind fun q => some ((.str k, d) :: q.1, q.2)
def diK (o : Option (List (D × D) × AH)) : Option (LV × AH) := o.bind fun p => some (.val (.ref p.2.length), p.2 ++ [.dic p.1])
@[simp] theorem mDisp_eq {prs : List (Str × SE)} : mDisp prs τ h = diK (mPairs prs τ h) := rfl
@[simp] theorem mPairs_nil : mPairs [] τ h = some ([], h) := rfl
@[simp] theorem mPairs_cons {z : Str} {r : List (Str × SE)} : mPairs ((z, fa) :: r) τ h = prK (fa τ h) z r τ := rfl
@[simp] theorem prK_some {z : Str} {r : List (Str × SE)} : prK (some (x, h1)) z r τ = prK2 (mPairs r τ (lay x h1).2) z (lay x h1).1 := rfl
@[simp] theorem prK2_some {z : Str} {kvs : List (D × D)} : prK2 (some (kvs, h1)) z d = some ((.str z, d) :: kvs, h1) := rfl
@[simp] theorem diK_some {kvs : List (D × D)} : diK (some (kvs, h1)) = some (.val (.ref h1.length), h1 ++ [.dic kvs]) := rfl
def dgK (o : Option (LV × AH)) (fb : SE) (τ : AT) : Option (LV × AH) := o.bind fun p => (fb τ p.2).bind fun q => match p.1, q.1 with
  | .val (.ref a), .val (.str z) => match q.2[a]? with
    | some (.dic kvs) => (lookD kvs z).bind fun d => some (.val d, q.2)
    | _ => none
  | _, _ => none
def dgK2 (o : Option (LV × AH)) (p : LV) : Option (LV × AH) := o.bind fun q => match p, q.1 with
  | .val (.ref a), .val (.str z) => match q.2[a]? with
    | some (.dic kvs) => (lookD kvs z).bind fun d => some (.val d, q.2)
    | _ => none
  | _, _ => none
def dgK3 (o : Option O) (z : Str) (h : AH) : Option (LV × AH) := match o with
    | some (.dic kvs) => (lookD kvs z).bind fun d => some (.val d, h)
    | _ => none
def dgK4 (o : Option D) (h : AH) : Option (LV × AH) := o.bind fun d => some (.val d, h)
@[simp] theorem mDGet_eq : mDGet fa fb τ h = dgK (fa τ h) fb τ := rfl
@[simp] theorem dgK_some : dgK (some (x, h1)) fb τ = dgK2 (fb τ h1) x := rfl
@[simp] theorem dgK2_some {a : Nat} {z : Str} : dgK2 (some (.val (.str z), h1)) (.val (.ref a)) = dgK3 h1[a]? z h1 := rfl
@[simp] theorem dgK3_some {kvs : List (D × D)} {z : Str} : dgK3 (some (.dic kvs)) z h = dgK4 (lookD kvs z) h := rfl
@[simp] theorem dgK4_some : dgK4 (some d) h = some (.val d, h) := rfl
@[simp] theorem lookD_cons {u z : Str} {kvs : List (D × D)} : lookD ((.str u, d) :: kvs) z = if u = z then some d else lookD kvs z := by
  unfold lookD
  rw [List.find?_cons]
  by_cases e : u = z
  · rw [show decide (((D.str u, d) : D × D).1 = D.str z) = true by simp [e], if_pos e]
    rfl
  · rw [show decide (((D.str u, d) : D × D).1 = D.str z) = false by simp [e], if_neg e]
/-! three names at once -/
def par3K (o : Option (List LV × AH)) (i j l : Nat) (τ : AT) : Option Res := o.bind fun p => (plain p.1).bind fun ds => match ds with
  | [d, e, f] => some (.nx (((τ.set i (some d)).set j (some e)).set l (some f)) p.2)
  | _ => none
@[simp] theorem mPar3_eq : mPar3 i j l fr τ h = par3K (fr τ h) i j l τ := rfl
@[simp] theorem par3K_some {e f : D} : par3K (some ([.val d, .val e, .val f], h1)) i j l τ = some (.nx (((τ.set i (some d)).set j (some e)).set l (some f)) h1) := rfl
/-! two fors -/
def itTK (o : Option (LV × AH)) : Option (ItD × AH) := o.bind fun p => (iterT p.1).bind fun it => some (it, p.2)
@[simp] theorem mIterT_eq : mIterT fa τ h = itTK (fa τ h) := rfl
@[simp] theorem itTK_some : itTK (some (x, h1)) = iterK2 (iterT x) h1 := rfl
@[simp] theorem iterT_tup : iterT (.val (.tup ds)) = some ⟨ds, []⟩ := rfl
@[simp] theorem iterT_zt : iterT (.val (.zt ds)) = some ⟨ds, []⟩ := rfl
def comp2K (o : Option (ItD × AH)) (g : SG) (ft : ST) (fi1 : SI) (g1 : SG) (ft1 : ST) (fe : SE) (vs vs1 : List Nat) (τ : AT) : Option (LV × AH) := o.bind fun p => (compL2 p.1.grd g ft fi1 g1 ft1 fe vs1 (wipeA τ vs) p.1.items p.2).bind fun z =>
  if z.1.length ≤ 16777216 then some (.new z.1, z.2) else none
@[simp] theorem mComp2_eq {vs vs1 : List Nat} : mComp2 fi g ft fi1 g1 ft1 fe vs vs1 τ h = comp2K (fi τ h) g ft fi1 g1 ft1 fe vs vs1 τ := rfl
@[simp] theorem comp2K_some {vs vs1 : List Nat} {it : ItD} : comp2K (some (it, h1)) g ft fi1 g1 ft1 fe vs vs1 τ = compK2 (compL2 it.grd g ft fi1 g1 ft1 fe vs1 (wipeA τ vs) it.items h1) := rfl
end
end Sm
namespace Sm
open PySem PySem.Spec PyProof.Rows L2
/-! ## the draws -/
def bset (h : AH) (b dg : Nat) (p : Int) : AH := h.set b (.lst [.ref dg, .int p])
/-- the box of the draws stands at b, its digits at dg, p is the next place -/
structure Bx (h : AH) (b dg : Nat) (ds : List Int) (p : Int) : Prop where
  hb : h[b]? = some (.lst [.ref dg, .int p])
  hd : h[dg]? = some (.lst (ds.map D.int))
  ne : b ≠ dg
  p0 : 0 ≤ p
theorem Bx.lt {h : AH} {b dg : Nat} {ds : List Int} {p : Int} (B : Bx h b dg ds p) : b < h.length := (List.getElem?_eq_some_iff.mp B.hb).1
theorem Bx.ltd {h : AH} {b dg : Nat} {ds : List Int} {p : Int} (B : Bx h b dg ds p) : dg < h.length := (List.getElem?_eq_some_iff.mp B.hd).1
theorem Bx.set {h : AH} {b dg : Nat} {ds : List Int} {p q : Int} (B : Bx h b dg ds p) (hq : 0 ≤ q) : Bx (bset h b dg q) b dg ds q :=
  ⟨List.getElem?_set_self B.lt, by unfold bset; rw [List.getElem?_set_ne B.ne]; exact B.hd, B.ne, hq⟩
theorem Bx.app {h : AH} {b dg : Nat} {ds : List Int} {p : Int} (B : Bx h b dg ds p) (j : AH) : Bx (h ++ j) b dg ds p :=
  ⟨by rw [List.getElem?_append_left B.lt]; exact B.hb, by rw [List.getElem?_append_left B.ltd]; exact B.hd, B.ne, B.p0⟩
@[simp] theorem bset_bset {h : AH} {b dg : Nat} {p q : Int} : bset (bset h b dg p) b dg q = bset h b dg q := by unfold bset; rw [List.set_set]
@[simp] theorem bset_len {h : AH} {b dg : Nat} {p : Int} : (bset h b dg p).length = h.length := by unfold bset; rw [List.length_set]
theorem bset_app {h j : AH} {b dg : Nat} {p : Int} (hb : b < h.length) : bset (h ++ j) b dg p = bset h b dg p ++ j := by unfold bset; rw [List.set_append_left _ _ hb]
theorem Bx.same {h : AH} {b dg : Nat} {ds : List Int} {p : Int} (B : Bx h b dg ds p) : bset h b dg p = h := by
  unfold bset
  have e := B.hb
  rw [List.getElem?_eq_getElem B.lt] at e
  have := Option.some.inj e
  rw [← this, List.set_getElem_self]
/-- what a draw gives -/
def dr (ds : List Int) (p m : Int) : Int := if p < ds.length then (ds.getD p.toNat 0).fmod m else (p * p * 3 + p * 4 + p.fdiv 3 + 1).fmod m
theorem dr_lo {ds : List Int} {p m : Int} (hm : 0 < m) : 0 ≤ dr ds p m := by
  unfold dr
  split <;> exact Int.fmod_nonneg_of_pos _ hm
theorem dr_hi {ds : List Int} {p m : Int} (hm : 0 < m) : dr ds p m < m := by
  unfold dr
  split <;> exact Int.fmod_lt_of_pos _ hm
/-! ## what a call forgets -/
theorem oldOk_self (n : Nat) : ∀ (h j : AH), oldOk n h (h ++ j) = true
  | [], _ => rfl
  | o :: r, j => by
    show ((decide (o = o) || o.low n) && oldOk n r (r ++ j)) = true
    rw [oldOk_self n r j, decide_eq_true rfl]
    rfl
theorem oldOk_set {n : Nat} {o : O} (ho : o.low n = true) : ∀ {h h' : AH} (i : Nat), oldOk n h h' = true → oldOk n h (h'.set i o) = true
  | [], _, _, _ => rfl
  | _ :: _, [], _, b => by cases b
  | a :: r, a' :: r', 0, b => by
    unfold oldOk at b
    rw [Bool.and_eq_true] at b
    show ((decide (a = o) || o.low n) && oldOk n r r') = true
    rw [b.2, ho]
    simp
  | a :: r, a' :: r', i + 1, b => by
    unfold oldOk at b
    rw [Bool.and_eq_true] at b
    show ((decide (a = a') || a'.low n) && oldOk n r (r'.set i o)) = true
    rw [b.1, oldOk_set ho i b.2]
    rfl
theorem box_low {dg n : Nat} {p : Int} (hd : dg < n) : O.low n (.lst [.ref dg, .int p]) = true := by
  simp [O.low, D.lows, D.low, hd]
/-- a call that only made new things, and hands back data -/
theorem gc_pure {h j : AH} {d : D} (hd : d.low h.length = true) : gc h d (h ++ j) = (d, h) := by
  unfold gc
  rw [if_pos (oldOk_self _ h j), if_pos hd]
  simp
theorem gc_pure0 {h : AH} {d : D} (hd : d.low h.length = true) : gc h d h = (d, h) := by
  have := gc_pure (h := h) (j := []) hd
  simpa using this
theorem gc_box {h j : AH} {b dg : Nat} {ds : List Int} {p q : Int} {d : D} (B : Bx h b dg ds p) (hd : d.low h.length = true) : gc h d (bset h b dg q ++ j) = (d, bset h b dg q) := by
  have e : oldOk h.length h (bset h b dg q ++ j) = true := by
    rw [← bset_app B.lt]
    exact oldOk_set (box_low B.ltd) b (oldOk_self _ h j)
  unfold gc
  rw [if_pos e, if_pos hd]
  rw [List.take_append_of_le_length (by rw [bset_len]; exact Nat.le_refl _), List.take_of_length_le (by rw [bset_len]; exact Nat.le_refl _)]
theorem gc_box0 {h : AH} {b dg : Nat} {ds : List Int} {p q : Int} {d : D} (B : Bx h b dg ds p) (hd : d.low h.length = true) : gc h d (bset h b dg q) = (d, bset h b dg q) := by
  have := gc_box (j := []) (q := q) B hd
  simpa using this
/-- a call that hands back a list that it made, of data -/
theorem gc_list {h j : AH} {k : Nat} {ds : List D} (hk : h.length ≤ k) (hj : (h ++ j)[k]? = some (.lst ds)) (hd : D.lows h.length ds = true) : gc h (.ref k) (h ++ j) = (.ref h.length, h ++ [.lst ds]) := by
  unfold gc
  have hn : ¬ D.low h.length (.ref k) = true := by
    unfold D.low
    simp
    exact hk
  rw [if_pos (oldOk_self _ h j), if_neg hn]
  dsimp only
  rw [hj]
  dsimp only
  rw [if_pos hd, List.take_left']
  rfl
@[simp] theorem low_int {n : Nat} {i : Int} : D.low n (.int i) = true := rfl
@[simp] theorem low_str {n : Nat} {i : Str} : D.low n (.str i) = true := rfl
@[simp] theorem low_non {n : Nat} : D.low n .non = true := rfl
@[simp] theorem low_bl {n : Nat} {b : Bool} : D.low n (.bl b) = true := rfl
@[simp] theorem low_tup {n : Nat} {ds : List D} : D.low n (.tup ds) = D.lows n ds := by rw [D.low]
@[simp] theorem lows_nil {n : Nat} : D.lows n [] = true := rfl
@[simp] theorem lows_cons {n : Nat} {d : D} {ds : List D} : D.lows n (d :: ds) = (d.low n && D.lows n ds) := by rw [D.lows]
/-! ## loops and comprehensions, told by what holds between turns -/
theorem forL_inv {grd : List (Nat × List D)} {g : SG} {body : SS} (P : List D → AT → AH → Prop) (hg : ∀ rest τ h, P rest τ h → grdOk grd h = true)
    (hs : ∀ x rest τ h, P (x :: rest) τ h → ∃ τ1 h1 τ2 h2, g x τ h = some (τ1, h1) ∧ (body τ1 h1 = some (.nx τ2 h2) ∨ body τ1 h1 = some (.ct τ2 h2)) ∧ P rest τ2 h2) :
    ∀ (items : List D) (τ : AT) (h : AH), P items τ h → ∃ τ' h', forL grd g body items τ h = some (.nx τ' h') ∧ P [] τ' h'
  | [], τ, h, p => ⟨τ, h, by unfold forL; rw [if_pos (hg _ _ _ p)], p⟩
  | x :: xs, τ, h, p => by
    obtain ⟨τ1, h1, τ2, h2, e1, e2, p2⟩ := hs x xs τ h p
    obtain ⟨τ', h', e3, p3⟩ := forL_inv P hg hs xs τ2 h2 p2
    refine ⟨τ', h', ?_, p3⟩
    unfold forL
    rw [if_pos (hg _ _ _ p), e1]
    show (body τ1 h1).bind _ = _
    rcases e2 with e2 | e2 <;> rw [e2] <;> exact e3
/-- a comprehension that changes nothing -/
theorem compL_map {grd : List (Nat × List D)} {g : SG} {fe : SE} {τ : AT} {h : AH} (f : D → D) (hg : grdOk grd h = true) :
    ∀ (xs : List D), (∀ x ∈ xs, ∃ τ1, g x τ h = some (τ1, h) ∧ fe τ1 h = some (.val (f x), h)) → compL grd g mYes fe τ xs h = some (xs.map f, h)
  | [], _ => by unfold compL; rw [if_pos hg]; rfl
  | x :: xs, hs => by
    obtain ⟨τ1, e1, e2⟩ := hs x List.mem_cons_self
    unfold compL
    rw [if_pos hg, e1]
    show ((fe τ1 h).bind fun y => _) = _
    rw [e2]
    show ((compL grd g mYes fe τ xs h).bind fun z => some (f x :: z.1, z.2)) = _
    rw [compL_map f hg xs fun y hy => hs y (List.mem_cons_of_mem _ hy)]
    rfl
theorem compL_mapT {α : Type} {grd : List (Nat × List D)} {g : SG} {fe : SE} {τ : AT} {h : AH} {t : α → D} (f : α → D) (hg : grdOk grd h = true) :
    ∀ (xs : List α), (∀ x ∈ xs, ∃ τ1, g (t x) τ h = some (τ1, h) ∧ fe τ1 h = some (.val (f x), h)) → compL grd g mYes fe τ (xs.map t) h = some (xs.map f, h)
  | [], _ => by
    show compL grd g mYes fe τ [] h = _
    unfold compL
    rw [if_pos hg]
    rfl
  | x :: xs, hs => by
    obtain ⟨τ1, e1, e2⟩ := hs x List.mem_cons_self
    show compL grd g mYes fe τ (t x :: xs.map t) h = _
    unfold compL
    rw [if_pos hg, e1]
    show ((fe τ1 h).bind fun y => _) = _
    rw [e2]
    show ((compL grd g mYes fe τ (xs.map t) h).bind fun z => some (f x :: z.1, z.2)) = _
    rw [compL_mapT f hg xs fun y hy => hs y (List.mem_cons_of_mem _ hy)]
    rfl
theorem compL_filter {grd : List (Nat × List D)} {g : SG} {ft : ST} {fe : SE} {τ : AT} {h : AH} (t : D → Bool) (f : D → D) (hg : grdOk grd h = true) :
    ∀ (xs : List D), (∀ x ∈ xs, ∃ τ1, g x τ h = some (τ1, h) ∧ ft τ1 h = some (t x, h) ∧ (t x = true → fe τ1 h = some (.val (f x), h))) → compL grd g ft fe τ xs h = some ((xs.filter t).map f, h)
  | [], _ => by unfold compL; rw [if_pos hg]; rfl
  | x :: xs, hs => by
    obtain ⟨τ1, e1, e2, e3⟩ := hs x List.mem_cons_self
    have ih := compL_filter t f hg xs fun y hy => hs y (List.mem_cons_of_mem _ hy)
    unfold compL
    rw [if_pos hg, e1]
    show ((ft τ1 h).bind fun b => _) = _
    rw [e2]
    show (if t x = true then (fe τ1 h).bind fun y => _ else compL grd g ft fe τ xs h) = _
    by_cases ht : t x = true
    · rw [if_pos ht, e3 ht]
      show ((compL grd g ft fe τ xs h).bind fun z => some (f x :: z.1, z.2)) = _
      rw [ih, List.filter_cons_of_pos ht]
      rfl
    · rw [if_neg ht, ih, List.filter_cons_of_neg ht]
/-- a comprehension whose turns change the heap -/
theorem compL_inv {grd : List (Nat × List D)} {g : SG} {fe : SE} {τ : AT} (P : List D → List D → AH → Prop) (hg : ∀ rest ys h, P rest ys h → grdOk grd h = true)
    (hs : ∀ x rest ys h, P (x :: rest) ys h → ∃ τ1 h1 y h2, g x τ h = some (τ1, h1) ∧ fe τ1 h1 = some (.val y, h2) ∧ P rest (ys ++ [y]) h2) :
    ∀ (xs ys : List D) (h : AH), P xs ys h → ∃ zs h', compL grd g mYes fe τ xs h = some (zs, h') ∧ P [] (ys ++ zs) h'
  | [], ys, h, p => ⟨[], h, by unfold compL; rw [if_pos (hg _ _ _ p)], by rw [List.append_nil]; exact p⟩
  | x :: xs, ys, h, p => by
    obtain ⟨τ1, h1, y, h2, e1, e2, p2⟩ := hs x xs ys h p
    obtain ⟨zs, h', e3, p3⟩ := compL_inv P hg hs xs (ys ++ [y]) h2 p2
    refine ⟨y :: zs, h', ?_, by rw [List.append_assoc] at p3; exact p3⟩
    unfold compL
    rw [if_pos (hg _ _ _ p), e1]
    show ((fe τ1 h1).bind fun y => _) = _
    rw [e2]
    show ((compL grd g mYes fe τ xs h2).bind fun z => some (y :: z.1, z.2)) = _
    rw [e3]
    rfl
/-! ## the heap's end -/
@[simp] theorem get_mid {h j : AH} {o : O} : (h ++ o :: j)[h.length]? = some o := by rw [List.getElem?_append_right (Nat.le_refl _), Nat.sub_self]; rfl
@[simp] theorem set_mid {h j : AH} {o p : O} : (h ++ o :: j).set h.length p = h ++ p :: j := by rw [List.set_append_right _ _ (Nat.le_refl _), Nat.sub_self]; rfl
@[simp] theorem get_mid2 {h j : AH} {o p : O} : (h ++ o :: (j ++ [p]))[h.length + (j.length + 1)]? = some p := by
  rw [show h ++ o :: (j ++ [p]) = (h ++ o :: j) ++ [p] by simp, List.getElem?_append_right (by simp), show h.length + (j.length + 1) - (h ++ o :: j).length = 0 by simp]; rfl
@[simp] theorem get_end {h : AH} {o : O} : (h ++ [o])[h.length]? = some o := by rw [List.getElem?_append_right (Nat.le_refl _), Nat.sub_self]; rfl
theorem rngD_len {lo : Int} {n : Nat} : (rngD lo n).length = n := by simp [rngD]
theorem lows_rng (n : Nat) (lo : Int) (k : Nat) : D.lows n (rngD lo k) = true := by
  unfold rngD
  induction List.range k with
  | nil => rfl
  | cons x r ih => simpa using ih
theorem rgOk_ok {lo hi : Int} (a : -1000 ≤ lo) (b : lo ≤ hi) (c : hi ≤ 1000) : rgOkB lo (hi + 1) = true := by
  unfold rgOkB
  simp
  omega
theorem lows_map {α : Type} {n : Nat} {f : α → D} (hf : ∀ x, (f x).low n = true) (xs : List α) : D.lows n (xs.map f) = true := by
  induction xs with
  | nil => rfl
  | cons x r ih => rw [List.map_cons, lows_cons, hf, ih]; rfl
theorem lows_app {n : Nat} {xs ys : List D} : D.lows n (xs ++ ys) = (D.lows n xs && D.lows n ys) := by
  induction xs with
  | nil => simp
  | cons x r ih => rw [List.cons_append, lows_cons, lows_cons, ih, Bool.and_assoc]
theorem lows_of {n : Nat} {xs : List D} (h : ∀ x ∈ xs, x.low n = true) : D.lows n xs = true := by
  induction xs with
  | nil => rfl
  | cons x r ih => rw [lows_cons, h x List.mem_cons_self, ih fun y hy => h y (List.mem_cons_of_mem _ hy)]; rfl
theorem le_big {n : Nat} (h : n ≤ 20000) : n ≤ 16777216 := Nat.le_trans h (by decide)
@[simp] theorem tyN_tup {h : AH} {ds : List D} : tyN (.val (.tup ds)) h = some "tuple" := rfl
@[simp] theorem tyN_int {h : AH} {i : Int} : tyN (.val (.int i)) h = some "int" := rfl
@[simp] theorem tyN_str {h : AH} {i : Str} : tyN (.val (.str i)) h = some "str" := rfl
@[simp] theorem tyN_bl {h : AH} {i : Bool} : tyN (.val (.bl i)) h = some "bool" := rfl
@[simp] theorem tyN_non {h : AH} : tyN (.val .non) h = some "NoneType" := rfl
def isiK (o : Option String) (T : String) (h : AH) : Option (LV × AH) := o.bind fun n => if tys.contains T = true then some (.val (.bl (isTyB n T)), h) else none
@[simp] theorem oIsi_eq {h : AH} {q : LV} {T : String} : oIsi [q, .val (.ty T)] h = isiK (tyN q h) T h := rfl
theorem isiK_some {h : AH} {n T : String} (c : tys.contains T = true) : isiK (some n) T h = some (.val (.bl (isTyB n T)), h) := if_pos c
@[simp] theorem ity_list_list : isTyB "list" "list" = true := by decide +kernel
@[simp] theorem ity_list_bool : isTyB "list" "bool" = false := by decide +kernel
@[simp] theorem ity_list_int : isTyB "list" "int" = false := by decide +kernel
@[simp] theorem ity_list_str : isTyB "list" "str" = false := by decide +kernel
@[simp] theorem ity_list_tuple : isTyB "list" "tuple" = false := by decide +kernel
@[simp] theorem ity_list_dict : isTyB "list" "dict" = false := by decide +kernel
@[simp] theorem ity_NoneType_list : isTyB "NoneType" "list" = false := by decide +kernel
@[simp] theorem ity_NoneType_bool : isTyB "NoneType" "bool" = false := by decide +kernel
@[simp] theorem ity_NoneType_int : isTyB "NoneType" "int" = false := by decide +kernel
@[simp] theorem ity_NoneType_str : isTyB "NoneType" "str" = false := by decide +kernel
@[simp] theorem ity_NoneType_tuple : isTyB "NoneType" "tuple" = false := by decide +kernel
@[simp] theorem ity_NoneType_dict : isTyB "NoneType" "dict" = false := by decide +kernel
@[simp] theorem ity_bool_list : isTyB "bool" "list" = false := by decide +kernel
@[simp] theorem ity_bool_bool : isTyB "bool" "bool" = true := by decide +kernel
@[simp] theorem ity_bool_int : isTyB "bool" "int" = true := by decide +kernel
@[simp] theorem ity_bool_str : isTyB "bool" "str" = false := by decide +kernel
@[simp] theorem ity_bool_tuple : isTyB "bool" "tuple" = false := by decide +kernel
@[simp] theorem ity_bool_dict : isTyB "bool" "dict" = false := by decide +kernel
@[simp] theorem ity_int_list : isTyB "int" "list" = false := by decide +kernel
@[simp] theorem ity_int_bool : isTyB "int" "bool" = false := by decide +kernel
@[simp] theorem ity_int_int : isTyB "int" "int" = true := by decide +kernel
@[simp] theorem ity_int_str : isTyB "int" "str" = false := by decide +kernel
@[simp] theorem ity_int_tuple : isTyB "int" "tuple" = false := by decide +kernel
@[simp] theorem ity_int_dict : isTyB "int" "dict" = false := by decide +kernel
@[simp] theorem ity_str_list : isTyB "str" "list" = false := by decide +kernel
@[simp] theorem ity_str_bool : isTyB "str" "bool" = false := by decide +kernel
@[simp] theorem ity_str_int : isTyB "str" "int" = false := by decide +kernel
@[simp] theorem ity_str_str : isTyB "str" "str" = true := by decide +kernel
@[simp] theorem ity_str_tuple : isTyB "str" "tuple" = false := by decide +kernel
@[simp] theorem ity_str_dict : isTyB "str" "dict" = false := by decide +kernel
@[simp] theorem ity_tuple_list : isTyB "tuple" "list" = false := by decide +kernel
@[simp] theorem ity_tuple_bool : isTyB "tuple" "bool" = false := by decide +kernel
@[simp] theorem ity_tuple_int : isTyB "tuple" "int" = false := by decide +kernel
@[simp] theorem ity_tuple_str : isTyB "tuple" "str" = false := by decide +kernel
@[simp] theorem ity_tuple_tuple : isTyB "tuple" "tuple" = true := by decide +kernel
@[simp] theorem ity_tuple_dict : isTyB "tuple" "dict" = false := by decide +kernel
@[simp] theorem ity_dict_list : isTyB "dict" "list" = false := by decide +kernel
@[simp] theorem ity_dict_bool : isTyB "dict" "bool" = false := by decide +kernel
@[simp] theorem ity_dict_int : isTyB "dict" "int" = false := by decide +kernel
@[simp] theorem ity_dict_str : isTyB "dict" "str" = false := by decide +kernel
@[simp] theorem ity_dict_tuple : isTyB "dict" "tuple" = false := by decide +kernel
@[simp] theorem ity_dict_dict : isTyB "dict" "dict" = true := by decide +kernel
@[simp] theorem rng1_nat {n : Nat} (c : n ≤ 4000000000) : rng1 [.val (.int (n : Int))] = some ⟨rngD 0 n, []⟩ := by
  have := rng1_int (k := (n : Int)) (by omega) (by omega)
  simpa using this
theorem tc_tuple : tys.contains "tuple" = true := by decide
theorem tc_list : tys.contains "list" = true := by decide
theorem tc_bool : tys.contains "bool" = true := by decide
theorem tc_int : tys.contains "int" = true := by decide
theorem tc_str : tys.contains "str" = true := by decide
@[simp] theorem isiK_tuple {h : AH} {n : String} : isiK (some n) "tuple" h = some (.val (.bl (isTyB n "tuple")), h) := isiK_some tc_tuple
@[simp] theorem isiK_list {h : AH} {n : String} : isiK (some n) "list" h = some (.val (.bl (isTyB n "list")), h) := isiK_some tc_list
@[simp] theorem isiK_bool {h : AH} {n : String} : isiK (some n) "bool" h = some (.val (.bl (isTyB n "bool")), h) := isiK_some tc_bool
@[simp] theorem isiK_int {h : AH} {n : String} : isiK (some n) "int" h = some (.val (.bl (isTyB n "int")), h) := isiK_some tc_int
@[simp] theorem isiK_str {h : AH} {n : String} : isiK (some n) "str" h = some (.val (.bl (isTyB n "str")), h) := isiK_some tc_str
/-- a loop over a list, told by the number of turns done -/
theorem forIx {grd : List (Nat × List D)} {g : SG} {body : SS} {xs : List D} (P : Nat → AT → AH → Prop) (hg : ∀ i τ h, P i τ h → grdOk grd h = true)
    (hs : ∀ (i : Nat) (hi : i < xs.length) τ h, P i τ h → ∃ τ1 h1 τ2 h2, g xs[i] τ h = some (τ1, h1) ∧ (body τ1 h1 = some (.nx τ2 h2) ∨ body τ1 h1 = some (.ct τ2 h2)) ∧ P (i + 1) τ2 h2)
    (τ : AT) (h : AH) (p : P 0 τ h) : ∃ τ' h', forL grd g body xs τ h = some (.nx τ' h') ∧ P xs.length τ' h' := by
  obtain ⟨τ', h', e, i, h1, h2, h3⟩ := forL_inv (grd := grd) (g := g) (body := body) (fun rest τ h => ∃ i, i ≤ xs.length ∧ rest = xs.drop i ∧ P i τ h) (fun rest τ h ⟨i, _, _, c⟩ => hg i τ h c)
    (fun x rest τ h ⟨i, a, b, c⟩ => by
      have hi : i < xs.length := by
        rcases Nat.lt_or_ge i xs.length with z | z
        · exact z
        · rw [List.drop_eq_nil_of_le z] at b
          cases b
      rw [List.drop_eq_getElem_cons hi] at b
      obtain ⟨rfl, rfl⟩ := List.cons.inj b
      obtain ⟨τ1, h1, τ2, h2, e1, e2, e3⟩ := hs i hi τ h c
      exact ⟨τ1, h1, τ2, h2, e1, e2, i + 1, hi, rfl, e3⟩)
    xs τ h ⟨0, Nat.zero_le _, rfl, p⟩
  have : i = xs.length := by
    have := congrArg List.length h2
    rw [List.length_nil, List.length_drop] at this
    omega
  exact ⟨τ', h', e, this ▸ h3⟩
theorem forRg {g : SG} {body : SS} {lo : Int} {n : Nat} (P : Nat → AT → AH → Prop)
    (hs : ∀ (i : Nat), i < n → ∀ τ h, P i τ h → ∃ τ1 h1 τ2 h2, g (.int (lo + i)) τ h = some (τ1, h1) ∧ (body τ1 h1 = some (.nx τ2 h2) ∨ body τ1 h1 = some (.ct τ2 h2)) ∧ P (i + 1) τ2 h2)
    (τ : AT) (h : AH) (p : P 0 τ h) : ∃ τ' h', forL [] g body (rngD lo n) τ h = some (.nx τ' h') ∧ P n τ' h' := by
  obtain ⟨τ', h', e, p'⟩ := forIx (grd := []) (g := g) (body := body) (xs := rngD lo n) P (fun _ _ _ _ => rfl) (fun i hi τ h p => by
    rw [rngD_len] at hi
    have : (rngD lo n)[i]'(by rw [rngD_len]; exact hi) = .int (lo + i) := by simp [rngD]
    rw [this]
    exact hs i hi τ h p) τ h p
  rw [rngD_len] at p'
  exact ⟨τ', h', e, p'⟩
theorem forRg0 {g : SG} {body : SS} {n : Nat} (P : Nat → AT → AH → Prop)
    (hs : ∀ (i : Nat), i < n → ∀ τ h, P i τ h → ∃ τ1 h1 τ2 h2, g (.int (i : Int)) τ h = some (τ1, h1) ∧ (body τ1 h1 = some (.nx τ2 h2) ∨ body τ1 h1 = some (.ct τ2 h2)) ∧ P (i + 1) τ2 h2)
    (τ : AT) (h : AH) (p : P 0 τ h) : ∃ τ' h', forL [] g body (rngD 0 n) τ h = some (.nx τ' h') ∧ P n τ' h' :=
  forRg P (fun i hi τ h p => by rw [Int.zero_add]; exact hs i hi τ h p) τ h p
/-! ## a heap told as: the entry's heap with the box moved on, and what was made since -/
section
variable {h j : AH} {b dg : Nat} {q q' : Int} {k : Nat} {o : O}
@[simp] theorem lenA : (bset h b dg q ++ j).length = h.length + j.length := by rw [List.length_append, bset_len]
@[simp] theorem getA : (bset h b dg q ++ j)[h.length + k]? = j[k]? := by
  rw [List.getElem?_append_right (by rw [bset_len]; omega), bset_len, Nat.add_sub_cancel_left]
@[simp] theorem getA0 : (bset h b dg q ++ j)[h.length]? = j[0]? := getA (k := 0)
@[simp] theorem setA : (bset h b dg q ++ j).set (h.length + k) o = bset h b dg q ++ j.set k o := by
  rw [List.set_append_right _ _ (by rw [bset_len]; omega), bset_len, Nat.add_sub_cancel_left]
@[simp] theorem setA0 : (bset h b dg q ++ j).set h.length o = bset h b dg q ++ j.set 0 o := setA (k := 0)
@[simp] theorem getB {α : Type} {j l : List α} {k : Nat} : (j ++ l)[j.length + k]? = l[k]? := by
  rw [List.getElem?_append_right (by omega), Nat.add_sub_cancel_left]
@[simp] theorem getB0 {α : Type} {j l : List α} : (j ++ l)[j.length]? = l[0]? := getB (k := 0)
@[simp] theorem setB {α : Type} {j l : List α} {k : Nat} {o : α} : (j ++ l).set (j.length + k) o = j ++ l.set k o := by
  rw [List.set_append_right _ _ (by omega), Nat.add_sub_cancel_left]
@[simp] theorem setB0 {α : Type} {j l : List α} {o : α} : (j ++ l).set j.length o = j ++ l.set 0 o := setB (k := 0)
theorem getOld {u : Nat} (hu : u < h.length) (hb : u ≠ b) : (bset h b dg q ++ j)[u]? = h[u]? := by
  rw [List.getElem?_append_left (by rw [bset_len]; exact hu)]
  unfold bset
  exact List.getElem?_set_ne (Ne.symm hb)
theorem locA (hb : b < h.length) : bset (bset h b dg q ++ j) b dg q' = bset h b dg q' ++ j := by
  rw [bset_app (by rw [bset_len]; exact hb), bset_bset]
theorem gc_boxL {ds : List Int} {p : Int} {xs : List D} (B : Bx h b dg ds p) (hj : j[k]? = some (.lst xs)) (hd : D.lows h.length xs = true) : gc h (.ref (h.length + k)) (bset h b dg q ++ j) = (.ref h.length, bset h b dg q ++ [.lst xs]) := by
  have e : oldOk h.length h (bset h b dg q ++ j) = true := by
    rw [← bset_app B.lt]
    exact oldOk_set (box_low B.ltd) b (oldOk_self _ h j)
  have hn : ¬ D.low h.length (.ref (h.length + k)) = true := by
    unfold D.low
    simp
  unfold gc
  rw [if_pos e, if_neg hn]
  dsimp only
  rw [getA, hj]
  dsimp only
  rw [if_pos hd, List.take_left' (by rw [bset_len])]
theorem Bx.loc {ds : List Int} {p : Int} (B : Bx h b dg ds p) (hq : 0 ≤ q) : Bx (bset h b dg q ++ j) b dg ds q := (B.set hq).app j
end
mutual
theorem low_mono {m n : Nat} (h : m ≤ n) : ∀ {d : D}, d.low m = true → d.low n = true
  | .non, _ => rfl
  | .bl _, _ => rfl
  | .int _, _ => rfl
  | .str _, _ => rfl
  | .ty _, _ => rfl
  | .tup ds, e => by rw [D.low] at e ⊢; exact lows_mono h e
  | .zt ds, e => by rw [D.low] at e ⊢; exact lows_mono h e
  | .fl ds, e => by rw [D.low] at e ⊢; exact lows_mono h e
  | .ref a, e => by
    unfold D.low at e ⊢
    exact decide_eq_true (Nat.lt_of_lt_of_le (of_decide_eq_true e) h)
theorem lows_mono {m n : Nat} (h : m ≤ n) : ∀ {ds : List D}, D.lows m ds = true → D.lows n ds = true
  | [], _ => rfl
  | d :: r, e => by
    rw [lows_cons, Bool.and_eq_true] at e ⊢
    exact ⟨low_mono h e.1, lows_mono h e.2⟩
end
theorem low0 {n : Nat} {d : D} (h : d.low 0 = true) : d.low n = true := low_mono (Nat.zero_le _) h
theorem lows0 {n : Nat} {d : List D} (h : D.lows 0 d = true) : D.lows n d = true := lows_mono (Nat.zero_le _) h
theorem lows_get {n : Nat} {xs : List D} (h : D.lows n xs = true) {d : D} (m : d ∈ xs) : d.low n = true := by
  induction xs with
  | nil => cases m
  | cons x r ih =>
    rw [lows_cons, Bool.and_eq_true] at h
    rcases List.mem_cons.mp m with e | e
    · rw [e]; exact h.1
    · exact ih h.2 e
theorem ixv {α : Type} {xs : List α} {k : Int} (h0 : 0 ≤ k) (h1 : k < xs.length) : ∃ v, xs[k.toNat]? = some v ∧ v ∈ xs ∧ ∀ hh, xs[k.toNat]'hh = v := by
  have : k.toNat < xs.length := by omega
  exact ⟨xs[k.toNat], List.getElem?_eq_getElem this, List.getElem_mem this, fun _ => rfl⟩
theorem gc_loc {h j j' : AH} {b dg : Nat} {ds : List Int} {p q q' : Int} {d : D} (B : Bx h b dg ds p) (hq : 0 ≤ q) (hd : d.low 0 = true) : gc (bset h b dg q ++ j) d (bset h b dg q' ++ (j ++ j')) = (d, bset h b dg q' ++ j) := by
  have := gc_box (q := q') (j := j') (B.loc (q := q) (j := j) hq) (low0 hd)
  rwa [locA B.lt, List.append_assoc] at this
theorem gc_loc0 {h j : AH} {b dg : Nat} {ds : List Int} {p q q' : Int} {d : D} (B : Bx h b dg ds p) (hq : 0 ≤ q) (hd : d.low 0 = true) : gc (bset h b dg q ++ j) d (bset h b dg q' ++ j) = (d, bset h b dg q' ++ j) := by
  have := gc_loc (j := j) (j' := []) (q' := q') B hq hd
  simpa using this
theorem gc_locL {h j j' : AH} {b dg : Nat} {ds : List Int} {p q q' : Int} {k : Nat} {xs : List D} (B : Bx h b dg ds p) (hq : 0 ≤ q) (hj : j'[k]? = some (.lst xs)) (hd : D.lows 0 xs = true) : gc (bset h b dg q ++ j) (.ref (h.length + (j.length + k))) (bset h b dg q' ++ (j ++ j')) = (.ref (h.length + j.length), bset h b dg q' ++ (j ++ [.lst xs])) := by
  have := gc_boxL (q := q') (j := j') (B.loc (q := q) (j := j) hq) hj (lows0 hd)
  rwa [locA B.lt, List.append_assoc, List.append_assoc, lenA, Nat.add_assoc] at this
theorem strIx_ok {s : Str} {k : Int} (h0 : s.length ≤ 16777216) (h1 : (L2.atI s.cps.toList k).isSome = true) : ∃ c, ∀ h, oIx (.val (.str s)) (.val (.int k)) h = some (.val (.str ⟨#[c]⟩), h) := by
  obtain ⟨c, e⟩ := Option.isSome_iff_exists.mp h1
  exact ⟨c, fun h => by rw [oIx_str, if_pos h0, e, strIxK_some]⟩
theorem len_c {c : Nat} : (⟨#[c]⟩ : Str).length = 1 := rfl
theorem flat_strs (xs : List Str) : (xs.map D.str).all D.flat = true := by
  induction xs with
  | nil => rfl
  | cons x r ih => rw [List.map_cons, List.all_cons, ih]; rfl
theorem compL_filterT {α : Type} {grd : List (Nat × List D)} {g : SG} {ft : ST} {fe : SE} {τ : AT} {h : AH} {t : α → D} (c : α → Bool) (f : α → D) (hg : grdOk grd h = true) :
    ∀ (xs : List α), (∀ x ∈ xs, ∃ τ1, g (t x) τ h = some (τ1, h) ∧ ft τ1 h = some (c x, h) ∧ (c x = true → fe τ1 h = some (.val (f x), h))) → compL grd g ft fe τ (xs.map t) h = some ((xs.filter c).map f, h)
  | [], _ => by
    show compL grd g ft fe τ [] h = _
    unfold compL
    rw [if_pos hg]
    rfl
  | x :: xs, hs => by
    obtain ⟨τ1, e1, e2, e3⟩ := hs x List.mem_cons_self
    have ih := compL_filterT c f hg xs fun y hy => hs y (List.mem_cons_of_mem _ hy)
    show compL grd g ft fe τ (t x :: xs.map t) h = _
    unfold compL
    rw [if_pos hg, e1]
    show ((ft τ1 h).bind fun b => _) = _
    rw [e2]
    show (if c x = true then (fe τ1 h).bind fun y => _ else compL grd g ft fe τ (xs.map t) h) = _
    by_cases ht : c x = true
    · rw [if_pos ht, e3 ht]
      show ((compL grd g ft fe τ (xs.map t) h).bind fun z => some (f x :: z.1, z.2)) = _
      rw [ih, List.filter_cons_of_pos ht]
      rfl
    · rw [if_neg ht, ih, List.filter_cons_of_neg ht]
end Sm
namespace Sm
open PySem PySem.Spec PyProof.Rows L2
/-! ## an item of a row, by a draw -/
def dk (xs : List D) (dd : List Int) (q m : Int) : D := xs.getD (dr dd q m).toNat .non
theorem dk_ok {xs : List D} {dd : List Int} {q m : Int} (h0 : 0 < m) (h1 : m ≤ xs.length) : xs[(dr dd q m).toNat]? = some (dk xs dd q m) := by
  have a := dr_lo (ds := dd) (p := q) h0
  have b := dr_hi (ds := dd) (p := q) h0
  have c : (dr dd q m).toNat < xs.length := by omega
  unfold dk
  rw [List.getD_eq_getElem?_getD, List.getElem?_eq_getElem c]
  rfl
theorem dk_mem {xs : List D} {dd : List Int} {q m : Int} (h0 : 0 < m) (h1 : m ≤ xs.length) : dk xs dd q m ∈ xs := List.mem_of_getElem? (dk_ok h0 h1)
theorem atI_dr {xs : List D} {dd : List Int} {q m : Int} (h0 : 0 < m) (h1 : m ≤ xs.length) : L2.atI xs (dr dd q m) = some (dk xs dd q m) := by
  rw [atI_pos (dr_lo h0), dk_ok h0 h1]
theorem ix_dr {xs : List D} {dd : List Int} {q m : Int} {h : AH} (h0 : 0 < m) (h1 : m ≤ xs.length) : oIx (.new xs) (.val (.int (dr dd q m))) h = some (.val (dk xs dd q m), h) := by
  rw [oIx_new, atI_dr h0 h1, ixK2_some]
theorem ixt_dr {xs : List D} {dd : List Int} {q m : Int} {h : AH} (h0 : 0 < m) (h1 : m ≤ xs.length) : oIx (.val (.tup xs)) (.val (.int (dr dd q m))) h = some (.val (dk xs dd q m), h) := by
  rw [oIx_tup, atI_dr h0 h1, ixK2_some]
theorem dk_low {xs : List D} {dd : List Int} {q m : Int} {n : Nat} (h0 : 0 < m) (h1 : m ≤ xs.length) (hl : D.lows n xs = true) : (dk xs dd q m).low n = true := lows_get hl (dk_mem h0 h1)
/-! ## comprehensions over written rows -/
section
variable {g : SG} {ft : ST} {fe : SE} {τ τ' : AT} {x : D} {xs ys : List D} {h h1 : AH} {b : Bool} {y : LV}
def cLK (o : Option (AT × AH)) (g : SG) (ft : ST) (fe : SE) (τ : AT) (xs : List D) : Option (List D × AH) := o.bind fun p => (ft p.1 p.2).bind fun b => if b.1 = true then
      (fe p.1 b.2).bind fun y => (compL [] g ft fe τ xs (lay y.1 y.2).2).bind fun z => some ((lay y.1 y.2).1 :: z.1, z.2)
    else compL [] g ft fe τ xs b.2
def cLK2 (o : Option (Bool × AH)) (g : SG) (ft : ST) (fe : SE) (τ τ' : AT) (xs : List D) : Option (List D × AH) := o.bind fun b => if b.1 = true then
      (fe τ' b.2).bind fun y => (compL [] g ft fe τ xs (lay y.1 y.2).2).bind fun z => some ((lay y.1 y.2).1 :: z.1, z.2)
    else compL [] g ft fe τ xs b.2
def cLK3 (o : Option (LV × AH)) (g : SG) (ft : ST) (fe : SE) (τ : AT) (xs : List D) : Option (List D × AH) := o.bind fun y => (compL [] g ft fe τ xs (lay y.1 y.2).2).bind fun z => some ((lay y.1 y.2).1 :: z.1, z.2)
def cLK4 (o : Option (List D × AH)) (d : D) : Option (List D × AH) := o.bind fun z => some (d :: z.1, z.2)
theorem compL_nil' : compL [] g ft fe τ [] h = some ([], h) := rfl
theorem compL_cons' : compL [] g ft fe τ (x :: xs) h = cLK (g x τ h) g ft fe τ xs := rfl
@[simp] theorem cLK_some : cLK (some (τ', h1)) g ft fe τ xs = cLK2 (ft τ' h1) g ft fe τ τ' xs := rfl
@[simp] theorem cLK2_some : cLK2 (some (b, h1)) g ft fe τ τ' xs = if b = true then cLK3 (fe τ' h1) g ft fe τ xs else compL [] g ft fe τ xs h1 := rfl
@[simp] theorem cLK3_some : cLK3 (some (y, h1)) g ft fe τ xs = cLK4 (compL [] g ft fe τ xs (lay y h1).2) (lay y h1).1 := rfl
@[simp] theorem cLK4_some {d : D} : cLK4 (some (ys, h1)) d = some (d :: ys, h1) := rfl
end
/-! cuts -/
theorem cut_from1 {α : Type} {x : α} {xs : List α} : cutA (x :: xs) (some 1) none = xs := by
  unfold cutA HT.sIx
  simp
theorem cut_from {α : Type} {xs : List α} {n : Nat} (h : n ≤ xs.length) : cutA xs (some (n : Int)) none = xs.drop n := by
  unfold cutA
  rw [HT.sIx_none, HT.sIx_nat, Nat.min_eq_left h, List.take_of_length_le (by rw [List.length_drop]; omega)]
theorem cut_to {α : Type} {xs : List α} {n : Nat} (h : n ≤ xs.length) : cutA xs none (some (n : Int)) = xs.take n := by
  unfold cutA
  rw [HT.sIx_none, HT.sIx_nat, Nat.min_eq_left h]
  rfl
/-- one item is another one -/
theorem set_split {α : Type} {xs : List α} {n : Nat} {v : α} (h : n < xs.length) : xs.take n ++ v :: xs.drop (n + 1) = xs.set n v := (List.set_eq_take_append_cons_drop ▸ by rw [if_pos h])
theorem forL_cons {grd : List (Nat × List D)} {g : SG} {body : SS} {x : D} {xs : List D} {τ τ1 τ2 : AT} {h h1 h2 : AH} (c : grdOk grd h = true) (e1 : g x τ h = some (τ1, h1)) (e2 : body τ1 h1 = some (.nx τ2 h2)) : forL grd g body (x :: xs) τ h = forL grd g body xs τ2 h2 := by
  conv => lhs; unfold forL
  rw [if_pos c, e1]
  show (body τ1 h1).bind _ = _
  rw [e2]
  rfl
theorem forL_rt {grd : List (Nat × List D)} {g : SG} {body : SS} {x d : D} {xs : List D} {τ τ1 : AT} {h h1 h2 : AH} (c : grdOk grd h = true) (e1 : g x τ h = some (τ1, h1)) (e2 : body τ1 h1 = some (.rt d h2)) : forL grd g body (x :: xs) τ h = some (.rt d h2) := by
  unfold forL
  rw [if_pos c, e1]
  show (body τ1 h1).bind _ = _
  rw [e2]
  rfl
theorem forL_nil {grd : List (Nat × List D)} {g : SG} {body : SS} {τ : AT} {h : AH} (c : grdOk grd h = true) : forL grd g body [] τ h = some (.nx τ h) := by
  unfold forL
  rw [if_pos c]
theorem rngD_succ {lo : Int} {n : Nat} : rngD lo (n + 1) = rngD lo n ++ [.int (lo + n)] := by
  unfold rngD
  rw [List.range_succ, List.map_append]
  rfl
theorem rngD_cons {lo : Int} {n : Nat} : rngD lo (n + 1) = .int lo :: rngD (lo + 1) n := by
  unfold rngD
  rw [List.range_succ_eq_map, List.map_cons, List.map_map]
  congr 1
  · congr 1; omega
  · exact List.map_congr_left fun i _ => by show D.int (lo + (i + 1 : Nat)) = .int (lo + 1 + (i : Nat)); congr 1; omega
end Sm
namespace Sm
open PySem PySem.Spec PyProof.Rows L2
/-! ## rules for dicts with nested keys -/
section
variable {τ τ' : AT} {h h' h1 h2 : AH} {fa fb fc fe : SE} {x y q : LV} {d kd : D} {kvs : List (D × D)} {a : Nat}
@[simp] theorem mNewN_eq : mNewN τ h = some (.val (.ref h.length), h ++ [.ndc []]) := rfl
def gNK (o : Option (LV × AH)) (fi : SE) (d : D) (τ : AT) : Option (AT × AH) := o.bind fun p => (fi τ p.2).bind fun q => (setN p.1 q.1 d q.2).bind fun h' => some (τ, h')
def gNK2 (o : Option (LV × AH)) (x : LV) (d : D) (τ : AT) : Option (AT × AH) := o.bind fun q => (setN x q.1 d q.2).bind fun h' => some (τ, h')
@[simp] theorem gSN_eq : gSN fa fb d τ h = gNK (fa τ h) fb d τ := rfl
@[simp] theorem gNK_some : gNK (some (x, h1)) fb d τ = gNK2 (fb τ h1) x d τ := rfl
@[simp] theorem gNK2_some : gNK2 (some (y, h1)) x d τ = gSK3 (setN x y d h1) τ := rfl
def soNK (o : Option O) (h : AH) : Option (LV × AH) := match o with
    | some (.ndc kvs) => match kvs.map (·.1) with
      | [] => some (.new [], h)
      | d :: r => (rowKd d).bind fun ks => if rowsOk ks (d :: r) = true then some (.new (sortR (d :: r)), h) else none
    | _ => none
@[simp] theorem oSortN_eq : oSortN [.val (.ref a)] h = soNK h[a]? h := rfl
theorem soNK_some : soNK (some (.ndc kvs)) h = soK (some (kvs.map (·.1))) h := rfl
theorem setN_ok {kds : List D} {k : NestedKey} (e : h[a]? = some (.ndc kvs)) (hk : kD (.tup kds) = some k) (hd : k.depth ≤ 8) (hl : kvs.length < 16777216) : setN (.val (.ref a)) (.val (.tup kds)) d h = some (h.set a (.ndc (putN kvs (.tup kds) d))) := by
  unfold setN
  dsimp only
  rw [e]
  dsimp only
  rw [hk]
  exact if_pos ⟨hd, hl⟩
end
/-! ## the draws -/
theorem draw_ok {h : AH} {b dg : Nat} {ds : List Int} {p m : Int} (B : Bx h b dg ds p) (hp : p < 1000000) (hm : 0 < m) : F_law_draw [.ref b, .int m] h = some (.int (dr ds p m), bset h b dg (p + 1)) := by
  have hm' : m ≠ 0 := by omega
  have h1 := B.p0
  have h2 := B.lt
  have h3 : bset h b dg (p + 1) = h.set b (.lst [.ref dg, .int (p + 1)]) := rfl
  have h4 := (B.set (q := p + 1) (by omega)).hb
  have h5 := (B.set (q := p + 1) (by omega)).hd
  have h6 : ∀ q, gc h (.int q) (bset h b dg (p + 1)) = (.int q, bset h b dg (p + 1)) := fun q => gc_box0 B rfl
  have h7 : -18446744073709551616 < p := by omega
  have h8 : p < 18446744073709551616 := by omega
  unfold F_law_draw b_law_draw
  simp only [runDef_if]
  simp [B.hb, hm', h1, ← h3, h4, h5, h7, h8]
  unfold dr
  by_cases hc : p < ds.length
  · have hi : p.toNat < ds.length := by omega
    simp [hc, hi, hm', h6]
  · simp [hc, hm', h6]
theorem draw_loc {h j : AH} {b dg : Nat} {q : Int} {ds : List Int} {p m : Int} (B : Bx h b dg ds p) (hq : 0 ≤ q) (hp : q < 1000000) (hm : 0 < m) : F_law_draw [.ref b, .int m] (bset h b dg q ++ j) = some (.int (dr ds q m), bset h b dg (q + 1) ++ j) := by
  rw [draw_ok (B.loc hq) hp hm, locA B.lt]
/-! ## alike -/
theorem dep_tup {r : List D} : (D.tup r).dep = D.deps r + 1 := by unfold D.dep; rfl
theorem deps_cons {d : D} {r : List D} : D.deps (d :: r) = max d.dep (D.deps r) := by first | rfl | (unfold D.deps; rfl)
theorem deps_nil : D.deps [] = 0 := by first | rfl | (unfold D.deps; rfl)
mutual
def D.lk : D → Bool
  | .tup ds => D.lks ds && decide (ds.length ≤ 16777216)
  | .int _ => true
  | .str _ => true
  | .bl _ => true
  | .non => true
  | _ => false
def D.lks : List D → Bool
  | [] => true
  | d :: r => d.lk && D.lks r
end
theorem lk_tup {ds : List D} : (D.tup ds).lk = (D.lks ds && decide (ds.length ≤ 16777216)) := by unfold D.lk; rfl
theorem lks_cons {d : D} {r : List D} : D.lks (d :: r) = (d.lk && D.lks r) := by conv => lhs; unfold D.lks
theorem lks_nil : D.lks [] = true := by unfold D.lks; rfl
theorem lks_get : ∀ {ds : List D} {d : D}, D.lks ds = true → d ∈ ds → d.lk = true
  | x :: r, d, h, m => by
    rw [lks_cons, Bool.and_eq_true] at h
    rcases List.mem_cons.mp m with rfl | m
    · exact h.1
    · exact lks_get h.2 m
theorem lks_of : ∀ {ds : List D}, (∀ d ∈ ds, d.lk = true) → D.lks ds = true
  | [], _ => lks_nil
  | x :: r, h => by rw [lks_cons, h x List.mem_cons_self, lks_of fun d m => h d (List.mem_cons_of_mem _ m)]; rfl
theorem deps_get : ∀ {ds : List D} {d : D}, d ∈ ds → d.dep ≤ D.deps ds
  | x :: r, d, m => by
    rw [deps_cons]
    rcases List.mem_cons.mp m with rfl | m
    · omega
    · have := deps_get m; omega
theorem deps_le : ∀ {ds : List D} {n : Nat}, (∀ d ∈ ds, d.dep ≤ n) → D.deps ds ≤ n
  | [], n, _ => by rw [deps_nil]; omega
  | x :: r, n, h => by
    rw [deps_cons]
    have := h x List.mem_cons_self
    have := deps_le fun d m => h d (List.mem_cons_of_mem _ m)
    omega
theorem like_row {f : Nat} {x y : D} {ds : List D} {h : AH} (hx : ∀ k : Nat, oIx (.val x) (.val (.int k)) h = (ds[k]?).map fun d => (LV.val d, h)) (hy : ∀ k : Nat, oIx (.val y) (.val (.int k)) h = (ds[k]?).map fun d => (LV.val d, h))
    (hd : ∀ d ∈ ds, F_law_like f [d, d] h = some (.bl true, h)) (y2 : Option D) : ∃ y2', forL [] (gN 2) (l_law_like_1 (F_law_like f)) (rngD 0 ds.length) [some x, some y, y2] h = some (.nx [some x, some y, y2'] h) := by
  obtain ⟨τ', h', e, z, e1, e2⟩ := forRg0 (g := gN 2) (body := l_law_like_1 (F_law_like f)) (n := ds.length) (fun i τ hh => ∃ z, τ = [some x, some y, z] ∧ hh = h) (fun i hi τ hh ⟨z, e1, e2⟩ => by
    subst e1 e2
    refine ⟨_, _, _, _, rfl, .inl ?_, some (.int i), rfl, rfl⟩
    have q := hd _ (List.getElem_mem hi)
    have gx := hx i
    have gy := hy i
    rw [List.getElem?_eq_getElem hi] at gx gy
    simp only [Option.map_some] at gx gy
    generalize ds[i] = d at *
    unfold l_law_like_1
    simp -implicitDefEqProofs (disch := first | assumption | omega | (simp only [List.length_cons, List.length_nil, List.length_map, List.length_set, List.length_append]; omega)) [gx, gy, q]) [some x, some y, y2] h ⟨y2, rfl, rfl⟩
  subst e1 e2
  exact ⟨z, e⟩
theorem ix_tup {ds : List D} {h : AH} (k : Nat) : oIx (.val (.tup ds)) (.val (.int k)) h = (ds[k]?).map fun d => (LV.val d, h) := by
  rw [oIx_tup, atI_pos (by omega), Int.toNat_natCast]
  cases ds[k]? <;> rfl
theorem like_ok : ∀ (f : Nat) (d : D) (h : AH), d.lk = true → d.dep < f → F_law_like f [d, d] h = some (.bl true, h)
  | 0, d, h, _, hf => by omega
  | f + 1, d, h, hl, hf => by
    have g : gc h (.bl true) h = (.bl true, h) := gc_pure0 rfl
    unfold F_law_like b_law_like
    match d, hl with
    | .int i, _ => simp -implicitDefEqProofs (disch := first | assumption | omega | (simp only [List.length_cons, List.length_nil, List.length_map, List.length_set, List.length_append]; omega)) [runDef_if, g]
    | .str i, _ => simp -implicitDefEqProofs (disch := first | assumption | omega | (simp only [List.length_cons, List.length_nil, List.length_map, List.length_set, List.length_append]; omega)) [runDef_if, g]
    | .bl i, _ => simp -implicitDefEqProofs (disch := first | assumption | omega | (simp only [List.length_cons, List.length_nil, List.length_map, List.length_set, List.length_append]; omega)) [runDef_if, g]
    | .non, _ => simp -implicitDefEqProofs (disch := first | assumption | omega | (simp only [List.length_cons, List.length_nil, List.length_map, List.length_set, List.length_append]; omega)) [runDef_if, g]
    | .tup ds, hl =>
      rw [lk_tup, Bool.and_eq_true] at hl
      have zl := of_decide_eq_true hl.2
      rw [dep_tup] at hf
      obtain ⟨y2, e⟩ := like_row (f := f) (x := .tup ds) (y := .tup ds) (ds := ds) (h := h) ix_tup ix_tup (fun d hd => like_ok f d h (lks_get hl.1 hd) (by have := deps_get hd; omega)) none
      simp -implicitDefEqProofs (disch := first | assumption | omega | (simp only [List.length_cons, List.length_nil, List.length_map, List.length_set, List.length_append]; omega)) [runDef_if, zl, e, g]
end Sm
namespace Sm
open PySem PySem.Spec PyProof.Rows L2
/-! ## matrices of bounds -/
abbrev Mt := Nat → Nat → Option Int
def upd (M : Mt) (i j : Nat) (v : Option Int) : Mt := fun a b => if a = i ∧ b = j then v else M a b
def lessO : Option Int → Option Int → Option Int
  | none, o => o
  | some a, none => some a
  | some a, some b => some (min a b)
def sumO : Option Int → Option Int → Option Int
  | some a, some b => some (a + b)
  | _, _ => none
def oi : Option Int → D
  | none => .non
  | some a => .int a
def rowD (N : Nat) (M : Mt) (i : Nat) : List D := (List.range N).map fun j => oi (M i j)
def rowsD (N : Nat) (M : Mt) : List D := (List.range N).map fun i => .tup (rowD N M i)
def zoD (N : Nat) (M : Mt) : D := .tup (rowsD N M)
def rowsO (N : Nat) (M : Mt) : AH := (List.range N).map fun i => .lst (rowD N M i)
def refs (b N : Nat) : List D := (List.range N).map fun i => .ref (b + i)
/-- the rows are laid, one by one, and a list of them -/
def hM (h : AH) (N : Nat) (M : Mt) : AH := h ++ (rowsO N M ++ [.lst (refs h.length N)])
section
variable {h : AH} {N i j : Nat} {M : Mt} {v : Option Int}
@[simp] theorem rowD_len : (rowD N M i).length = N := by unfold rowD; rw [List.length_map, List.length_range]
@[simp] theorem rowsD_len : (rowsD N M).length = N := by unfold rowsD; rw [List.length_map, List.length_range]
@[simp] theorem rowsO_len : (rowsO N M).length = N := by unfold rowsO; rw [List.length_map, List.length_range]
@[simp] theorem refs_len {b : Nat} : (refs b N).length = N := by unfold refs; rw [List.length_map, List.length_range]
theorem rowD_get (hj : j < N) : (rowD N M i)[j]? = some (oi (M i j)) := by
  unfold rowD
  rw [List.getElem?_map, List.getElem?_range hj]
  rfl
theorem rowsD_get (hi : i < N) : (rowsD N M)[i]? = some (.tup (rowD N M i)) := by
  unfold rowsD
  rw [List.getElem?_map, List.getElem?_range hi]
  rfl
theorem refs_get {b : Nat} (hi : i < N) : (refs b N)[i]? = some (.ref (b + i)) := by
  unfold refs
  rw [List.getElem?_map, List.getElem?_range hi]
  rfl
theorem at_row (hj : j < N) : L2.atI (rowD N M i) (j : Int) = some (oi (M i j)) := by rw [atI_cast, rowD_get hj]
theorem at_row0 (hj : 0 < N) : L2.atI (rowD N M i) 0 = some (oi (M i 0)) := at_row hj
theorem at_rows (hi : i < N) : L2.atI (rowsD N M) (i : Int) = some (.tup (rowD N M i)) := by rw [atI_cast, rowsD_get hi]
theorem at_rows0 (hi : 0 < N) : L2.atI (rowsD N M) 0 = some (.tup (rowD N M 0)) := at_rows hi
theorem at_refs {b : Nat} (hi : i < N) : L2.atI (refs b N) (i : Int) = some (.ref (b + i)) := by rw [atI_cast, refs_get hi]
theorem at_refs0 {b : Nat} (hi : 0 < N) : L2.atI (refs b N) 0 = some (.ref (b + 0)) := at_refs hi
theorem hM_top : (hM h N M)[h.length + N]? = some (.lst (refs h.length N)) := by
  unfold hM
  rw [List.getElem?_append_right (by omega), List.getElem?_append_right (by rw [rowsO_len]; omega), rowsO_len, show h.length + N - h.length - N = 0 by omega]
  rfl
theorem hM_row (hi : i < N) : (hM h N M)[h.length + i]? = some (.lst (rowD N M i)) := by
  unfold hM
  rw [List.getElem?_append_right (by omega), List.getElem?_append_left (by rw [rowsO_len]; omega), Nat.add_sub_cancel_left]
  unfold rowsO
  rw [List.getElem?_map, List.getElem?_range hi]
  rfl
theorem upd_self : upd M i j (M i j) = M := by
  funext a b
  unfold upd
  split
  · next h => rw [h.1, h.2]
  · rfl
theorem rowD_upd : (rowD N M i).set j (oi v) = rowD N (upd M i j v) i := by
  apply List.ext_getElem?
  intro k
  rw [List.getElem?_set]
  rcases Nat.lt_or_ge k N with hk | hk
  · rw [rowD_get hk]
    by_cases e : j = k
    · subst e
      rw [if_pos rfl, if_pos (by rw [rowD_len]; exact hk), rowD_get hk]
      unfold upd
      rw [if_pos ⟨rfl, rfl⟩]
    · rw [if_neg e, rowD_get hk]
      unfold upd
      rw [if_neg fun z => e z.2.symm]
  · rw [List.getElem?_eq_none (by rw [rowD_len]; exact hk), List.getElem?_eq_none (by rw [rowD_len]; exact hk)]
    split
    · rw [if_neg (by rw [rowD_len]; omega)]
    · rfl
theorem rowD_upd_ne {k : Nat} (e : k ≠ i) : rowD N (upd M i j v) k = rowD N M k := by
  unfold rowD
  refine List.map_congr_left fun b _ => ?_
  unfold upd
  rw [if_neg fun z => e z.1]
theorem rowsO_upd : (rowsO N M).set i (.lst (rowD N (upd M i j v) i)) = rowsO N (upd M i j v) := by
  apply List.ext_getElem?
  intro k
  rw [List.getElem?_set]
  unfold rowsO
  rw [List.length_map, List.length_range, List.getElem?_map, List.getElem?_map]
  rcases Nat.lt_or_ge k N with hk | hk
  · rw [List.getElem?_range hk]
    by_cases e : i = k
    · subst e
      rw [if_pos rfl, if_pos hk]
      rfl
    · rw [if_neg e]
      show some (O.lst (rowD N M k)) = some (O.lst _)
      rw [rowD_upd_ne (Ne.symm e)]
  · rw [List.getElem?_eq_none (by rw [List.length_range]; exact hk)]
    split
    · rw [if_neg (by omega)]; rfl
    · rfl
theorem hM_set (hi : i < N) : (hM h N M).set (h.length + i) (.lst ((rowD N M i).set j (oi v))) = hM h N (upd M i j v) := by
  unfold hM
  rw [List.set_append_right _ _ (by omega), Nat.add_sub_cancel_left, List.set_append_left _ _ (by rw [rowsO_len]; exact hi), rowD_upd, rowsO_upd]
theorem hM_setI {k : Int} (hi : i < N) : (hM h N M).set (h.length + i) (.lst ((rowD N M i).set j (.int k))) = hM h N (upd M i j (some k)) := hM_set (v := some k) hi
theorem hM_setN (hi : i < N) : (hM h N M).set (h.length + i) (.lst ((rowD N M i).set j .non)) = hM h N (upd M i j none) := hM_set (v := none) hi
theorem hM_ext {M' : Mt} (e : ∀ i j, i < N → j < N → M i j = M' i j) : hM h N M = hM h N M' := by
  unfold hM rowsO
  congr 2
  refine List.map_congr_left fun i hi => ?_
  unfold rowD
  rw [List.map_congr_left fun j hj => by rw [e i j (List.mem_range.mp hi) (List.mem_range.mp hj)]]
theorem zoD_ext {M' : Mt} (e : ∀ i j, i < N → j < N → M i j = M' i j) : zoD N M = zoD N M' := by
  unfold zoD rowsD
  congr 1
  refine List.map_congr_left fun i hi => ?_
  unfold rowD
  rw [List.map_congr_left fun j hj => by rw [e i j (List.mem_range.mp hi) (List.mem_range.mp hj)]]
theorem low_oi {n : Nat} {o : Option Int} : (oi o).low n = true := by cases o <;> rfl
theorem lows_all {n : Nat} {ds : List D} (h : ∀ d ∈ ds, d.low n = true) : D.lows n ds = true := by
  induction ds with
  | nil => rfl
  | cons d r ih => rw [lows_cons, h d List.mem_cons_self, ih fun x hx => h x (List.mem_cons_of_mem _ hx)]; rfl
theorem rowD_low {n : Nat} : D.lows n (rowD N M i) = true := lows_all fun d hd => by
  obtain ⟨j, _, rfl⟩ := List.mem_map.mp hd
  exact low_oi
theorem zoD_low {n : Nat} : (zoD N M).low n = true := by
  unfold zoD
  rw [low_tup]
  refine lows_all fun d hd => ?_
  obtain ⟨j, _, rfl⟩ := List.mem_map.mp hd
  rw [low_tup]
  exact rowD_low
theorem lk_oi {o : Option Int} : (oi o).lk = true := by cases o <;> (unfold oi D.lk; rfl)
theorem zoD_lk (hN : N ≤ 16777216) : (zoD N M).lk = true := by
  unfold zoD
  rw [lk_tup, Bool.and_eq_true]
  refine ⟨lks_of fun d hd => ?_, decide_eq_true (by rw [rowsD_len]; exact hN)⟩
  obtain ⟨j, _, rfl⟩ := List.mem_map.mp hd
  rw [lk_tup, Bool.and_eq_true]
  refine ⟨lks_of fun d hd => ?_, decide_eq_true (by rw [rowD_len]; exact hN)⟩
  obtain ⟨j, _, rfl⟩ := List.mem_map.mp hd
  exact lk_oi
theorem dep_oi {o : Option Int} : (oi o).dep = 0 := by cases o <;> (unfold oi D.dep; rfl)
theorem zoD_dep : (zoD N M).dep ≤ 2 := by
  unfold zoD
  rw [dep_tup]
  have : D.deps (rowsD N M) ≤ 1 := deps_le fun d hd => by
    obtain ⟨j, _, rfl⟩ := List.mem_map.mp hd
    rw [dep_tup]
    have : D.deps (rowD N M j) ≤ 0 := deps_le fun d hd => by
      obtain ⟨j, _, rfl⟩ := List.mem_map.mp hd
      rw [dep_oi]
      omega
    omega
  omega
end
/-! ## the two that add and compare -/
section
variable {h : AH} {a b : Option Int} {k : Int}
@[simp] theorem oIs_oi : oIs (.val (oi a)) (.val .non) h = some (.val (.bl a.isNone), h) := by
  cases a
  · simp [oi]
  · simp [oi]
@[simp] theorem oIsNot_oi : oIsNot (.val (oi a)) (.val .non) h = some (.val (.bl a.isSome), h) := by
  cases a
  · simp [oi]
  · simp [oi]
@[simp] theorem oi_some : oi (some k) = .int k := rfl
@[simp] theorem oi_none : oi none = .non := rfl
theorem imin_min (a b : Int) : imin a b = min a b := by unfold imin; split <;> omega
@[simp] theorem oMin_two {k l : Int} : oMin [.val (.int k), .val (.int l)] h = some (.val (.int (min k l)), h) := by rw [← imin_min]; rfl
theorem less_of_ok : F_less_of [oi a, oi b] h = some (oi (lessO a b), h) := by
  have g : ∀ o, gc h (oi o) h = (oi o, h) := fun o => gc_pure0 low_oi
  have gi : ∀ o, gc h (.int o) h = (.int o, h) := fun o => gc_pure0 rfl
  have gn : gc h .non h = (.non, h) := gc_pure0 rfl
  unfold F_less_of b_less_of
  cases a <;> cases b <;> simp -implicitDefEqProofs (disch := first | assumption | omega | (simp only [List.length_cons, List.length_nil, List.length_map, List.length_set, List.length_append]; omega)) [runDef_if, lessO, g, gi, gn]
theorem sum_of_ok : F_sum_of [oi a, oi b] h = some (oi (sumO a b), h) := by
  have gi : ∀ o, gc h (.int o) h = (.int o, h) := fun o => gc_pure0 rfl
  have gn : gc h .non h = (.non, h) := gc_pure0 rfl
  unfold F_sum_of b_sum_of
  cases a <;> cases b <;> simp -implicitDefEqProofs (disch := first | assumption | omega | (simp only [List.length_cons, List.length_nil, List.length_map, List.length_set, List.length_append]; omega)) [runDef_if, sumO, gi, gn]
theorem law_less_ok : F_law_less [oi a, oi b] h = some (oi (lessO a b), h) := by
  have gi : ∀ o, gc h (.int o) h = (.int o, h) := fun o => gc_pure0 rfl
  have gn : gc h .non h = (.non, h) := gc_pure0 rfl
  unfold F_law_less b_law_less
  cases a <;> cases b <;> simp -implicitDefEqProofs (disch := first | assumption | omega | (simp only [List.length_cons, List.length_nil, List.length_map, List.length_set, List.length_append]; omega)) [runDef_if, lessO, gi, gn]
theorem less_of_k : F_less_of [oi a, .int k] h = some (oi (lessO a (some k)), h) := less_of_ok (b := some k)
theorem law_less_k : F_law_less [oi a, .int k] h = some (oi (lessO a (some k)), h) := law_less_ok (b := some k)
end
end Sm
namespace Sm
open PySem PySem.Spec PyProof.Rows L2
/-! ## copies of rows; equal to nothing -/
theorem copy_go {s : Nat} {τ : AT} (hs : s < τ.length) {grd : List (Nat × List D)} : ∀ (xs : List (D × List D)) (h : AH), (∀ g, grdOk grd (h ++ g) = true) → (∀ p ∈ xs, p.2.length ≤ 16777216 ∧ ∀ g, asQ (.val p.1) (h ++ g) = some p.2) →
    compL grd (gN s) mYes (mFn oList (mCons (mVar s) mNil)) τ (xs.map (·.1)) h = some ((List.range xs.length).map (fun i => D.ref (h.length + i)), h ++ xs.map fun p => O.lst p.2)
  | [], h, hg, hx => by
    have := hg []
    rw [List.append_nil] at this
    show compL grd _ mYes _ τ [] h = _
    unfold compL
    rw [if_pos this]
    simp
  | p :: xs, h, hg, hx => by
    have h0 := hg []
    rw [List.append_nil] at h0
    obtain ⟨h1, h2⟩ := hx p List.mem_cons_self
    have h3 := h2 []
    rw [List.append_nil] at h3
    have ih := copy_go hs xs (h ++ [.lst p.2]) (fun g => by rw [List.append_assoc]; exact hg _) (fun r hr => ⟨(hx r (List.mem_cons_of_mem _ hr)).1, fun g => by rw [List.append_assoc]; exact (hx r (List.mem_cons_of_mem _ hr)).2 _⟩)
    have e : mFn oList (mCons (mVar s) mNil) (τ.set s (some p.1)) h = some (.new p.2, h) := by
      have : (τ.set s (some p.1))[s]? = some (some p.1) := List.getElem?_set_self hs
      simp -implicitDefEqProofs (disch := first | assumption | omega | (simp only [List.length_cons, List.length_nil, List.length_map, List.length_set, List.length_append]; omega)) [this, h3, h1]
    show compL grd _ mYes _ τ (p.1 :: xs.map (·.1)) h = _
    unfold compL
    rw [if_pos h0]
    show (((mFn oList (mCons (mVar s) mNil)) (τ.set s (some p.1)) h).bind fun y => _) = _
    rw [e]
    show ((compL grd (gN s) mYes _ τ (xs.map (·.1)) (h ++ [.lst p.2])).bind fun z => some (D.ref h.length :: z.1, z.2)) = _
    rw [ih]
    show some (D.ref h.length :: _, _) = _
    rw [List.length_cons, List.range_succ_eq_map, List.map_cons, List.map_map]
    simp only [List.length_append, List.length_cons, List.length_nil, List.append_assoc, List.map_cons, List.singleton_append, Option.some.injEq, Prod.mk.injEq, and_true]
    refine List.cons_eq_cons.mpr ⟨rfl, List.map_congr_left fun i _ => ?_⟩
    show D.ref (h.length + (0 + 1) + i) = D.ref (h.length + (i + 1))
    congr 1
    omega
section
variable {h : AH} {N i j s : Nat} {M : Mt} {τ : AT}
theorem copy_zo (hN : N ≤ 16777216) (hs : s < τ.length) : compL [] (gN s) mYes (mFn oList (mCons (mVar s) mNil)) τ (rowsD N M) h = some (refs h.length N, h ++ rowsO N M) := by
  have := copy_go (s := s) (τ := τ) hs (grd := []) ((List.range N).map fun i => (D.tup (rowD N M i), rowD N M i)) h (fun _ => rfl) (fun p hp => by
    obtain ⟨i, _, rfl⟩ := List.mem_map.mp hp
    exact ⟨by rw [rowD_len]; exact hN, fun _ => rfl⟩)
  rw [List.map_map, List.map_map, List.length_map, List.length_range] at this
  exact this
theorem copy_hM {g : AH} (hN : N ≤ 16777216) (hs : s < τ.length) : compL [(h.length + N, refs h.length N)] (gN s) mYes (mFn oList (mCons (mVar s) mNil)) τ (refs h.length N) (hM h N M ++ g) = some (refs (hM h N M ++ g).length N, (hM h N M ++ g) ++ rowsO N M) := by
  have l : (hM h N M).length = h.length + N + 1 := by unfold hM; simp; omega
  have := copy_go (s := s) (τ := τ) hs (grd := [(h.length + N, refs h.length N)]) ((List.range N).map fun i => (D.ref (h.length + i), rowD N M i)) (hM h N M ++ g) (fun g' => by
    rw [grdOk_cons, List.append_assoc, List.getElem?_append_left (by omega), hM_top]
    simp) (fun p hp => by
    obtain ⟨i, hi, rfl⟩ := List.mem_map.mp hp
    have hi := List.mem_range.mp hi
    refine ⟨by rw [rowD_len]; exact hN, fun g' => ?_⟩
    rw [asQ_ref, List.append_assoc, List.getElem?_append_left (by omega), hM_row hi]
    rfl)
  rw [List.map_map, List.map_map, List.length_map, List.length_range] at this
  exact this
theorem copy_hM0 (hN : N ≤ 16777216) (hs : s < τ.length) : compL [(h.length + N, refs h.length N)] (gN s) mYes (mFn oList (mCons (mVar s) mNil)) τ (refs h.length N) (hM h N M) = some (refs (hM h N M).length N, hM h N M ++ rowsO N M) := by
  have := copy_hM (h := h) (M := M) (g := []) hN hs
  rwa [List.append_nil] at this
/-- tuples of the rows -/
theorem tups_hM (hs : s < τ.length) : compL [(h.length + N, refs h.length N)] (gN s) mYes (mFn oTuple (mCons (mVar s) mNil)) τ (refs h.length N) (hM h N M) = some (rowsD N M, hM h N M) := by
  have := compL_mapT (grd := [(h.length + N, refs h.length N)]) (g := gN s) (fe := mFn oTuple (mCons (mVar s) mNil)) (τ := τ) (h := hM h N M) (t := fun i : Nat => D.ref (h.length + i)) (fun i => D.tup (rowD N M i)) (by rw [grdOk_cons, hM_top]; simp) (List.range N) (fun i hi => by
    have hi := List.mem_range.mp hi
    refine ⟨τ.set s (some (.ref (h.length + i))), rfl, ?_⟩
    have e : (τ.set s (some (.ref (h.length + i))))[s]? = some (some (.ref (h.length + i))) := List.getElem?_set_self hs
    have r := hM_row (h := h) (M := M) hi
    simp -implicitDefEqProofs (disch := first | assumption | omega | (simp only [List.length_cons, List.length_nil, List.length_map, List.length_set, List.length_append]; omega)) [e, r])
  exact this
end
theorem nbs_int : ∀ {ds : List D}, (∀ d ∈ ds, ∃ k, d = .int k) → D.nbs ds = true
  | [], _ => rfl
  | d :: r, h => by
    obtain ⟨k, rfl⟩ := h d List.mem_cons_self
    unfold D.nbs
    rw [nbs_int fun x hx => h x (List.mem_cons_of_mem _ hx)]
    unfold D.nb
    rfl
theorem eqNil_ok {ds : List D} (hd : ∀ d ∈ ds, ∃ k, d = .int k) : okEq (.fl ds) (.fl []) = true ∧ (decide (D.fl ds = .fl []) = ds.isEmpty) := by
  constructor
  · unfold okEq
    have h1 : (D.fl ds).nb = true := by unfold D.nb; exact nbs_int hd
    have h2 : (D.fl []).nb = true := by unfold D.nb; rfl
    have h3 : (D.fl ds).dep ≤ 64 := by
      unfold D.dep
      have : D.deps ds ≤ 0 := deps_le fun d hx => by
        obtain ⟨k, rfl⟩ := hd d hx
        unfold D.dep
        omega
      omega
    have h4 : (D.fl []).dep ≤ 64 := by unfold D.dep; rw [deps_nil]; omega
    rw [h1, h2, decide_eq_true h3, decide_eq_true h4]
    rfl
  · cases ds with
    | nil => simp
    | cons d r => simp
theorem ne_nilN {ds : List D} {h : AH} (hd : ∀ d ∈ ds, ∃ k, d = .int k) : oNe (.new ds) (.new []) h = some (.val (.bl (!ds.isEmpty)), h) := by
  obtain ⟨a, b⟩ := eqNil_ok hd
  rw [oNe_dat (x := .new ds) (y := .new []) a (fun _ _ e => by cases e) (fun _ _ e => by cases e)]
  show some (LV.val (.bl (!decide (D.fl ds = .fl []))), h) = _
  rw [b]
theorem ne_nilR {ds : List D} {a : Nat} {h : AH} (e : h[a]? = some (.lst ds)) (hd : ∀ d ∈ ds, ∃ k, d = .int k) : oNe (.val (.ref a)) (.new []) h = some (.val (.bl (!ds.isEmpty)), h) := by
  obtain ⟨x, b⟩ := eqNil_ok hd
  have : dat (.val (.ref a)) h = .fl ds := by unfold dat; dsimp only; rw [e]
  rw [oNe_dat (x := .val (.ref a)) (y := .new []) (by rw [this]; exact x) (fun _ _ e => by cases e) (fun _ _ e => by cases e), this]
  show some (LV.val (.bl (!decide (D.fl ds = .fl []))), h) = _
  rw [b]
theorem eq_nilR {ds : List D} {a : Nat} {h : AH} (e : h[a]? = some (.lst ds)) (hd : ∀ d ∈ ds, ∃ k, d = .int k) : oEq (.val (.ref a)) (.new []) h = some (.val (.bl ds.isEmpty), h) := by
  obtain ⟨x, b⟩ := eqNil_ok hd
  have : dat (.val (.ref a)) h = .fl ds := by unfold dat; dsimp only; rw [e]
  rw [oEq_dat (x := .val (.ref a)) (y := .new []) (by rw [this]; exact x) (fun _ _ e => by cases e) (fun _ _ e => by cases e), this]
  show some (LV.val (.bl (decide (D.fl ds = .fl []))), h) = _
  rw [b]
theorem oAll_bls {bs : List Bool} {h : AH} : oAll [.new (bs.map D.bl)] h = some (.val (.bl (bs.all id)), h) := by
  have : bls (bs.map D.bl) = some bs := by
    induction bs with
    | nil => rfl
    | cons n r ih => show ((bls (r.map D.bl)).bind _) = _; rw [ih]; rfl
  show ((bls (bs.map D.bl)).bind _) = _
  rw [this]
  rfl
theorem setK_row {h : AH} {N i j : Nat} {M : Mt} {v : Option Int} (hi : i < N) (hj : j < N) : setK (some (.lst (rowD N M i))) (h.length + i) (j : Int) (oi v) (hM h N M) = some (hM h N (upd M i j v)) := by
  rw [setK_some (by omega) (by rw [rowD_len]; omega), Int.toNat_natCast, hM_set hi]
/-! ## going over all -/
def it {α : Type} (f : α → Nat → α) (a : α) (n : Nat) : α := (List.range n).foldl f a
theorem it_succ {α : Type} {f : α → Nat → α} {a : α} {n : Nat} : it f a (n + 1) = f (it f a n) n := by
  unfold it
  rw [List.range_succ, List.foldl_append]
  rfl
def iniS (M : Mt) (k : Nat) : Mt := upd (upd M k k (lessO (M k k) (some 0))) 0 k (lessO (upd M k k (lessO (M k k) (some 0)) 0 k) (some 0))
def stp (k i : Nat) (M : Mt) (j : Nat) : Mt := upd M i j (lessO (M i j) (sumO (M i k) (M k j)))
def fwR (N k : Nat) (M : Mt) (i : Nat) : Mt := it (stp k i) M N
def fwK (N : Nat) (M : Mt) (k : Nat) : Mt := it (fwR N k) M N
def fw (N : Nat) (M : Mt) : Mt := it (fwK N) (it iniS M N) N
end Sm
namespace Sm
open PySem PySem.Spec PyProof.Rows L2
section
variable {h : AH} {N k i : Nat} {M : Mt} {x0 x1 x3 x4 x5 x6 x7 x8 : Option D}
theorem ini_turn {i : Nat} (hi : i < N) : l_tight_rows_1 [x0, x1, some (.ref (h.length + N)), some (.int (i : Int)), x4, x5, x6, x7, x8] (hM h N M) = some (.nx [x0, x1, some (.ref (h.length + N)), some (.int (i : Int)), x4, x5, x6, x7, x8] (hM h N (iniS M i))) := by
  have t := fun M => hM_top (h := h) (N := N) (M := M)
  have r := fun M => hM_row (h := h) (M := M) hi
  have r0 := fun M => hM_row (h := h) (M := M) (i := 0) (N := N) (by omega)
  have a := fun M => at_row (i := i) (M := M) hi
  have a0 := fun M => at_row (i := 0) (M := M) hi
  have f := at_refs (b := h.length) hi
  have f0 := at_refs0 (b := h.length) (N := N) (by omega)
  have s := fun M v => setK_row (h := h) (M := M) (v := v) hi hi
  have s0 := fun M v => setK_row (h := h) (M := M) (i := 0) (N := N) (v := v) (by omega) hi
  have l := fun M i => rowD_len (N := N) (M := M) (i := i)
  simp only [Nat.add_zero] at f0 r0 s0
  unfold l_tight_rows_1
  simp -implicitDefEqProofs (disch := first | assumption | omega | (simp only [List.length_cons, List.length_nil, List.length_map, List.length_set, List.length_append]; omega)) [t, r, r0, a, a0, f, f0, s, s0, l, less_of_k, iniS, -atI_pos]
theorem ini_go : ∃ y, forL [] (gN 3) l_tight_rows_1 (rngD 0 N) [x0, x1, some (.ref (h.length + N)), x3, x4, x5, x6, x7, x8] (hM h N M) = some (.nx [x0, x1, some (.ref (h.length + N)), y, x4, x5, x6, x7, x8] (hM h N (it iniS M N))) := by
  obtain ⟨τ', h', e, z, e1, e2⟩ := forRg0 (g := gN 3) (body := l_tight_rows_1) (n := N) (fun i τ hh => ∃ z, τ = [x0, x1, some (.ref (h.length + N)), z, x4, x5, x6, x7, x8] ∧ hh = hM h N (it iniS M i)) (fun i hi τ hh ⟨z, e1, e2⟩ => by
    subst e1 e2
    refine ⟨_, _, _, _, rfl, .inl (ini_turn hi), _, rfl, by rw [it_succ]⟩) [x0, x1, some (.ref (h.length + N)), x3, x4, x5, x6, x7, x8] (hM h N M) ⟨_, rfl, rfl⟩
  subst e1 e2
  exact ⟨z, e⟩
theorem stp_turn {k i j : Nat} (hk : k < N) (hi : i < N) (hj : j < N) : l_tight_rows_2 [x0, x1, some (.ref (h.length + N)), x3, some (.int (k : Int)), some (.int (i : Int)), x6, some (.int (j : Int)), x8] (hM h N M) = some (.nx [x0, x1, some (.ref (h.length + N)), x3, some (.int (k : Int)), some (.int (i : Int)), x6, some (.int (j : Int)), some (oi (sumO (M i k) (M k j)))] (hM h N (stp k i M j))) := by
  have t := fun M => hM_top (h := h) (N := N) (M := M)
  have ri := fun M => hM_row (h := h) (M := M) hi
  have rk := fun M => hM_row (h := h) (M := M) hk
  have a1 := fun M => at_row (i := i) (M := M) hk
  have a2 := fun M => at_row (i := k) (M := M) hj
  have a3 := fun M => at_row (i := i) (M := M) hj
  have fi := at_refs (b := h.length) hi
  have fk := at_refs (b := h.length) hk
  have s := fun M v => setK_row (h := h) (M := M) (v := v) hi hj
  have l := fun M i => rowD_len (N := N) (M := M) (i := i)
  unfold l_tight_rows_2
  simp -implicitDefEqProofs (disch := first | assumption | omega | (simp only [List.length_cons, List.length_nil, List.length_map, List.length_set, List.length_append]; omega)) [t, ri, rk, a1, a2, a3, fi, fk, s, l, less_of_ok, sum_of_ok, stp, -atI_pos]
theorem stp_go (hk : k < N) (hi : i < N) : ∃ y z, forL [] (gN 7) l_tight_rows_2 (rngD 0 N) [x0, x1, some (.ref (h.length + N)), x3, some (.int (k : Int)), some (.int (i : Int)), x6, x7, x8] (hM h N M) = some (.nx [x0, x1, some (.ref (h.length + N)), x3, some (.int (k : Int)), some (.int (i : Int)), x6, y, z] (hM h N (fwR N k M i))) := by
  obtain ⟨τ', h', e, z1, z2, e1, e2⟩ := forRg0 (g := gN 7) (body := l_tight_rows_2) (n := N) (fun j τ hh => ∃ y z, τ = [x0, x1, some (.ref (h.length + N)), x3, some (.int (k : Int)), some (.int (i : Int)), x6, y, z] ∧ hh = hM h N (it (stp k i) M j)) (fun j hj τ hh ⟨z1, z2, e1, e2⟩ => by
    subst e1 e2
    refine ⟨_, _, _, _, rfl, .inl (stp_turn hk hi hj), _, _, rfl, by rw [it_succ]⟩) [x0, x1, some (.ref (h.length + N)), x3, some (.int (k : Int)), some (.int (i : Int)), x6, x7, x8] (hM h N M) ⟨_, _, rfl, rfl⟩
  subst e1 e2
  exact ⟨z1, z2, e⟩
theorem row_go (hN : N ≤ 1000) (hk : k < N) : ∃ y5 y7 y8, forL [] (gN 5) l_tight_rows_3 (rngD 0 N) [x0, some (.int (N : Int)), some (.ref (h.length + N)), x3, some (.int (k : Int)), x5, x6, x7, x8] (hM h N M) = some (.nx [x0, some (.int (N : Int)), some (.ref (h.length + N)), x3, some (.int (k : Int)), y5, x6, y7, y8] (hM h N (fwK N M k))) := by
  obtain ⟨τ', h', e, z0, z1, z2, e1, e2⟩ := forRg0 (g := gN 5) (body := l_tight_rows_3) (n := N) (fun i τ hh => ∃ w y z, τ = [x0, some (.int (N : Int)), some (.ref (h.length + N)), x3, some (.int (k : Int)), w, x6, y, z] ∧ hh = hM h N (it (fwR N k) M i)) (fun i hi τ hh ⟨z0, z1, z2, e1, e2⟩ => by
    subst e1 e2
    obtain ⟨y, z, e⟩ := stp_go (h := h) (M := it (fwR N k) M i) (x0 := x0) (x1 := some (.int (N : Int))) (x3 := x3) (x6 := x6) (x7 := z1) (x8 := z2) hk hi
    refine ⟨_, _, [x0, some (.int (N : Int)), some (.ref (h.length + N)), x3, some (.int (k : Int)), some (.int (i : Int)), x6, y, z], hM h N (it (fwR N k) M (i + 1)), rfl, .inl ?_, _, _, _, rfl, rfl⟩
    unfold l_tight_rows_3
    rw [it_succ]
    simp -implicitDefEqProofs (disch := first | assumption | omega | (simp only [List.length_cons, List.length_nil, List.length_map, List.length_set, List.length_append]; omega)) [e]) [x0, some (.int (N : Int)), some (.ref (h.length + N)), x3, some (.int (k : Int)), x5, x6, x7, x8] (hM h N M) ⟨_, _, _, rfl, rfl⟩
  subst e1 e2
  exact ⟨z0, z1, z2, e⟩
theorem fw_go (hN : N ≤ 1000) : ∃ y4 y5 y7 y8, forL [] (gN 4) l_tight_rows_4 (rngD 0 N) [x0, some (.int (N : Int)), some (.ref (h.length + N)), x3, x4, x5, x6, x7, x8] (hM h N M) = some (.nx [x0, some (.int (N : Int)), some (.ref (h.length + N)), x3, y4, y5, x6, y7, y8] (hM h N (it (fwK N) M N))) := by
  obtain ⟨τ', h', e, z4, z0, z1, z2, e1, e2⟩ := forRg0 (g := gN 4) (body := l_tight_rows_4) (n := N) (fun k τ hh => ∃ u w y z, τ = [x0, some (.int (N : Int)), some (.ref (h.length + N)), x3, u, w, x6, y, z] ∧ hh = hM h N (it (fwK N) M k)) (fun k hk τ hh ⟨z4, z0, z1, z2, e1, e2⟩ => by
    subst e1 e2
    obtain ⟨w, y, z, e⟩ := row_go (h := h) (M := it (fwK N) M k) (x0 := x0) (x3 := x3) (x5 := z0) (x6 := x6) (x7 := z1) (x8 := z2) hN hk
    refine ⟨_, _, [x0, some (.int (N : Int)), some (.ref (h.length + N)), x3, some (.int (k : Int)), w, x6, y, z], hM h N (it (fwK N) M (k + 1)), rfl, .inl ?_, _, _, _, _, rfl, rfl⟩
    unfold l_tight_rows_4
    rw [it_succ]
    simp -implicitDefEqProofs (disch := first | assumption | omega | (simp only [List.length_cons, List.length_nil, List.length_map, List.length_set, List.length_append]; omega)) [e]) [x0, some (.int (N : Int)), some (.ref (h.length + N)), x3, x4, x5, x6, x7, x8] (hM h N M) ⟨_, _, _, _, rfl, rfl⟩
  subst e1 e2
  exact ⟨z4, z0, z1, z2, e⟩
end
end Sm
namespace Sm
open PySem PySem.Spec PyProof.Rows L2
/-! ## what the tightening does, in numbers -/
def LqO (o : Option Int) (x : Int) : Prop := ∃ c, o = some c ∧ c ≤ x
def Lq (M : Mt) (i j : Nat) (x : Int) : Prop := LqO (M i j) x
theorem LqO.mono {o : Option Int} {x y : Int} (h : LqO o x) (e : x ≤ y) : LqO o y := by
  obtain ⟨c, h1, h2⟩ := h
  exact ⟨c, h1, by omega⟩
theorem Lq.mono {M : Mt} {i j : Nat} {x y : Int} (h : Lq M i j x) (e : x ≤ y) : Lq M i j y := LqO.mono h e
theorem lq_some {c x : Int} : LqO (some c) x ↔ c ≤ x := ⟨fun ⟨d, e, h⟩ => by cases e; exact h, fun h => ⟨c, rfl, h⟩⟩
theorem lq_none {x : Int} : ¬ LqO none x := fun ⟨_, e, _⟩ => by cases e
theorem lq_less {a b : Option Int} {x : Int} : LqO (lessO a b) x ↔ LqO a x ∨ LqO b x := by
  cases a with
  | none => exact ⟨.inr, fun h => h.elim (fun h => absurd h lq_none) id⟩
  | some a =>
    cases b with
    | none => exact ⟨.inl, fun h => h.elim id fun h => absurd h lq_none⟩
    | some b =>
      show LqO (some (min a b)) x ↔ _
      rw [lq_some, lq_some, lq_some]
      omega
theorem lq_sum {a b : Option Int} {x : Int} : LqO (sumO a b) x ↔ ∃ p q, LqO a p ∧ LqO b q ∧ p + q ≤ x := by
  cases a with
  | none => exact ⟨fun h => absurd h lq_none, fun ⟨_, _, h, _⟩ => absurd h lq_none⟩
  | some a =>
    cases b with
    | none => exact ⟨fun h => absurd h lq_none, fun ⟨_, _, _, h, _⟩ => absurd h lq_none⟩
    | some b =>
      show LqO (some (a + b)) x ↔ _
      rw [lq_some]
      refine ⟨fun h => ⟨a, b, lq_some.mpr (Int.le_refl _), lq_some.mpr (Int.le_refl _), h⟩, fun ⟨p, q, h1, h2, h3⟩ => ?_⟩
      rw [lq_some] at h1 h2
      omega
theorem lqO_ext {a b : Option Int} (h : ∀ x, LqO a x ↔ LqO b x) : a = b := by
  cases a with
  | none =>
    cases b with
    | none => rfl
    | some b => exact absurd ((h b).mpr (lq_some.mpr (Int.le_refl _))) lq_none
  | some a =>
    cases b with
    | none => exact absurd ((h a).mp (lq_some.mpr (Int.le_refl _))) lq_none
    | some b =>
      have h1 := lq_some.mp ((h a).mp (lq_some.mpr (Int.le_refl _)))
      have h2 := lq_some.mp ((h b).mpr (lq_some.mpr (Int.le_refl _)))
      rw [show a = b by omega]
theorem lq_upd {M : Mt} {i j a b : Nat} {v : Option Int} {x : Int} : Lq (upd M i j v) a b x ↔ if a = i ∧ b = j then LqO v x else Lq M a b x := by
  unfold Lq upd
  split <;> rfl
/-- an entry lessened -/
theorem lq_low {M : Mt} {i j a b : Nat} {v : Option Int} {x : Int} : Lq (upd M i j (lessO (M i j) v)) a b x ↔ Lq M a b x ∨ (a = i ∧ b = j ∧ LqO v x) := by
  rw [lq_upd]
  split
  · next h =>
    obtain ⟨rfl, rfl⟩ := h
    rw [lq_less]
    exact ⟨fun h => h.elim .inl fun h => .inr ⟨rfl, rfl, h⟩, fun h => h.elim .inl fun h => .inr h.2.2⟩
  · next h => exact ⟨.inl, fun z => z.elim id fun z => absurd ⟨z.1, z.2.1⟩ h⟩
theorem lq_ini {M : Mt} {k a b : Nat} {x : Int} : Lq (iniS M k) a b x ↔ Lq M a b x ∨ (b = k ∧ (a = k ∨ a = 0) ∧ 0 ≤ x) := by
  unfold iniS
  rw [lq_low, lq_low, lq_some]
  constructor
  · rintro ((h | ⟨h1, h2, h3⟩) | ⟨h1, h2, h3⟩)
    · exact .inl h
    · exact .inr ⟨h2, .inl h1, h3⟩
    · exact .inr ⟨h2, .inr h1, h3⟩
  · rintro (h | ⟨h1, h2 | h2, h3⟩)
    · exact .inl (.inl h)
    · exact .inl (.inr ⟨h2, h1, h3⟩)
    · exact .inr ⟨h2, h1, h3⟩
theorem lq_stp {M : Mt} {k i j a b : Nat} {x : Int} : Lq (stp k i M j) a b x ↔ Lq M a b x ∨ (a = i ∧ b = j ∧ ∃ p q, Lq M i k p ∧ Lq M k j q ∧ p + q ≤ x) := by
  unfold stp
  rw [lq_low, lq_sum]
  exact Iff.rfl
/-- what each turn keeps, all keep -/
theorem it_ind {α : Type} {f : α → Nat → α} {P : α → Prop} {n : Nat} {a : α} (h0 : P a) (hs : ∀ a i, i < n → P a → P (f a i)) : P (it f a n) := by
  induction n with
  | zero => exact h0
  | succ n ih =>
    rw [it_succ]
    exact hs _ _ (Nat.lt_succ_self _) (ih fun a i hi => hs a i (Nat.lt_succ_of_lt hi))
theorem it_rel {α : Type} {f : α → Nat → α} {R : α → α → Prop} {n : Nat} {a b : α} (h0 : R a b) (hs : ∀ a b i, i < n → R a b → R (f a i) (f b i)) : R (it f a n) (it f b n) := by
  induction n with
  | zero => exact h0
  | succ n ih =>
    rw [it_succ, it_succ]
    exact hs _ _ _ (Nat.lt_succ_self _) (ih fun a b i hi => hs a b i (Nat.lt_succ_of_lt hi))
section
variable {N : Nat} {M M' : Mt} {P : Mt → Prop}
theorem fwR_ind {k i : Nat} (h0 : P M) (hs : ∀ M j, j < N → P M → P (stp k i M j)) : P (fwR N k M i) := it_ind h0 hs
theorem fwK_ind {k : Nat} (h0 : P M) (hs : ∀ M i j, i < N → j < N → P M → P (stp k i M j)) : P (fwK N M k) := it_ind h0 fun M i hi h => fwR_ind h fun M j hj h => hs M i j hi hj h
theorem fw_ind (h0 : P M) (hi : ∀ M k, k < N → P M → P (iniS M k)) (hs : ∀ M k i j, k < N → i < N → j < N → P M → P (stp k i M j)) : P (fw N M) :=
  it_ind (it_ind h0 hi) fun M k hk h => fwK_ind h fun M i j h1 h2 h => hs M k i j hk h1 h2 h
/-- the second lies not above the first -/
def Dn (M M' : Mt) : Prop := ∀ i j x, Lq M i j x → Lq M' i j x
theorem Dn.refl : Dn M M := fun _ _ _ h => h
theorem Dn.tr {M'' : Mt} (h : Dn M M') (h' : Dn M' M'') : Dn M M'' := fun i j x z => h' i j x (h i j x z)
theorem dn_ini {k : Nat} : Dn M (iniS M k) := fun i j x h => lq_ini.mpr (.inl h)
theorem dn_stp {k i j : Nat} : Dn M (stp k i M j) := fun a b x h => lq_stp.mpr (.inl h)
theorem dn_fwR {k i : Nat} : Dn M (fwR N k M i) := fwR_ind (P := Dn M) Dn.refl fun _ _ _ h => h.tr dn_stp
theorem dn_fwK {k : Nat} : Dn M (fwK N M k) := fwK_ind (P := Dn M) Dn.refl fun _ _ _ _ _ h => h.tr dn_stp
theorem dn_fw : Dn M (fw N M) := fw_ind (P := Dn M) Dn.refl (fun _ _ _ h => h.tr dn_ini) fun _ _ _ _ _ _ _ h => h.tr dn_stp
theorem dn_it {f : Mt → Nat → Mt} (hf : ∀ M k, Dn M (f M k)) {n m : Nat} (h : n ≤ m) : Dn (it f M n) (it f M m) := by
  induction h with
  | refl => exact Dn.refl
  | step h ih => rw [it_succ]; exact ih.tr (hf _ _)
theorem ini_in {n k : Nat} (hk : k < n) : Lq (it iniS M n) k k 0 ∧ Lq (it iniS M n) 0 k 0 := by
  have : Lq (it iniS M (k + 1)) k k 0 ∧ Lq (it iniS M (k + 1)) 0 k 0 := by
    rw [it_succ]
    exact ⟨lq_ini.mpr (.inr ⟨rfl, .inl rfl, by omega⟩), lq_ini.mpr (.inr ⟨rfl, .inr rfl, by omega⟩)⟩
  exact ⟨dn_it (fun _ _ => dn_ini) hk _ _ _ this.1, dn_it (fun _ _ => dn_ini) hk _ _ _ this.2⟩
theorem dn_fws : Dn (it iniS M N) (fw N M) := it_ind (P := Dn (it iniS M N)) Dn.refl fun _ _ _ h => h.tr dn_fwK
theorem fw_diag {k : Nat} (hk : k < N) : Lq (fw N M) k k 0 := dn_fws _ _ _ (ini_in hk).1
theorem fw_row0 {k : Nat} (hk : k < N) : Lq (fw N M) 0 k 0 := dn_fws _ _ _ (ini_in hk).2
/-! points -/
def Sat (N : Nat) (p : Nat → Int) (M : Mt) : Prop := ∀ i j, i < N → j < N → ∀ x, Lq M i j x → p i - p j ≤ x
theorem sat_fw {p : Nat → Int} (h0 : p 0 = 0) (hp : ∀ i, i < N → 0 ≤ p i) (h : Sat N p M) : Sat N p (fw N M) := by
  refine fw_ind (P := Sat N p) h (fun M k hk h i j hi hj x hx => ?_) fun M k i j hk hi hj h a b ha hb x hx => ?_
  · rcases lq_ini.mp hx with hx | ⟨rfl, rfl | rfl, h3⟩
    · exact h i j hi hj x hx
    · omega
    · have := hp j hk
      omega
  · rcases lq_stp.mp hx with hx | ⟨rfl, rfl, y, z, h1, h2, h3⟩
    · exact h a b ha hb x hx
    · have := h a k ha hk y h1
      have := h k b hk hb z h2
      omega
theorem sat_dn {p : Nat → Int} (h : Sat N p M') (d : Dn M M') : Sat N p M := fun i j hi hj x hx => h i j hi hj x (d i j x hx)
/-! closed ones -/
structure Clo (N : Nat) (M : Mt) : Prop where
  dg : ∀ k, k < N → Lq M k k 0
  nn : ∀ k, k < N → ¬ Lq M k k (-1)
  r0 : ∀ k, k < N → Lq M 0 k 0
  cl : ∀ i k j a b, i < N → k < N → j < N → Lq M i k a → Lq M k j b → Lq M i j (a + b)
/-- a closed one stays -/
theorem fw_id (C : Clo N M) {i j : Nat} (hi : i < N) (hj : j < N) : fw N M i j = M i j := by
  have : ∀ a b, a < N → b < N → ∀ x, Lq (fw N M) a b x → Lq M a b x := fw_ind (P := fun M' => ∀ a b, a < N → b < N → ∀ x, Lq M' a b x → Lq M a b x) (fun _ _ _ _ _ h => h)
    (fun M' k hk h a b ha hb x hx => by
      rcases lq_ini.mp hx with hx | ⟨rfl, rfl | rfl, h3⟩
      · exact h a b ha hb x hx
      · exact (C.dg _ hk).mono h3
      · exact (C.r0 _ hk).mono h3)
    (fun M' k i j hk hi hj h a b ha hb x hx => by
      rcases lq_stp.mp hx with hx | ⟨rfl, rfl, y, z, h1, h2, h3⟩
      · exact h a b ha hb x hx
      · exact (C.cl a k b y z ha hk hb (h a k ha hk y h1) (h k b hk hb z h2)).mono h3)
  exact lqO_ext fun x => ⟨this i j hi hj x, dn_fw i j x⟩
/-- the lower comes out lower -/
theorem fw_mono (h : ∀ i j, i < N → j < N → ∀ x, Lq M i j x → Lq M' i j x) : ∀ i j, i < N → j < N → ∀ x, Lq (fw N M) i j x → Lq (fw N M') i j x := by
  refine it_rel (R := fun M M' => ∀ i j, i < N → j < N → ∀ x, Lq M i j x → Lq M' i j x) (it_rel (R := fun M M' => ∀ i j, i < N → j < N → ∀ x, Lq M i j x → Lq M' i j x) h fun A B k hk h i j hi hj x hx => ?_) fun A B k hk h => it_rel (R := fun M M' => ∀ i j, i < N → j < N → ∀ x, Lq M i j x → Lq M' i j x) h fun A B i hi h => it_rel (R := fun M M' => ∀ i j, i < N → j < N → ∀ x, Lq M i j x → Lq M' i j x) h fun A B j hj h a b ha hb x hx => ?_
  · rcases lq_ini.mp hx with hx | hx
    · exact lq_ini.mpr (.inl (h i j hi hj x hx))
    · exact lq_ini.mpr (.inr hx)
  · rcases lq_stp.mp hx with hx | ⟨rfl, rfl, y, z, h1, h2, h3⟩
    · exact lq_stp.mpr (.inl (h a b ha hb x hx))
    · exact lq_stp.mpr (.inr ⟨rfl, rfl, y, z, h a k ha hk y h1, h k b hk hb z h2, h3⟩)
/-! the phases -/
theorem fwK_in {k i j : Nat} {a b : Int} (hi : i < N) (hj : j < N) (h1 : Lq M i k a) (h2 : Lq M k j b) : Lq (fwK N M k) i j (a + b) := by
  have d1 : Dn M (it (fwR N k) M i) := it_ind (P := Dn M) Dn.refl fun _ _ _ h => h.tr dn_fwR
  have d2 : Dn (it (fwR N k) M i) (it (stp k i) (it (fwR N k) M i) j) := it_ind (P := Dn _) Dn.refl fun _ _ _ h => h.tr dn_stp
  have s : Lq (it (stp k i) (it (fwR N k) M i) (j + 1)) i j (a + b) := by
    rw [it_succ]
    exact lq_stp.mpr (.inr ⟨rfl, rfl, a, b, d2 _ _ _ (d1 _ _ _ h1), d2 _ _ _ (d1 _ _ _ h2), Int.le_refl _⟩)
  have s2 : Lq (it (fwR N k) M (i + 1)) i j (a + b) := by
    rw [it_succ]
    exact dn_it (fun _ _ => dn_stp) hj _ _ _ s
  exact dn_it (fun _ _ => dn_fwR) hi _ _ _ s2
theorem fwK_out {k : Nat} (hk : k < N) (hn : ¬ Lq M k k (-1)) : ∀ i j, i < N → j < N → ∀ x, Lq (fwK N M k) i j x → Lq M i j x ∨ ∃ a b, Lq M i k a ∧ Lq M k j b ∧ a + b ≤ x := by
  refine fwK_ind (P := fun M' => ∀ i j, i < N → j < N → ∀ x, Lq M' i j x → Lq M i j x ∨ ∃ a b, Lq M i k a ∧ Lq M k j b ∧ a + b ≤ x) (fun _ _ _ _ _ h => .inl h) fun M' i j hi hj h a b ha hb x hx => ?_
  rcases lq_stp.mp hx with hx | ⟨rfl, rfl, y, z, h1, h2, h3⟩
  · exact h a b ha hb x hx
  · have nz : ∀ c, Lq M k k c → 0 ≤ c := fun c hc => by
      rcases Int.lt_or_le c 0 with z | z
      · exact absurd (hc.mono (by omega)) hn
      · exact z
    refine .inr ⟨y, z, ?_, ?_, h3⟩
    · rcases h a k ha hk y h1 with h1 | ⟨c, d, e1, e2, e3⟩
      · exact h1
      · have := nz d e2
        exact e1.mono (by omega)
    · rcases h k b hk hb z h2 with h2 | ⟨c, d, e1, e2, e3⟩
      · exact h2
      · have := nz c e1
        exact e2.mono (by omega)
def ClM (N : Nat) (M : Mt) (m : Nat) : Prop := ∀ i j a b, i < N → j < N → Lq M i m a → Lq M m j b → Lq M i j (a + b)
theorem fwK_new {k : Nat} (hk : k < N) (hn : ¬ Lq M k k (-1)) : ClM N (fwK N M k) k := fun i j a b hi hj h1 h2 => by
  have nz : ∀ c, Lq M k k c → 0 ≤ c := fun c hc => by
    rcases Int.lt_or_le c 0 with z | z
    · exact absurd (hc.mono (by omega)) hn
    · exact z
  refine fwK_in hi hj ?_ ?_
  · rcases fwK_out hk hn i k hi hk a h1 with h1 | ⟨c, d, e1, e2, e3⟩
    · exact h1
    · have := nz d e2
      exact e1.mono (by omega)
  · rcases fwK_out hk hn k j hk hj b h2 with h2 | ⟨c, d, e1, e2, e3⟩
    · exact h2
    · have := nz c e1
      exact e2.mono (by omega)
theorem fwK_old {k m : Nat} (hk : k < N) (hm : m < N) (hn : ¬ Lq M k k (-1)) (C : ClM N M m) : ClM N (fwK N M k) m := fun i j a b hi hj h1 h2 => by
  have nz : ∀ c, Lq M k k c → 0 ≤ c := fun c hc => by
    rcases Int.lt_or_le c 0 with z | z
    · exact absurd (hc.mono (by omega)) hn
    · exact z
  rcases fwK_out hk hn i m hi hm a h1 with g1 | ⟨c, d, g1, g2, g3⟩
  · rcases fwK_out hk hn m j hm hj b h2 with g4 | ⟨e, f, g4, g5, g6⟩
    · exact dn_fwK _ _ _ (C i j a b hi hj g1 g4)
    · exact (fwK_in hi hj (C i k a e hi hk g1 g4) g5).mono (by omega)
  · rcases fwK_out hk hn m j hm hj b h2 with g4 | ⟨e, f, g4, g5, g6⟩
    · exact (fwK_in hi hj g1 (C k j d b hk hj g2 g4)).mono (by omega)
    · have := nz _ (C k k d e hk hk g2 g4)
      exact (fwK_in hi hj g1 g5).mono (by omega)
theorem fw_clo (hn : ∀ k, k < N → ¬ Lq (fw N M) k k (-1)) : Clo N (fw N M) := by
  have step : ∀ n, n ≤ N → ∀ m, m < n → ClM N (it (fwK N) (it iniS M N) n) m := by
    intro n
    induction n with
    | zero => intro _ m hm; omega
    | succ n ih =>
      intro hn' m hm
      have nd : ¬ Lq (it (fwK N) (it iniS M N) n) n n (-1) := fun z => hn n (by omega) (dn_it (fun _ _ => dn_fwK) (by omega : n ≤ N) _ _ _ z)
      rw [it_succ]
      rcases Nat.lt_or_ge m n with h | h
      · exact fwK_old (by omega) (by omega) nd (ih (by omega) m h)
      · rw [show m = n by omega]
        exact fwK_new (by omega) nd
  exact ⟨fun k hk => fw_diag hk, hn, fun k hk => fw_row0 hk, fun i k j a b hi hk hj h1 h2 => step N (Nat.le_refl _) k hk i j a b hi hj h1 h2⟩
end
end Sm
namespace Sm
open PySem PySem.Spec PyProof.Rows L2
/-- a zone, as a tuple of tuples or a list of lists -/
structure Zn (x : D) (h : AH) (N : Nat) (M : Mt) : Prop where
  len : oLen [.val x] h = some (.val (.int (N : Int)), h)
  cp : ∃ items grd, iterOf (.val x) h = some ⟨items, grd⟩ ∧ ∀ s (τ : AT), s < τ.length → compL grd (gN s) mYes (mFn oList (mCons (mVar s) mNil)) τ items h = some (refs h.length N, h ++ rowsO N M)
section
variable {h : AH} {N : Nat} {M : Mt} {x : D}
theorem zn_zo (hN : N ≤ 1000) : Zn (zoD N M) h N M := ⟨by unfold zoD; rw [oLen_tup, rowsD_len], _, _, rfl, fun s τ hs => copy_zo (by omega) hs⟩
theorem zn_hM (hN : N ≤ 1000) : Zn (.ref (h.length + N)) (hM h N M) N M := ⟨by rw [oLen_ref, hM_top, lsK_some, lenK_some, refs_len], _, _, by rw [iterOf_ref, hM_top, iterRK_some], fun s τ hs => copy_hM0 (by omega) hs⟩
theorem hM_mk : h ++ rowsO N M ++ [.lst (refs h.length N)] = hM h N M := by unfold hM; rw [List.append_assoc]
theorem hM_len : (hM h N M).length = h.length + N + 1 := by unfold hM; simp; omega
theorem rowsO_at : (h ++ rowsO N M).length = h.length + N := by simp
theorem gc_hM (h0 : 0 < N) : gc h (.ref (h.length + N)) (hM h N M) = (.ref (h.length + N), hM h N M) := by
  unfold gc
  have e : oldOk h.length h (hM h N M) = true := oldOk_self _ _ _
  have n : ¬ D.low h.length (.ref (h.length + N)) = true := by unfold D.low; simp
  rw [if_pos e, if_neg n]
  dsimp only
  rw [hM_top]
  dsimp only
  rw [if_neg]
  obtain ⟨k, rfl⟩ : ∃ k, N = k + 1 := ⟨N - 1, by omega⟩
  unfold refs
  rw [List.range_succ_eq_map, List.map_cons, lows_cons]
  unfold D.low
  simp
theorem gc_hMd {d : D} (hd : d.low h.length = true) : gc h d (hM h N M) = (d, h) := gc_pure hd
theorem gc_hMd2 {d : D} {M' : Mt} {b : AH} (hd : d.low h.length = true) : gc h d (hM (hM h N M) N M') = (d, h) := by
  have : hM (hM h N M) N M' = h ++ ((rowsO N M ++ [.lst (refs h.length N)]) ++ (rowsO N M' ++ [.lst (refs (hM h N M).length N)])) := by
    conv => lhs; unfold hM
    rw [← hM]
    unfold hM
    simp
  rw [this]
  exact gc_pure hd
def tgt (N : Nat) (M : Mt) : Option Mt := if (List.range N).all (fun k => decide (fw N M k k = some 0)) = true then some (fw N M) else none
def optZ (N : Nat) : Option Mt → D
  | none => .non
  | some M => zoD N M
theorem optZ_low {n : Nat} {o : Option Mt} : (optZ N o).low n = true := by
  cases o
  · rfl
  · exact zoD_low
theorem fw_dz {k : Nat} (hk : k < N) : ∃ x, fw N M k k = some x ∧ x ≤ 0 := fw_diag hk
theorem tight_rows_ok (hN : N ≤ 1000) (h0 : 0 < N) (Z : Zn x h N M) : F_tight_rows [x] h = some (match tgt N M with | some M' => (D.ref (h.length + N), hM h N M') | none => (.non, h)) := by
  obtain ⟨items, grd, z1, z2⟩ := Z.cp
  have c := z2 6 [some x, some (.int (N : Int)), none, none, none, none, none, none, none] (by simp)
  have r : N ≤ 16777216 := by omega
  obtain ⟨y, e1⟩ := ini_go (h := h) (N := N) (M := M) (x0 := some x) (x1 := some (.int (N : Int))) (x3 := none) (x4 := none) (x5 := none) (x6 := none) (x7 := none) (x8 := none)
  obtain ⟨y4, y5, y7, y8, e2⟩ := fw_go (h := h) (N := N) (M := it iniS M N) (x0 := some x) (x3 := y) (x4 := none) (x5 := none) (x6 := none) (x7 := none) (x8 := none) hN
  rw [show it (fwK N) (it iniS M N) N = fw N M from rfl] at e2
  have t := hM_top (h := h) (N := N) (M := fw N M)
  have al := compL_mapT (grd := []) (g := gN 3) (fe := mBin oEq (mBin oIx (mBin oIx (mVar 2) (mVar 3)) (mVar 3)) (mC (.int 0))) (τ := [some x, some (.int (N : Int)), some (.ref (h.length + N)), none, y4, y5, none, y7, y8]) (h := hM h N (fw N M)) (t := fun i : Nat => D.int (0 + (i : Int))) (fun k => D.bl (decide (fw N M k k = some 0))) rfl (List.range N) (fun i hi => by
    have hi := List.mem_range.mp hi
    refine ⟨[some x, some (.int (N : Int)), some (.ref (h.length + N)), some (.int (0 + (i : Int))), y4, y5, none, y7, y8], rfl, ?_⟩
    have ri := hM_row (h := h) (M := fw N M) hi
    have ai := at_row (i := i) (M := fw N M) hi
    have fi := at_refs (b := h.length) hi
    obtain ⟨d, ed, _⟩ := fw_dz (M := M) hi
    rw [ed] at ai
    simp -implicitDefEqProofs (disch := first | assumption | omega | (simp only [List.length_cons, List.length_nil, List.length_map, List.length_set, List.length_append]; omega)) [Int.zero_add, t, ri, ai, fi, ed, -atI_pos])
  have al' : compL [] (gN 3) mYes (mBin oEq (mBin oIx (mBin oIx (mVar 2) (mVar 3)) (mVar 3)) (mC (.int 0))) [some x, some (.int (N : Int)), some (.ref (h.length + N)), none, y4, y5, none, y7, y8] (rngD 0 N) (hM h N (fw N M)) = some (((List.range N).map fun k => decide (fw N M k k = some 0)).map D.bl, hM h N (fw N M)) := by
    rw [List.map_map]
    exact al
  have lz : ((List.range N).map fun k => decide (fw N M k k = some 0)).length ≤ 16777216 := by rw [List.length_map, List.length_range]; omega
  have g1 := gc_hM (h := h) (M := fw N M) h0
  have g2 := gc_hMd (h := h) (N := N) (M := fw N M) (d := .non) rfl
  have la := Z.len
  have lf := rowsO_at (h := h) (N := N) (M := M)
  have mk := hM_mk (h := h) (N := N) (M := M)
  have all_eq : (((List.range N).map fun k => decide (fw N M k k = some 0)).all id) = (List.range N).all (fun k => decide (fw N M k k = some 0)) := by rw [List.all_map]; rfl
  unfold F_tight_rows b_tight_rows tgt
  generalize ebs : ((List.range N).map fun k => decide (fw N M k k = some 0)) = bs at *
  rw [← all_eq]
  simp only [rowsO_len, List.length_append] at lf
  cases hb : bs.all id <;> simp -implicitDefEqProofs (disch := first | assumption | omega | (simp only [List.length_cons, List.length_nil, List.length_map, List.length_set, List.length_append]; omega)) [runDef_if, la, z1, c, r, rowsO_len, mk, e1, e2, al', lz, oAll_bls, List.length_map, hb, g1, g2]
end
end Sm
namespace Sm
open PySem PySem.Spec PyProof.Rows L2
section
variable {h : AH} {N : Nat} {M : Mt} {x : D} {x0 x1 x3 x4 x5 x6 : Option D}
theorem tight_ok (hN : N ≤ 1000) (h0 : 0 < N) (Z : Zn x h N M) : F_tight [x] h = some (optZ N (tgt N M), h) := by
  have e := tight_rows_ok hN h0 Z
  unfold F_tight b_tight
  cases ht : tgt N M with
  | none =>
    rw [ht] at e
    have g : gc h .non h = (.non, h) := gc_pure0 rfl
    simp -implicitDefEqProofs (disch := first | assumption | omega | (simp only [List.length_cons, List.length_nil, List.length_map, List.length_set, List.length_append]; omega)) [runDef_if, e, g, optZ]
  | some M' =>
    rw [ht] at e
    have t := hM_top (h := h) (N := N) (M := M')
    have c := tups_hM (h := h) (N := N) (M := M') (s := 2) (τ := [some x, some (.ref (h.length + N)), none]) (by simp)
    have g := gc_hMd (h := h) (N := N) (M := M') (d := zoD N M') zoD_low
    have r : N ≤ 16777216 := by omega
    have u : D.tup (rowsD N M') = zoD N M' := rfl
    simp -implicitDefEqProofs (disch := first | assumption | omega | (simp only [List.length_cons, List.length_nil, List.length_map, List.length_set, List.length_append]; omega)) [runDef_if, e, t, c, r, u, g, optZ]
/-! the law's -/
theorem lini_turn {i : Nat} (hi : i < N) : l_law_tight_1 [x0, x1, some (.ref (h.length + N)), some (.int (i : Int)), x4, x5, x6] (hM h N M) = some (.nx [x0, x1, some (.ref (h.length + N)), some (.int (i : Int)), x4, x5, x6] (hM h N (iniS M i))) := by
  have t := fun M => hM_top (h := h) (N := N) (M := M)
  have r := fun M => hM_row (h := h) (M := M) hi
  have r0 := fun M => hM_row (h := h) (M := M) (i := 0) (N := N) (by omega)
  have a := fun M => at_row (i := i) (M := M) hi
  have a0 := fun M => at_row (i := 0) (M := M) hi
  have f := at_refs (b := h.length) hi
  have f0 := at_refs0 (b := h.length) (N := N) (by omega)
  have s := fun M v => setK_row (h := h) (M := M) (v := v) hi hi
  have s0 := fun M v => setK_row (h := h) (M := M) (i := 0) (N := N) (v := v) (by omega) hi
  have l := fun M i => rowD_len (N := N) (M := M) (i := i)
  simp only [Nat.add_zero] at f0 r0 s0
  unfold l_law_tight_1
  simp -implicitDefEqProofs (disch := first | assumption | omega | (simp only [List.length_cons, List.length_nil, List.length_map, List.length_set, List.length_append]; omega)) [t, r, r0, a, a0, f, f0, s, s0, l, law_less_k, iniS, -atI_pos]
theorem lini_go : ∃ y, forL [] (gN 3) l_law_tight_1 (rngD 0 N) [x0, x1, some (.ref (h.length + N)), x3, x4, x5, x6] (hM h N M) = some (.nx [x0, x1, some (.ref (h.length + N)), y, x4, x5, x6] (hM h N (it iniS M N))) := by
  obtain ⟨τ', h', e, z, e1, e2⟩ := forRg0 (g := gN 3) (body := l_law_tight_1) (n := N) (fun i τ hh => ∃ z, τ = [x0, x1, some (.ref (h.length + N)), z, x4, x5, x6] ∧ hh = hM h N (it iniS M i)) (fun i hi τ hh ⟨z, e1, e2⟩ => by
    subst e1 e2
    refine ⟨_, _, _, _, rfl, .inl (lini_turn hi), _, rfl, by rw [it_succ]⟩) [x0, x1, some (.ref (h.length + N)), x3, x4, x5, x6] (hM h N M) ⟨_, rfl, rfl⟩
  subst e1 e2
  exact ⟨z, e⟩
theorem stp_none {k i j : Nat} (e : sumO (M i k) (M k j) = none) : stp k i M j = M := by
  unfold stp
  rw [e]
  have : lessO (M i j) none = M i j := by cases M i j <;> rfl
  rw [this, upd_self]
theorem lstp_turn {k i j : Nat} (hk : k < N) (hi : i < N) (hj : j < N) : l_law_tight_2 [x0, x1, some (.ref (h.length + N)), some (.int (k : Int)), some (.int (i : Int)), x5, some (.int (j : Int))] (hM h N M) = some (.nx [x0, x1, some (.ref (h.length + N)), some (.int (k : Int)), some (.int (i : Int)), x5, some (.int (j : Int))] (hM h N (stp k i M j))) := by
  have t := fun M => hM_top (h := h) (N := N) (M := M)
  have ri := fun M => hM_row (h := h) (M := M) hi
  have rk := fun M => hM_row (h := h) (M := M) hk
  have a1 := fun M => at_row (i := i) (M := M) hk
  have a2 := fun M => at_row (i := k) (M := M) hj
  have a3 := fun M => at_row (i := i) (M := M) hj
  have fi := at_refs (b := h.length) hi
  have fk := at_refs (b := h.length) hk
  have s := fun M v => setK_row (h := h) (M := M) (v := v) hi hj
  have l := fun M i => rowD_len (N := N) (M := M) (i := i)
  unfold l_law_tight_2
  cases e1 : M i k with
  | none =>
    have := stp_none (M := M) (k := k) (i := i) (j := j) (by rw [e1]; rfl)
    have a1' := a1 M
    rw [e1] at a1'
    simp -implicitDefEqProofs (disch := first | assumption | omega | (simp only [List.length_cons, List.length_nil, List.length_map, List.length_set, List.length_append]; omega)) [t, ri, rk, a1', fi, fk, l, this, -atI_pos]
  | some u =>
    have a1' := a1 M
    rw [e1] at a1'
    cases e2 : M k j with
    | none =>
      have := stp_none (M := M) (k := k) (i := i) (j := j) (by rw [e1, e2]; rfl)
      have a2' := a2 M
      rw [e2] at a2'
      simp -implicitDefEqProofs (disch := first | assumption | omega | (simp only [List.length_cons, List.length_nil, List.length_map, List.length_set, List.length_append]; omega)) [t, ri, rk, a1', a2', fi, fk, l, this, -atI_pos]
    | some v =>
      have a2' := a2 M
      rw [e2] at a2'
      have : stp k i M j = upd M i j (lessO (M i j) (some (u + v))) := by unfold stp; rw [e1, e2]; rfl
      simp -implicitDefEqProofs (disch := first | assumption | omega | (simp only [List.length_cons, List.length_nil, List.length_map, List.length_set, List.length_append]; omega)) [t, ri, rk, a1', a2', a3, fi, fk, s, l, law_less_k, this, -atI_pos]
theorem lstp_go {k i : Nat} (hk : k < N) (hi : i < N) : ∃ y, forL [] (gN 6) l_law_tight_2 (rngD 0 N) [x0, x1, some (.ref (h.length + N)), some (.int (k : Int)), some (.int (i : Int)), x5, x6] (hM h N M) = some (.nx [x0, x1, some (.ref (h.length + N)), some (.int (k : Int)), some (.int (i : Int)), x5, y] (hM h N (fwR N k M i))) := by
  obtain ⟨τ', h', e, z1, e1, e2⟩ := forRg0 (g := gN 6) (body := l_law_tight_2) (n := N) (fun j τ hh => ∃ y, τ = [x0, x1, some (.ref (h.length + N)), some (.int (k : Int)), some (.int (i : Int)), x5, y] ∧ hh = hM h N (it (stp k i) M j)) (fun j hj τ hh ⟨z1, e1, e2⟩ => by
    subst e1 e2
    refine ⟨_, _, _, _, rfl, .inl (lstp_turn hk hi hj), _, rfl, by rw [it_succ]⟩) [x0, x1, some (.ref (h.length + N)), some (.int (k : Int)), some (.int (i : Int)), x5, x6] (hM h N M) ⟨_, rfl, rfl⟩
  subst e1 e2
  exact ⟨z1, e⟩
theorem lrow_go {k : Nat} (hN : N ≤ 1000) (hk : k < N) : ∃ y4 y6, forL [] (gN 4) l_law_tight_3 (rngD 0 N) [x0, some (.int (N : Int)), some (.ref (h.length + N)), some (.int (k : Int)), x4, x5, x6] (hM h N M) = some (.nx [x0, some (.int (N : Int)), some (.ref (h.length + N)), some (.int (k : Int)), y4, x5, y6] (hM h N (fwK N M k))) := by
  obtain ⟨τ', h', e, z0, z1, e1, e2⟩ := forRg0 (g := gN 4) (body := l_law_tight_3) (n := N) (fun i τ hh => ∃ w y, τ = [x0, some (.int (N : Int)), some (.ref (h.length + N)), some (.int (k : Int)), w, x5, y] ∧ hh = hM h N (it (fwR N k) M i)) (fun i hi τ hh ⟨z0, z1, e1, e2⟩ => by
    subst e1 e2
    obtain ⟨y, e⟩ := lstp_go (h := h) (M := it (fwR N k) M i) (x0 := x0) (x1 := some (.int (N : Int))) (x5 := x5) (x6 := z1) hk hi
    refine ⟨_, _, [x0, some (.int (N : Int)), some (.ref (h.length + N)), some (.int (k : Int)), some (.int (i : Int)), x5, y], hM h N (it (fwR N k) M (i + 1)), rfl, .inl ?_, _, _, rfl, rfl⟩
    unfold l_law_tight_3
    rw [it_succ]
    simp -implicitDefEqProofs (disch := first | assumption | omega | (simp only [List.length_cons, List.length_nil, List.length_map, List.length_set, List.length_append]; omega)) [e]) [x0, some (.int (N : Int)), some (.ref (h.length + N)), some (.int (k : Int)), x4, x5, x6] (hM h N M) ⟨_, _, rfl, rfl⟩
  subst e1 e2
  exact ⟨z0, z1, e⟩
theorem lfw_go (hN : N ≤ 1000) : ∃ y3 y4 y6, forL [] (gN 3) l_law_tight_4 (rngD 0 N) [x0, some (.int (N : Int)), some (.ref (h.length + N)), x3, x4, x5, x6] (hM h N M) = some (.nx [x0, some (.int (N : Int)), some (.ref (h.length + N)), y3, y4, x5, y6] (hM h N (it (fwK N) M N))) := by
  obtain ⟨τ', h', e, z4, z0, z1, e1, e2⟩ := forRg0 (g := gN 3) (body := l_law_tight_4) (n := N) (fun k τ hh => ∃ u w y, τ = [x0, some (.int (N : Int)), some (.ref (h.length + N)), u, w, x5, y] ∧ hh = hM h N (it (fwK N) M k)) (fun k hk τ hh ⟨z4, z0, z1, e1, e2⟩ => by
    subst e1 e2
    obtain ⟨w, y, e⟩ := lrow_go (h := h) (M := it (fwK N) M k) (x0 := x0) (x4 := z0) (x5 := x5) (x6 := z1) hN hk
    refine ⟨_, _, [x0, some (.int (N : Int)), some (.ref (h.length + N)), some (.int (k : Int)), w, x5, y], hM h N (it (fwK N) M (k + 1)), rfl, .inl ?_, _, _, _, rfl, rfl⟩
    unfold l_law_tight_4
    rw [it_succ]
    simp -implicitDefEqProofs (disch := first | assumption | omega | (simp only [List.length_cons, List.length_nil, List.length_map, List.length_set, List.length_append]; omega)) [e]) [x0, some (.int (N : Int)), some (.ref (h.length + N)), x3, x4, x5, x6] (hM h N M) ⟨_, _, _, rfl, rfl⟩
  subst e1 e2
  exact ⟨z4, z0, z1, e⟩
theorem neg_empty : (((List.range N).filter fun k => decide ((fw N M k k).getD 0 < 0)).map fun k : Nat => D.int (0 + (k : Int))).isEmpty = (List.range N).all (fun k => decide (fw N M k k = some 0)) := by
  rw [Bool.eq_iff_iff, List.isEmpty_iff, List.map_eq_nil_iff, List.filter_eq_nil_iff, List.all_eq_true]
  refine forall_congr' fun k => forall_congr' fun hk => ?_
  obtain ⟨d, ed, hd⟩ := fw_dz (M := M) (List.mem_range.mp hk)
  rw [ed]
  simp
  omega
theorem law_tight_ok (hN : N ≤ 1000) (h0 : 0 < N) (Z : Zn x h N M) : F_law_tight [x] h = some (optZ N (tgt N M), h) := by
  obtain ⟨items, grd, z1, z2⟩ := Z.cp
  have c := z2 5 [some x, some (.int (N : Int)), none, none, none, none, none] (by simp)
  have r : N ≤ 16777216 := by omega
  obtain ⟨y, e1⟩ := lini_go (h := h) (N := N) (M := M) (x0 := some x) (x1 := some (.int (N : Int))) (x3 := none) (x4 := none) (x5 := none) (x6 := none)
  obtain ⟨y3, y4, y6, e2⟩ := lfw_go (h := h) (N := N) (M := it iniS M N) (x0 := some x) (x3 := y) (x4 := none) (x5 := none) (x6 := none) hN
  rw [show it (fwK N) (it iniS M N) N = fw N M from rfl] at e2
  have t := hM_top (h := h) (N := N) (M := fw N M)
  have al := compL_filterT (grd := []) (g := gN 3) (ft := mB (mBin oLt (mBin oIx (mBin oIx (mVar 2) (mVar 3)) (mVar 3)) (mC (.int 0)))) (fe := mVar 3) (τ := [some x, some (.int (N : Int)), some (.ref (h.length + N)), none, y4, none, y6]) (h := hM h N (fw N M)) (t := fun i : Nat => D.int (0 + (i : Int))) (fun k => decide ((fw N M k k).getD 0 < 0)) (fun k : Nat => D.int (0 + (k : Int))) rfl (List.range N) (fun i hi => by
    have hi := List.mem_range.mp hi
    have ri := hM_row (h := h) (M := fw N M) hi
    have ai := at_row (i := i) (M := fw N M) hi
    have fi := at_refs (b := h.length) hi
    obtain ⟨d, ed, _⟩ := fw_dz (M := M) hi
    rw [ed] at ai
    refine ⟨[some x, some (.int (N : Int)), some (.ref (h.length + N)), some (.int (0 + (i : Int))), y4, none, y6], rfl, ?_, fun _ => rfl⟩
    simp -implicitDefEqProofs (disch := first | assumption | omega | (simp only [List.length_cons, List.length_nil, List.length_map, List.length_set, List.length_append]; omega)) [Int.zero_add, t, ri, ai, fi, ed, -atI_pos])
  have ne := neg_empty (N := N) (M := M)
  have li : (((List.range N).filter fun k => decide ((fw N M k k).getD 0 < 0)).map fun k : Nat => D.int (0 + (k : Int))).length ≤ 16777216 := by
    rw [List.length_map]
    have := List.length_filter_le (fun k => decide ((fw N M k k).getD 0 < 0)) (List.range N)
    rw [List.length_range] at this
    omega
  have ni : ∀ d ∈ (((List.range N).filter fun k => decide ((fw N M k k).getD 0 < 0)).map fun k : Nat => D.int (0 + (k : Int))), ∃ k, d = .int k := fun d hd => by
    obtain ⟨k, _, rfl⟩ := List.mem_map.mp hd
    exact ⟨_, rfl⟩
  generalize (((List.range N).filter fun k => decide ((fw N M k k).getD 0 < 0)).map fun k : Nat => D.int (0 + (k : Int))) = bad at *
  have al' : compL [] (gN 3) (mB (mBin oLt (mBin oIx (mBin oIx (mVar 2) (mVar 3)) (mVar 3)) (mC (.int 0)))) (mVar 3) [some x, some (.int (N : Int)), some (.ref (h.length + N)), none, y4, none, y6] (rngD 0 N) (hM h N (fw N M)) = some (bad, hM h N (fw N M)) := al
  have nn := ne_nilN (h := hM h N (fw N M)) ni
  have g1 := gc_hMd (h := h) (N := N) (M := fw N M) (d := zoD N (fw N M)) zoD_low
  have g2 := gc_hMd (h := h) (N := N) (M := fw N M) (d := .non) rfl
  have la := Z.len
  have lf := rowsO_at (h := h) (N := N) (M := M)
  have mk := hM_mk (h := h) (N := N) (M := M)
  have tu := tups_hM (h := h) (N := N) (M := fw N M) (s := 5) (τ := [some x, some (.int (N : Int)), some (.ref (h.length + N)), y3, y4, none, y6]) (by simp)
  have u : D.tup (rowsD N (fw N M)) = zoD N (fw N M) := rfl
  unfold F_law_tight b_law_tight tgt
  simp only [rowsO_len, List.length_append] at lf
  rw [← ne]
  cases hb : bad.isEmpty <;> simp -implicitDefEqProofs (disch := first | assumption | omega | (simp only [List.length_cons, List.length_nil, List.length_map, List.length_set, List.length_append]; omega)) [runDef_if, la, z1, c, r, rowsO_len, mk, e1, e2, al', li, nn, hb, t, tu, u, g1, g2, optZ]
end
end Sm
namespace Sm
open PySem PySem.Spec PyProof.Rows L2
def wth (M : Mt) (i j : Nat) (k : Int) : Mt := upd M i j (lessO (M i j) (some k))
section
variable {h : AH} {N : Nat} {M : Mt} {x : D} {x0 x1 x2 x3 x4 x5 x6 : Option D}
/-- what stands after the copy, for short -/
theorem at_rowz {i j : Nat} (hj : j < N) {v : Option Int} (e : M i j = v) : L2.atI (rowD N M i) (j : Int) = some (oi v) := by rw [at_row hj, e]
theorem setK_row0 {i : Nat} {v : Option Int} (hi : i < N) (h0 : 0 < N) : setK (some (.lst (rowD N M i))) (h.length + i) 0 (oi v) (hM h N M) = some (hM h N (upd M i 0 v)) := setK_row (j := 0) hi h0
theorem setK_rowN {i j : Nat} (hi : i < N) (hj : j < N) : setK (some (.lst (rowD N M i))) (h.length + i) (j : Int) .non (hM h N M) = some (hM h N (upd M i j none)) := setK_row (v := none) hi hj
theorem setK_rowN0 {i : Nat} (hi : i < N) (h0 : 0 < N) : setK (some (.lst (rowD N M i))) (h.length + i) 0 .non (hM h N M) = some (hM h N (upd M i 0 none)) := setK_row (v := none) (j := 0) hi h0
theorem setK_rowI {i j : Nat} {k : Int} (hi : i < N) (hj : j < N) : setK (some (.lst (rowD N M i))) (h.length + i) (j : Int) (.int k) (hM h N M) = some (hM h N (upd M i j (some k))) := setK_row (v := some k) hi hj
theorem setK_rowI0 {i : Nat} {k : Int} (hi : i < N) (h0 : 0 < N) : setK (some (.lst (rowD N M i))) (h.length + i) 0 (.int k) (hM h N M) = some (hM h N (upd M i 0 (some k))) := setK_row (v := some k) (j := 0) hi h0
theorem bounded_le {c : Nat} {k : Int} (hN : N ≤ 1000) (hc : c < N) (Z : Zn x h N M) : F_bounded [x, .int (c : Int), .str ("<=" : Str), .int k] h = some (optZ N (tgt N (wth M c 0 k)), h) := by
  obtain ⟨items, grd, z1, z2⟩ := Z.cp
  have cp := z2 5 [some x, some (.int (c : Int)), some (.str ("<=" : Str)), some (.int k), none, none] (by simp)
  have r : N ≤ 16777216 := by omega
  have mk := hM_mk (h := h) (N := N) (M := M)
  have t := fun M => hM_top (h := h) (N := N) (M := M)
  have rc := hM_row (h := h) (M := M) hc
  have a0 := at_row0 (M := M) (i := c) (N := N) (by omega)
  have fc := at_refs (b := h.length) hc
  have s := fun v => setK_row0 (h := h) (M := M) (v := v) hc (by omega)
  have e := tight_ok hN (by omega) (zn_hM (h := h) (N := N) (M := wth M c 0 k) hN)
  have g := gc_hMd (h := h) (N := N) (M := wth M c 0 k) (d := optZ N (tgt N (wth M c 0 k))) optZ_low
  have w : upd M c 0 (lessO (M c 0) (some k)) = wth M c 0 k := rfl
  unfold F_bounded b_bounded
  simp -implicitDefEqProofs (disch := first | assumption | omega | (simp only [List.length_cons, List.length_nil, List.length_map, List.length_set, List.length_append]; omega)) [runDef_if, z1, cp, r, rowsO_len, mk, t, rc, a0, fc, s, less_of_k, w, e, g, -atI_pos]
theorem bounded_ge {c : Nat} {k : Int} (hN : N ≤ 1000) (hc : c < N) (Z : Zn x h N M) : F_bounded [x, .int (c : Int), .str (">=" : Str), .int k] h = some (optZ N (tgt N (wth M 0 c (0 - k))), h) := by
  obtain ⟨items, grd, z1, z2⟩ := Z.cp
  have cp := z2 5 [some x, some (.int (c : Int)), some (.str (">=" : Str)), some (.int k), none, none] (by simp)
  have r : N ≤ 16777216 := by omega
  have mk := hM_mk (h := h) (N := N) (M := M)
  have t := fun M => hM_top (h := h) (N := N) (M := M)
  have rc := hM_row (h := h) (M := M) (i := 0) (N := N) (by omega)
  have a0 := at_row (M := M) (i := 0) hc
  have fc := at_refs0 (b := h.length) (N := N) (by omega)
  have s := fun v => setK_row (h := h) (M := M) (v := v) (i := 0) (j := c) (N := N) (by omega) hc
  have e := tight_ok hN (by omega) (zn_hM (h := h) (N := N) (M := wth M 0 c (0 - k)) hN)
  have g := gc_hMd (h := h) (N := N) (M := wth M 0 c (0 - k)) (d := optZ N (tgt N (wth M 0 c (0 - k)))) optZ_low
  have w : upd M 0 c (lessO (M 0 c) (some (0 - k))) = wth M 0 c (0 - k) := rfl
  simp only [Nat.add_zero, Int.zero_sub] at *
  unfold F_bounded b_bounded
  simp -implicitDefEqProofs (disch := first | assumption | omega | (simp only [List.length_cons, List.length_nil, List.length_map, List.length_set, List.length_append]; omega)) [runDef_if, z1, cp, r, rowsO_len, mk, t, rc, a0, fc, s, less_of_k, w, e, g, -atI_pos]
theorem with_non {i j k : D} : F_law_with [.non, i, j, k] h = some (.non, h) := by
  have g : gc h .non h = (.non, h) := gc_pure0 rfl
  unfold F_law_with b_law_with
  simp -implicitDefEqProofs (disch := first | assumption | omega | (simp only [List.length_cons, List.length_nil, List.length_map, List.length_set, List.length_append]; omega)) [runDef_if, g]
theorem zn_notnon (Z : Zn x h N M) : isN (.val x) = false := by
  have := Z.len
  cases x <;> first | rfl | (exfalso; revert this; unfold oLen asQ asL asM; simp)
theorem with_ok {i j : Nat} {k : Int} (hN : N ≤ 1000) (hi : i < N) (hj : j < N) (Z : Zn x h N M) : F_law_with [x, .int (i : Int), .int (j : Int), .int k] h = some (optZ N (tgt N (wth M i j k)), h) := by
  obtain ⟨items, grd, z1, z2⟩ := Z.cp
  have cp := z2 5 [some x, some (.int (i : Int)), some (.int (j : Int)), some (.int k), none, none] (by simp)
  have r : N ≤ 16777216 := by omega
  have mk := hM_mk (h := h) (N := N) (M := M)
  have t := fun M => hM_top (h := h) (N := N) (M := M)
  have rc := hM_row (h := h) (M := M) hi
  have a0 := at_row (M := M) (i := i) hj
  have fc := at_refs (b := h.length) hi
  have s := fun v => setK_row (h := h) (M := M) (v := v) hi hj
  have e := law_tight_ok hN (by omega) (zn_hM (h := h) (N := N) (M := wth M i j k) hN)
  have g := gc_hMd (h := h) (N := N) (M := wth M i j k) (d := optZ N (tgt N (wth M i j k))) optZ_low
  have w : upd M i j (lessO (M i j) (some k)) = wth M i j k := rfl
  have nn := zn_notnon Z
  unfold F_law_with b_law_with
  simp -implicitDefEqProofs (disch := first | assumption | omega | (simp only [List.length_cons, List.length_nil, List.length_map, List.length_set, List.length_append]; omega)) [runDef_if, nn, z1, cp, r, rowsO_len, mk, t, rc, a0, fc, s, law_less_k, w, e, g, -atI_pos]
end
end Sm
namespace Sm
open PySem PySem.Spec PyProof.Rows L2
def latM (M : Mt) : Mt := fun i j => if 0 < i ∧ j = 0 then none else M i j
def latT (t : Nat) (M : Mt) : Mt := fun i j => if 0 < i ∧ i < t + 1 ∧ j = 0 then none else M i j
theorem latT_0 {M : Mt} : latT 0 M = M := by
  funext i j
  unfold latT
  rw [if_neg (by omega)]
theorem latT_succ {M : Mt} {t : Nat} : upd (latT t M) (t + 1) 0 none = latT (t + 1) M := by
  funext i j
  unfold upd latT
  by_cases h1 : i = t + 1 ∧ j = 0
  · rw [if_pos h1, if_pos (by omega)]
  · rw [if_neg h1]
    by_cases h2 : 0 < i ∧ i < t + 1 ∧ j = 0
    · rw [if_pos h2, if_pos (by omega)]
    · rw [if_neg h2, if_neg (by omega)]
section
variable {h : AH} {N : Nat} {M : Mt} {x : D} {x0 x1 x2 x3 x4 x5 x6 : Option D}
theorem later_go (h0 : 0 < N) : ∃ y, forL [] (gN 2) l_later_1 (rngD 1 (N - 1)) [x0, some (.ref (h.length + N)), x2, x3] (hM h N M) = some (.nx [x0, some (.ref (h.length + N)), y, x3] (hM h N (latM M))) := by
  obtain ⟨τ', h', e, z, e1, e2⟩ := forRg (g := gN 2) (body := l_later_1) (lo := 1) (n := N - 1) (fun t τ hh => ∃ z, τ = [x0, some (.ref (h.length + N)), z, x3] ∧ hh = hM h N (latT t M)) (fun t ht τ hh ⟨z, e1, e2⟩ => by
    subst e1 e2
    refine ⟨_, _, [x0, some (.ref (h.length + N)), some (.int (1 + (t : Int))), x3], hM h N (latT (t + 1) M), rfl, .inl ?_, _, rfl, rfl⟩
    have ht : t + 1 < N := by omega
    have tp := fun M => hM_top (h := h) (N := N) (M := M)
    have ri := fun M => hM_row (h := h) (M := M) ht
    have fi := at_refs (b := h.length) ht
    have s := fun M => setK_rowN0 (h := h) (M := M) ht h0
    have c : (1 + (t : Int)) = ((t + 1 : Nat) : Int) := by omega
    unfold l_later_1
    rw [c]
    simp -implicitDefEqProofs (disch := first | assumption | omega | (simp only [List.length_cons, List.length_nil, List.length_map, List.length_set, List.length_append]; omega)) [tp, ri, fi, s, latT_succ, -atI_pos, -Int.natCast_add]) [x0, some (.ref (h.length + N)), x2, x3] (hM h N M) ⟨_, rfl, by rw [latT_0]⟩
  subst e1 e2
  refine ⟨z, ?_⟩
  rw [e, hM_ext (M := latT (N - 1) M) (M' := latM M)]
  intro i j hi hj
  unfold latT latM
  by_cases h2 : 0 < i ∧ j = 0
  · rw [if_pos h2, if_pos (by omega)]
  · rw [if_neg h2, if_neg (by omega)]
theorem later_ok (hN : N ≤ 1000) (h0 : 0 < N) (Z : Zn x h N M) : F_later [x] h = some (zoD N (latM M), h) := by
  obtain ⟨items, grd, z1, z2⟩ := Z.cp
  have cp := z2 3 [some x, none, none, none] (by simp)
  have r : N ≤ 16777216 := by omega
  have mk := hM_mk (h := h) (N := N) (M := M)
  have t := fun M => hM_top (h := h) (N := N) (M := M)
  obtain ⟨y, e⟩ := later_go (h := h) (N := N) (M := M) (x0 := some x) (x2 := none) (x3 := none) h0
  have c := tups_hM (h := h) (N := N) (M := latM M) (s := 3) (τ := [some x, some (.ref (h.length + N)), y, none]) (by simp)
  have g := gc_hMd (h := h) (N := N) (M := latM M) (d := zoD N (latM M)) zoD_low
  have u : D.tup (rowsD N (latM M)) = zoD N (latM M) := rfl
  have rn : ((N : Int) - 1).toNat = N - 1 := by omega
  unfold F_later b_later
  simp -implicitDefEqProofs (disch := first | assumption | omega | (simp only [List.length_cons, List.length_nil, List.length_map, List.length_set, List.length_append]; omega)) [runDef_if, z1, cp, r, rowsO_len, mk, t, e, c, g, u, rn, -atI_pos]
theorem llater_ok (hN : N ≤ 1000) (h0 : 0 < N) (Z : Zn x h N M) : F_law_later_zone [x] h = some (optZ N (tgt N (latM M)), h) := by
  obtain ⟨items, grd, z1, z2⟩ := Z.cp
  have cp := z2 3 [some x, none, none, none] (by simp)
  have r : N ≤ 16777216 := by omega
  have mk := hM_mk (h := h) (N := N) (M := M)
  have t := fun M => hM_top (h := h) (N := N) (M := M)
  obtain ⟨y, e⟩ := later_go (h := h) (N := N) (M := M) (x0 := some x) (x2 := none) (x3 := none) h0
  have e2 := law_tight_ok hN h0 (zn_hM (h := h) (N := N) (M := latM M) hN)
  have g := gc_hMd (h := h) (N := N) (M := latM M) (d := optZ N (tgt N (latM M))) optZ_low
  have rn : ((N : Int) - 1).toNat = N - 1 := by omega
  have l1 : l_law_later_zone_1 = l_later_1 := rfl
  unfold F_law_later_zone b_law_later_zone
  simp -implicitDefEqProofs (disch := first | assumption | omega | (simp only [List.length_cons, List.length_nil, List.length_map, List.length_set, List.length_append]; omega)) [runDef_if, z1, cp, r, rowsO_len, mk, t, l1, e, e2, g, rn, -atI_pos]
/-! reset -/
def rcol (c i : Nat) : Nat := if i = c then 0 else i
def rstM (c : Nat) (M : Mt) : Mt := fun i j => M (rcol c i) (rcol c j)
def rstT (c t : Nat) (M : Mt) : Mt := fun i j => if i = c ∧ j ≠ c ∧ j < t then M 0 j else if j = c ∧ i ≠ c ∧ i < t then M i 0 else M i j
theorem rstT_0 {c : Nat} : rstT c 0 M = M := by
  funext i j
  unfold rstT
  rw [if_neg (by omega), if_neg (by omega)]
theorem rstT_same {c : Nat} : rstT c (c + 1) M = rstT c c M := by
  funext i j
  unfold rstT
  by_cases h1 : i = c ∧ j ≠ c ∧ j < c
  · rw [if_pos h1, if_pos (by omega)]
  · rw [if_neg (c := i = c ∧ j ≠ c ∧ j < c) h1, if_neg (by omega)]
    by_cases h2 : j = c ∧ i ≠ c ∧ i < c
    · rw [if_pos h2, if_pos (by omega)]
    · rw [if_neg h2, if_neg (by omega)]
theorem rstT_succ {c t : Nat} (hc : 0 < c) (e : t ≠ c) : upd (upd (rstT c t M) c t (rstT c t M 0 t)) t c (upd (rstT c t M) c t (rstT c t M 0 t) t 0) = rstT c (t + 1) M := by
  have r1 : rstT c t M 0 t = M 0 t := by
    unfold rstT
    rw [if_neg (by omega), if_neg (by omega)]
  have r2 : upd (rstT c t M) c t (rstT c t M 0 t) t 0 = M t 0 := by
    unfold upd
    rw [if_neg (by omega)]
    unfold rstT
    rw [if_neg (by omega), if_neg (by omega)]
  rw [r2, r1]
  funext i j
  unfold upd
  by_cases h1 : i = t ∧ j = c
  · rw [if_pos h1]
    unfold rstT
    rw [if_neg (by omega), if_pos (by omega), h1.1]
  · rw [if_neg h1]
    by_cases h2 : i = c ∧ j = t
    · rw [if_pos h2]
      unfold rstT
      rw [if_pos (by omega), h2.2]
    · rw [if_neg h2]
      unfold rstT
      by_cases h3 : i = c ∧ j ≠ c ∧ j < t
      · rw [if_pos h3, if_pos (by omega)]
      · rw [if_neg h3]
        by_cases h4 : j = c ∧ i ≠ c ∧ i < t
        · rw [if_pos h4, if_neg (by omega), if_pos (by omega)]
        · rw [if_neg h4, if_neg (by omega), if_neg (by omega)]
theorem rstT_all {c i j : Nat} (hz : M c c = M 0 0) (hi : i < N) (hj : j < N) : rstT c N M i j = rstM c M i j := by
  unfold rstT rstM rcol
  by_cases h1 : i = c
  · by_cases h2 : j = c
    · rw [if_neg (by omega), if_neg (by omega), if_pos h1, if_pos h2, h1, h2, hz]
    · rw [if_pos (by omega), if_pos h1, if_neg h2]
  · by_cases h2 : j = c
    · rw [if_neg (by omega), if_pos (by omega), if_neg h1, if_pos h2]
    · rw [if_neg (by omega), if_neg (by omega), if_neg h1, if_neg h2]
theorem reset_go {c : Nat} (hc : 0 < c) (hcN : c < N) : ∃ y, forL [] (gN 3) l_reset_1 (rngD 0 N) [x0, some (.int (c : Int)), some (.ref (h.length + N)), x3, x4] (hM h N M) = some (.nx [x0, some (.int (c : Int)), some (.ref (h.length + N)), y, x4] (hM h N (rstT c N M))) := by
  obtain ⟨τ', h', e, z, e1, e2⟩ := forRg0 (g := gN 3) (body := l_reset_1) (n := N) (fun t τ hh => ∃ z, τ = [x0, some (.int (c : Int)), some (.ref (h.length + N)), z, x4] ∧ hh = hM h N (rstT c t M)) (fun t ht τ hh ⟨z, e1, e2⟩ => by
    subst e1 e2
    refine ⟨_, _, [x0, some (.int (c : Int)), some (.ref (h.length + N)), some (.int (t : Int)), x4], hM h N (rstT c (t + 1) M), rfl, .inl ?_, _, rfl, rfl⟩
    unfold l_reset_1
    by_cases e : t = c
    · subst e
      rw [rstT_same]
      simp -implicitDefEqProofs (disch := first | assumption | omega | (simp only [List.length_cons, List.length_nil, List.length_map, List.length_set, List.length_append]; omega)) []
    · have tp := fun M => hM_top (h := h) (N := N) (M := M)
      have r0 := fun M => hM_row (h := h) (M := M) (i := 0) (N := N) (by omega)
      have rc := fun M => hM_row (h := h) (M := M) hcN
      have rt := fun M => hM_row (h := h) (M := M) ht
      have f0 := at_refs0 (b := h.length) (N := N) (by omega)
      have fc := at_refs (b := h.length) hcN
      have ft := at_refs (b := h.length) ht
      have a0 := fun M => at_row (M := M) (i := 0) ht
      have at0 := fun M => at_row0 (M := M) (i := t) (N := N) (by omega)
      have s1 := fun M v => setK_row (h := h) (M := M) (v := v) hcN ht
      have s2 := fun M v => setK_row (h := h) (M := M) (v := v) ht hcN
      have e' : ¬ (t : Int) = (c : Int) := by omega
      simp only [Nat.add_zero] at f0 r0
      simp -implicitDefEqProofs (disch := first | assumption | omega | (simp only [List.length_cons, List.length_nil, List.length_map, List.length_set, List.length_append]; omega)) [tp, r0, rc, rt, f0, fc, ft, a0, at0, s1, s2, e', rstT_succ hc e, -atI_pos]) [x0, some (.int (c : Int)), some (.ref (h.length + N)), x3, x4] (hM h N M) ⟨_, rfl, by rw [rstT_0]⟩
  subst e1 e2
  exact ⟨z, e⟩
theorem reset_ok {c : Nat} (hN : N ≤ 1000) (hc : 0 < c) (hcN : c < N) (hz : M c c = M 0 0) (Z : Zn x h N M) : F_reset [x, .int (c : Int)] h = some (zoD N (rstM c M), h) := by
  obtain ⟨items, grd, z1, z2⟩ := Z.cp
  have cp := z2 4 [some x, some (.int (c : Int)), none, none, none] (by simp)
  have r : N ≤ 16777216 := by omega
  have mk := hM_mk (h := h) (N := N) (M := M)
  have t := fun M => hM_top (h := h) (N := N) (M := M)
  obtain ⟨y, e⟩ := reset_go (h := h) (N := N) (M := M) (x0 := some x) (x3 := none) (x4 := none) hc hcN
  rw [hM_ext (M := rstT c N M) (M' := rstM c M) fun i j hi hj => rstT_all hz hi hj] at e
  have cc := tups_hM (h := h) (N := N) (M := rstM c M) (s := 4) (τ := [some x, some (.int (c : Int)), some (.ref (h.length + N)), y, none]) (by simp)
  have g := gc_hMd (h := h) (N := N) (M := rstM c M) (d := zoD N (rstM c M)) zoD_low
  have u : D.tup (rowsD N (rstM c M)) = zoD N (rstM c M) := rfl
  unfold F_reset b_reset
  simp -implicitDefEqProofs (disch := first | assumption | omega | (simp only [List.length_cons, List.length_nil, List.length_map, List.length_set, List.length_append]; omega)) [runDef_if, z1, cp, r, rowsO_len, mk, t, e, cc, g, u, -atI_pos]
/-! the law's reset -/
def lrsT (c t : Nat) (M : Mt) : Mt := fun i j => if (i = c ∧ j ≠ c ∧ j < t) ∨ (j = c ∧ i ≠ c ∧ i < t) then none else M i j
def lrsM (c N : Nat) (M : Mt) : Mt := upd (upd (lrsT c N M) c 0 (some 0)) 0 c (some 0)
theorem lrsT_0 {c : Nat} : lrsT c 0 M = M := by
  funext i j
  unfold lrsT
  rw [if_neg (by omega)]
theorem lrsT_same {c : Nat} : lrsT c (c + 1) M = lrsT c c M := by
  funext i j
  unfold lrsT
  by_cases h1 : (i = c ∧ j ≠ c ∧ j < c) ∨ (j = c ∧ i ≠ c ∧ i < c)
  · rw [if_pos h1, if_pos (by omega)]
  · rw [if_neg h1, if_neg (by omega)]
theorem lrsT_succ {c t : Nat} (e : t ≠ c) : upd (upd (lrsT c t M) c t none) t c none = lrsT c (t + 1) M := by
  funext i j
  unfold upd lrsT
  by_cases h1 : i = t ∧ j = c
  · rw [if_pos h1, if_pos (by omega)]
  · rw [if_neg h1]
    by_cases h2 : i = c ∧ j = t
    · rw [if_pos h2, if_pos (by omega)]
    · rw [if_neg h2]
      by_cases h3 : (i = c ∧ j ≠ c ∧ j < t) ∨ (j = c ∧ i ≠ c ∧ i < t)
      · rw [if_pos h3, if_pos (by omega)]
      · rw [if_neg h3, if_neg (by omega)]
theorem lreset_go {c : Nat} (hcN : c < N) : ∃ y, forL [] (gN 3) l_law_reset_zone_1 (rngD 0 N) [x0, some (.int (c : Int)), some (.ref (h.length + N)), x3, x4] (hM h N M) = some (.nx [x0, some (.int (c : Int)), some (.ref (h.length + N)), y, x4] (hM h N (lrsT c N M))) := by
  obtain ⟨τ', h', e, z, e1, e2⟩ := forRg0 (g := gN 3) (body := l_law_reset_zone_1) (n := N) (fun t τ hh => ∃ z, τ = [x0, some (.int (c : Int)), some (.ref (h.length + N)), z, x4] ∧ hh = hM h N (lrsT c t M)) (fun t ht τ hh ⟨z, e1, e2⟩ => by
    subst e1 e2
    refine ⟨_, _, [x0, some (.int (c : Int)), some (.ref (h.length + N)), some (.int (t : Int)), x4], hM h N (lrsT c (t + 1) M), rfl, .inl ?_, _, rfl, rfl⟩
    unfold l_law_reset_zone_1
    by_cases e : t = c
    · subst e
      rw [lrsT_same]
      simp -implicitDefEqProofs (disch := first | assumption | omega | (simp only [List.length_cons, List.length_nil, List.length_map, List.length_set, List.length_append]; omega)) []
    · have tp := fun M => hM_top (h := h) (N := N) (M := M)
      have rc := fun M => hM_row (h := h) (M := M) hcN
      have rt := fun M => hM_row (h := h) (M := M) ht
      have fc := at_refs (b := h.length) hcN
      have ft := at_refs (b := h.length) ht
      have s1 := fun M => setK_rowN (h := h) (M := M) hcN ht
      have s2 := fun M => setK_rowN (h := h) (M := M) ht hcN
      have e' : ¬ (t : Int) = (c : Int) := by omega
      simp -implicitDefEqProofs (disch := first | assumption | omega | (simp only [List.length_cons, List.length_nil, List.length_map, List.length_set, List.length_append]; omega)) [tp, rc, rt, fc, ft, s1, s2, e', lrsT_succ e, -atI_pos]) [x0, some (.int (c : Int)), some (.ref (h.length + N)), x3, x4] (hM h N M) ⟨_, rfl, by rw [lrsT_0]⟩
  subst e1 e2
  exact ⟨z, e⟩
theorem lreset_ok {c : Nat} (hN : N ≤ 1000) (hcN : c < N) (Z : Zn x h N M) : F_law_reset_zone [x, .int (c : Int)] h = some (optZ N (tgt N (lrsM c N M)), h) := by
  obtain ⟨items, grd, z1, z2⟩ := Z.cp
  have cp := z2 4 [some x, some (.int (c : Int)), none, none, none] (by simp)
  have r : N ≤ 16777216 := by omega
  have mk := hM_mk (h := h) (N := N) (M := M)
  have t := fun M => hM_top (h := h) (N := N) (M := M)
  obtain ⟨y, e⟩ := lreset_go (h := h) (N := N) (M := M) (x0 := some x) (x3 := none) (x4 := none) hcN
  have rc := fun M => hM_row (h := h) (M := M) hcN
  have r0 := fun M => hM_row (h := h) (M := M) (i := 0) (N := N) (by omega)
  have fc := at_refs (b := h.length) hcN
  have f0 := at_refs0 (b := h.length) (N := N) (by omega)
  have s1 := fun M k => setK_rowI0 (h := h) (M := M) (k := k) hcN (by omega)
  have s2 := fun M k => setK_rowI (h := h) (M := M) (k := k) (i := 0) (j := c) (N := N) (by omega) hcN
  have e2 := law_tight_ok hN (by omega) (zn_hM (h := h) (N := N) (M := lrsM c N M) hN)
  have g := gc_hMd (h := h) (N := N) (M := lrsM c N M) (d := optZ N (tgt N (lrsM c N M))) optZ_low
  have w : upd (upd (lrsT c N M) c 0 (some 0)) 0 c (some 0) = lrsM c N M := rfl
  simp only [Nat.add_zero] at f0 r0 s2
  unfold F_law_reset_zone b_law_reset_zone
  simp -implicitDefEqProofs (disch := first | assumption | omega | (simp only [List.length_cons, List.length_nil, List.length_map, List.length_set, List.length_append]; omega)) [runDef_if, z1, cp, r, rowsO_len, mk, t, e, rc, r0, fc, f0, s1, s2, w, e2, g, -atI_pos]
end
end Sm
namespace Sm
open PySem PySem.Spec PyProof.Rows L2
/-- an entry, widened -/
def wdE (m : Int) (i j : Nat) : Option Int → Option Int
  | none => none
  | some b => if i = j then some b else if m < b then none else if b < 0 - m - 1 then some (0 - m - 1) else some b
def wdI (m : Int) (i : Nat) (M : Mt) (j : Nat) : Mt := upd M i j (wdE m i j (M i j))
def wdR (N : Nat) (m : Int) (M : Mt) (i : Nat) : Mt := it (wdI m i) M N
def wdM (N : Nat) (m : Int) (M : Mt) : Mt := it (wdR N m) M N
section
variable {h : AH} {N : Nat} {M : Mt} {x : D} {m : Int} {x0 x1 x2 x3 x4 x5 x6 : Option D}
theorem wd_turn {i j : Nat} (hi : i < N) (hj : j < N) : ∃ y, l_widened_1 [x0, some (.int m), some (.ref (h.length + N)), some (.int (i : Int)), some (.int (j : Int)), x5, x6] (hM h N M) = some (.nx [x0, some (.int m), some (.ref (h.length + N)), some (.int (i : Int)), some (.int (j : Int)), x5, y] (hM h N (wdI m i M j))) := by
  refine ⟨some (oi (M i j)), ?_⟩
  have tp := fun M => hM_top (h := h) (N := N) (M := M)
  have ri := fun M => hM_row (h := h) (M := M) hi
  have fi := at_refs (b := h.length) hi
  have a := at_row (M := M) (i := i) hj
  have s1 := fun M => setK_rowN (h := h) (M := M) hi hj
  have s2 := fun M k => setK_rowI (h := h) (M := M) (k := k) hi hj
  have us := upd_self (M := M) (i := i) (j := j)
  unfold l_widened_1 wdI
  by_cases e : i = j
  · have w : wdE m i j (M i j) = M i j := by cases M i j <;> simp [wdE, e]
    subst e
    rw [w, us]
    simp -implicitDefEqProofs (disch := first | assumption | omega | (simp only [List.length_cons, List.length_nil, List.length_map, List.length_set, List.length_append]; omega)) [tp, ri, fi, a, -atI_pos]
  · have e' : ¬ (i : Int) = (j : Int) := by omega
    cases hm : M i j with
    | none =>
      have w : wdE m i j none = none := rfl
      rw [hm] at a us
      rw [w, us]
      simp -implicitDefEqProofs (disch := first | assumption | omega | (simp only [List.length_cons, List.length_nil, List.length_map, List.length_set, List.length_append]; omega)) [tp, ri, fi, a, e', -atI_pos]
    | some b =>
      rw [hm] at a us
      by_cases c1 : m < b
      · have w : wdE m i j (some b) = none := by simp [wdE, e, c1]
        rw [w]
        simp -implicitDefEqProofs (disch := first | assumption | omega | (simp only [List.length_cons, List.length_nil, List.length_map, List.length_set, List.length_append]; omega)) [tp, ri, fi, a, e', c1, s1, -atI_pos]
      · by_cases c2 : b < 0 - m - 1
        · have w : wdE m i j (some b) = some (0 - m - 1) := by simp only [wdE, if_neg e, if_neg c1, if_pos c2]
          rw [w]
          have c2' : b < -m - 1 := by omega
          simp only [Int.zero_sub] at *
          simp -implicitDefEqProofs (disch := first | assumption | omega | (simp only [List.length_cons, List.length_nil, List.length_map, List.length_set, List.length_append]; omega)) [tp, ri, fi, a, e', c1, c2', s2, -atI_pos]
        · have w : wdE m i j (some b) = some b := by simp only [wdE, if_neg e, if_neg c1, if_neg c2]
          rw [w, us]
          have c2' : ¬ b < -m - 1 := by omega
          simp -implicitDefEqProofs (disch := first | assumption | omega | (simp only [List.length_cons, List.length_nil, List.length_map, List.length_set, List.length_append]; omega)) [tp, ri, fi, a, e', c1, c2', Int.zero_sub, -atI_pos]
theorem wd_row {i : Nat} (hi : i < N) : ∃ y z, forL [] (gN 4) l_widened_1 (rngD 0 N) [x0, some (.int m), some (.ref (h.length + N)), some (.int (i : Int)), x4, x5, x6] (hM h N M) = some (.nx [x0, some (.int m), some (.ref (h.length + N)), some (.int (i : Int)), y, x5, z] (hM h N (wdR N m M i))) := by
  obtain ⟨τ', h', e, z1, z2, e1, e2⟩ := forRg0 (g := gN 4) (body := l_widened_1) (n := N) (fun j τ hh => ∃ y z, τ = [x0, some (.int m), some (.ref (h.length + N)), some (.int (i : Int)), y, x5, z] ∧ hh = hM h N (it (wdI m i) M j)) (fun j hj τ hh ⟨z1, z2, e1, e2⟩ => by
    subst e1 e2
    obtain ⟨y, e⟩ := wd_turn (h := h) (M := it (wdI m i) M j) (m := m) (x0 := x0) (x5 := x5) (x6 := z2) hi hj
    refine ⟨_, _, _, _, rfl, .inl e, _, _, rfl, by rw [it_succ]⟩) [x0, some (.int m), some (.ref (h.length + N)), some (.int (i : Int)), x4, x5, x6] (hM h N M) ⟨_, _, rfl, rfl⟩
  subst e1 e2
  exact ⟨z1, z2, e⟩
theorem wd_go (hN : N ≤ 1000) : ∃ y3 y4 y6, forL [] (gN 3) l_widened_2 (rngD 0 N) [x0, some (.int m), some (.ref (h.length + N)), x3, x4, x5, x6] (hM h N M) = some (.nx [x0, some (.int m), some (.ref (h.length + N)), y3, y4, x5, y6] (hM h N (wdM N m M))) := by
  obtain ⟨τ', h', e, z0, z1, z2, e1, e2⟩ := forRg0 (g := gN 3) (body := l_widened_2) (n := N) (fun i τ hh => ∃ w y z, τ = [x0, some (.int m), some (.ref (h.length + N)), w, y, x5, z] ∧ hh = hM h N (it (wdR N m) M i)) (fun i hi τ hh ⟨z0, z1, z2, e1, e2⟩ => by
    subst e1 e2
    obtain ⟨y, z, e⟩ := wd_row (h := h) (M := it (wdR N m) M i) (m := m) (x0 := x0) (x4 := z1) (x5 := x5) (x6 := z2) hi
    have tp := hM_top (h := h) (N := N) (M := it (wdR N m) M i)
    refine ⟨_, _, [x0, some (.int m), some (.ref (h.length + N)), some (.int (i : Int)), y, x5, z], hM h N (it (wdR N m) M (i + 1)), rfl, .inl ?_, _, _, _, rfl, rfl⟩
    unfold l_widened_2
    rw [it_succ]
    simp -implicitDefEqProofs (disch := first | assumption | omega | (simp only [List.length_cons, List.length_nil, List.length_map, List.length_set, List.length_append]; omega)) [tp, e]) [x0, some (.int m), some (.ref (h.length + N)), x3, x4, x5, x6] (hM h N M) ⟨_, _, _, rfl, rfl⟩
  subst e1 e2
  exact ⟨z0, z1, z2, e⟩
theorem widened_ok (hN : N ≤ 1000) (h0 : 0 < N) (Z : Zn x h N M) : F_widened [x, .int m] h = some (optZ N (tgt N (wdM N m M)), h) := by
  obtain ⟨items, grd, z1, z2⟩ := Z.cp
  have cp := z2 5 [some x, some (.int m), none, none, none, none, none] (by simp)
  have r : N ≤ 16777216 := by omega
  have mk := hM_mk (h := h) (N := N) (M := M)
  have t := fun M => hM_top (h := h) (N := N) (M := M)
  obtain ⟨y3, y4, y6, e⟩ := wd_go (h := h) (N := N) (M := M) (m := m) (x0 := some x) (x3 := none) (x4 := none) (x5 := none) (x6 := none) hN
  have e2 := tight_ok hN h0 (zn_hM (h := h) (N := N) (M := wdM N m M) hN)
  have g := gc_hMd (h := h) (N := N) (M := wdM N m M) (d := optZ N (tgt N (wdM N m M))) optZ_low
  unfold F_widened b_widened
  simp -implicitDefEqProofs (disch := first | assumption | omega | (simp only [List.length_cons, List.length_nil, List.length_map, List.length_set, List.length_append]; omega)) [runDef_if, z1, cp, r, rowsO_len, mk, t, e, e2, g, -atI_pos]
/-! the law's -/
theorem lwd_turn {i j : Nat} (hi : i < N) (hj : j < N) : l_law_wide_1 [x0, some (.int m), some (.ref (h.length + N)), some (.int (i : Int)), some (.int (j : Int)), x5] (hM h N M) = some (.nx [x0, some (.int m), some (.ref (h.length + N)), some (.int (i : Int)), some (.int (j : Int)), x5] (hM h N (wdI m i M j))) := by
  have tp := fun M => hM_top (h := h) (N := N) (M := M)
  have ri := fun M => hM_row (h := h) (M := M) hi
  have fi := at_refs (b := h.length) hi
  have a := at_row (M := M) (i := i) hj
  have s1 := fun M => setK_rowN (h := h) (M := M) hi hj
  have s2 := fun M k => setK_rowI (h := h) (M := M) (k := k) hi hj
  have us := upd_self (M := M) (i := i) (j := j)
  unfold l_law_wide_1 wdI
  by_cases e : i = j
  · have w : wdE m i j (M i j) = M i j := by cases M i j <;> simp [wdE, e]
    subst e
    rw [w, us]
    simp -implicitDefEqProofs (disch := first | assumption | omega | (simp only [List.length_cons, List.length_nil, List.length_map, List.length_set, List.length_append]; omega)) [tp, ri, fi, a, -atI_pos]
  · have e' : ¬ (i : Int) = (j : Int) := by omega
    cases hm : M i j with
    | none =>
      have w : wdE m i j none = none := rfl
      rw [hm] at a us
      rw [w, us]
      simp -implicitDefEqProofs (disch := first | assumption | omega | (simp only [List.length_cons, List.length_nil, List.length_map, List.length_set, List.length_append]; omega)) [tp, ri, fi, a, e', -atI_pos]
    | some b =>
      rw [hm] at a us
      by_cases c1 : m < b
      · have w : wdE m i j (some b) = none := by simp [wdE, e, c1]
        rw [w]
        simp -implicitDefEqProofs (disch := first | assumption | omega | (simp only [List.length_cons, List.length_nil, List.length_map, List.length_set, List.length_append]; omega)) [tp, ri, fi, a, e', c1, s1, -atI_pos]
      · by_cases c2 : b < 0 - m - 1
        · have w : wdE m i j (some b) = some (0 - m - 1) := by simp only [wdE, if_neg e, if_neg c1, if_pos c2]
          rw [w]
          have c2' : b < -m - 1 := by omega
          simp only [Int.zero_sub] at *
          simp -implicitDefEqProofs (disch := first | assumption | omega | (simp only [List.length_cons, List.length_nil, List.length_map, List.length_set, List.length_append]; omega)) [tp, ri, fi, a, e', c1, c2', s2, -atI_pos]
        · have w : wdE m i j (some b) = some b := by simp only [wdE, if_neg e, if_neg c1, if_neg c2]
          rw [w, us]
          have c2' : ¬ b < -m - 1 := by omega
          simp -implicitDefEqProofs (disch := first | assumption | omega | (simp only [List.length_cons, List.length_nil, List.length_map, List.length_set, List.length_append]; omega)) [tp, ri, fi, a, e', c1, c2', Int.zero_sub, -atI_pos]
theorem lwd_row {i : Nat} (hi : i < N) : ∃ y, forL [] (gN 4) l_law_wide_1 (rngD 0 N) [x0, some (.int m), some (.ref (h.length + N)), some (.int (i : Int)), x4, x5] (hM h N M) = some (.nx [x0, some (.int m), some (.ref (h.length + N)), some (.int (i : Int)), y, x5] (hM h N (wdR N m M i))) := by
  obtain ⟨τ', h', e, z1, e1, e2⟩ := forRg0 (g := gN 4) (body := l_law_wide_1) (n := N) (fun j τ hh => ∃ y, τ = [x0, some (.int m), some (.ref (h.length + N)), some (.int (i : Int)), y, x5] ∧ hh = hM h N (it (wdI m i) M j)) (fun j hj τ hh ⟨z1, e1, e2⟩ => by
    subst e1 e2
    refine ⟨_, _, _, _, rfl, .inl (lwd_turn hi hj), _, rfl, by rw [it_succ]⟩) [x0, some (.int m), some (.ref (h.length + N)), some (.int (i : Int)), x4, x5] (hM h N M) ⟨_, rfl, rfl⟩
  subst e1 e2
  exact ⟨z1, e⟩
theorem lwd_go (hN : N ≤ 1000) : ∃ y3 y4, forL [] (gN 3) l_law_wide_2 (rngD 0 N) [x0, some (.int m), some (.ref (h.length + N)), x3, x4, x5] (hM h N M) = some (.nx [x0, some (.int m), some (.ref (h.length + N)), y3, y4, x5] (hM h N (wdM N m M))) := by
  obtain ⟨τ', h', e, z0, z1, e1, e2⟩ := forRg0 (g := gN 3) (body := l_law_wide_2) (n := N) (fun i τ hh => ∃ w y, τ = [x0, some (.int m), some (.ref (h.length + N)), w, y, x5] ∧ hh = hM h N (it (wdR N m) M i)) (fun i hi τ hh ⟨z0, z1, e1, e2⟩ => by
    subst e1 e2
    obtain ⟨y, e⟩ := lwd_row (h := h) (M := it (wdR N m) M i) (m := m) (x0 := x0) (x4 := z1) (x5 := x5) hi
    have tp := hM_top (h := h) (N := N) (M := it (wdR N m) M i)
    refine ⟨_, _, [x0, some (.int m), some (.ref (h.length + N)), some (.int (i : Int)), y, x5], hM h N (it (wdR N m) M (i + 1)), rfl, .inl ?_, _, _, rfl, rfl⟩
    unfold l_law_wide_2
    rw [it_succ]
    simp -implicitDefEqProofs (disch := first | assumption | omega | (simp only [List.length_cons, List.length_nil, List.length_map, List.length_set, List.length_append]; omega)) [tp, e]) [x0, some (.int m), some (.ref (h.length + N)), x3, x4, x5] (hM h N M) ⟨_, _, rfl, rfl⟩
  subst e1 e2
  exact ⟨z0, z1, e⟩
theorem lwide_ok (hN : N ≤ 1000) (h0 : 0 < N) (Z : Zn x h N M) : F_law_wide [x, .int m] h = some (optZ N (tgt N (wdM N m M)), h) := by
  obtain ⟨items, grd, z1, z2⟩ := Z.cp
  have cp := z2 5 [some x, some (.int m), none, none, none, none] (by simp)
  have r : N ≤ 16777216 := by omega
  have mk := hM_mk (h := h) (N := N) (M := M)
  have t := fun M => hM_top (h := h) (N := N) (M := M)
  obtain ⟨y3, y4, e⟩ := lwd_go (h := h) (N := N) (M := M) (m := m) (x0 := some x) (x3 := none) (x4 := none) (x5 := none) hN
  have e2 := law_tight_ok hN h0 (zn_hM (h := h) (N := N) (M := wdM N m M) hN)
  have g := gc_hMd (h := h) (N := N) (M := wdM N m M) (d := optZ N (tgt N (wdM N m M))) optZ_low
  unfold F_law_wide b_law_wide
  simp -implicitDefEqProofs (disch := first | assumption | omega | (simp only [List.length_cons, List.length_nil, List.length_map, List.length_set, List.length_append]; omega)) [runDef_if, z1, cp, r, rowsO_len, mk, t, e, e2, g, -atI_pos]
end
end Sm
namespace Sm
open PySem PySem.Spec PyProof.Rows L2
/-! ## loops that hand back False at the first that fails -/
theorem forAll {grd : List (Nat × List D)} {g : SG} {body : SS} {xs : List D} {h : AH} (ok : Nat → Bool) (P : Nat → AT → Prop) (hg : grdOk grd h = true)
    (hs : ∀ (i : Nat) (hi : i < xs.length) τ, P i τ → ∃ τ1, g xs[i] τ h = some (τ1, h) ∧ ((ok i = true ∧ ∃ τ2, body τ1 h = some (.nx τ2 h) ∧ P (i + 1) τ2) ∨ (ok i = false ∧ body τ1 h = some (.rt (.bl false) h))))
    (τ : AT) (p : P 0 τ) : ((List.range xs.length).all ok = true ∧ ∃ τ', forL grd g body xs τ h = some (.nx τ' h) ∧ P xs.length τ') ∨ ((List.range xs.length).all ok = false ∧ forL grd g body xs τ h = some (.rt (.bl false) h)) := by
  have go : ∀ m i τ, i + m = xs.length → P i τ → ((∀ k, i ≤ k → k < xs.length → ok k = true) ∧ ∃ τ', forL grd g body (xs.drop i) τ h = some (.nx τ' h) ∧ P xs.length τ') ∨ ((∃ k, i ≤ k ∧ k < xs.length ∧ ok k = false) ∧ forL grd g body (xs.drop i) τ h = some (.rt (.bl false) h)) := by
    intro m
    induction m with
    | zero =>
      intro i τ e p
      refine .inl ⟨fun k h1 h2 => by omega, τ, ?_, ?_⟩
      · rw [List.drop_eq_nil_of_le (by omega), forL_nil hg]
      · rw [show xs.length = i by omega]; exact p
    | succ m ih =>
      intro i τ e p
      have hi : i < xs.length := by omega
      rw [List.drop_eq_getElem_cons hi]
      obtain ⟨τ1, e1, z⟩ := hs i hi τ p
      rcases z with ⟨o, τ2, e2, p2⟩ | ⟨o, e2⟩
      · rw [forL_cons hg e1 e2]
        rcases ih (i + 1) τ2 (by omega) p2 with ⟨a, b⟩ | ⟨⟨k, a1, a2, a3⟩, b⟩
        · refine .inl ⟨fun k h1 h2 => ?_, b⟩
          rcases Nat.eq_or_lt_of_le h1 with rfl | h1
          · exact o
          · exact a k h1 h2
        · exact .inr ⟨⟨k, by omega, a2, a3⟩, b⟩
      · rw [forL_rt hg e1 e2]
        exact .inr ⟨⟨i, Nat.le_refl _, hi, o⟩, rfl⟩
  rcases go xs.length 0 τ (by omega) p with ⟨a, b⟩ | ⟨⟨k, a1, a2, a3⟩, b⟩
  · exact .inl ⟨List.all_eq_true.mpr fun k hk => a k (Nat.zero_le _) (List.mem_range.mp hk), b⟩
  · refine .inr ⟨?_, b⟩
    rw [← Bool.not_eq_true, List.all_eq_true]
    intro z
    rw [z k (List.mem_range.mpr a2)] at a3
    cases a3
theorem forAll0 {g : SG} {body : SS} {n : Nat} {h : AH} (ok : Nat → Bool) (P : Nat → AT → Prop)
    (hs : ∀ (i : Nat) (hi : i < n) τ, P i τ → ∃ τ1, g (.int (i : Int)) τ h = some (τ1, h) ∧ ((ok i = true ∧ ∃ τ2, body τ1 h = some (.nx τ2 h) ∧ P (i + 1) τ2) ∨ (ok i = false ∧ body τ1 h = some (.rt (.bl false) h))))
    (τ : AT) (p : P 0 τ) : ((List.range n).all ok = true ∧ ∃ τ', forL [] g body (rngD 0 n) τ h = some (.nx τ' h) ∧ P n τ') ∨ ((List.range n).all ok = false ∧ forL [] g body (rngD 0 n) τ h = some (.rt (.bl false) h)) := by
  have := forAll (grd := []) (g := g) (body := body) (xs := rngD 0 n) (h := h) ok P rfl (fun i hi τ p => by
    rw [rngD_len] at hi
    have e : (rngD 0 n)[i]'(by rw [rngD_len]; exact hi) = .int (i : Int) := by simp [rngD]
    rw [e]
    exact hs i hi τ p) τ p
  rwa [rngD_len] at this
/-! ## points -/
def pt (ps : List Int) (i : Nat) : Int := (0 :: ps).getD i 0
theorem at_pt {ps : List Int} {i : Nat} (hi : i < ps.length + 1) : L2.atI (D.int 0 :: ps.map D.int) (i : Int) = some (.int (pt ps i)) := by
  rw [atI_cast, ← List.map_cons (f := D.int), List.getElem?_map, List.getElem?_eq_getElem (by simpa using hi)]
  unfold pt
  rw [List.getD_eq_getElem?_getD, List.getElem?_eq_getElem (by simpa using hi)]
  rfl
def entB (o : Option Int) (d : Int) : Bool := match o with
  | none => true
  | some b => decide (d ≤ b)
def satB (N : Nat) (ps : List Int) (M : Mt) : Bool := (List.range N).all fun i => (List.range N).all fun j => entB (M i j) (pt ps i - pt ps j)
theorem satB_iff {N : Nat} {ps : List Int} {M : Mt} : satB N ps M = true ↔ Sat N (pt ps) M := by
  unfold satB Sat
  rw [List.all_eq_true]
  refine ⟨fun h i j hi hj x hx => ?_, fun h i hi => List.all_eq_true.mpr fun j hj => ?_⟩
  · have := List.all_eq_true.mp (h i (List.mem_range.mpr hi)) j (List.mem_range.mpr hj)
    obtain ⟨c, e, hc⟩ := hx
    rw [e] at this
    have := of_decide_eq_true this
    omega
  · cases e : M i j with
    | none => rfl
    | some b => exact decide_eq_true (h i j (List.mem_range.mp hi) (List.mem_range.mp hj) b ⟨b, e, Int.le_refl _⟩)
section
variable {h : AH} {N : Nat} {M : Mt} {ps : List Int} {x0 x1 x2 x3 x4 x5 x6 : Option D}
theorem numD_ix {ds : List D} {k i : Nat} (hi : i < (numD ds k).length) (hj : i < ds.length) : (numD ds k)[i] = .zt [.int ((k + i : Nat) : Int), ds[i]] := by
  obtain ⟨x, e1, e2⟩ := numD_get (ds := ds) (n := k) (i := i) (List.getElem?_eq_getElem hi)
  rw [List.getElem?_eq_getElem hj] at e1
  rw [e2, Option.some.inj e1]
theorem hp_row {i : Nat} (hi : i < N) (hp : ps.length + 1 = N) : ((List.range N).all (fun j => entB (M i j) (pt ps i - pt ps j)) = true ∧ ∃ y z, forL [] (gT 2 (gsC (gN 5) (gsC (gN 6) gsN))) l_has_point_1 (numD (rowD N M i) 0) [x0, x1, some (.tup (.int 0 :: ps.map D.int)), some (.int (i : Int)), x4, x5, x6] h = some (.nx [x0, x1, some (.tup (.int 0 :: ps.map D.int)), some (.int (i : Int)), x4, y, z] h)) ∨
    ((List.range N).all (fun j => entB (M i j) (pt ps i - pt ps j)) = false ∧ forL [] (gT 2 (gsC (gN 5) (gsC (gN 6) gsN))) l_has_point_1 (numD (rowD N M i) 0) [x0, x1, some (.tup (.int 0 :: ps.map D.int)), some (.int (i : Int)), x4, x5, x6] h = some (.rt (.bl false) h)) := by
  have := forAll (grd := []) (g := gT 2 (gsC (gN 5) (gsC (gN 6) gsN))) (body := l_has_point_1) (xs := numD (rowD N M i) 0) (h := h) (fun j => entB (M i j) (pt ps i - pt ps j)) (fun j τ => ∃ y z, τ = [x0, x1, some (.tup (.int 0 :: ps.map D.int)), some (.int (i : Int)), x4, y, z]) rfl (fun j hj τ ⟨y, z, e⟩ => by
    subst e
    rw [numD_len, rowD_len] at hj
    have e : (numD (rowD N M i) 0)[j]'(by rw [numD_len, rowD_len]; exact hj) = .zt [.int (j : Int), oi (M i j)] := by
      rw [numD_ix _ (by rw [rowD_len]; exact hj), Nat.zero_add]
      have := rowD_get (M := M) (i := i) hj
      rw [List.getElem?_eq_getElem (by rw [rowD_len]; exact hj)] at this
      rw [Option.some.inj this]
    rw [e]
    refine ⟨[x0, x1, some (.tup (.int 0 :: ps.map D.int)), some (.int (i : Int)), x4, some (.int (j : Int)), some (oi (M i j))], rfl, ?_⟩
    have a1 := at_pt (ps := ps) (i := i) (by omega)
    have a2 := at_pt (ps := ps) (i := j) (by omega)
    unfold l_has_point_1
    cases hm : M i j with
    | none => exact .inl ⟨rfl, [x0, x1, some (.tup (.int 0 :: ps.map D.int)), some (.int (i : Int)), x4, some (.int (j : Int)), some .non], by simp -implicitDefEqProofs (disch := first | assumption | omega | (simp only [List.length_cons, List.length_nil, List.length_map, List.length_set, List.length_append]; omega)) [], _, _, rfl⟩
    | some b =>
      by_cases c : pt ps i - pt ps j ≤ b
      · have c' : ¬ b < pt ps i - pt ps j := by omega
        exact .inl ⟨decide_eq_true c, [x0, x1, some (.tup (.int 0 :: ps.map D.int)), some (.int (i : Int)), x4, some (.int (j : Int)), some (.int b)], by simp -implicitDefEqProofs (disch := first | assumption | omega | (simp only [List.length_cons, List.length_nil, List.length_map, List.length_set, List.length_append]; omega)) [a1, a2, c', -atI_pos], _, _, rfl⟩
      · have c' : b < pt ps i - pt ps j := by omega
        exact .inr ⟨decide_eq_false c, by simp -implicitDefEqProofs (disch := first | assumption | omega | (simp only [List.length_cons, List.length_nil, List.length_map, List.length_set, List.length_append]; omega)) [a1, a2, c', -atI_pos]⟩) [x0, x1, some (.tup (.int 0 :: ps.map D.int)), some (.int (i : Int)), x4, x5, x6] ⟨_, _, rfl⟩
  rw [numD_len, rowD_len] at this
  rcases this with ⟨a, τ', b, y, z, e⟩ | h
  · subst e
    exact .inl ⟨a, y, z, b⟩
  · exact .inr h
theorem has_point_ok (hN : N ≤ 1000) (hp : ps.length + 1 = N) : F_has_point [zoD N M, .tup (ps.map D.int)] h = some (.bl (satB N ps M), h) := by
  have g : ∀ b, gc h (.bl b) h = (.bl b, h) := fun b => gc_pure0 rfl
  have zl : 1 + ps.length ≤ 16777216 := by omega
  have := forAll (grd := []) (g := gT 2 (gsC (gN 3) (gsC (gN 4) gsN))) (body := l_has_point_2) (xs := numD (rowsD N M) 0) (h := h) (fun i => (List.range N).all fun j => entB (M i j) (pt ps i - pt ps j)) (fun j τ => ∃ y z u v, τ = [some (zoD N M), some (.tup (ps.map D.int)), some (.tup (.int 0 :: ps.map D.int)), y, z, u, v]) rfl (fun i hi τ ⟨y, z, u, v, e⟩ => by
    subst e
    rw [numD_len, rowsD_len] at hi
    have e : (numD (rowsD N M) 0)[i]'(by rw [numD_len, rowsD_len]; exact hi) = .zt [.int (i : Int), .tup (rowD N M i)] := by
      rw [numD_ix _ (by rw [rowsD_len]; exact hi), Nat.zero_add]
      have := rowsD_get (M := M) hi
      rw [List.getElem?_eq_getElem (by rw [rowsD_len]; exact hi)] at this
      rw [Option.some.inj this]
    rw [e]
    refine ⟨[some (zoD N M), some (.tup (ps.map D.int)), some (.tup (.int 0 :: ps.map D.int)), some (.int (i : Int)), some (.tup (rowD N M i)), u, v], rfl, ?_⟩
    unfold l_has_point_2
    rcases hp_row (h := h) (M := M) (x0 := some (zoD N M)) (x1 := some (.tup (ps.map D.int))) (x4 := some (.tup (rowD N M i))) (x5 := u) (x6 := v) hi hp with ⟨a, y', z', b⟩ | ⟨a, b⟩
    · exact .inl ⟨a, [some (zoD N M), some (.tup (ps.map D.int)), some (.tup (.int 0 :: ps.map D.int)), some (.int (i : Int)), some (.tup (rowD N M i)), y', z'], by simp -implicitDefEqProofs (disch := first | assumption | omega | (simp only [List.length_cons, List.length_nil, List.length_map, List.length_set, List.length_append]; omega)) [b], _, _, _, _, rfl⟩
    · exact .inr ⟨a, by simp -implicitDefEqProofs (disch := first | assumption | omega | (simp only [List.length_cons, List.length_nil, List.length_map, List.length_set, List.length_append]; omega)) [b]⟩) [some (zoD N M), some (.tup (ps.map D.int)), some (.tup (.int 0 :: ps.map D.int)), none, none, none, none] ⟨_, _, _, _, rfl⟩
  rw [numD_len, rowsD_len] at this
  have u : zoD N M = .tup (rowsD N M) := rfl
  unfold F_has_point b_has_point satB
  rcases this with ⟨a, τ', b, y, z, v, w, e⟩ | ⟨a, b⟩
  · subst e
    rw [u] at b ⊢
    simp -implicitDefEqProofs (disch := first | assumption | omega | (simp only [List.length_cons, List.length_nil, List.length_map, List.length_set, List.length_append]; omega)) [runDef_if, zl, b, a, g]
  · rw [u] at b ⊢
    simp -implicitDefEqProofs (disch := first | assumption | omega | (simp only [List.length_cons, List.length_nil, List.length_map, List.length_set, List.length_append]; omega)) [runDef_if, zl, b, a, g]
end
end Sm
namespace Sm
open PySem PySem.Spec PyProof.Rows L2
def winE (a b : Option Int) : Bool := match b with
  | none => true
  | some m => match a with
    | none => false
    | some c => decide (c ≤ m)
def winB (N : Nat) (A B : Mt) : Bool := (List.range N).all fun i => (List.range N).all fun j => winE (A i j) (B i j)
section
variable {h : AH} {N : Nat} {M A B : Mt} {ps : List Int} {x0 x1 x2 x3 x4 x5 x6 : Option D}
theorem in_zone_row {i : Nat} (hi : i < N) (hp : ps.length + 1 = N) : ((List.range N).all (fun j => entB (M i j) (pt ps i - pt ps j)) = true ∧ ∃ y, forL [] (gN 4) l_law_in_zone_1 (rngD 0 N) [some (zoD N M), x1, some (.tup (.int 0 :: ps.map D.int)), some (.int (i : Int)), x4] h = some (.nx [some (zoD N M), x1, some (.tup (.int 0 :: ps.map D.int)), some (.int (i : Int)), y] h)) ∨
    ((List.range N).all (fun j => entB (M i j) (pt ps i - pt ps j)) = false ∧ forL [] (gN 4) l_law_in_zone_1 (rngD 0 N) [some (zoD N M), x1, some (.tup (.int 0 :: ps.map D.int)), some (.int (i : Int)), x4] h = some (.rt (.bl false) h)) := by
  have := forAll0 (g := gN 4) (body := l_law_in_zone_1) (n := N) (h := h) (fun j => entB (M i j) (pt ps i - pt ps j)) (fun j τ => ∃ y, τ = [some (zoD N M), x1, some (.tup (.int 0 :: ps.map D.int)), some (.int (i : Int)), y]) (fun j hj τ ⟨y, e⟩ => by
    subst e
    refine ⟨[some (zoD N M), x1, some (.tup (.int 0 :: ps.map D.int)), some (.int (i : Int)), some (.int (j : Int))], rfl, ?_⟩
    have a1 := at_pt (ps := ps) (i := i) (by omega)
    have a2 := at_pt (ps := ps) (i := j) (by omega)
    have r := at_rows (M := M) hi
    have a := at_row (M := M) (i := i) hj
    have u : zoD N M = .tup (rowsD N M) := rfl
    unfold l_law_in_zone_1
    cases hm : M i j with
    | none =>
      rw [hm] at a
      exact .inl ⟨rfl, [some (zoD N M), x1, some (.tup (.int 0 :: ps.map D.int)), some (.int (i : Int)), some (.int (j : Int))], by simp -implicitDefEqProofs (disch := first | assumption | omega | (simp only [List.length_cons, List.length_nil, List.length_map, List.length_set, List.length_append]; omega)) [u, r, a, -atI_pos], _, rfl⟩
    | some b =>
      rw [hm] at a
      by_cases c : pt ps i - pt ps j ≤ b
      · have c' : ¬ b < pt ps i - pt ps j := by omega
        exact .inl ⟨decide_eq_true c, [some (zoD N M), x1, some (.tup (.int 0 :: ps.map D.int)), some (.int (i : Int)), some (.int (j : Int))], by simp -implicitDefEqProofs (disch := first | assumption | omega | (simp only [List.length_cons, List.length_nil, List.length_map, List.length_set, List.length_append]; omega)) [u, r, a, a1, a2, c', -atI_pos], _, rfl⟩
      · have c' : b < pt ps i - pt ps j := by omega
        exact .inr ⟨decide_eq_false c, by simp -implicitDefEqProofs (disch := first | assumption | omega | (simp only [List.length_cons, List.length_nil, List.length_map, List.length_set, List.length_append]; omega)) [u, r, a, a1, a2, c', -atI_pos]⟩) [some (zoD N M), x1, some (.tup (.int 0 :: ps.map D.int)), some (.int (i : Int)), x4] ⟨_, rfl⟩
  rcases this with ⟨a, τ', b, y, e⟩ | h
  · subst e
    exact .inl ⟨a, y, b⟩
  · exact .inr h
theorem in_zone_ok (hN : N ≤ 1000) (hp : ps.length + 1 = N) : F_law_in_zone [zoD N M, .tup (ps.map D.int)] h = some (.bl (satB N ps M), h) := by
  have g : ∀ b, gc h (.bl b) h = (.bl b, h) := fun b => gc_pure0 rfl
  have zl : 1 + ps.length ≤ 16777216 := by omega
  have u : zoD N M = .tup (rowsD N M) := rfl
  have := forAll0 (g := gN 3) (body := l_law_in_zone_2) (n := N) (h := h) (fun i => (List.range N).all fun j => entB (M i j) (pt ps i - pt ps j)) (fun j τ => ∃ y z, τ = [some (zoD N M), some (.tup (ps.map D.int)), some (.tup (.int 0 :: ps.map D.int)), y, z]) (fun i hi τ ⟨y, z, e⟩ => by
    subst e
    refine ⟨[some (zoD N M), some (.tup (ps.map D.int)), some (.tup (.int 0 :: ps.map D.int)), some (.int (i : Int)), z], rfl, ?_⟩
    unfold l_law_in_zone_2
    rcases in_zone_row (h := h) (M := M) (x1 := some (.tup (ps.map D.int))) (x4 := z) hi hp with ⟨a, y', b⟩ | ⟨a, b⟩
    · rw [u] at b
      exact .inl ⟨a, [some (zoD N M), some (.tup (ps.map D.int)), some (.tup (.int 0 :: ps.map D.int)), some (.int (i : Int)), y'], by simp -implicitDefEqProofs (disch := first | assumption | omega | (simp only [List.length_cons, List.length_nil, List.length_map, List.length_set, List.length_append]; omega)) [u, b], _, _, rfl⟩
    · rw [u] at b
      exact .inr ⟨a, by simp -implicitDefEqProofs (disch := first | assumption | omega | (simp only [List.length_cons, List.length_nil, List.length_map, List.length_set, List.length_append]; omega)) [u, b]⟩) [some (zoD N M), some (.tup (ps.map D.int)), some (.tup (.int 0 :: ps.map D.int)), none, none] ⟨_, _, rfl⟩
  unfold F_law_in_zone b_law_in_zone satB
  rcases this with ⟨a, τ', b, y, z, e⟩ | ⟨a, b⟩
  · subst e
    rw [u] at b ⊢
    simp -implicitDefEqProofs (disch := first | assumption | omega | (simp only [List.length_cons, List.length_nil, List.length_map, List.length_set, List.length_append]; omega)) [runDef_if, zl, b, a, g]
  · rw [u] at b ⊢
    simp -implicitDefEqProofs (disch := first | assumption | omega | (simp only [List.length_cons, List.length_nil, List.length_map, List.length_set, List.length_append]; omega)) [runDef_if, zl, b, a, g]
/-! within -/
theorem zipD_len2 : ∀ {xs ys : List D}, xs.length = ys.length → (zipD xs ys).length = xs.length
  | [], [], _ => rfl
  | x :: xs, y :: ys, e => by
    show (zipD xs ys).length + 1 = xs.length + 1
    rw [zipD_len2 (by simpa using e)]
theorem zipD_ix {xs ys : List D} {i : Nat} (hi : i < (zipD xs ys).length) (h1 : i < xs.length) (h2 : i < ys.length) : (zipD xs ys)[i] = .zt [xs[i], ys[i]] := by
  obtain ⟨x, y, e1, e2, e3⟩ := zipD_get (xs := xs) (ys := ys) (i := i) (List.getElem?_eq_getElem hi)
  rw [List.getElem?_eq_getElem h1] at e1
  rw [List.getElem?_eq_getElem h2] at e2
  rw [e3, Option.some.inj e1, Option.some.inj e2]
theorem rowD_ix {i j : Nat} (hj : j < N) : (rowD N M i)[j]'(by rw [rowD_len]; exact hj) = oi (M i j) := by
  have := rowD_get (M := M) (i := i) hj
  rw [List.getElem?_eq_getElem (by rw [rowD_len]; exact hj)] at this
  exact Option.some.inj this
theorem rowsD_ix {i : Nat} (hi : i < N) : (rowsD N M)[i]'(by rw [rowsD_len]; exact hi) = .tup (rowD N M i) := by
  have := rowsD_get (M := M) hi
  rw [List.getElem?_eq_getElem (by rw [rowsD_len]; exact hi)] at this
  exact Option.some.inj this
theorem within_row {i : Nat} (hi : i < N) : ((List.range N).all (fun j => winE (A i j) (B i j)) = true ∧ ∃ y z, forL [] (gT 2 (gsC (gN 4) (gsC (gN 5) gsN))) l_within_1 (zipD (rowD N A i) (rowD N B i)) [x0, x1, x2, x3, x4, x5] h = some (.nx [x0, x1, x2, x3, y, z] h)) ∨
    ((List.range N).all (fun j => winE (A i j) (B i j)) = false ∧ forL [] (gT 2 (gsC (gN 4) (gsC (gN 5) gsN))) l_within_1 (zipD (rowD N A i) (rowD N B i)) [x0, x1, x2, x3, x4, x5] h = some (.rt (.bl false) h)) := by
  have ll : (zipD (rowD N A i) (rowD N B i)).length = N := by rw [zipD_len2 (by rw [rowD_len, rowD_len]), rowD_len]
  have := forAll (grd := []) (g := gT 2 (gsC (gN 4) (gsC (gN 5) gsN))) (body := l_within_1) (xs := zipD (rowD N A i) (rowD N B i)) (h := h) (fun j => winE (A i j) (B i j)) (fun j τ => ∃ y z, τ = [x0, x1, x2, x3, y, z]) rfl (fun j hj τ ⟨y, z, e⟩ => by
    subst e
    have hj' : j < N := by rw [ll] at hj; exact hj
    rw [zipD_ix hj (by rw [rowD_len]; exact hj') (by rw [rowD_len]; exact hj'), rowD_ix hj', rowD_ix hj']
    refine ⟨[x0, x1, x2, x3, some (oi (A i j)), some (oi (B i j))], rfl, ?_⟩
    unfold l_within_1
    cases hb : B i j with
    | none => exact .inl ⟨rfl, [x0, x1, x2, x3, some (oi (A i j)), some .non], by simp -implicitDefEqProofs (disch := first | assumption | omega | (simp only [List.length_cons, List.length_nil, List.length_map, List.length_set, List.length_append]; omega)) [], _, _, rfl⟩
    | some b =>
      cases ha : A i j with
      | none => exact .inr ⟨rfl, by simp -implicitDefEqProofs (disch := first | assumption | omega | (simp only [List.length_cons, List.length_nil, List.length_map, List.length_set, List.length_append]; omega)) []⟩
      | some a =>
        by_cases c : a ≤ b
        · have c' : ¬ b < a := by omega
          exact .inl ⟨decide_eq_true c, [x0, x1, x2, x3, some (.int a), some (.int b)], by simp -implicitDefEqProofs (disch := first | assumption | omega | (simp only [List.length_cons, List.length_nil, List.length_map, List.length_set, List.length_append]; omega)) [c'], _, _, rfl⟩
        · have c' : b < a := by omega
          exact .inr ⟨decide_eq_false c, by simp -implicitDefEqProofs (disch := first | assumption | omega | (simp only [List.length_cons, List.length_nil, List.length_map, List.length_set, List.length_append]; omega)) [c']⟩) [x0, x1, x2, x3, x4, x5] ⟨_, _, rfl⟩
  rw [ll] at this
  rcases this with ⟨a, τ', b, y, z, e⟩ | h
  · subst e
    exact .inl ⟨a, y, z, b⟩
  · exact .inr h
theorem within_ok : F_within [zoD N A, zoD N B] h = some (.bl (winB N A B), h) := by
  have g : ∀ b, gc h (.bl b) h = (.bl b, h) := fun b => gc_pure0 rfl
  have ll : (zipD (rowsD N A) (rowsD N B)).length = N := by rw [zipD_len2 (by rw [rowsD_len, rowsD_len]), rowsD_len]
  have := forAll (grd := []) (g := gT 2 (gsC (gN 2) (gsC (gN 3) gsN))) (body := l_within_2) (xs := zipD (rowsD N A) (rowsD N B)) (h := h) (fun i => (List.range N).all fun j => winE (A i j) (B i j)) (fun j τ => ∃ u v y z, τ = [some (zoD N A), some (zoD N B), u, v, y, z]) rfl (fun i hi τ ⟨u, v, y, z, e⟩ => by
    subst e
    have hi' : i < N := by rw [ll] at hi; exact hi
    rw [zipD_ix hi (by rw [rowsD_len]; exact hi') (by rw [rowsD_len]; exact hi'), rowsD_ix hi', rowsD_ix hi']
    refine ⟨[some (zoD N A), some (zoD N B), some (.tup (rowD N A i)), some (.tup (rowD N B i)), y, z], rfl, ?_⟩
    unfold l_within_2
    rcases within_row (h := h) (A := A) (B := B) (x0 := some (zoD N A)) (x1 := some (zoD N B)) (x2 := some (.tup (rowD N A i))) (x3 := some (.tup (rowD N B i))) (x4 := y) (x5 := z) hi' with ⟨a, y', z', b⟩ | ⟨a, b⟩
    · exact .inl ⟨a, [some (zoD N A), some (zoD N B), some (.tup (rowD N A i)), some (.tup (rowD N B i)), y', z'], by simp -implicitDefEqProofs (disch := first | assumption | omega | (simp only [List.length_cons, List.length_nil, List.length_map, List.length_set, List.length_append]; omega)) [b], _, _, _, _, rfl⟩
    · exact .inr ⟨a, by simp -implicitDefEqProofs (disch := first | assumption | omega | (simp only [List.length_cons, List.length_nil, List.length_map, List.length_set, List.length_append]; omega)) [b]⟩) [some (zoD N A), some (zoD N B), none, none, none, none] ⟨_, _, _, _, rfl⟩
  rw [ll] at this
  have u : ∀ M, zoD N M = .tup (rowsD N M) := fun _ => rfl
  unfold F_within b_within winB
  rcases this with ⟨a, τ', b, y, z, v, w, e⟩ | ⟨a, b⟩
  · subst e
    rw [u, u] at b ⊢
    simp -implicitDefEqProofs (disch := first | assumption | omega | (simp only [List.length_cons, List.length_nil, List.length_map, List.length_set, List.length_append]; omega)) [runDef_if, b, a, g]
  · rw [u, u] at b ⊢
    simp -implicitDefEqProofs (disch := first | assumption | omega | (simp only [List.length_cons, List.length_nil, List.length_map, List.length_set, List.length_append]; omega)) [runDef_if, b, a, g]
end
end Sm
namespace Sm
open PySem PySem.Spec PyProof.Rows L2
/-! ## the drawn zones -/
def mxK (o : Option (List D)) (h : AH) : Option (LV × AH) := o.bind fun ds => (intsD ds).bind fun ns => if 0 < ns.length then some (.val (.int (maxL ns)), h) else none
theorem oMax_new {ds : List D} {h : AH} : oMax [.new ds] h = mxK (some ds) h := rfl
theorem mxK_two {a b : Int} {h : AH} : mxK (some [.int a, .int b]) h = some (.val (.int (maxL [a, b])), h) := rfl
def drs (dd : List Int) (m q : Int) (n : Nat) : List Int := (List.range n).map fun i : Nat => dr dd (q + (i : Int)) m
theorem drs_succ {dd : List Int} {m q : Int} {n : Nat} : drs dd m q (n + 1) = dr dd q m :: drs dd m (q + 1) n := by
  unfold drs
  rw [List.range_succ_eq_map, List.map_cons, List.map_map]
  congr 1
  · congr 1; omega
  · exact List.map_congr_left fun i _ => by show dr dd (q + ((i + 1 : Nat) : Int)) m = dr dd (q + 1 + (i : Int)) m; congr 1; omega
theorem drs_len {dd : List Int} {m q : Int} {n : Nat} : (drs dd m q n).length = n := by unfold drs; rw [List.length_map, List.length_range]
theorem drs_in {dd : List Int} {m q : Int} {n : Nat} (hm : 0 < m) {x : Int} (hx : x ∈ drs dd m q n) : 0 ≤ x ∧ x < m := by
  obtain ⟨i, _, rfl⟩ := List.mem_map.mp hx
  exact ⟨dr_lo hm, dr_hi hm⟩
section
variable {h j J : AH} {b dg : Nat} {dd : List Int} {p0 q : Int}
theorem draws_go {s : Nat} {m : Int} {τ : AT} (B : Bx h b dg dd p0) (hm : 0 < m) (h0 : τ[0]? = some (some (.ref b))) (hs : s ≠ 0) : ∀ (xs : List D) (q : Int), 0 ≤ q → q + xs.length < 1000000 →
    compL [] (gN s) mYes (mCall F_law_draw (mCons (mVar 0) (mCons (mC (.int m)) mNil))) τ xs (bset h b dg q ++ j) = some ((drs dd m q xs.length).map D.int, bset h b dg (q + xs.length) ++ j)
  | [], q, _, _ => by
    show compL [] _ mYes _ τ [] _ = _
    unfold compL
    rw [if_pos (show grdOk [] (bset h b dg q ++ j) = true from rfl)]
    simp [drs]
  | x :: xs, q, hq, hp => by
    rw [List.length_cons] at hp
    have D1 := draw_loc (j := j) B hq (by omega) hm
    have ih := draws_go B hm h0 hs xs (q + 1) (by omega) (by omega)
    have e0 : (τ.set s (some x))[0]? = some (some (.ref b)) := by rw [List.getElem?_set_ne hs]; exact h0
    have e : mCall F_law_draw (mCons (mVar 0) (mCons (mC (.int m)) mNil)) (τ.set s (some x)) (bset h b dg q ++ j) = some (.val (.int (dr dd q m)), bset h b dg (q + 1) ++ j) := by
      simp -implicitDefEqProofs (disch := first | assumption | omega | (simp only [List.length_cons, List.length_nil, List.length_map, List.length_set, List.length_append]; omega)) [e0, D1]
    unfold compL
    rw [if_pos (show grdOk [] (bset h b dg q ++ j) = true from rfl)]
    show ((mCall F_law_draw (mCons (mVar 0) (mCons (mC (.int m)) mNil)) (τ.set s (some x)) (bset h b dg q ++ j)).bind fun y => _) = _
    rw [e]
    show ((compL [] (gN s) mYes _ τ xs (bset h b dg (q + 1) ++ j)).bind fun z => some (D.int (dr dd q m) :: z.1, z.2)) = _
    rw [ih, List.length_cons, drs_succ]
    show some (_, _) = some (_, _)
    rw [show q + 1 + (xs.length : Int) = q + ((xs.length + 1 : Nat) : Int) by omega]
    rfl
theorem dz_turn {fr : Bool} {u v s : Nat} {P1 P2 : List Int} {n i k : Nat} {r : List D} {y9 : Option D} (B : Bx h b dg dd p0) (hq : 0 ≤ q) (hp : q + 3 < 1000000) (hs : J[s]? = some (.lst [.ref (h.length + u), .ref (h.length + v)])) (h1 : J[u]? = some (.lst (.int 0 :: P1.map D.int))) (h2 : J[v]? = some (.lst (.int 0 :: P2.map D.int))) (l1 : P1.length = n) (l2 : P2.length = n) (hi : i < n + 1) (hk : k < n + 1) (hr : r.length ≤ 1000) {x1 x4 x8 x10 : Option D} :
    ∃ (o : Option Int) (q' : Int) (y9' : Option D), q ≤ q' ∧ q' ≤ q + 3 ∧ l_law_drawn_zone_1 [some (.ref b), x1, some (.bl fr), some (.ref (h.length + s)), x4, some (.int (i : Int)), some (.ref (h.length + J.length)), some (.int (k : Int)), x8, y9, x10, none] (bset h b dg q ++ (J ++ [.lst r])) =
      some (.nx [some (.ref b), x1, some (.bl fr), some (.ref (h.length + s)), x4, some (.int (i : Int)), some (.ref (h.length + J.length)), some (.int (k : Int)), x8, y9', x10, none] (bset h b dg q' ++ (J ++ [.lst (r ++ [oi o])]))) := by
  have Js : s < J.length := (List.getElem?_eq_some_iff.mp hs).1
  have Ju : u < J.length := (List.getElem?_eq_some_iff.mp h1).1
  have Jv : v < J.length := (List.getElem?_eq_some_iff.mp h2).1
  have gs : ∀ q r, (bset h b dg q ++ (J ++ [.lst r]))[h.length + s]? = some (.lst [.ref (h.length + u), .ref (h.length + v)]) := fun q r => by rw [getA, List.getElem?_append_left Js]; exact hs
  have gu : ∀ q r, (bset h b dg q ++ (J ++ [.lst r]))[h.length + u]? = some (.lst (.int 0 :: P1.map D.int)) := fun q r => by rw [getA, List.getElem?_append_left Ju]; exact h1
  have gv : ∀ q r, (bset h b dg q ++ (J ++ [.lst r]))[h.length + v]? = some (.lst (.int 0 :: P2.map D.int)) := fun q r => by rw [getA, List.getElem?_append_left Jv]; exact h2
  have a1 := at_pt (ps := P1) (i := i) (by omega)
  have a2 := at_pt (ps := P1) (i := k) (by omega)
  have a3 := at_pt (ps := P2) (i := i) (by omega)
  have a4 := at_pt (ps := P2) (i := k) (by omega)
  have c : compL [(h.length + s, [.ref (h.length + u), .ref (h.length + v)])] (gN 11) mYes (mBin oSub (mBin oIx (mVar 11) (mVar 5)) (mBin oIx (mVar 11) (mVar 7))) [some (.ref b), x1, some (.bl fr), some (.ref (h.length + s)), x4, some (.int (i : Int)), some (.ref (h.length + J.length)), some (.int (k : Int)), x8, y9, x10, none] [.ref (h.length + u), .ref (h.length + v)] (bset h b dg q ++ (J ++ [.lst r])) = some ([.int (pt P1 i - pt P1 k), .int (pt P2 i - pt P2 k)], bset h b dg q ++ (J ++ [.lst r])) := by
    have := compL_mapT (grd := [(h.length + s, [.ref (h.length + u), .ref (h.length + v)])]) (g := gN 11) (fe := mBin oSub (mBin oIx (mVar 11) (mVar 5)) (mBin oIx (mVar 11) (mVar 7))) (τ := [some (.ref b), x1, some (.bl fr), some (.ref (h.length + s)), x4, some (.int (i : Int)), some (.ref (h.length + J.length)), some (.int (k : Int)), x8, y9, x10, none]) (h := bset h b dg q ++ (J ++ [.lst r])) (t := fun z : Bool => if z then .ref (h.length + u) else .ref (h.length + v)) (fun z => if z then .int (pt P1 i - pt P1 k) else .int (pt P2 i - pt P2 k)) (by rw [grdOk_cons, gs]; simp) [true, false] (fun z _ => by
      refine ⟨[some (.ref b), x1, some (.bl fr), some (.ref (h.length + s)), x4, some (.int (i : Int)), some (.ref (h.length + J.length)), some (.int (k : Int)), x8, y9, x10, some (if z then .ref (h.length + u) else .ref (h.length + v))], rfl, ?_⟩
      cases z
      · simp -implicitDefEqProofs (disch := first | assumption | omega | (simp only [List.length_cons, List.length_nil, List.length_map, List.length_set, List.length_append]; omega)) [gv, a3, a4, -atI_pos, -getA]
      · simp -implicitDefEqProofs (disch := first | assumption | omega | (simp only [List.length_cons, List.length_nil, List.length_map, List.length_set, List.length_append]; omega)) [gu, a1, a2, -atI_pos, -getA])
    exact this
  have d3 := fun q (hq : 0 ≤ q) (hp : q < 1000000) => draw_loc (j := J ++ [.lst r]) (m := 3) B hq hp (by decide)
  have d11 := fun q (hq : 0 ≤ q) (hp : q < 1000000) => draw_loc (j := J ++ [.lst r]) (m := 11) B hq hp (by decide)
  have rl : r.length < 16777216 := by omega
  have gr : ∀ q, (bset h b dg q ++ (J ++ [.lst r]))[h.length + J.length]? = some (.lst r) := fun q => by rw [getA]; simp
  have sr : ∀ q (w : O), (bset h b dg q ++ (J ++ [O.lst r])).set (h.length + J.length) w = bset h b dg q ++ (J ++ [w]) := fun q w => by rw [setA]; simp
  generalize hmx : maxL [pt P1 i - pt P1 k, pt P2 i - pt P2 k] = mx at *
  have e3 : ∀ hh, mxK (some [.int (pt P1 i - pt P1 k), .int (pt P2 i - pt P2 k)]) hh = some (.val (.int mx), hh) := fun hh => by rw [mxK_two, hmx]
  unfold l_law_drawn_zone_1
  cases fr with
  | false =>
    by_cases z : dr dd (q + 1) 3 = 0
    · refine ⟨none, q + 1 + 1, some (.int (mx + dr dd q 3)), by omega, by omega, ?_⟩
      simp -implicitDefEqProofs (disch := first | assumption | omega | (simp only [List.length_cons, List.length_nil, List.length_map, List.length_set, List.length_append]; omega)) [gs, c, oMax_new, e3, d3, z, gr, sr, rl, -getA, -setA, -getA0, -setA0]
    · refine ⟨some (mx + dr dd q 3), q + 1 + 1, some (.int (mx + dr dd q 3)), by omega, by omega, ?_⟩
      simp -implicitDefEqProofs (disch := first | assumption | omega | (simp only [List.length_cons, List.length_nil, List.length_map, List.length_set, List.length_append]; omega)) [gs, c, oMax_new, e3, d3, z, gr, sr, rl, -getA, -setA, -getA0, -setA0]
  | true =>
    by_cases z : dr dd (q + 1 + 1) 3 = 0
    · refine ⟨none, q + 1 + 1 + 1, some (.int (dr dd (q + 1) 11 - 4)), by omega, by omega, ?_⟩
      simp -implicitDefEqProofs (disch := first | assumption | omega | (simp only [List.length_cons, List.length_nil, List.length_map, List.length_set, List.length_append]; omega)) [gs, c, oMax_new, e3, d3, d11, z, gr, sr, rl, -getA, -setA, -getA0, -setA0]
    · refine ⟨some (dr dd (q + 1) 11 - 4), q + 1 + 1 + 1, some (.int (dr dd (q + 1) 11 - 4)), by omega, by omega, ?_⟩
      simp -implicitDefEqProofs (disch := first | assumption | omega | (simp only [List.length_cons, List.length_nil, List.length_map, List.length_set, List.length_append]; omega)) [gs, c, oMax_new, e3, d3, d11, z, gr, sr, rl, -getA, -setA, -getA0, -setA0]
end
end Sm
namespace Sm
open PySem PySem.Spec PyProof.Rows L2
section
variable {h j J G : AH} {b dg : Nat} {dd : List Int} {p0 q : Int} {x1 x4 x8 x10 : Option D} {fr : Bool} {u v s : Nat} {P1 P2 : List Int} {n i : Nat} {y7 y9 : Option D}
theorem dz_row (B : Bx h b dg dd p0) (hq : 0 ≤ q) (hn : n ≤ 100) (hp : q + 3 * (n + 1) < 999999) (hs : J[s]? = some (O.lst [.ref (h.length + u), .ref (h.length + v)])) (h1 : J[u]? = some (O.lst (.int 0 :: P1.map D.int))) (h2 : J[v]? = some (O.lst (.int 0 :: P2.map D.int))) (l1 : P1.length = n) (l2 : P2.length = n) (hi : i < n + 1) :
    ∃ (os : List (Option Int)) (q' : Int) (z7 z9 : Option D), os.length = n + 1 ∧ q ≤ q' ∧ q' ≤ q + 3 * (n + 1) ∧ forL [] (gN 7) l_law_drawn_zone_1 (rngD 0 (n + 1)) [some (.ref b), x1, some (.bl fr), some (.ref (h.length + s)), x4, some (.int (i : Int)), some (.ref (h.length + J.length)), y7, x8, y9, x10, none] (bset h b dg q ++ (J ++ [O.lst []])) =
      some (.nx [some (.ref b), x1, some (.bl fr), some (.ref (h.length + s)), x4, some (.int (i : Int)), some (.ref (h.length + J.length)), z7, x8, z9, x10, none] (bset h b dg q' ++ (J ++ [O.lst (os.map oi)]))) := by
  obtain ⟨τ', h', e, os, q', z7, z9, c1, c2, c3, e1, e2⟩ := forRg0 (g := gN 7) (body := l_law_drawn_zone_1) (n := n + 1) (fun k τ hh => ∃ (os : List (Option Int)) (q' : Int) (z7 z9 : Option D), os.length = k ∧ q ≤ q' ∧ q' ≤ q + 3 * k ∧ τ = [some (.ref b), x1, some (.bl fr), some (.ref (h.length + s)), x4, some (.int (i : Int)), some (.ref (h.length + J.length)), z7, x8, z9, x10, none] ∧ hh = bset h b dg q' ++ (J ++ [O.lst (os.map oi)])) (fun k hk τ hh ⟨os, q', z7, z9, c1, c2, c3, e1, e2⟩ => by
    subst e1 e2
    obtain ⟨o, q2, z, d1, d2, e⟩ := dz_turn (J := J) (x1 := x1) (x4 := x4) (x8 := x8) (x10 := x10) (fr := fr) (y9 := z9) (r := os.map oi) (i := i) (k := k) B (by omega : 0 ≤ q') (by omega) hs h1 h2 l1 l2 hi hk (by rw [List.length_map]; omega)
    exact ⟨_, _, _, _, rfl, .inl e, os ++ [o], q2, _, _, by rw [List.length_append, c1]; rfl, by omega, by omega, rfl, by rw [List.map_append]; rfl⟩) [some (.ref b), x1, some (.bl fr), some (.ref (h.length + s)), x4, some (.int (i : Int)), some (.ref (h.length + J.length)), y7, x8, y9, x10, none] (bset h b dg q ++ (J ++ [O.lst []])) ⟨[], q, _, _, rfl, Int.le_refl _, by omega, rfl, rfl⟩
  subst e1 e2
  exact ⟨os, q', z7, z9, c1, c2, by omega, e⟩
def rowsT (R : List (List (Option Int))) : List D := R.map fun r => D.tup (r.map oi)
theorem dz_go (B : Bx h b dg dd p0) (hq : 0 ≤ q) (hn : n ≤ 100) (hp : q + 3 * (n + 1) * (n + 1) < 990000) (hs : G[s]? = some (O.lst [.ref (h.length + u), .ref (h.length + v)])) (h1 : G[u]? = some (O.lst (.int 0 :: P1.map D.int))) (h2 : G[v]? = some (O.lst (.int 0 :: P2.map D.int))) (l1 : P1.length = n) (l2 : P2.length = n) {y5 y6 : Option D} :
    ∃ (R : List (List (Option Int))) (X : AH) (q' : Int) (z5 z6 z7 z9 : Option D), R.length = n + 1 ∧ (∀ r ∈ R, r.length = n + 1) ∧ q ≤ q' ∧ q' ≤ q + 3 * (n + 1) * (n + 1) ∧ forL [] (gN 5) l_law_drawn_zone_2 (rngD 0 (n + 1)) [some (.ref b), some (.int (n : Int)), some (.bl fr), some (.ref (h.length + s)), some (.ref (h.length + G.length)), y5, y6, y7, x8, y9, x10, none] (bset h b dg q ++ (G ++ [O.lst []])) =
      some (.nx [some (.ref b), some (.int (n : Int)), some (.bl fr), some (.ref (h.length + s)), some (.ref (h.length + G.length)), z5, z6, z7, x8, z9, x10, none] (bset h b dg q' ++ (G ++ (O.lst (rowsT R) :: X)))) := by
  obtain ⟨τ', h', e, R, X, q', z5, z6, z7, z9, c1, c4, c2, c3, e1, e2⟩ := forRg0 (g := gN 5) (body := l_law_drawn_zone_2) (n := n + 1) (fun k τ hh => ∃ (R : List (List (Option Int))) (X : AH) (q' : Int) (z5 z6 z7 z9 : Option D), R.length = k ∧ (∀ r ∈ R, r.length = n + 1) ∧ q ≤ q' ∧ q' ≤ q + 3 * (n + 1) * k ∧ τ = [some (.ref b), some (.int (n : Int)), some (.bl fr), some (.ref (h.length + s)), some (.ref (h.length + G.length)), z5, z6, z7, x8, z9, x10, none] ∧ hh = bset h b dg q' ++ (G ++ (O.lst (rowsT R) :: X))) (fun k hk τ hh ⟨R, X, q', z5, z6, z7, z9, c1, c4, c2, c3, e1, e2⟩ => by
    subst e1 e2
    have Gs : s < G.length := (List.getElem?_eq_some_iff.mp hs).1
    have Gu : u < G.length := (List.getElem?_eq_some_iff.mp h1).1
    have Gv : v < G.length := (List.getElem?_eq_some_iff.mp h2).1
    have mono : 3 * ((n : Int) + 1) * k ≤ 3 * (n + 1) * (n + 1) := Int.mul_le_mul_of_nonneg_left (by omega) (by omega)
    have step : 3 * ((n : Int) + 1) * ((k + 1 : Nat) : Int) = 3 * (n + 1) * k + 3 * (n + 1) := by rw [Int.natCast_add, Int.mul_add]; simp
    have n3 : 3 * ((n : Int) + 1) ≤ 303 := by omega
    obtain ⟨os, q2, w7, w9, d1, d2, d3, e⟩ := dz_row (J := G ++ (O.lst (rowsT R) :: X)) (q := q') (n := n) (i := k) (x1 := some (.int (n : Int))) (x4 := some (.ref (h.length + G.length))) (x8 := x8) (x10 := x10) (fr := fr) (y7 := z7) (y9 := z9) B (by omega) hn (by omega) (by rw [List.getElem?_append_left Gs]; exact hs) (by rw [List.getElem?_append_left Gu]; exact h1) (by rw [List.getElem?_append_left Gv]; exact h2) l1 l2 hk
    refine ⟨_, _, [some (.ref b), some (.int (n : Int)), some (.bl fr), some (.ref (h.length + s)), some (.ref (h.length + G.length)), some (.int (k : Int)), some (.ref (h.length + (G ++ (O.lst (rowsT R) :: X)).length)), w7, x8, w9, x10, none], bset h b dg q2 ++ (G ++ (O.lst (rowsT (R ++ [os])) :: (X ++ [O.lst (os.map oi)]))), rfl, .inl ?_, R ++ [os], X ++ [O.lst (os.map oi)], q2, _, _, _, _, by rw [List.length_append, c1]; rfl, fun r hr => ?_, by omega, by omega, rfl, rfl⟩
    · have g1 : (bset h b dg q2 ++ ((G ++ (O.lst (rowsT R) :: X)) ++ [O.lst (os.map oi)]))[h.length + (G ++ (O.lst (rowsT R) :: X)).length]? = some (O.lst (os.map oi)) := by rw [getA, getB0]; rfl
      have g2 : (bset h b dg q2 ++ ((G ++ (O.lst (rowsT R) :: X)) ++ [O.lst (os.map oi)]))[h.length + G.length]? = some (O.lst (rowsT R)) := by rw [getA, List.append_assoc, getB0]; rfl
      have g3 : (bset h b dg q2 ++ ((G ++ (O.lst (rowsT R) :: X)) ++ [O.lst (os.map oi)])).set (h.length + G.length) (O.lst (rowsT R ++ [D.tup (os.map oi)])) = bset h b dg q2 ++ (G ++ (O.lst (rowsT (R ++ [os])) :: (X ++ [O.lst (os.map oi)]))) := by
        rw [setA, List.append_assoc, setB0]
        unfold rowsT
        rw [List.map_append]
        rfl
      have rl : (rowsT R).length < 16777216 := by unfold rowsT; rw [List.length_map]; omega
      have ll : (bset h b dg q' ++ (G ++ (O.lst (rowsT R) :: X))).length = h.length + (G ++ (O.lst (rowsT R) :: X)).length := lenA
      have la : bset h b dg q' ++ (G ++ (O.lst (rowsT R) :: X)) ++ [O.lst []] = bset h b dg q' ++ ((G ++ (O.lst (rowsT R) :: X)) ++ [O.lst []]) := by rw [List.append_assoc]
      generalize G ++ (O.lst (rowsT R) :: X) = J at *
      unfold l_law_drawn_zone_2
      simp -implicitDefEqProofs (disch := first | assumption | omega | (simp only [List.length_cons, List.length_nil, List.length_map, List.length_set, List.length_append]; omega)) [ll, la, e, g1, g2, g3, rl, -getA, -setA, -getA0, -setA0, -lenA, -List.append_assoc]
    · rcases List.mem_append.mp hr with h | h
      · exact c4 r h
      · rw [List.mem_singleton.mp h]; exact d1) [some (.ref b), some (.int (n : Int)), some (.bl fr), some (.ref (h.length + s)), some (.ref (h.length + G.length)), y5, y6, y7, x8, y9, x10, none] (bset h b dg q ++ (G ++ [O.lst []])) ⟨[], [], q, _, _, _, _, rfl, (fun r hr => by cases hr), Int.le_refl _, by omega, rfl, rfl⟩
  subst e1 e2
  exact ⟨R, X, q', z5, z6, z7, z9, c1, c4, c2, by rw [Int.natCast_add] at c3; exact c3, e⟩
end
end Sm
namespace Sm
open PySem PySem.Spec PyProof.Rows L2
section
variable {h j : AH} {b dg : Nat} {dd : List Int} {p0 q : Int} {n : Nat}
theorem spots_ok (B : Bx h b dg dd p0) (hq : 0 ≤ q) (hn : n ≤ 100) (hp : q + 300 < 1000000) {fr : Bool} :
    mAsg (gN 3) (mComp (mRng1 (mCons (mC (.int 2)) mNil)) (gN 8) mYes (mBin oAdd (mLst (mCons (mC (.int 0)) mNil)) (mComp (mRng1 (mCons (mVar 1) mNil)) (gN 10) mYes (mCall F_law_draw (mCons (mVar 0) (mCons (mC (.int 9)) mNil))) [10])) [8]) [some (.ref b), some (.int (n : Int)), some (.bl fr), none, none, none, none, none, none, none, none, none] (bset h b dg q ++ j) =
      some (.nx [some (.ref b), some (.int (n : Int)), some (.bl fr), some (.ref (h.length + (j.length + 2))), none, none, none, none, none, none, none, none] (bset h b dg (q + n + n) ++ (j ++ [O.lst (.int 0 :: (drs dd 9 q n).map D.int), O.lst (.int 0 :: (drs dd 9 (q + n) n).map D.int), O.lst [.ref (h.length + j.length), .ref (h.length + (j.length + 1))]]))) := by
  have c : ∀ (x8 : Option D) (q : Int) (j : AH), 0 ≤ q → q + n < 1000000 → compL [] (gN 10) mYes (mCall F_law_draw (mCons (mVar 0) (mCons (mC (.int 9)) mNil))) [some (.ref b), some (.int (n : Int)), some (.bl fr), none, none, none, none, none, x8, none, none, none] (rngD 0 n) (bset h b dg q ++ j) = some ((drs dd 9 q n).map D.int, bset h b dg (q + n) ++ j) := fun x8 q j h1 h2 => by
    have := draws_go (s := 10) (m := 9) (j := j) (τ := [some (.ref b), some (.int (n : Int)), some (.bl fr), none, none, none, none, none, x8, none, none, none]) B (by decide) rfl (by decide) (rngD 0 n) q h1 (by rw [rngD_len]; exact h2)
    rw [rngD_len] at this
    exact this
  have r2 : rngD 0 2 = [.int 0, .int 1] := rfl
  have z1 : ∀ q, (drs dd 9 q n).length = n := fun q => drs_len
  have z2 : 1 + n ≤ 16777216 := by omega
  have z3 : n ≤ 16777216 := by omega
  simp -implicitDefEqProofs (disch := first | assumption | omega | (simp only [List.length_cons, List.length_nil, List.length_map, List.length_set, List.length_append]; omega)) [r2, compL_cons', compL_nil', c, z1, z2, z3]
theorem drawn_zone_ok (B : Bx h b dg dd p0) (hq : 0 ≤ q) (hn : n ≤ 4) (hp : q < 900000) : ∃ (M : Mt) (q' : Int), q ≤ q' ∧ q' ≤ q + 100 ∧ F_law_drawn_zone [.ref b, .int (n : Int)] (bset h b dg q ++ j) = some (zoD (n + 1) M, bset h b dg q' ++ j) := by
  have D1 := draw_loc (j := j) (m := 4) B hq (by omega) (by decide)
  generalize hG : j ++ [O.lst (.int 0 :: (drs dd 9 (q + 1) n).map D.int), O.lst (.int 0 :: (drs dd 9 (q + 1 + n) n).map D.int), O.lst [.ref (h.length + j.length), .ref (h.length + (j.length + 1))]] = G
  have lG : G.length = j.length + 3 := by rw [← hG]; simp
  have s1 : G[j.length + 2]? = some (.lst [.ref (h.length + j.length), .ref (h.length + (j.length + 1))]) := by rw [← hG, getB]; rfl
  have s2 : G[j.length]? = some (.lst (.int 0 :: (drs dd 9 (q + 1) n).map D.int)) := by rw [← hG, getB0]; rfl
  have s3 : G[j.length + 1]? = some (.lst (.int 0 :: (drs dd 9 (q + 1 + n) n).map D.int)) := by rw [← hG, getB]; rfl
  have sp := spots_ok (j := j) (n := n) (q := q + 1) (fr := decide (dr dd q 4 = 0)) B (by omega) (by omega) (by omega)
  rw [hG] at sp
  have sq : 3 * ((n : Int) + 1) * (n + 1) ≤ 75 := by
    have h1 : 3 * ((n : Int) + 1) ≤ 15 := by omega
    have h2 : 3 * ((n : Int) + 1) * (n + 1) ≤ 15 * (n + 1) := Int.mul_le_mul_of_nonneg_right h1 (by omega)
    omega
  obtain ⟨R, X, q', z5, z6, z7, z9, c1, c2, c3, c4, e⟩ := dz_go (G := G) (q := q + 1 + n + n) (n := n) (x8 := none) (x10 := none) (fr := decide (dr dd q 4 = 0)) (y5 := none) (y6 := none) (y7 := none) (y9 := none) B (by omega) (by omega) (by omega) s1 s2 s3 drs_len drs_len
  refine ⟨fun i k => (R.getD i []).getD k none, q', by omega, by omega, ?_⟩
  have eR : rowsT R = rowsD (n + 1) (fun i k => (R.getD i []).getD k none) := by
    apply List.ext_getElem?
    intro i
    unfold rowsT rowsD
    rw [List.getElem?_map, List.getElem?_map]
    rcases Nat.lt_or_ge i (n + 1) with hi | hi
    · rw [List.getElem?_range hi, List.getElem?_eq_getElem (by omega)]
      have hr := c2 R[i] (List.getElem_mem _)
      show some (D.tup _) = some (D.tup _)
      congr 2
      have : R.getD i [] = R[i] := by rw [List.getD_eq_getElem?_getD, List.getElem?_eq_getElem (by omega)]; rfl
      apply List.ext_getElem?
      intro k
      unfold rowD
      rw [List.getElem?_map, List.getElem?_map]
      dsimp only
      rw [this]
      rcases Nat.lt_or_ge k (n + 1) with hk | hk
      · rw [List.getElem?_range hk, List.getElem?_eq_getElem (by omega)]
        show some (oi _) = some (oi _)
        rw [List.getD_eq_getElem?_getD, List.getElem?_eq_getElem (by omega)]
        rfl
      · rw [List.getElem?_eq_none (by omega), List.getElem?_eq_none (by rw [List.length_range]; omega)]
        rfl
    · rw [List.getElem?_eq_none (by omega), List.getElem?_eq_none (by rw [List.length_range]; omega)]
      rfl
  have gt : (bset h b dg q' ++ (G ++ (O.lst (rowsT R) :: X)))[h.length + G.length]? = some (.lst (rowsT R)) := by rw [getA, getB0]; rfl
  have g := gc_loc (j := j) (j' := [O.lst (.int 0 :: (drs dd 9 (q + 1) n).map D.int), O.lst (.int 0 :: (drs dd 9 (q + 1 + n) n).map D.int), O.lst [.ref (h.length + j.length), .ref (h.length + (j.length + 1))]] ++ (O.lst (rowsT R) :: X)) (q' := q') (d := zoD (n + 1) (fun i k => (R.getD i []).getD k none)) B hq zoD_low
  rw [← List.append_assoc j, hG] at g
  have a1 : mAsg (gN 2) (mBin oEq (mCall F_law_draw (mCons (mVar 0) (mCons (mC (.int 4)) mNil))) (mC (.int 0))) [some (.ref b), some (.int (n : Int)), none, none, none, none, none, none, none, none, none, none] (bset h b dg q ++ j) = some (.nx [some (.ref b), some (.int (n : Int)), some (.bl (decide (dr dd q 4 = 0))), none, none, none, none, none, none, none, none, none] (bset h b dg (q + 1) ++ j)) := by
    simp -implicitDefEqProofs (disch := first | assumption | omega | (simp only [List.length_cons, List.length_nil, List.length_map, List.length_set, List.length_append]; omega)) [D1]
  have a4 : ∀ (q : Int) (x3 : Option D), mAsg (gN 4) (mLst mNil) [some (.ref b), some (.int (n : Int)), some (.bl (decide (dr dd q 4 = 0))), x3, none, none, none, none, none, none, none, none] (bset h b dg (q + 1 + n + n) ++ G) = some (.nx [some (.ref b), some (.int (n : Int)), some (.bl (decide (dr dd q 4 = 0))), x3, some (.ref (h.length + G.length)), none, none, none, none, none, none, none] (bset h b dg (q + 1 + n + n) ++ (G ++ [O.lst []]))) := fun q x3 => by
    simp -implicitDefEqProofs (disch := first | assumption | omega | (simp only [List.length_cons, List.length_nil, List.length_map, List.length_set, List.length_append]; omega)) []
  have a5 : mFor (mRng1 (mCons (mBin oAdd (mVar 1) (mC (.int 1))) mNil)) (gN 5) l_law_drawn_zone_2 [some (.ref b), some (.int (n : Int)), some (.bl (decide (dr dd q 4 = 0))), some (.ref (h.length + (j.length + 2))), some (.ref (h.length + G.length)), none, none, none, none, none, none, none] (bset h b dg (q + 1 + n + n) ++ (G ++ [O.lst []])) = some (.nx [some (.ref b), some (.int (n : Int)), some (.bl (decide (dr dd q 4 = 0))), some (.ref (h.length + (j.length + 2))), some (.ref (h.length + G.length)), z5, z6, z7, none, z9, none, none] (bset h b dg q' ++ (G ++ (O.lst (rowsT R) :: X)))) := by
    have nn : ((n : Int) + 1).toNat = n + 1 := by omega
    simp -implicitDefEqProofs (disch := first | assumption | omega | (simp only [List.length_cons, List.length_nil, List.length_map, List.length_set, List.length_append]; omega)) [nn, -lenA, -rng1_nat]
    exact e
  have a6 : mRet (mFn oTuple (mCons (mVar 4) mNil)) [some (.ref b), some (.int (n : Int)), some (.bl (decide (dr dd q 4 = 0))), some (.ref (h.length + (j.length + 2))), some (.ref (h.length + G.length)), z5, z6, z7, none, z9, none, none] (bset h b dg q' ++ (G ++ (O.lst (rowsT R) :: X))) = some (.rt (zoD (n + 1) (fun i k => (R.getD i []).getD k none)) (bset h b dg q' ++ (G ++ (O.lst (rowsT R) :: X)))) := by
    have u : D.tup (rowsT R) = zoD (n + 1) (fun i k => (R.getD i []).getD k none) := by rw [eR]; rfl
    simp -implicitDefEqProofs (disch := first | assumption | omega | (simp only [List.length_cons, List.length_nil, List.length_map, List.length_set, List.length_append]; omega)) [gt, u, -getA, -getA0]
  have all : b_law_drawn_zone [some (.ref b), some (.int (n : Int)), none, none, none, none, none, none, none, none, none, none] (bset h b dg q ++ j) = some (.rt (zoD (n + 1) (fun i k => (R.getD i []).getD k none)) (bset h b dg q' ++ (G ++ (O.lst (rowsT R) :: X)))) := by
    unfold b_law_drawn_zone
    rw [mSeq_eq, a1, seqK_nx, mSeq_eq, sp, seqK_nx, mSeq_eq, a4, seqK_nx, mSeq_eq, a5, seqK_nx, a6]
  unfold F_law_drawn_zone
  rw [runDef_if, if_pos (show [D.ref b, D.int (n : Int)].length = 2 from rfl)]
  show defK (b_law_drawn_zone [some (.ref b), some (.int (n : Int)), none, none, none, none, none, none, none, none, none, none] (bset h b dg q ++ j)) _ = _
  rw [all, defK_rt, g]
end
end Sm
namespace Sm
open PySem PySem.Spec PyProof.Rows L2
/-! ## the search for points -/
def tupI (ks : List Int) : D := .tup (ks.map D.int)
def prt (N m c : Nat) (M : Mt) (k : Nat) : Option Mt := match tgt N (wth M 0 c (0 - (k : Int))) with
  | none => none
  | some M' => if k ≤ m then tgt N (wth M' c 0 (k : Int)) else some M'
def kids (N m c : Nat) (p : Mt × List Int) : List (Mt × List Int) := (List.range (m + 2)).flatMap fun k => match prt N m c p.1 k with
  | none => []
  | some M' => [(M', p.2 ++ [(k : Int)])]
def dfs (N m : Nat) : Nat → Nat → Mt → List Int → List (List Int)
  | 0, _, _, ks => [ks]
  | r + 1, c, M, ks => (List.range (m + 2)).flatMap fun k => match prt N m c M k with
    | none => []
    | some M' => dfs N m r (c + 1) M' (ks ++ [(k : Int)])
def bfs (N m : Nat) : Nat → Nat → List (Mt × List Int) → List (Mt × List Int)
  | 0, _, ps => ps
  | r + 1, c, ps => bfs N m r (c + 1) (ps.flatMap (kids N m c))
theorem bfs_dfs {N m : Nat} : ∀ (r c : Nat) (ps : List (Mt × List Int)), (bfs N m r c ps).map (·.2) = ps.flatMap fun p => dfs N m r c p.1 p.2
  | 0, c, ps => by
    show ps.map (·.2) = ps.flatMap fun p => [p.2]
    induction ps with
    | nil => rfl
    | cons p r ih => rw [List.map_cons, List.flatMap_cons, ih]; rfl
  | r + 1, c, ps => by
    show (bfs N m r (c + 1) (ps.flatMap (kids N m c))).map (·.2) = _
    rw [bfs_dfs r (c + 1), List.flatMap_assoc]
    congr 1
    funext p
    show (kids N m c p).flatMap _ = dfs N m (r + 1) c p.1 p.2
    unfold kids
    rw [List.flatMap_assoc]
    show _ = (List.range (m + 2)).flatMap fun k => match prt N m c p.1 k with
      | none => []
      | some M' => dfs N m r (c + 1) M' (p.2 ++ [(k : Int)])
    congr 1
    funext k
    cases prt N m c p.1 k with
    | none => rfl
    | some M' => rw [List.flatMap_cons, List.flatMap_nil, List.append_nil]
def LL (a b : List Int) : Prop := ∃ (p : List Int) (x y : Int) (s t : List Int), a = p ++ x :: s ∧ b = p ++ y :: t ∧ x < y
theorem LL.ne {a b : List Int} (h : LL a b) : a ≠ b := by
  obtain ⟨p, x, y, s, t, rfl, rfl, hx⟩ := h
  intro e
  have := List.append_cancel_left e
  injection this with e1 _
  omega
theorem dfs_pre {N m : Nat} : ∀ (r c : Nat) (M : Mt) (ks : List Int), ∀ l ∈ dfs N m r c M ks, ∃ t, l = ks ++ t ∧ t.length = r
  | 0, c, M, ks, l, h => ⟨[], by rw [List.mem_singleton.mp h, List.append_nil], rfl⟩
  | r + 1, c, M, ks, l, h => by
    obtain ⟨k, _, hl⟩ := List.mem_flatMap.mp h
    cases e : prt N m c M k with
    | none => rw [e] at hl; cases hl
    | some M' =>
      rw [e] at hl
      obtain ⟨t, rfl, ht⟩ := dfs_pre r (c + 1) M' _ l hl
      exact ⟨(k : Int) :: t, by simp, by rw [List.length_cons, ht]⟩
theorem dfs_asc {N m : Nat} : ∀ (r c : Nat) (M : Mt) (ks : List Int), (dfs N m r c M ks).Pairwise LL
  | 0, c, M, ks => List.pairwise_singleton _ _
  | r + 1, c, M, ks => by
    show ((List.range (m + 2)).flatMap _).Pairwise LL
    refine List.pairwise_flatMap.mpr ⟨fun k _ => ?_, ?_⟩
    · cases e : prt N m c M k with
      | none => exact .nil
      | some M' => exact dfs_asc r (c + 1) M' _
    · refine List.pairwise_lt_range.imp fun {k1 k2} hk a ha b hb => ?_
      cases e1 : prt N m c M k1 with
      | none => rw [e1] at ha; cases ha
      | some M1 =>
        cases e2 : prt N m c M k2 with
        | none => rw [e2] at hb; cases hb
        | some M2 =>
          rw [e1] at ha
          rw [e2] at hb
          obtain ⟨s, rfl, _⟩ := dfs_pre r (c + 1) M1 _ a ha
          obtain ⟨t, rfl, _⟩ := dfs_pre r (c + 1) M2 _ b hb
          exact ⟨ks, k1, k2, s, t, by simp, by simp, by omega⟩
theorem dfs_nd {N m r c : Nat} {M : Mt} {ks : List Int} : (dfs N m r c M ks).Nodup := (dfs_asc r c M ks).imp fun h => h.ne
theorem dfs_len {N m : Nat} : ∀ (r c : Nat) (M : Mt) (ks : List Int), (dfs N m r c M ks).length ≤ (m + 2) ^ r
  | 0, c, M, ks => Nat.le_refl 1
  | r + 1, c, M, ks => by
    have go : ∀ l : List Nat, (l.flatMap fun k => match prt N m c M k with
      | none => []
      | some M' => dfs N m r (c + 1) M' (ks ++ [(k : Int)])).length ≤ l.length * (m + 2) ^ r := by
      intro l
      induction l with
      | nil => simp
      | cons k l ih =>
        rw [List.flatMap_cons, List.length_append, List.length_cons, Nat.add_mul, Nat.one_mul, Nat.add_comm]
        refine Nat.add_le_add ih ?_
        cases e : prt N m c M k with
        | none => exact Nat.zero_le _
        | some M' => exact dfs_len r (c + 1) M' _
    have := go (List.range (m + 2))
    rw [List.length_range] at this
    show ((List.range (m + 2)).flatMap _).length ≤ (m + 2) ^ (r + 1)
    rw [Nat.pow_succ, Nat.mul_comm]
    exact this
/-! rows in order -/
theorem lex_pre (p : List (Int ⊕ List Nat)) {s t : List (Int ⊕ List Nat)} : lexLt itemOrd (p ++ s) (p ++ t) = lexLt itemOrd s t := by
  induction p with
  | nil => rfl
  | cons x r ih =>
    rw [List.cons_append, List.cons_append, lex_cons, ih, itemOrd.irrefl]
    rfl
theorem LL.lt {a b : List Int} (h : LL a b) : rowLt (tupI a) (tupI b) = true := by
  obtain ⟨p, x, y, s, t, rfl, rfl, hx⟩ := h
  show lexLt itemOrd (((p ++ x :: s).map D.int).map itm) (((p ++ y :: t).map D.int).map itm) = true
  rw [List.map_append, List.map_append, List.map_append, List.map_append, lex_pre]
  show lexLt itemOrd (Sum.inl x :: _) (Sum.inl y :: _) = true
  rw [lex_cons]
  have : itemOrd.blt (Sum.inl x) (Sum.inl y) = true := decide_eq_true hx
  rw [this]
  rfl
theorem sortR_id : ∀ {l : List D}, l.Pairwise LeR → sortR l = l
  | [], _ => rfl
  | x :: r, h => by
    obtain ⟨h1, h2⟩ := List.pairwise_cons.mp h
    show insR x (sortR r) = _
    rw [sortR_id h2]
    cases r with
    | nil => rfl
    | cons y t =>
      unfold insR
      rw [if_neg]
      intro c
      have := h1 y List.mem_cons_self
      unfold LeR at this
      rw [this] at c
      cases c
theorem kds_int : ∀ {ks : List Int}, kdsD (ks.map D.int) = some (List.replicate ks.length false)
  | [] => rfl
  | k :: r => by
    show ((kdsD (r.map D.int)).bind fun s => some (false :: s)) = _
    rw [kds_int]
    rfl
/-! keys -/
theorem kDs_int : ∀ {ks : List Int}, kDs (ks.map D.int) = some (ks.map NestedKey.num)
  | [] => by rw [List.map_nil]; unfold kDs; rfl
  | k :: r => by
    rw [List.map_cons]
    unfold kDs
    rw [kDs_int]
    unfold kD
    rfl
theorem kD_tupI {ks : List Int} : kD (tupI ks) = some (.tup (ks.map NestedKey.num)) := by
  unfold tupI kD
  rw [kDs_int]
  rfl
theorem kD_inj {a b : List Int} (h : kD (tupI a) = kD (tupI b)) : a = b := by
  rw [kD_tupI, kD_tupI] at h
  have h := Option.some.inj h
  injection h with h
  exact (List.map_inj_right fun x y e => by injection e).mp h
theorem depth_tupI {ks : List Int} : (NestedKey.tup (ks.map NestedKey.num)).depth ≤ 8 := by
  have : NestedKey.depthAll (ks.map NestedKey.num) = 0 := by
    induction ks with
    | nil => rfl
    | cons k r ih =>
      rw [List.map_cons]
      unfold NestedKey.depthAll NestedKey.depth
      rw [ih]
      rfl
  unfold NestedKey.depth
  omega
def kvT (L : List (List Int)) : List (D × D) := L.map fun ks => (tupI ks, .bl true)
theorem put_new {L : List (List Int)} {ks : List Int} (h : ks ∉ L) : putN (kvT L) (tupI ks) (.bl true) = kvT (L ++ [ks]) := by
  have e : hasN (kvT L) (tupI ks) = false := by
    unfold hasN kvT
    rw [List.any_map, List.any_eq_false]
    intro x hx
    show ¬ decide (kD (tupI x) = kD (tupI ks)) = true
    rw [decide_eq_true_iff]
    intro z
    exact h (kD_inj z ▸ hx)
  unfold putN
  rw [e]
  show kvT L ++ [(tupI ks, .bl true)] = _
  unfold kvT
  rw [List.map_append]
  rfl
theorem kvT_keys {L : List (List Int)} : (kvT L).map (·.1) = L.map tupI := by unfold kvT; rw [List.map_map]; rfl
theorem tupI_low {n : Nat} {ks : List Int} : (tupI ks).low n = true := by
  unfold tupI
  rw [low_tup]
  exact lows_all fun d hd => by obtain ⟨k, _, rfl⟩ := List.mem_map.mp hd; rfl
theorem kvT_low {n : Nat} {L : List (List Int)} : O.low n (.ndc (kvT L)) = true := by
  unfold O.low kvT
  dsimp only
  rw [List.all_map, List.all_eq_true]
  intro x _
  show ((tupI x).low n && true) = true
  rw [tupI_low]
  rfl
end Sm
namespace Sm
open PySem PySem.Spec PyProof.Rows L2
theorem gc_set {h : AH} {a : Nat} {o : O} (ho : o.low h.length = true) : gc h .non (h.set a o) = (.non, h.set a o) := by
  have e0 : oldOk h.length h h = true := by have := oldOk_self h.length h []; rwa [List.append_nil] at this
  have e : oldOk h.length h (h.set a o) = true := oldOk_set ho a e0
  unfold gc
  rw [if_pos e, if_pos (show D.low h.length .non = true from rfl), List.take_of_length_le (by rw [List.length_set]; exact Nat.le_refl _)]
def preD (N m r c : Nat) (M : Mt) (ks : List Int) (n : Nat) : List (List Int) := (List.range n).flatMap fun k => match prt N m c M k with
    | none => []
    | some M' => dfs N m r (c + 1) M' (ks ++ [(k : Int)])
theorem preD_succ {N m r c n : Nat} {M : Mt} {ks : List Int} : preD N m r c M ks (n + 1) = preD N m r c M ks n ++ (match prt N m c M n with
    | none => []
    | some M' => dfs N m r (c + 1) M' (ks ++ [(n : Int)])) := by
  unfold preD
  rw [List.range_succ, List.flatMap_append, List.flatMap_cons, List.flatMap_nil, List.append_nil]
theorem preD_sub {N m r c n k : Nat} {M : Mt} {ks : List Int} (h : n ≤ k) : (preD N m r c M ks n).Sublist (preD N m r c M ks k) := by
  induction h with
  | refl => exact List.Sublist.refl _
  | step h ih => rw [preD_succ]; exact ih.trans (List.sublist_append_left _ _)
theorem set_same {h : AH} {a : Nat} {o : O} (e : h[a]? = some o) : h.set a o = h := by
  obtain ⟨hl, e⟩ := List.getElem?_eq_some_iff.mp e
  rw [← e, List.set_getElem_self]
theorem gather_ok {N m a : Nat} (hN : N ≤ 100) (hm : m ≤ 100) : ∀ (r f c : Nat) (M : Mt) (ks : List Int) (L : List (List Int)) (h : AH), c + r = N → r < f → 0 < c → h[a]? = some (.ndc (kvT L)) → (L ++ dfs N m r c M ks).Nodup → (L ++ dfs N m r c M ks).length < 16777216 → ks.length ≤ 100 + c →
    F_gather f [zoD N M, .int (m : Int), .int (c : Int), .tup (ks.map D.int), .ref a] h = some (.non, h.set a (.ndc (kvT (L ++ dfs N m r c M ks))))
  | _, 0, _, _, _, _, _, _, hf, _, _, _, _, _ => by omega
  | 0, f + 1, c, M, ks, L, h, hc, hf, h0, ha, hn, hl, hk => by
    have hcN : c = N := by omega
    subst hcN
    have u : zoD c M = .tup (rowsD c M) := rfl
    have fr : ks ∉ L := fun z => by
      have := (List.nodup_append.mp hn).2.2 ks z ks List.mem_cons_self
      exact this rfl
    have ll : (kvT L).length < 16777216 := by
      unfold kvT
      rw [List.length_map]
      rw [List.length_append] at hl
      omega
    have st := setN_ok (d := .bl true) (kds := ks.map D.int) (a := a) ha (kD_tupI (ks := ks)) depth_tupI ll
    have pn := put_new fr
    unfold tupI at pn
    rw [pn] at st
    have g := gc_set (h := h) (a := a) (o := .ndc (kvT (L ++ [ks]))) kvT_low
    unfold F_gather b_gather
    rw [u]
    show _ = some (D.non, h.set a (.ndc (kvT (L ++ [ks]))))
    simp -implicitDefEqProofs (disch := first | assumption | omega | (simp only [List.length_cons, List.length_nil, List.length_map, List.length_set, List.length_append]; omega)) [runDef_if, st, g]
  | r + 1, f + 1, c, M, ks, L, h, hc, hf, h0, ha, hn, hl, hk => by
    have u : zoD N M = .tup (rowsD N M) := rfl
    have al : a < h.length := (List.getElem?_eq_some_iff.mp ha).1
    have e0 : dfs N m (r + 1) c M ks = preD N m r c M ks (m + 2) := rfl
    rw [e0] at hn hl ⊢
    obtain ⟨τ', h', e, y5, y6, e1, e2⟩ := forRg0 (g := gN 5) (body := l_gather_1 (F_gather f)) (n := m + 2) (fun k τ hh => ∃ y5 y6, τ = [some (zoD N M), some (.int (m : Int)), some (.int (c : Int)), some (.tup (ks.map D.int)), some (.ref a), y5, y6] ∧ hh = h.set a (.ndc (kvT (L ++ preD N m r c M ks k)))) (fun k hk' τ hh ⟨y5, y6, e1, e2⟩ => by
      subst e1 e2
      have ps := preD_succ (N := N) (m := m) (r := r) (c := c) (n := k) (M := M) (ks := ks)
      have sub := preD_sub (N := N) (m := m) (r := r) (c := c) (M := M) (ks := ks) (show k + 1 ≤ m + 2 by omega)
      have sub2 : (L ++ preD N m r c M ks (k + 1)).Sublist (L ++ preD N m r c M ks (m + 2)) := List.Sublist.append (List.Sublist.refl _) sub
      have ha' : (h.set a (.ndc (kvT (L ++ preD N m r c M ks k))))[a]? = some (.ndc (kvT (L ++ preD N m r c M ks k))) := List.getElem?_set_self al
      generalize hH : h.set a (.ndc (kvT (L ++ preD N m r c M ks k))) = H at *
      have bg := bounded_ge (h := H) (N := N) (M := M) (c := c) (k := (k : Int)) (by omega) (by omega) (zn_zo (by omega))
      have kl : ks.length + 1 ≤ 16777216 := by omega
      refine ⟨_, _, [some (zoD N M), some (.int (m : Int)), some (.int (c : Int)), some (.tup (ks.map D.int)), some (.ref a), some (.int (k : Int)), some (optZ N (prt N m c M k))], h.set a (.ndc (kvT (L ++ preD N m r c M ks (k + 1)))), rfl, .inl ?_, _, _, rfl, rfl⟩
      have fin : ∀ M', prt N m c M k = some M' → F_gather f [zoD N M', .int (m : Int), .int ((c : Int) + 1), .tup (ks.map D.int ++ [.int (k : Int)]), .ref a] H = some (.non, h.set a (.ndc (kvT (L ++ preD N m r c M ks (k + 1))))) := fun M' hM' => by
        rw [hM'] at ps
        have := gather_ok hN hm r f (c + 1) M' (ks ++ [(k : Int)]) (L ++ preD N m r c M ks k) H (by omega) (by omega) (by omega) ha' (by rw [List.append_assoc, ← ps]; exact List.Nodup.sublist sub2 hn) (by rw [List.append_assoc, ← ps]; have := sub2.length_le; omega) (by rw [List.length_append]; simp; omega)
        rw [List.append_assoc, ← ps, ← hH, List.set_set, hH, List.map_append] at this
        exact this
      have nof : prt N m c M k = none → h.set a (.ndc (kvT (L ++ preD N m r c M ks (k + 1)))) = H := fun hM' => by
        rw [hM', List.append_nil] at ps
        rw [ps, hH]
      unfold l_gather_1
      unfold prt at fin nof ⊢
      cases ht : tgt N (wth M 0 c (0 - (k : Int))) with
      | none =>
        rw [ht] at bg fin nof
        rw [nof rfl]
        simp -implicitDefEqProofs (disch := first | assumption | omega | (simp only [List.length_cons, List.length_nil, List.length_map, List.length_set, List.length_append]; omega)) [bg, optZ]
      | some M1 =>
        rw [ht] at bg fin nof
        dsimp only at fin nof ⊢
        by_cases hkm : k ≤ m
        · rw [if_pos hkm] at fin nof ⊢
          have hkm' : (k : Int) ≤ (m : Int) := by omega
          have bl := bounded_le (h := H) (N := N) (M := M1) (c := c) (k := (k : Int)) (by omega) (by omega) (zn_zo (by omega))
          have u1 : isN (.val (zoD N M1)) = false := rfl
          cases ht2 : tgt N (wth M1 c 0 (k : Int)) with
          | none =>
            rw [ht2] at bl fin nof
            rw [nof rfl]
            simp -implicitDefEqProofs (disch := first | assumption | omega | (simp only [List.length_cons, List.length_nil, List.length_map, List.length_set, List.length_append]; omega)) [bg, bl, optZ, hkm', u1]
          | some M2 =>
            rw [ht2] at bl fin nof
            have u2 : isN (.val (zoD N M2)) = false := rfl
            simp -implicitDefEqProofs (disch := first | assumption | omega | (simp only [List.length_cons, List.length_nil, List.length_map, List.length_set, List.length_append]; omega)) [bg, bl, optZ, hkm', u1, u2, kl, fin M2 rfl]
        · rw [if_neg hkm] at fin nof ⊢
          have hkm' : ¬ (k : Int) ≤ (m : Int) := by omega
          have u1 : isN (.val (zoD N M1)) = false := rfl
          simp -implicitDefEqProofs (disch := first | assumption | omega | (simp only [List.length_cons, List.length_nil, List.length_map, List.length_set, List.length_append]; omega)) [bg, optZ, hkm', u1, kl, fin M1 rfl]) [some (zoD N M), some (.int (m : Int)), some (.int (c : Int)), some (.tup (ks.map D.int)), some (.ref a), none, none] h ⟨_, _, rfl, by
        rw [show preD N m r c M ks 0 = [] from rfl, List.append_nil, set_same ha]⟩
    subst e1 e2
    have g := gc_set (h := h) (a := a) (o := .ndc (kvT (L ++ preD N m r c M ks (m + 2)))) kvT_low
    have ne : ¬ (c : Int) = (N : Int) := by omega
    have rn : ((m : Int) + 2).toNat = m + 2 := by omega
    unfold F_gather b_gather
    rw [u] at e ⊢
    simp -implicitDefEqProofs (disch := first | assumption | omega | (simp only [List.length_cons, List.length_nil, List.length_map, List.length_set, List.length_append]; omega)) [runDef_if, ne, rn, e, g]
end Sm
namespace Sm
open PySem PySem.Spec PyProof.Rows L2
section
variable {h : AH} {N m n : Nat} {M : Mt}
theorem ptsD_low {n : Nat} {L : List (List Int)} : (D.tup (L.map tupI)).low n = true := by
  rw [low_tup]
  exact lows_all fun d hd => by obtain ⟨k, _, rfl⟩ := List.mem_map.mp hd; exact tupI_low
theorem dfs_small (hn : n ≤ 4) (hm : m ≤ 4) {c : Nat} {ks : List Int} : (dfs N m n c M ks).length ≤ 1296 := by
  have h1 := dfs_len (N := N) (m := m) n c M ks
  have h2 : (m + 2) ^ n ≤ 6 ^ n := Nat.pow_le_pow_left (by omega) n
  have h3 : 6 ^ n ≤ 6 ^ 4 := Nat.pow_le_pow_right (by omega) hn
  omega
theorem points_ok (hn : n ≤ 4) (h1 : 1 ≤ n) (hm : m ≤ 4) : F_points [zoD (n + 1) M, .int (m : Int)] h = some (.tup ((dfs (n + 1) m n 1 M []).map tupI), h) := by
  have sm := dfs_small (N := n + 1) (M := M) (c := 1) (ks := []) hn hm
  have ga := gather_ok (N := n + 1) (m := m) (a := h.length) (by omega) (by omega) n 6 1 M [] [] (h ++ [.ndc []]) (by omega) (by omega) (by omega) (by rw [List.getElem?_append_right (Nat.le_refl _), Nat.sub_self]; rfl) (by rw [List.nil_append]; exact dfs_nd) (by rw [List.nil_append]; omega) (by simp)
  rw [List.nil_append] at ga
  generalize hL : dfs (n + 1) m n 1 M [] = L at *
  have asc : L.Pairwise LL := by rw [← hL]; exact dfs_asc _ _ _ _
  have pre : ∀ l ∈ L, l.length = n := fun l hl => by
    rw [← hL] at hl
    obtain ⟨t, rfl, ht⟩ := dfs_pre _ _ _ _ l hl
    simpa using ht
  have e : (h ++ [O.ndc []]).set h.length (.ndc (kvT L)) = h ++ [.ndc (kvT L)] := by rw [List.set_append_right _ _ (Nat.le_refl _), Nat.sub_self]; rfl
  rw [e] at ga
  have gt : (h ++ [O.ndc (kvT L)])[h.length]? = some (.ndc (kvT L)) := by rw [List.getElem?_append_right (Nat.le_refl _), Nat.sub_self]; rfl
  have so : ∀ hh, soK (some ((kvT L).map (·.1))) hh = some (.new (L.map tupI), hh) := fun hh => by
    rw [kvT_keys, soK_ok (ks := List.replicate n false) (by rw [ne_eq, List.replicate_eq_nil_iff]; omega) (by rw [List.length_map]; omega) (fun d hd => by
      obtain ⟨l, hl, rfl⟩ := List.mem_map.mp hd
      show kdsD (l.map D.int) = _
      rw [kds_int, pre l hl]), sortR_id]
    exact List.pairwise_map.mpr (asc.imp fun h => LeR.of_lt h.lt)
  have g := gc_pure (h := h) (j := [O.ndc (kvT L)]) (d := .tup (L.map tupI)) ptsD_low
  have ll : L.length ≤ 16777216 := by omega
  have ga : F_gather 6 [zoD (n + 1) M, .int (m : Int), .int 1, .tup [], .ref h.length] (h ++ [O.ndc []]) = some (.non, h ++ [.ndc (kvT L)]) := ga
  unfold F_points b_points
  simp -implicitDefEqProofs (disch := first | assumption | omega | (simp only [List.length_cons, List.length_nil, List.length_map, List.length_set, List.length_append]; omega)) [runDef_if, ga, gt, soNK_some, so, g, ll]
end
end Sm
namespace Sm
open PySem PySem.Spec PyProof.Rows L2
def kidN (N m c : Nat) (p : Mt × List Int) (k : Nat) : List (Mt × List Int) := match prt N m c p.1 k with
  | none => []
  | some M' => [(M', p.2 ++ [(k : Int)])]
theorem kids_eq {N m c : Nat} {p : Mt × List Int} : kids N m c p = (List.range (m + 2)).flatMap (kidN N m c p) := rfl
theorem kidN_len {N m c k : Nat} {p : Mt × List Int} : (kidN N m c p k).length ≤ 1 := by unfold kidN; cases prt N m c p.1 k <;> simp
def ptI (p : Mt × List Int) : D := .tup (p.2.map D.int)
def pzI (N : Nat) (p : Mt × List Int) : D := zoD N p.1
section
variable {h X : AH} {N m c f z : Nat} {Ps acc : List (Mt × List Int)} {x0 : Option D}
/-- the heap in a level: what stood, and the two lists that grow -/
def capH (h X : AH) (N : Nat) (acc : List (Mt × List Int)) : AH := h ++ (X ++ [O.lst (acc.map ptI), O.lst (acc.map (pzI N))])
theorem capH_old {k : Nat} (hk : k < X.length) : (capH h X N acc)[h.length + k]? = X[k]? := by
  unfold capH
  rw [List.getElem?_append_right (by omega), Nat.add_sub_cancel_left, List.getElem?_append_left hk]
theorem capH_a : (capH h X N acc)[h.length + X.length]? = some (.lst (acc.map ptI)) := by
  unfold capH
  rw [List.getElem?_append_right (by omega), Nat.add_sub_cancel_left, List.getElem?_append_right (Nat.le_refl _), Nat.sub_self]
  rfl
theorem capH_b : (capH h X N acc)[h.length + (X.length + 1)]? = some (.lst (acc.map (pzI N))) := by
  unfold capH
  rw [List.getElem?_append_right (by omega), Nat.add_sub_cancel_left, List.getElem?_append_right (by omega), Nat.add_sub_cancel_left]
  rfl
theorem capH_app {p : Mt × List Int} : ((capH h X N acc).set (h.length + X.length) (.lst (acc.map ptI ++ [ptI p])))[h.length + (X.length + 1)]? = some (.lst (acc.map (pzI N))) ∧ ((capH h X N acc).set (h.length + X.length) (.lst (acc.map ptI ++ [ptI p]))).set (h.length + (X.length + 1)) (.lst (acc.map (pzI N) ++ [pzI N p])) = capH h X N (acc ++ [p]) := by
  constructor
  · rw [List.getElem?_set_ne (by omega)]
    exact capH_b
  · unfold capH
    rw [List.set_append_right _ _ (by omega), Nat.add_sub_cancel_left, List.set_append_right _ _ (by omega), Nat.add_sub_cancel_left, List.set_append_right _ _ (Nat.le_refl _), Nat.sub_self, List.set_append_right _ _ (by omega), Nat.add_sub_cancel_left, List.map_append, List.map_append]
    rfl
theorem cap_turn (hN : N ≤ 100) (hc : c < N) (hz : X[z]? = some (.lst (Ps.map (pzI N)))) (hf : X[f]? = some (.lst (Ps.map ptI))) {k n : Nat} (hk : k < Ps.length) (hl : acc.length < 10000000) (hks : Ps[k].2.length ≤ 100) {y9 : Option D} :
    ∃ y9', l_law_caps_1 [x0, some (.int (m : Int)), some (.ref (h.length + f)), some (.ref (h.length + z)), some (.int (c : Int)), some (.ref (h.length + X.length)), some (.ref (h.length + (X.length + 1))), some (.int (k : Int)), some (.int (n : Int)), y9] (capH h X N acc) =
      some (.nx [x0, some (.int (m : Int)), some (.ref (h.length + f)), some (.ref (h.length + z)), some (.int (c : Int)), some (.ref (h.length + X.length)), some (.ref (h.length + (X.length + 1))), some (.int (k : Int)), some (.int (n : Int)), y9'] (capH h X N (acc ++ kidN N m c Ps[k] n))) := by
  refine ⟨some (optZ N (prt N m c Ps[k].1 n)), ?_⟩
  have zl : z < X.length := (List.getElem?_eq_some_iff.mp hz).1
  have fl : f < X.length := (List.getElem?_eq_some_iff.mp hf).1
  have gz : (capH h X N acc)[h.length + z]? = some (.lst (Ps.map (pzI N))) := by rw [capH_old zl, hz]
  have gf : (capH h X N acc)[h.length + f]? = some (.lst (Ps.map ptI)) := by rw [capH_old fl, hf]
  have az : L2.atI (Ps.map (pzI N)) (k : Int) = some (zoD N Ps[k].1) := by rw [atI_cast, List.getElem?_map, List.getElem?_eq_getElem hk]; rfl
  have af : L2.atI (Ps.map ptI) (k : Int) = some (.tup (Ps[k].2.map D.int)) := by rw [atI_cast, List.getElem?_map, List.getElem?_eq_getElem hk]; rfl
  have ga := capH_a (h := h) (X := X) (N := N) (acc := acc)
  have ll : acc.length < 16777216 := by omega
  have kl : Ps[k].2.length + 1 ≤ 16777216 := by omega
  generalize Ps[k] = p at *
  obtain ⟨M, ks⟩ := p
  dsimp only at az af kl ⊢
  have w1 : F_law_with [zoD N M, .int 0, .int (c : Int), .int (0 - (n : Int))] (capH h X N acc) = some (optZ N (tgt N (wth M 0 c (0 - (n : Int)))), capH h X N acc) := with_ok (i := 0) (j := c) (by omega) (by omega) hc (zn_zo (by omega))
  have fin : ∀ M', prt N m c M n = some M' → ((capH h X N acc).set (h.length + X.length) (.lst (acc.map ptI ++ [.tup (ks.map D.int ++ [.int (n : Int)])])))[h.length + (X.length + 1)]? = some (.lst (acc.map (pzI N))) ∧ ((capH h X N acc).set (h.length + X.length) (.lst (acc.map ptI ++ [.tup (ks.map D.int ++ [.int (n : Int)])]))).set (h.length + (X.length + 1)) (.lst (acc.map (pzI N) ++ [zoD N M'])) = capH h X N (acc ++ kidN N m c (M, ks) n) := fun M' hM' => by
    have := capH_app (h := h) (X := X) (N := N) (acc := acc) (p := (M', ks ++ [(n : Int)]))
    have e1 : ptI (M', ks ++ [(n : Int)]) = .tup (ks.map D.int ++ [.int (n : Int)]) := by unfold ptI; rw [List.map_append]; rfl
    have e2 : kidN N m c (M, ks) n = [(M', ks ++ [(n : Int)])] := by unfold kidN; dsimp only; rw [hM']
    rw [e1] at this
    rw [e2]
    exact this
  have nof : prt N m c M n = none → capH h X N (acc ++ kidN N m c (M, ks) n) = capH h X N acc := fun hM' => by
    have e2 : kidN N m c (M, ks) n = [] := by unfold kidN; dsimp only; rw [hM']
    rw [e2, List.append_nil]
  unfold l_law_caps_1
  unfold prt at fin nof ⊢
  generalize capH h X N (acc ++ kidN N m c (M, ks) n) = R at *
  cases ht : tgt N (wth M 0 c (0 - (n : Int))) with
  | none =>
    rw [ht] at w1 fin nof
    rw [nof rfl]
    by_cases hkm : n ≤ m
    · have hkm' : (n : Int) ≤ (m : Int) := by omega
      simp -implicitDefEqProofs (disch := first | assumption | omega | (simp only [List.length_cons, List.length_nil, List.length_map, List.length_set, List.length_append]; omega)) [-Int.zero_sub, gz, az, w1, optZ, hkm', with_non, -atI_pos]
    · have hkm' : ¬ (n : Int) ≤ (m : Int) := by omega
      simp -implicitDefEqProofs (disch := first | assumption | omega | (simp only [List.length_cons, List.length_nil, List.length_map, List.length_set, List.length_append]; omega)) [-Int.zero_sub, gz, az, w1, optZ, hkm', -atI_pos]
  | some M1 =>
    rw [ht] at w1 fin nof
    dsimp only at fin nof ⊢
    have u1 : isN (.val (zoD N M1)) = false := rfl
    by_cases hkm : n ≤ m
    · rw [if_pos hkm] at fin nof ⊢
      have hkm' : (n : Int) ≤ (m : Int) := by omega
      have w2 : F_law_with [zoD N M1, .int (c : Int), .int 0, .int (n : Int)] (capH h X N acc) = some (optZ N (tgt N (wth M1 c 0 (n : Int))), capH h X N acc) := with_ok (i := c) (j := 0) (by omega) hc (by omega) (zn_zo (by omega))
      cases ht2 : tgt N (wth M1 c 0 (n : Int)) with
      | none =>
        rw [ht2] at w2 fin nof
        rw [nof rfl]
        simp -implicitDefEqProofs (disch := first | assumption | omega | (simp only [List.length_cons, List.length_nil, List.length_map, List.length_set, List.length_append]; omega)) [-Int.zero_sub, gz, az, w1, w2, optZ, hkm', u1, -atI_pos]
      | some M2 =>
        rw [ht2] at w2 fin nof
        obtain ⟨f1, f2⟩ := fin M2 rfl
        have u2 : isN (.val (zoD N M2)) = false := rfl
        simp -implicitDefEqProofs (disch := first | assumption | omega | (simp only [List.length_cons, List.length_nil, List.length_map, List.length_set, List.length_append]; omega)) [-Int.zero_sub, gz, gf, az, af, w1, w2, optZ, hkm', u1, u2, kl, ll, ga, f1, f2, -atI_pos]
    · rw [if_neg hkm] at fin nof ⊢
      have hkm' : ¬ (n : Int) ≤ (m : Int) := by omega
      obtain ⟨f1, f2⟩ := fin M1 rfl
      simp -implicitDefEqProofs (disch := first | assumption | omega | (simp only [List.length_cons, List.length_nil, List.length_map, List.length_set, List.length_append]; omega)) [-Int.zero_sub, gz, gf, az, af, w1, optZ, hkm', u1, kl, ll, ga, f1, f2, -atI_pos]
end
end Sm
namespace Sm
open PySem PySem.Spec PyProof.Rows L2
section
variable {h X : AH} {N m c f z : Nat} {Ps acc : List (Mt × List Int)} {x0 : Option D}
theorem kidR_len {p : Mt × List Int} {n : Nat} : ((List.range n).flatMap (kidN N m c p)).length ≤ n := by
  induction n with
  | zero => exact Nat.le_refl _
  | succ n ih =>
    rw [List.range_succ, List.flatMap_append, List.length_append, List.flatMap_cons, List.flatMap_nil, List.append_nil]
    have := kidN_len (N := N) (m := m) (c := c) (k := n) (p := p)
    omega
theorem kids_len {p : Mt × List Int} : (kids N m c p).length ≤ m + 2 := kidR_len
theorem kidsR_len {l : List (Mt × List Int)} : (l.flatMap (kids N m c)).length ≤ l.length * (m + 2) := by
  induction l with
  | nil => exact Nat.zero_le _
  | cons p r ih =>
    rw [List.flatMap_cons, List.length_append, List.length_cons, Nat.add_mul, Nat.one_mul]
    have := kids_len (N := N) (m := m) (c := c) (p := p)
    omega
theorem cap_num (hN : N ≤ 100) (hm : m ≤ 100) (hc : c < N) (hz : X[z]? = some (.lst (Ps.map (pzI N)))) (hf : X[f]? = some (.lst (Ps.map ptI))) {k : Nat} (hk : k < Ps.length) (hl : acc.length + m + 2 < 10000000) (hks : Ps[k].2.length ≤ 100) {y8 y9 : Option D} :
    ∃ y8' y9', forL [] (gN 8) l_law_caps_1 (rngD 0 (m + 2)) [x0, some (.int (m : Int)), some (.ref (h.length + f)), some (.ref (h.length + z)), some (.int (c : Int)), some (.ref (h.length + X.length)), some (.ref (h.length + (X.length + 1))), some (.int (k : Int)), y8, y9] (capH h X N acc) =
      some (.nx [x0, some (.int (m : Int)), some (.ref (h.length + f)), some (.ref (h.length + z)), some (.int (c : Int)), some (.ref (h.length + X.length)), some (.ref (h.length + (X.length + 1))), some (.int (k : Int)), y8', y9'] (capH h X N (acc ++ kids N m c Ps[k]))) := by
  obtain ⟨τ', h', e, y8', y9', e1, e2⟩ := forRg0 (g := gN 8) (body := l_law_caps_1) (n := m + 2) (fun t τ hh => ∃ y8 y9, τ = [x0, some (.int (m : Int)), some (.ref (h.length + f)), some (.ref (h.length + z)), some (.int (c : Int)), some (.ref (h.length + X.length)), some (.ref (h.length + (X.length + 1))), some (.int (k : Int)), y8, y9] ∧ hh = capH h X N (acc ++ (List.range t).flatMap (kidN N m c Ps[k]))) (fun t ht τ hh ⟨y8, y9, e1, e2⟩ => by
    subst e1 e2
    have lr := kidR_len (N := N) (m := m) (c := c) (p := Ps[k]) (n := t)
    obtain ⟨y, e⟩ := cap_turn (h := h) (X := X) (N := N) (m := m) (c := c) (Ps := Ps) (acc := acc ++ (List.range t).flatMap (kidN N m c Ps[k])) (x0 := x0) (f := f) (z := z) (k := k) (n := t) (y9 := y9) hN hc hz hf hk (by rw [List.length_append]; omega) hks
    exact ⟨_, _, _, _, rfl, .inl e, _, _, rfl, by rw [List.append_assoc, List.range_succ, List.flatMap_append, List.flatMap_cons, List.flatMap_nil, List.append_nil]⟩) [x0, some (.int (m : Int)), some (.ref (h.length + f)), some (.ref (h.length + z)), some (.int (c : Int)), some (.ref (h.length + X.length)), some (.ref (h.length + (X.length + 1))), some (.int (k : Int)), y8, y9] (capH h X N acc) ⟨_, _, rfl, by rw [List.range_zero, List.flatMap_nil, List.append_nil]⟩
  subst e1 e2
  exact ⟨y8', y9', e⟩
theorem cap_all (hN : N ≤ 100) (hm : m ≤ 100) (hc : c < N) (hz : X[z]? = some (.lst (Ps.map (pzI N)))) (hf : X[f]? = some (.lst (Ps.map ptI))) (hP : Ps.length ≤ 10000) (hks : ∀ p ∈ Ps, p.2.length ≤ 100) {y7 y8 y9 : Option D} :
    ∃ y7' y8' y9', forL [] (gN 7) l_law_caps_2 (rngD 0 Ps.length) [x0, some (.int (m : Int)), some (.ref (h.length + f)), some (.ref (h.length + z)), some (.int (c : Int)), some (.ref (h.length + X.length)), some (.ref (h.length + (X.length + 1))), y7, y8, y9] (capH h X N []) =
      some (.nx [x0, some (.int (m : Int)), some (.ref (h.length + f)), some (.ref (h.length + z)), some (.int (c : Int)), some (.ref (h.length + X.length)), some (.ref (h.length + (X.length + 1))), y7', y8', y9'] (capH h X N (Ps.flatMap (kids N m c)))) := by
  obtain ⟨τ', h', e, y7', y8', y9', e1, e2⟩ := forRg0 (g := gN 7) (body := l_law_caps_2) (n := Ps.length) (fun t τ hh => ∃ y7 y8 y9, τ = [x0, some (.int (m : Int)), some (.ref (h.length + f)), some (.ref (h.length + z)), some (.int (c : Int)), some (.ref (h.length + X.length)), some (.ref (h.length + (X.length + 1))), y7, y8, y9] ∧ hh = capH h X N ((Ps.take t).flatMap (kids N m c))) (fun t ht τ hh ⟨y7, y8, y9, e1, e2⟩ => by
    subst e1 e2
    have lr := kidsR_len (N := N) (m := m) (c := c) (l := Ps.take t)
    have lt : (Ps.take t).length ≤ 10000 := by rw [List.length_take]; omega
    have l2 : (Ps.take t).length * (m + 2) ≤ 10000 * 102 := Nat.mul_le_mul lt (by omega)
    obtain ⟨y8', y9', e⟩ := cap_num (h := h) (X := X) (N := N) (m := m) (c := c) (Ps := Ps) (acc := (Ps.take t).flatMap (kids N m c)) (x0 := x0) (f := f) (z := z) (k := t) (y8 := y8) (y9 := y9) hN hm hc hz hf ht (by omega) (hks _ (List.getElem_mem _))
    have ta : (Ps.take t).flatMap (kids N m c) ++ kids N m c Ps[t] = (Ps.take (t + 1)).flatMap (kids N m c) := by
      rw [List.take_succ, List.getElem?_eq_getElem ht, List.flatMap_append]
      simp
    rw [ta] at e
    have rn : ((m : Int) + 2).toNat = m + 2 := by omega
    refine ⟨_, _, [x0, some (.int (m : Int)), some (.ref (h.length + f)), some (.ref (h.length + z)), some (.int (c : Int)), some (.ref (h.length + X.length)), some (.ref (h.length + (X.length + 1))), some (.int (t : Int)), y8', y9'], capH h X N ((Ps.take (t + 1)).flatMap (kids N m c)), rfl, .inl ?_, _, _, _, rfl, rfl⟩
    unfold l_law_caps_2
    generalize (Ps.take (t + 1)).flatMap (kids N m c) = R at *
    simp -implicitDefEqProofs (disch := first | assumption | omega | (simp only [List.length_cons, List.length_nil, List.length_map, List.length_set, List.length_append]; omega)) [rn, e]) [x0, some (.int (m : Int)), some (.ref (h.length + f)), some (.ref (h.length + z)), some (.int (c : Int)), some (.ref (h.length + X.length)), some (.ref (h.length + (X.length + 1))), y7, y8, y9] (capH h X N []) ⟨_, _, _, rfl, by rw [List.take_zero, List.flatMap_nil]⟩
  subst e1 e2
  rw [List.take_length] at e
  exact ⟨y7', y8', y9', e⟩
def lvl (N m : Nat) (M : Mt) : Nat → List (Mt × List Int)
  | 0 => [(M, [])]
  | t + 1 => (lvl N m M t).flatMap (kids N m (t + 1))
theorem lvl_bfs {M : Mt} : ∀ r t, bfs N m r (t + 1) (lvl N m M t) = lvl N m M (t + r)
  | 0, t => rfl
  | r + 1, t => by
    show bfs N m r (t + 1 + 1) (lvl N m M (t + 1)) = _
    rw [lvl_bfs r (t + 1)]
    congr 1
    omega
theorem lvl_len {M : Mt} (hm : m ≤ 4) : ∀ t, t ≤ 4 → (lvl N m M t).length ≤ 6 ^ t
  | 0, _ => Nat.le_refl 1
  | t + 1, h => by
    have ih := lvl_len (M := M) hm t (by omega)
    have := kidsR_len (N := N) (m := m) (c := t + 1) (l := lvl N m M t)
    have := Nat.mul_le_mul ih (show m + 2 ≤ 6 by omega)
    show ((lvl N m M t).flatMap _).length ≤ _
    rw [Nat.pow_succ]
    omega
theorem lvl_row {M : Mt} : ∀ t, ∀ p ∈ lvl N m M t, p.2.length = t
  | 0, p, h => by rw [List.mem_singleton.mp h]; rfl
  | t + 1, p, h => by
    obtain ⟨q, hq, hp⟩ := List.mem_flatMap.mp h
    obtain ⟨k, _, hp⟩ := List.mem_flatMap.mp hp
    have := lvl_row t q hq
    cases e : prt N m (t + 1) q.1 k with
    | none => rw [e] at hp; cases hp
    | some M' =>
      rw [e] at hp
      rw [List.mem_singleton.mp hp]
      show (q.2 ++ [(k : Int)]).length = t + 1
      rw [List.length_append, this]
      rfl
theorem caps_ok {n : Nat} {M : Mt} (hn : n ≤ 4) (hm : m ≤ 4) : F_law_caps [zoD (n + 1) M, .int (m : Int)] h = some (.ref h.length, h ++ [.lst ((lvl (n + 1) m M n).map ptI)]) := by
  obtain ⟨τ', h', e, X, f, z, y4, y5, y6, y7, y8, y9, b1, b2, e1, e2⟩ := forRg (g := gN 4) (body := l_law_caps_3) (lo := 1) (n := n) (fun t τ hh => ∃ X f z y4 y5 y6 y7 y8 y9, X[f]? = some (O.lst ((lvl (n + 1) m M t).map ptI)) ∧ X[z]? = some (O.lst ((lvl (n + 1) m M t).map (pzI (n + 1)))) ∧ τ = [some (zoD (n + 1) M), some (.int (m : Int)), some (.ref (h.length + f)), some (.ref (h.length + z)), y4, y5, y6, y7, y8, y9] ∧ hh = h ++ X) (fun t ht τ hh ⟨X, f, z, y4, y5, y6, y7, y8, y9, b1, b2, e1, e2⟩ => by
    subst e1 e2
    have ll := lvl_len (N := n + 1) (M := M) hm t (by omega)
    have p6 : 6 ^ t ≤ 6 ^ 4 := Nat.pow_le_pow_right (by omega) (by omega)
    obtain ⟨y7', y8', y9', e⟩ := cap_all (h := h) (X := X) (N := n + 1) (m := m) (c := t + 1) (Ps := lvl (n + 1) m M t) (x0 := some (zoD (n + 1) M)) (f := f) (z := z) (y7 := y7) (y8 := y8) (y9 := y9) (by omega) (by omega) (by omega) b2 b1 (by omega) (fun p hp => by rw [lvl_row t p hp]; omega)
    have lf : (h ++ X)[h.length + f]? = some (.lst ((lvl (n + 1) m M t).map ptI)) := by rw [getB, b1]
    have fl : f < X.length := (List.getElem?_eq_some_iff.mp b1).1
    have lf2 : (h ++ (X ++ [O.lst [], O.lst []]))[h.length + f]? = some (.lst ((lvl (n + 1) m M t).map ptI)) := by rw [getB, List.getElem?_append_left fl, b1]
    have c0 : h ++ (X ++ [O.lst [], O.lst []]) = capH h X (n + 1) [] := rfl
    have el : ((t : Int) + 1) = ((t + 1 : Nat) : Int) := by omega
    have el2 : (1 + (t : Int)) = ((t + 1 : Nat) : Int) := by omega
    refine ⟨_, _, [some (zoD (n + 1) M), some (.int (m : Int)), some (.ref (h.length + X.length)), some (.ref (h.length + (X.length + 1))), some (.int ((t + 1 : Nat) : Int)), some (.ref (h.length + X.length)), some (.ref (h.length + (X.length + 1))), y7', y8', y9'], capH h X (n + 1) ((lvl (n + 1) m M t).flatMap (kids (n + 1) m (t + 1))), by rw [el2]; rfl, .inl ?_, X ++ [O.lst (((lvl (n + 1) m M t).flatMap (kids (n + 1) m (t + 1))).map ptI), O.lst (((lvl (n + 1) m M t).flatMap (kids (n + 1) m (t + 1))).map (pzI (n + 1)))], X.length, X.length + 1, _, _, _, _, _, _, ?_, ?_, rfl, rfl⟩
    · have lz : (lvl (n + 1) m M t).length ≤ 4000000000 := by omega
      generalize (lvl (n + 1) m M t).flatMap (kids (n + 1) m (t + 1)) = R at *
      generalize lvl (n + 1) m M t = Ps at *
      unfold l_law_caps_3
      rw [← c0] at e
      clear fl
      simp -implicitDefEqProofs (disch := first | assumption | omega | (simp only [List.length_cons, List.length_nil, List.length_map, List.length_set, List.length_append]; omega)) [lf2, lz, e, -Int.natCast_add]
    · rw [getB0]; rfl
    · rw [getB]; rfl) [some (zoD (n + 1) M), some (.int (m : Int)), some (.ref (h.length + 0)), some (.ref (h.length + 1)), none, none, none, none, none, none] (h ++ [O.lst [.tup []], O.lst [zoD (n + 1) M]]) ⟨[O.lst [.tup []], O.lst [zoD (n + 1) M]], 0, 1, none, none, none, none, none, none, rfl, rfl, rfl, rfl⟩
  subst e1 e2
  have lf : (h ++ X)[h.length + f]? = some (.lst ((lvl (n + 1) m M n).map ptI)) := by rw [getB, b1]
  have g := gc_list (h := h) (j := X) (k := h.length + f) (ds := (lvl (n + 1) m M n).map ptI) (by omega) lf (lows_all fun d hd => by
    obtain ⟨p, _, rfl⟩ := List.mem_map.mp hd
    exact tupI_low)
  have u : zoD (n + 1) M = .tup (rowsD (n + 1) M) := rfl
  have rn : ((n : Int) + 1 - 1).toNat = n := by omega
  unfold F_law_caps b_law_caps
  rw [u] at e ⊢
  simp only [Nat.add_zero] at e
  simp -implicitDefEqProofs (disch := first | assumption | omega | (simp only [List.length_cons, List.length_nil, List.length_map, List.length_set, List.length_append]; omega)) [runDef_if, rn, e, g]
end
end Sm
namespace Sm
open PySem PySem.Spec PyProof.Rows L2
/-! ## zones that hold something -/
section
variable {N : Nat} {M M' Z W : Mt} {p : Nat → Int}
theorem lq_zero {o : Option Int} (h1 : LqO o 0) (h2 : ¬ LqO o (-1)) : o = some 0 := by
  obtain ⟨c, rfl, hc⟩ := h1
  have : ¬ c ≤ -1 := fun z => h2 ⟨c, rfl, z⟩
  rw [show c = 0 by omega]
theorem Clo.z (C : Clo N Z) {k : Nat} (hk : k < N) : Z k k = some 0 := lq_zero (C.dg k hk) (C.nn k hk)
theorem tgt_of (h : ∀ k, k < N → ¬ Lq (fw N M) k k (-1)) : tgt N M = some (fw N M) := by
  unfold tgt
  rw [if_pos]
  rw [List.all_eq_true]
  intro k hk
  have hk := List.mem_range.mp hk
  exact decide_eq_true (lq_zero (fw_diag hk) (h k hk))
theorem tgt_some (h : tgt N M = some M') : M' = fw N M ∧ Clo N M' := by
  unfold tgt at h
  split at h
  · next c =>
    cases h
    refine ⟨rfl, fw_clo fun k hk z => ?_⟩
    have := of_decide_eq_true (List.all_eq_true.mp c k (List.mem_range.mpr hk))
    obtain ⟨d, e, hd⟩ := z
    rw [this] at e
    cases e
    omega
  · cases h
theorem tgt_clo (C : Clo N M) : optZ N (tgt N M) = zoD N M ∧ ∃ M', tgt N M = some M' ∧ Clo N M' ∧ ∀ i j, i < N → j < N → M' i j = M i j := by
  have e : tgt N M = some (fw N M) := tgt_of fun k hk z => by
    rw [show Lq (fw N M) k k (-1) ↔ Lq M k k (-1) by unfold Lq; rw [fw_id C hk hk]] at z
    exact C.nn k hk z
  refine ⟨?_, fw N M, e, (tgt_some e).2, fun i j hi hj => fw_id C hi hj⟩
  rw [e]
  exact zoD_ext fun i j hi hj => fw_id C hi hj
/-- a zone with a point is no empty one -/
theorem tgt_sat (h0 : p 0 = 0) (hp : ∀ i, i < N → 0 ≤ p i) (h : Sat N p M) : tgt N M = some (fw N M) ∧ Sat N p (fw N M) := by
  have s := sat_fw h0 hp h
  exact ⟨tgt_of fun k hk z => by have := s k k hk hk _ z; omega, s⟩
theorem sat_tgt (h : tgt N M = some M') (s : Sat N p M') : Sat N p M := by
  rw [(tgt_some h).1] at s
  exact sat_dn s dn_fw
theorem sat_wth {i j : Nat} {k : Int} (hi : i < N) (hj : j < N) : Sat N p (wth M i j k) ↔ Sat N p M ∧ p i - p j ≤ k := by
  unfold wth
  constructor
  · refine fun s => ⟨fun a b ha hb x hx => s a b ha hb x (lq_low.mpr (.inl hx)), s i j hi hj k (lq_low.mpr (.inr ⟨rfl, rfl, lq_some.mpr (Int.le_refl _)⟩))⟩
  · rintro ⟨s, h⟩ a b ha hb x hx
    rcases lq_low.mp hx with hy | ⟨e1, e2, hy⟩
    · exact s a b ha hb x hy
    · have := lq_some.mp hy
      rw [e1, e2]
      omega
/-! later -/
theorem lq_lat {i j : Nat} {x : Int} : Lq (latM M) i j x ↔ ¬ (0 < i ∧ j = 0) ∧ Lq M i j x := by
  unfold Lq latM
  split
  · next h => exact ⟨fun z => absurd z lq_none, fun z => absurd h z.1⟩
  · next h => exact ⟨fun z => ⟨h, z⟩, fun z => z.2⟩
theorem clo_lat (C : Clo N Z) : Clo N (latM Z) where
  dg k hk := lq_lat.mpr ⟨by omega, C.dg k hk⟩
  nn k hk z := C.nn k hk (lq_lat.mp z).2
  r0 k hk := lq_lat.mpr ⟨by omega, C.r0 k hk⟩
  cl i k j a b hi hk hj h1 h2 := by
    obtain ⟨n1, h1⟩ := lq_lat.mp h1
    obtain ⟨n2, h2⟩ := lq_lat.mp h2
    exact lq_lat.mpr ⟨by omega, C.cl i k j a b hi hk hj h1 h2⟩
/-! reset -/
theorem rcol_lt {c i : Nat} (hi : i < N) : rcol c i < N := by
  unfold rcol
  split <;> omega
theorem clo_rst {c : Nat} (C : Clo N Z) : Clo N (rstM c Z) where
  dg k hk := C.dg _ (rcol_lt hk)
  nn k hk z := C.nn _ (rcol_lt hk) z
  r0 k hk := by
    have : rcol c 0 = 0 := by unfold rcol; split <;> rfl
    show Lq Z (rcol c 0) (rcol c k) 0
    rw [this]
    exact C.r0 _ (rcol_lt hk)
  cl i k j a b hi hk hj h1 h2 := C.cl _ _ _ a b (rcol_lt hi) (rcol_lt hk) (rcol_lt hj) h1 h2
theorem lq_lrs {c i j : Nat} {x : Int} (hc : 0 < c) (hi : i < N) (hj : j < N) : Lq (lrsM c N M) i j x ↔ (((i = 0 ∧ j = c) ∨ (i = c ∧ j = 0)) ∧ 0 ≤ x) ∨ (¬ ((i = c ∧ j ≠ c) ∨ (j = c ∧ i ≠ c)) ∧ Lq M i j x) := by
  unfold lrsM
  rw [lq_upd]
  by_cases h1 : i = 0 ∧ j = c
  · rw [if_pos h1, lq_some]
    exact ⟨fun h => .inl ⟨.inl h1, h⟩, fun h => h.elim (fun h => h.2) fun h => absurd (by omega) h.1⟩
  · rw [if_neg h1, lq_upd]
    by_cases h2 : i = c ∧ j = 0
    · rw [if_pos h2, lq_some]
      exact ⟨fun h => .inl ⟨.inr h2, h⟩, fun h => h.elim (fun h => h.2) fun h => absurd (by omega) h.1⟩
    · rw [if_neg h2]
      unfold Lq lrsT
      by_cases h3 : (i = c ∧ j ≠ c) ∨ (j = c ∧ i ≠ c)
      · rw [if_pos (by omega)]
        exact ⟨fun z => absurd z lq_none, fun h => h.elim (fun h => absurd h.1 (by omega)) fun h => absurd h3 h.1⟩
      · rw [if_neg (by omega)]
        exact ⟨fun z => .inr ⟨h3, z⟩, fun h => h.elim (fun h => absurd h.1 (by omega)) fun h => h.2⟩
theorem fw_lrs {c : Nat} (C : Clo N Z) (hc : 0 < c) (hcN : c < N) : tgt N (lrsM c N Z) = some (fw N (lrsM c N Z)) ∧ ∀ i j, i < N → j < N → fw N (lrsM c N Z) i j = rstM c Z i j := by
  have R := clo_rst (c := c) C
  have up : ∀ i j, i < N → j < N → ∀ x, Lq (fw N (lrsM c N Z)) i j x → Lq (rstM c Z) i j x := fun i j hi hj x hx => by
    have := fw_mono (N := N) (M := lrsM c N Z) (M' := rstM c Z) (fun i j hi hj x hx => ?_) i j hi hj x hx
    · unfold Lq at this ⊢
      rwa [fw_id R hi hj] at this
    · show Lq Z (rcol c i) (rcol c j) x
      rcases (lq_lrs hc hi hj).mp hx with ⟨h | h, hz⟩ | ⟨h, hz⟩
      · have e1 : rcol c i = 0 := by unfold rcol; split <;> omega
        have e2 : rcol c j = 0 := by unfold rcol; split <;> omega
        rw [e1, e2]
        exact (C.dg 0 (by omega)).mono hz
      · have e1 : rcol c i = 0 := by unfold rcol; split <;> omega
        have e2 : rcol c j = 0 := by unfold rcol; split <;> omega
        rw [e1, e2]
        exact (C.dg 0 (by omega)).mono hz
      · by_cases h1 : i = c
        · have h2 : j = c := by omega
          subst h1 h2
          have e1 : rcol j j = 0 := by unfold rcol; rw [if_pos rfl]
          rw [e1]
          unfold Lq at hz ⊢
          rw [C.z hj] at hz
          rw [C.z (by omega)]
          exact hz
        · have h2 : j ≠ c := by omega
          have e1 : rcol c i = i := by unfold rcol; rw [if_neg h1]
          have e2 : rcol c j = j := by unfold rcol; rw [if_neg h2]
          rw [e1, e2]
          exact hz
  have nn : ∀ k, k < N → ¬ Lq (fw N (lrsM c N Z)) k k (-1) := fun k hk z => R.nn k hk (up k k hk hk _ z)
  have K := fw_clo nn
  have base : ∀ i j, i < N → j < N → ∀ x, Lq (lrsM c N Z) i j x → Lq (fw N (lrsM c N Z)) i j x := fun i j _ _ x hx => dn_fw i j x hx
  have c0 : Lq (fw N (lrsM c N Z)) c 0 0 := base _ _ hcN (by omega) _ ((lq_lrs hc hcN (by omega)).mpr (.inl ⟨.inr ⟨rfl, rfl⟩, Int.le_refl _⟩))
  have c1 : Lq (fw N (lrsM c N Z)) 0 c 0 := base _ _ (by omega) hcN _ ((lq_lrs hc (by omega) hcN).mpr (.inl ⟨.inl ⟨rfl, rfl⟩, Int.le_refl _⟩))
  refine ⟨tgt_of nn, fun i j hi hj => lqO_ext fun x => ⟨up i j hi hj x, fun hx => ?_⟩⟩
  have hx : Lq Z (rcol c i) (rcol c j) x := hx
  show Lq (fw N (lrsM c N Z)) i j x
  by_cases h1 : i = c
  · by_cases h2 : j = c
    · have e1 : rcol c i = 0 := by unfold rcol; rw [if_pos h1]
      have e2 : rcol c j = 0 := by unfold rcol; rw [if_pos h2]
      rw [e1, e2] at hx
      unfold Lq at hx
      rw [C.z (by omega), lq_some] at hx
      rw [h1, h2]
      exact (K.dg c hcN).mono hx
    · have e1 : rcol c i = 0 := by unfold rcol; rw [if_pos h1]
      have e2 : rcol c j = j := by unfold rcol; rw [if_neg h2]
      rw [e1, e2] at hx
      rw [h1]
      have := K.cl c 0 j 0 x hcN (by omega) hj c0 (base 0 j (by omega) hj _ ((lq_lrs hc (by omega) hj).mpr (.inr ⟨by omega, hx⟩)))
      rwa [Int.zero_add] at this
  · by_cases h2 : j = c
    · have e1 : rcol c i = i := by unfold rcol; rw [if_neg h1]
      have e2 : rcol c j = 0 := by unfold rcol; rw [if_pos h2]
      rw [e1, e2] at hx
      rw [h2]
      have := K.cl i 0 c x 0 hi (by omega) hcN (base i 0 hi (by omega) _ ((lq_lrs hc hi (by omega)).mpr (.inr ⟨by omega, hx⟩))) c1
      rwa [Int.add_zero] at this
    · have e1 : rcol c i = i := by unfold rcol; rw [if_neg h1]
      have e2 : rcol c j = j := by unfold rcol; rw [if_neg h2]
      rw [e1, e2] at hx
      exact base i j hi hj _ ((lq_lrs hc hi hj).mpr (.inr ⟨by omega, hx⟩))
/-- a point moved back to nothing for one clock -/
theorem sat_rst {c : Nat} (h0 : p 0 = 0) (h : Sat N p Z) : Sat N (fun i => p (rcol c i)) (rstM c Z) := fun i j hi hj x hx => h _ _ (rcol_lt hi) (rcol_lt hj) x hx
/-! widened -/
theorem wdR_at {m : Int} {i a b : Nat} : wdR N m M i a b = if a = i ∧ b < N then wdE m a b (M a b) else M a b := by
  unfold wdR
  have : ∀ n, it (wdI m i) M n a b = if a = i ∧ b < n then wdE m a b (M a b) else M a b := by
    intro n
    induction n with
    | zero => rw [if_neg (by omega)]; rfl
    | succ n ih =>
      rw [it_succ]
      show upd (it (wdI m i) M n) i n (wdE m i n (it (wdI m i) M n i n)) a b = _
      unfold upd
      by_cases h : a = i ∧ b = n
      · rw [if_pos h]
        obtain ⟨h1, h2⟩ := h
        subst h1 h2
        rw [ih, if_neg (by omega), if_pos (by omega)]
      · rw [if_neg h, ih]
        by_cases h2 : a = i ∧ b < n
        · rw [if_pos h2, if_pos (by omega)]
        · rw [if_neg h2, if_neg (by omega)]
  exact this N
theorem wdM_at {m : Int} {a b : Nat} (ha : a < N) (hb : b < N) : wdM N m M a b = wdE m a b (M a b) := by
  unfold wdM
  have : ∀ n, it (wdR N m) M n a b = if a < n then wdE m a b (M a b) else M a b := by
    intro n
    induction n with
    | zero => rw [if_neg (by omega)]; rfl
    | succ n ih =>
      rw [it_succ, wdR_at]
      by_cases h : a = n ∧ b < N
      · rw [if_pos h, if_pos (by omega), ih, if_neg (by omega)]
      · rw [if_neg h, ih]
        by_cases h2 : a < n
        · rw [if_pos h2, if_pos (by omega)]
        · rw [if_neg h2, if_neg (by omega)]
  rw [this N, if_pos ha]
theorem wdE_up {m : Int} {i j : Nat} {o : Option Int} {x : Int} (h : LqO (wdE m i j o) x) : LqO o x := by
  cases o with
  | none => exact h
  | some b =>
    unfold wdE at h
    rw [lq_some]
    dsimp only at h
    split at h
    · exact lq_some.mp h
    · split at h
      · exact absurd h lq_none
      · split at h
        · have := lq_some.mp h; omega
        · exact lq_some.mp h
theorem wd_some {m : Int} (C : Clo N Z) : tgt N (wdM N m Z) = some (fw N (wdM N m Z)) := tgt_of fun k hk z => by
  have := fw_mono (N := N) (M := wdM N m Z) (M' := Z) (fun i j hi hj x hx => by
    unfold Lq at hx ⊢
    rw [wdM_at hi hj] at hx
    exact wdE_up hx) k k hk hk _ z
  unfold Lq at this
  rw [fw_id C hk hk] at this
  exact C.nn k hk this
theorem sat_wd {m : Int} (h : Sat N p Z) : Sat N p (wdM N m Z) := fun i j hi hj x hx => h i j hi hj x (by
  unfold Lq at hx ⊢
  rw [wdM_at hi hj] at hx
  exact wdE_up hx)
end
end Sm
namespace Sm
open PySem PySem.Spec PyProof.Rows L2
theorem exMin {f : Nat → Option Int} : ∀ n : Nat, (∃ i x, i < n ∧ f i = some x) → ∃ x i, i < n ∧ f i = some x ∧ ∀ j y, j < n → f j = some y → x ≤ y
  | 0, ⟨i, x, h, _⟩ => by omega
  | n + 1, ⟨i, x, h, e⟩ => by
    by_cases ih : ∃ i x, i < n ∧ f i = some x
    · obtain ⟨x, i, h1, h2, h3⟩ := exMin n ih
      cases e2 : f n with
      | none =>
        refine ⟨x, i, by omega, h2, fun j y hj ey => ?_⟩
        rcases Nat.lt_or_ge j n with z | z
        · exact h3 j y z ey
        · rw [show j = n by omega, e2] at ey
          cases ey
      | some v =>
        rcases Int.lt_or_le v x with c | c
        · refine ⟨v, n, by omega, e2, fun j y hj ey => ?_⟩
          rcases Nat.lt_or_ge j n with z | z
          · have := h3 j y z ey; omega
          · rw [show j = n by omega, e2] at ey
            cases ey
            omega
        · refine ⟨x, i, by omega, h2, fun j y hj ey => ?_⟩
          rcases Nat.lt_or_ge j n with z | z
          · exact h3 j y z ey
          · rw [show j = n by omega, e2] at ey
            cases ey
            exact c
    · have : i = n := by
        rcases Nat.lt_or_ge i n with z | z
        · exact absurd ⟨i, x, z, e⟩ ih
        · omega
      subst this
      refine ⟨x, i, h, e, fun j y hj ey => ?_⟩
      rcases Nat.lt_or_ge j i with z | z
      · exact absurd ⟨j, y, z, ey⟩ ih
      · rw [show j = i by omega, e] at ey
        cases ey
        omega
theorem bnd {P : Nat → Int → Prop} {K : Int} (h : ∀ i, ∃ T, ∀ c, P i c → K ≤ T + c) : ∀ n : Nat, ∃ T, ∀ i, i < n → ∀ c, P i c → K ≤ T + c
  | 0 => ⟨0, fun i hi => by omega⟩
  | n + 1 => by
    obtain ⟨T, hT⟩ := bnd h n
    obtain ⟨S, hS⟩ := h n
    refine ⟨max T S, fun i hi c hc => ?_⟩
    rcases Nat.lt_or_ge i n with z | z
    · have := hT i z c hc; omega
    · have := hS c (show i = n by omega ▸ hc); omega
section
variable {N : Nat} {M M' Z W : Mt} {p : Nat → Int}
theorem Clo.pos (C : Clo N Z) {k : Nat} (hk : k < N) {x : Int} (h : Lq Z k k x) : 0 ≤ x := by
  unfold Lq at h
  rw [C.z hk, lq_some] at h
  exact h
def shf (t : Int) (p : Nat → Int) : Nat → Int := fun i => if i = 0 then 0 else p i - t
theorem lat_out (C : Clo N Z) (h1 : 1 < N) (h0 : p 0 = 0) (h : Sat N p (latM Z)) : ∃ t, 0 ≤ t ∧ (∀ i, 0 < i → i < N → t ≤ p i) ∧ Sat N (shf t p) Z := by
  obtain ⟨z1, e1, l1⟩ := C.r0 1 h1
  obtain ⟨t, j0, hj0, ej0, hmin⟩ := exMin (f := fun j => if j = 0 then none else (Z 0 j).map (p j + ·)) N ⟨1, p 1 + z1, h1, by rw [if_neg (by omega), e1]; rfl⟩
  have j0p : j0 ≠ 0 := fun z => by rw [if_pos z] at ej0; cases ej0
  rw [if_neg j0p] at ej0
  obtain ⟨z0, ez0, et⟩ := Option.map_eq_some_iff.mp ej0
  have mn : ∀ j, 0 < j → j < N → ∀ x, Lq Z 0 j x → t ≤ p j + x := fun j hj hjN x ⟨c, e, hc⟩ => by
    have := hmin j (p j + c) hjN (by rw [if_neg (by omega), e]; rfl)
    omega
  have lz0 : Lq Z 0 j0 z0 := ⟨z0, ez0, Int.le_refl _⟩
  refine ⟨t, ?_, fun i hi hiN => ?_, fun i j hi hj x hx => ?_⟩
  · have := h 0 j0 (by omega) hj0 z0 (lq_lat.mpr ⟨by omega, lz0⟩)
    omega
  · have := mn i hi hiN 0 (C.r0 i hiN)
    omega
  · unfold shf
    by_cases hi0 : i = 0
    · rw [if_pos hi0]
      by_cases hj0' : j = 0
      · rw [if_pos hj0']
        rw [hi0, hj0'] at hx
        have := C.pos (by omega) hx
        omega
      · rw [if_neg hj0']
        rw [hi0] at hx
        have := mn j (by omega) hj x hx
        omega
    · rw [if_neg hi0]
      by_cases hj0' : j = 0
      · rw [if_pos hj0']
        rw [hj0'] at hx
        have := h i j0 hi hj0 (x + z0) (lq_lat.mpr ⟨by omega, C.cl i 0 j0 x z0 hi (by omega) hj0 hx lz0⟩)
        omega
      · rw [if_neg hj0']
        have := h i j hi hj x (lq_lat.mpr ⟨by omega, hx⟩)
        omega
theorem lat_in {t : Int} (ht : 0 ≤ t) (h0 : p 0 = 0) (h : Sat N (shf t p) Z) : Sat N p (latM Z) := fun i j hi hj x hx => by
  obtain ⟨nz, hx⟩ := lq_lat.mp hx
  have := h i j hi hj x hx
  unfold shf at this
  by_cases hi0 : i = 0
  · rw [if_pos hi0] at this
    by_cases hj0 : j = 0
    · rw [if_pos hj0] at this
      rw [hi0, hj0]
      omega
    · rw [if_neg hj0] at this
      rw [hi0]
      omega
  · rw [if_neg hi0] at this
    by_cases hj0 : j = 0
    · exact absurd ⟨by omega, hj0⟩ nz
    · rw [if_neg hj0] at this
      omega
theorem wide_pt {m : Int} (C : Clo N Z) (hm : 0 ≤ m) (h0 : p 0 = 0) (pp : ∀ i, i < N → 0 ≤ p i) (h : Sat N p (wdM N m Z)) (hN : 0 < N) : ∃ q : Nat → Int, q 0 = 0 ∧ (∀ i, i < N → 0 ≤ q i) ∧ Sat N q Z ∧ (∀ i, i < N → p i ≤ m → q i = p i) ∧ ∀ i, i < N → m < p i → m + 1 ≤ q i := by
  have W : ∀ i j, i < N → j < N → i ≠ j → ∀ b, Z i j = some b → b ≤ m → (b < 0 - m - 1 → p i - p j ≤ 0 - m - 1) ∧ (¬ b < 0 - m - 1 → p i - p j ≤ b) := fun i j hi hj hij b e hb => by
    have w : wdM N m Z i j = wdE m i j (some b) := by rw [wdM_at hi hj, e]
    unfold wdE at w
    dsimp only at w
    rw [if_neg hij, if_neg (by omega)] at w
    constructor
    · intro c
      rw [if_pos c] at w
      exact h i j hi hj _ ⟨_, w, Int.le_refl _⟩
    · intro c
      rw [if_neg c] at w
      exact h i j hi hj _ ⟨_, w, Int.le_refl _⟩
  obtain ⟨T, hT⟩ := bnd (P := fun i c => ∃ j, j < N ∧ Z i j = some c) (K := m + 1) (fun i => by
    obtain ⟨T, hT⟩ := bnd (P := fun j c => Z i j = some c) (K := m + 1) (fun j => by
      cases e : Z i j with
      | none => exact ⟨0, fun c z => by cases z⟩
      | some v => exact ⟨m + 1 - v, fun c z => by cases z; omega⟩) N
    exact ⟨T, fun c ⟨j, hj, e⟩ => hT j hj c e⟩) N
  have ex : ∀ i, ∃ x, i < N → (∃ c z, c < N ∧ Z i c = some z ∧ x = (if p c ≤ m then p c else T) + z) ∧ ∀ c z, c < N → Z i c = some z → x ≤ (if p c ≤ m then p c else T) + z := fun i => by
    by_cases hi : i < N
    · obtain ⟨x, c, hc, ec, hmin⟩ := exMin (f := fun c => (Z i c).map ((if p c ≤ m then p c else T) + ·)) N ⟨i, (if p i ≤ m then p i else T) + 0, hi, by rw [C.z hi]; rfl⟩
      obtain ⟨z, ez, e⟩ := Option.map_eq_some_iff.mp ec
      exact ⟨x, fun _ => ⟨⟨c, z, hc, ez, e.symm⟩, fun c' z' hc' e' => hmin c' _ hc' (by rw [e']; rfl)⟩⟩
    · exact ⟨0, fun z => absurd z hi⟩
  obtain ⟨q, hq⟩ := Classical.axiomOfChoice ex
  have sq : Sat N q Z := fun i j hi hj x hx => by
    obtain ⟨⟨c, z, hc, ez, e⟩, _⟩ := hq j hj
    obtain ⟨c', e', l'⟩ := C.cl i j c x z hi hj hc hx ⟨z, ez, Int.le_refl _⟩
    have := (hq i hi).2 c c' hc e'
    omega
  have lo : ∀ i, i < N → p i ≤ m → q i = p i := fun i hi hp => by
    have u := (hq i hi).2 i 0 hi (C.z hi)
    rw [if_pos hp] at u
    obtain ⟨⟨c, z, hc, ez, e⟩, _⟩ := hq i hi
    have := pp c hc
    by_cases hpc : p c ≤ m
    · rw [if_pos hpc] at e
      by_cases hic : i = c
      · subst hic
        rw [C.z hi] at ez
        cases ez
        omega
      · rcases Int.lt_or_le m z with g | g
        · omega
        · obtain ⟨w1, w2⟩ := W i c hi hc hic z ez g
          by_cases g2 : z < 0 - m - 1
          · have := w1 g2
            have := pp i hi
            omega
          · have := w2 g2
            omega
    · rw [if_neg hpc] at e
      have := hT i hi z ⟨c, hc, ez⟩
      omega
  have q0 : q 0 = 0 := by rw [lo 0 hN (by omega), h0]
  refine ⟨q, q0, fun i hi => ?_, sq, lo, fun i hi hp => ?_⟩
  · have := sq 0 i hN hi 0 (C.r0 i hi)
    omega
  · obtain ⟨⟨c, z, hc, ez, e⟩, _⟩ := hq i hi
    have := pp c hc
    by_cases hpc : p c ≤ m
    · rw [if_pos hpc] at e
      have hic : i ≠ c := fun z => by subst z; omega
      rcases Int.lt_or_le m z with g | g
      · omega
      · obtain ⟨w1, w2⟩ := W i c hi hc hic z ez g
        by_cases g2 : z < 0 - m - 1
        · have := w1 g2
          omega
        · have := w2 g2
          omega
    · rw [if_neg hpc] at e
      have := hT i hi z ⟨c, hc, ez⟩
      omega
end
end Sm
namespace Sm
open PySem PySem.Spec PyProof.Rows L2
section
variable {h j : AH} {b dg N : Nat} {dd : List Int} {p0 q : Int} {n : Nat} {Z : Mt} {ps : List Int}
theorem pt_0 : pt ps 0 = 0 := rfl
theorem pt_s {i : Nat} (hi : i < ps.length) : pt ps (i + 1) = ps[i] := by
  unfold pt
  rw [List.getD_eq_getElem?_getD, List.getElem?_cons_succ, List.getElem?_eq_getElem hi]
  rfl
theorem pt_nn (hp : ∀ x ∈ ps, 0 ≤ x) {i : Nat} (hi : i < ps.length + 1) : 0 ≤ pt ps i := by
  cases i with
  | zero => exact Int.le_refl _
  | succ i =>
    rw [pt_s (by omega)]
    exact hp _ (List.getElem_mem _)
theorem sat_congr {p p' : Nat → Int} (e : ∀ i, i < N → p i = p' i) (h : Sat N p Z) : Sat N p' Z := fun i j hi hj x hx => by
  rw [← e i hi, ← e j hj]
  exact h i j hi hj x hx
theorem pt_shf {t : Int} {i : Nat} (hi : i < ps.length + 1) : pt (ps.map (· - t)) i = shf t (pt ps) i := by
  unfold shf
  cases i with
  | zero => rfl
  | succ i =>
    rw [if_neg (by omega), pt_s (by rw [List.length_map]; omega), pt_s (by omega), List.getElem_map]
theorem pt_rst {c i : Nat} (hc : 0 < c) (hcn : c ≤ ps.length) (hi : i < ps.length + 1) : pt (ps.set (c - 1) 0) i = pt ps (rcol c i) := by
  unfold rcol
  cases i with
  | zero =>
    rw [if_neg (by omega)]
    rfl
  | succ i =>
    rw [pt_s (by rw [List.length_set]; omega), List.getElem_set]
    by_cases e : i + 1 = c
    · rw [if_pos (by omega), if_pos e]
      rfl
    · rw [if_neg (by omega), if_neg e, pt_s (by omega)]
theorem drs_nn {m : Int} (hm : 0 < m) : ∀ x ∈ drs dd m q n, 0 ≤ x := fun x hx => (drs_in hm hx).1
def pastL (N : Nat) (Z : Mt) (ps : List Int) : List Nat := (List.range (minL ps + 1).toNat).filter fun t : Nat => satB N (ps.map (· - (t : Int))) Z
theorem past_sat (C : Clo N Z) (h1 : 1 < N) (hl : ps.length + 1 = N) (hp : ∀ x ∈ ps, 0 ≤ x) : (!(pastL N Z ps).isEmpty) = satB N ps (latM Z) := by
  rw [Bool.eq_iff_iff, satB_iff]
  have e1 : (!(pastL N Z ps).isEmpty) = true ↔ ∃ t : Nat, (t : Int) < minL ps + 1 ∧ satB N (ps.map (· - (t : Int))) Z = true := by
    rw [Bool.not_eq_true', ← Bool.not_eq_true, List.isEmpty_iff]
    unfold pastL
    rw [List.filter_eq_nil_iff]
    constructor
    · intro z
      apply Classical.byContradiction
      intro y
      exact z fun t ht c => y ⟨t, by have := List.mem_range.mp ht; omega, c⟩
    · rintro ⟨t, ht, c⟩ z
      exact z t (List.mem_range.mpr (by omega)) c
  rw [e1]
  obtain ⟨m1, m2⟩ := minL_mem (ns := ps) (by omega)
  constructor
  · rintro ⟨t, ht, c⟩
    refine lat_in (t := (t : Int)) (by omega) rfl (sat_congr (fun i hi => pt_shf (by omega)) (satB_iff.mp c))
  · intro s
    obtain ⟨t, t0, t1, t2⟩ := lat_out (p := pt ps) C h1 rfl s
    obtain ⟨k, rfl⟩ := Int.eq_ofNat_of_zero_le t0
    refine ⟨k, ?_, satB_iff.mpr (sat_congr (fun i hi => (pt_shf (by omega)).symm) t2)⟩
    obtain ⟨i, hi, e⟩ := List.getElem_of_mem m1
    have := t1 (i + 1) (by omega) (by omega)
    rw [pt_s hi, e] at this
    omega
theorem like6 {d : D} {h : AH} (hl : d.lk = true) (hd : d.dep ≤ 2) : F_law_like 6 [d, d] h = some (.bl true, h) := like_ok 6 d h hl (by omega)
theorem like_bl {a : Bool} {h : AH} : F_law_like 6 [.bl a, .bl a] h = some (.bl true, h) := like6 (by unfold D.lk; rfl) (by unfold D.dep; omega)
theorem oMinT_ok {hh : AH} (hn : 0 < ps.length) : oMinT [.val (.tup (ps.map D.int))] hh = some (.val (.int (minL ps)), hh) := by
  have : intsD (ps.map D.int) = some ps := by
    clear hn
    induction ps with
    | nil => rfl
    | cons n r ih => show ((intsD (r.map D.int)).bind _) = _; rw [ih]; rfl
  show ((intsD (ps.map D.int)).bind _) = _
  rw [this]
  exact if_pos hn
/-! the statements -/
theorem ho_1 (B : Bx h b dg dd p0) (hq : 0 ≤ q) (hp : q + 100 < 1000000) (hn : n ≤ 4) {x2 x3 x4 x5 : Option D} :
    mAsg (gN 6) (mFn oTuple (mCons (mComp (mRng1 (mCons (mBin oSub (mFn oLen (mCons (mVar 1) mNil)) (mC (.int 1))) mNil)) (gN 13) mYes (mCall F_law_draw (mCons (mVar 0) (mCons (mC (.int 9)) mNil))) [13]) mNil)) [some (.ref b), some (zoD (n + 1) Z), x2, x3, x4, x5, none, none, none, none, none, none, none, none, none, none] (bset h b dg q ++ j) =
      some (.nx [some (.ref b), some (zoD (n + 1) Z), x2, x3, x4, x5, some (.tup ((drs dd 9 q n).map D.int)), none, none, none, none, none, none, none, none, none] (bset h b dg (q + n) ++ j)) := by
  have u : zoD (n + 1) Z = .tup (rowsD (n + 1) Z) := rfl
  have rn : ((n : Int) + 1 - 1).toNat = n := by omega
  have c := draws_go (s := 13) (m := 9) (j := j) (τ := [some (.ref b), some (zoD (n + 1) Z), x2, x3, x4, x5, none, none, none, none, none, none, none, none, none, none]) B (by decide) rfl (by decide) (rngD 0 n) q hq (by rw [rngD_len]; omega)
  rw [rngD_len] at c
  have z1 : (drs dd 9 q n).length = n := drs_len
  have z2 : n ≤ 16777216 := by omega
  rw [u] at c ⊢
  simp -implicitDefEqProofs (disch := first | assumption | omega | (simp only [List.length_cons, List.length_nil, List.length_map, List.length_set, List.length_append]; omega)) [rn, c, z1, z2]
theorem ho_4 {H : AH} (hl : ps.length + 1 = N) (hN : N ≤ 100) (h1 : 1 < N) (hs : minL ps ≤ 1000) (hs0 : -1000 < minL ps) {x0 x2 x3 x4 x5 x7 : Option D} :
    mAsg (gN 8) (mComp (mRng1 (mCons (mBin oAdd (mFn oMinT (mCons (mVar 6) mNil)) (mC (.int 1))) mNil)) (gN 14) (mB (mCall F_law_in_zone (mCons (mVar 1) (mCons (mFn oTuple (mCons (mComp (mIter (mVar 6)) (gN 15) mYes (mBin oSub (mVar 15) (mVar 14)) [15]) mNil)) mNil)))) (mVar 14) [14]) [x0, some (zoD N Z), x2, x3, x4, x5, some (.tup (ps.map D.int)), x7, none, none, none, none, none, none, none, none] H =
      some (.nx [x0, some (zoD N Z), x2, x3, x4, x5, some (.tup (ps.map D.int)), x7, some (.ref H.length), none, none, none, none, none, none, none] (H ++ [O.lst ((pastL N Z ps).map fun t : Nat => D.int (0 + (t : Int)))])) := by
  have mt := oMinT_ok (ps := ps) (hh := H) (by omega)
  obtain ⟨m1, m2⟩ := minL_mem (ns := ps) (by omega)
  have c := compL_filterT (grd := []) (g := gN 14) (ft := mB (mCall F_law_in_zone (mCons (mVar 1) (mCons (mFn oTuple (mCons (mComp (mIter (mVar 6)) (gN 15) mYes (mBin oSub (mVar 15) (mVar 14)) [15]) mNil)) mNil)))) (fe := mVar 14) (τ := [x0, some (zoD N Z), x2, x3, x4, x5, some (.tup (ps.map D.int)), x7, none, none, none, none, none, none, none, none]) (h := H) (t := fun i : Nat => D.int (0 + (i : Int))) (fun t : Nat => satB N (ps.map (· - (t : Int))) Z) (fun t : Nat => D.int (0 + (t : Int))) rfl (List.range (minL ps + 1).toNat) (fun t ht => by
    refine ⟨[x0, some (zoD N Z), x2, x3, x4, x5, some (.tup (ps.map D.int)), x7, none, none, none, none, none, none, some (.int (0 + (t : Int))), none], rfl, ?_, fun _ => rfl⟩
    have c2 := compL_mapT (grd := []) (g := gN 15) (fe := mBin oSub (mVar 15) (mVar 14)) (τ := [x0, some (zoD N Z), x2, x3, x4, x5, some (.tup (ps.map D.int)), x7, none, none, none, none, none, none, some (.int (0 + (t : Int))), none]) (h := H) (t := D.int) (fun v => D.int (v - (0 + (t : Int)))) rfl ps (fun v hv => ⟨[x0, some (zoD N Z), x2, x3, x4, x5, some (.tup (ps.map D.int)), x7, none, none, none, none, none, none, some (.int (0 + (t : Int))), some (.int v)], rfl, by simp -implicitDefEqProofs (disch := first | assumption | omega | (simp only [List.length_cons, List.length_nil, List.length_map, List.length_set, List.length_append]; omega)) []⟩)
    have iz := in_zone_ok (h := H) (N := N) (M := Z) (ps := ps.map (· - (t : Int))) (by omega) (by rw [List.length_map]; omega)
    have z : ps.length ≤ 16777216 := by omega
    rw [List.map_map] at iz
    simp only [Int.zero_add] at c2 ⊢
    have e : (D.int ∘ fun x => x - (t : Int)) = fun v => D.int (v - (t : Int)) := rfl
    rw [e] at iz
    simp -implicitDefEqProofs (disch := first | assumption | omega | (simp only [List.length_cons, List.length_nil, List.length_map, List.length_set, List.length_append]; omega)) [c2, z, iz])
  have z : (pastL N Z ps).length ≤ 16777216 := by
    unfold pastL
    have := List.length_filter_le (fun t : Nat => satB N (ps.map (· - (t : Int))) Z) (List.range (minL ps + 1).toNat)
    rw [List.length_range] at this
    omega
  have c' : compL [] (gN 14) (mB (mCall F_law_in_zone (mCons (mVar 1) (mCons (mFn oTuple (mCons (mComp (mIter (mVar 6)) (gN 15) mYes (mBin oSub (mVar 15) (mVar 14)) [15]) mNil)) mNil)))) (mVar 14) [x0, some (zoD N Z), x2, x3, x4, x5, some (.tup (ps.map D.int)), x7, none, none, none, none, none, none, none, none] (rngD 0 (minL ps + 1).toNat) H = some ((pastL N Z ps).map (fun t : Nat => D.int (0 + (t : Int))), H) := c
  generalize hmin : minL ps = mi at *
  simp -implicitDefEqProofs (disch := first | assumption | omega | (simp only [List.length_cons, List.length_nil, List.length_map, List.length_set, List.length_append]; omega)) [mt, c', z]
end
end Sm
namespace Sm
open PySem PySem.Spec PyProof.Rows L2
def sgS (le : Bool) : Str := if le = true then "<=" else ">="
def cutM (le : Bool) (M : Mt) (c : Nat) (k : Int) : Mt := if le = true then wth M c 0 k else wth M 0 c (0 - k)
def keepB (le : Bool) (x k : Int) : Bool := if le = true then decide (x ≤ k) else decide (k ≤ x)
section
variable {h H : AH} {N : Nat} {Z : Mt} {ps : List Int} {le : Bool} {c : Nat} {k m : Int}
theorem bounded_ok (hN : N ≤ 1000) (hc : c < N) : F_bounded [zoD N Z, .int (c : Int), .str (sgS le), .int k] h = some (optZ N (tgt N (cutM le Z c k)), h) := by
  cases le with
  | true => exact bounded_le hN hc (zn_zo hN)
  | false => exact bounded_ge hN hc (zn_zo hN)
theorem cut_sat (hc0 : 0 < c) (hc : c < N) (hl : ps.length + 1 = N) (hp : ∀ x ∈ ps, 0 ≤ x) : (match tgt N (cutM le Z c k) with | none => false | some M' => satB N ps M') = (satB N ps Z && keepB le (pt ps c) k) := by
  have sw : Sat N (pt ps) (cutM le Z c k) ↔ Sat N (pt ps) Z ∧ keepB le (pt ps c) k = true := by
    unfold cutM keepB
    cases le with
    | true =>
      rw [if_pos rfl, if_pos rfl, sat_wth hc (by omega), pt_0, decide_eq_true_iff, Int.sub_zero]
    | false =>
      rw [if_neg (by decide), if_neg (by decide), sat_wth (by omega) hc, pt_0, decide_eq_true_iff]
      exact and_congr_right fun _ => by omega
  rw [Bool.eq_iff_iff, Bool.and_eq_true, satB_iff, ← sw]
  constructor
  · intro z
    cases e : tgt N (cutM le Z c k) with
    | none => rw [e] at z; cases z
    | some M' =>
      rw [e] at z
      exact sat_tgt e (satB_iff.mp z)
  · intro s
    obtain ⟨e, s2⟩ := tgt_sat pt_0 (fun i hi => pt_nn hp (by omega)) s
    rw [e]
    exact satB_iff.mpr s2
theorem ho_12_turn (hN : N ≤ 100) (hl : ps.length + 1 = N) (hp : ∀ x ∈ ps, 0 ≤ x) {qq : Nat → Int} (q0 : qq 0 = 0) (qn : ∀ i, i < N → 0 ≤ qq i) (ql : ∀ i, i < N → pt ps i ≤ m → qq i = pt ps i) (qh : ∀ i, i < N → m < pt ps i → m + 1 ≤ qq i) {M : Mt} (s : Sat N qq M) {i : Nat} (hi : i < ps.length) {x0 x1 x2 x3 x4 x7 x8 x9 x10 x11 x14 x15 : Option D} :
    ∃ M', Sat N qq M' ∧ l_law_holds_of_1 [x0, x1, x2, x3, x4, some (.int m), some (.tup (ps.map D.int)), x7, x8, x9, x10, x11, some (zoD N M), some (.int (i : Int)), x14, x15] H = some (.nx [x0, x1, x2, x3, x4, some (.int m), some (.tup (ps.map D.int)), x7, x8, x9, x10, x11, some (zoD N M'), some (.int (i : Int)), x14, x15] H) := by
  have a := pt_s hi
  have ap : L2.atI (ps.map D.int) (i : Int) = some (.int ps[i]) := by rw [atI_cast, List.getElem?_map, List.getElem?_eq_getElem hi]; rfl
  have s1 : Sat N qq (wth M 0 (i + 1) (0 - min ps[i] (m + 1))) := (sat_wth (by omega) (by omega)).mpr ⟨s, by
    rw [q0]
    rcases Int.lt_or_le m (pt ps (i + 1)) with z | z
    · have := qh (i + 1) (by omega) z
      rw [a] at z
      omega
    · have := ql (i + 1) (by omega) z
      rw [a] at this z
      omega⟩
  obtain ⟨t1, s1'⟩ := tgt_sat q0 qn s1
  have w1 : F_law_with [zoD N M, .int 0, .int ((i : Int) + 1), .int (0 - min ps[i] (m + 1))] H = some (optZ N (tgt N (wth M 0 (i + 1) (0 - min ps[i] (m + 1)))), H) := with_ok (i := 0) (j := i + 1) (by omega) (by omega) (by omega) (zn_zo (by omega))
  rw [t1] at w1
  unfold l_law_holds_of_1
  by_cases hle : ps[i] ≤ m
  · have s2 : Sat N qq (wth (fw N (wth M 0 (i + 1) (0 - min ps[i] (m + 1)))) (i + 1) 0 ps[i]) := (sat_wth (by omega) (by omega)).mpr ⟨s1', by
      rw [q0, ql (i + 1) (by omega) (by rw [a]; exact hle), a]
      omega⟩
    obtain ⟨t2, s2'⟩ := tgt_sat q0 qn s2
    have w2 : F_law_with [zoD N (fw N (wth M 0 (i + 1) (0 - min ps[i] (m + 1)))), .int ((i : Int) + 1), .int 0, .int ps[i]] H = some (optZ N (tgt N (wth (fw N (wth M 0 (i + 1) (0 - min ps[i] (m + 1)))) (i + 1) 0 ps[i])), H) := with_ok (i := i + 1) (j := 0) (by omega) (by omega) (by omega) (zn_zo (by omega))
    rw [t2] at w2
    refine ⟨_, s2', ?_⟩
    generalize ps[i] = v at *
    simp -implicitDefEqProofs (disch := first | assumption | omega | (simp only [List.length_cons, List.length_nil, List.length_map, List.length_set, List.length_append]; omega)) [-Int.zero_sub, ap, w1, w2, optZ, hle, -atI_pos]
  · refine ⟨_, s1', ?_⟩
    generalize ps[i] = v at *
    simp -implicitDefEqProofs (disch := first | assumption | omega | (simp only [List.length_cons, List.length_nil, List.length_map, List.length_set, List.length_append]; omega)) [-Int.zero_sub, ap, w1, optZ, hle, -atI_pos]
theorem ho_12 (hN : N ≤ 100) (hl : ps.length + 1 = N) (hp : ∀ x ∈ ps, 0 ≤ x) (C : Clo N Z) (hm : 0 ≤ m) (hg : Sat N (pt ps) (wdM N m Z)) {x0 x1 x2 x3 x4 x7 x8 x9 x10 x11 x13 x14 x15 : Option D} :
    ∃ (M' : Mt) (y : Option D), forL [] (gN 13) l_law_holds_of_1 (rngD 0 ps.length) [x0, x1, x2, x3, x4, some (.int m), some (.tup (ps.map D.int)), x7, x8, x9, x10, x11, some (zoD N Z), x13, x14, x15] H = some (.nx [x0, x1, x2, x3, x4, some (.int m), some (.tup (ps.map D.int)), x7, x8, x9, x10, x11, some (zoD N M'), y, x14, x15] H) := by
  obtain ⟨qq, q0, qn, qs, ql, qh⟩ := wide_pt C hm pt_0 (fun i hi => pt_nn hp (by omega)) hg (by omega)
  obtain ⟨τ', h', e, M', y, s, e1, e2⟩ := forRg0 (g := gN 13) (body := l_law_holds_of_1) (n := ps.length) (fun i τ hh => ∃ M' y, Sat N qq M' ∧ τ = [x0, x1, x2, x3, x4, some (.int m), some (.tup (ps.map D.int)), x7, x8, x9, x10, x11, some (zoD N M'), y, x14, x15] ∧ hh = H) (fun i hi τ hh ⟨M', y, s, e1, e2⟩ => by
    subst e1 e2
    obtain ⟨M2, s2, e⟩ := ho_12_turn (H := hh) (x0 := x0) (x1 := x1) (x2 := x2) (x3 := x3) (x4 := x4) (x7 := x7) (x8 := x8) (x9 := x9) (x10 := x10) (x11 := x11) (x14 := x14) (x15 := x15) hN hl hp q0 qn ql qh s hi
    exact ⟨_, _, _, _, rfl, .inl e, M2, _, s2, rfl, rfl⟩) [x0, x1, x2, x3, x4, some (.int m), some (.tup (ps.map D.int)), x7, x8, x9, x10, x11, some (zoD N Z), x13, x14, x15] H ⟨Z, _, qs, rfl, rfl⟩
  subst e1 e2
  exact ⟨M', y, e⟩
end
end Sm
namespace Sm
open PySem PySem.Spec PyProof.Rows L2
section
variable {h j : AH} {b dg n : Nat} {dd : List Int} {p0 q : Int} {Z : Mt} {le : Bool} {c : Nat} {k : Int} {m : Nat}
theorem holds_ok (B : Bx h b dg dd p0) (hq : 0 ≤ q) (hp : q + 100 < 1000000) (h1 : 1 ≤ n) (hn : n ≤ 4) (C : Clo (n + 1) Z) (hc0 : 0 < c) (hcn : c ≤ n) :
    F_law_holds_of [.ref b, zoD (n + 1) Z, .int (c : Int), .str (sgS le), .int k, .int (m : Int)] (bset h b dg q ++ j) = some (.bl true, bset h b dg (q + n) ++ j) := by
  have s1 := ho_1 (j := j) (Z := Z) (x2 := some (.int (c : Int))) (x3 := some (.str (sgS le))) (x4 := some (.int k)) (x5 := some (.int (m : Int))) B hq hp hn
  have pn : ∀ x ∈ drs dd 9 q n, 0 ≤ x := drs_nn (by decide)
  have px : ∀ x ∈ drs dd 9 q n, x < 9 := fun x hx => (drs_in (by decide) hx).2
  have pl : (drs dd 9 q n).length = n := drs_len
  generalize drs dd 9 q n = ps at *
  have hl : ps.length + 1 = n + 1 := by omega
  obtain ⟨m1, m2⟩ := minL_mem (ns := ps) (by omega)
  have s4 := ho_4 (H := bset h b dg (q + n) ++ j) (N := n + 1) (Z := Z) (ps := ps) (x0 := some (.ref b)) (x2 := some (.int (c : Int))) (x3 := some (.str (sgS le))) (x4 := some (.int k)) (x5 := some (.int (m : Int))) (x7 := some (.bl (satB (n + 1) ps Z))) hl (by omega) (by omega) (by have := px _ m1; omega) (by have := pn _ m1; omega)
  have ha : ∀ H : AH, F_has_point [zoD (n + 1) Z, .tup (ps.map D.int)] H = _ := fun H => has_point_ok (by omega) hl
  have hz : ∀ H : AH, F_law_in_zone [zoD (n + 1) Z, .tup (ps.map D.int)] H = _ := fun H => in_zone_ok (by omega) hl
  have s2 : mAsg (gN 7) (mCall F_law_in_zone (mCons (mVar 1) (mCons (mVar 6) mNil))) [some (.ref b), some (zoD (n + 1) Z), some (.int (c : Int)), some (.str (sgS le)), some (.int k), some (.int (m : Int)), some (.tup (ps.map D.int)), none, none, none, none, none, none, none, none, none] (bset h b dg (q + n) ++ j) = some (.nx [some (.ref b), some (zoD (n + 1) Z), some (.int (c : Int)), some (.str (sgS le)), some (.int k), some (.int (m : Int)), some (.tup (ps.map D.int)), some (.bl (satB (n + 1) ps Z)), none, none, none, none, none, none, none, none] (bset h b dg (q + n) ++ j)) := by
    simp -implicitDefEqProofs (disch := first | assumption | omega | (simp only [List.length_cons, List.length_nil, List.length_map, List.length_set, List.length_append]; omega)) [hz]
  have s3 : mIfS (mNot (mB (mCall (F_law_like 6) (mCons (mCall F_has_point (mCons (mVar 1) (mCons (mVar 6) mNil))) (mCons (mVar 7) mNil))))) (mRet (mC (.bl false))) mPass [some (.ref b), some (zoD (n + 1) Z), some (.int (c : Int)), some (.str (sgS le)), some (.int k), some (.int (m : Int)), some (.tup (ps.map D.int)), some (.bl (satB (n + 1) ps Z)), none, none, none, none, none, none, none, none] (bset h b dg (q + n) ++ j) = some (.nx [some (.ref b), some (zoD (n + 1) Z), some (.int (c : Int)), some (.str (sgS le)), some (.int k), some (.int (m : Int)), some (.tup (ps.map D.int)), some (.bl (satB (n + 1) ps Z)), none, none, none, none, none, none, none, none] (bset h b dg (q + n) ++ j)) := by
    simp -implicitDefEqProofs (disch := first | assumption | omega | (simp only [List.length_cons, List.length_nil, List.length_map, List.length_set, List.length_append]; omega)) [ha, like_bl]
  have gp : ∀ G : AH, (bset h b dg (q + n) ++ (j ++ [O.lst ((pastL (n + 1) Z ps).map fun t : Nat => D.int (0 + (t : Int)))]))[(bset h b dg (q + n) ++ j).length]? = some (.lst ((pastL (n + 1) Z ps).map fun t : Nat => D.int (0 + (t : Int)))) := fun G => by rw [lenA, getA, getB0]; rfl
  have gp := gp []
  have nl : (bset h b dg (q + n) ++ j).length = h.length + j.length := lenA
  have past := past_sat C (by omega) hl pn
  have g : gc (bset h b dg q ++ j) (.bl true) (bset h b dg (q + n) ++ (j ++ [O.lst ((pastL (n + 1) Z ps).map fun t : Nat => D.int (0 + (t : Int)))])) = (.bl true, bset h b dg (q + n) ++ j) := gc_loc B hq rfl
  rw [nl] at s4 gp
  rw [List.append_assoc] at s4
  generalize hH : bset h b dg (q + n) ++ (j ++ [O.lst ((pastL (n + 1) Z ps).map fun t : Nat => D.int (0 + (t : Int)))]) = H at *
  have np := ne_nilR gp (fun d hd => by obtain ⟨t, _, rfl⟩ := List.mem_map.mp hd; exact ⟨_, rfl⟩)
  have em : ((pastL (n + 1) Z ps).map fun t : Nat => D.int (0 + (t : Int))).isEmpty = (pastL (n + 1) Z ps).isEmpty := by cases pastL (n + 1) Z ps <;> rfl
  rw [em, past] at np
  have hp' : ∀ (M : Mt) (H : AH), F_has_point [zoD (n + 1) M, .tup (ps.map D.int)] H = some (.bl (satB (n + 1) ps M), H) := fun M H => has_point_ok (by omega) hl
  have la := later_ok (h := H) (by omega) (by omega) (zn_zo (h := H) (N := n + 1) (M := Z) (by omega))
  have bo := bounded_ok (h := H) (N := n + 1) (Z := Z) (le := le) (c := c) (k := k) (by omega) (by omega)
  have cs := cut_sat (N := n + 1) (Z := Z) (ps := ps) (le := le) (c := c) (k := k) hc0 (by omega) hl pn
  have re := reset_ok (h := H) (N := n + 1) (M := Z) (c := c) (by omega) hc0 (by omega) (by rw [C.z (by omega), C.z (by omega)]) (zn_zo (by omega))
  have wi := widened_ok (h := H) (N := n + 1) (M := Z) (m := (m : Int)) (by omega) (by omega) (zn_zo (by omega))
  rw [wd_some C] at wi
  obtain ⟨ca, rfl⟩ : ∃ ca, c = ca + 1 := ⟨c - 1, by omega⟩
  have hca : ca < ps.length := by omega
  have pk : L2.atI (ps.map D.int) (ca : Int) = some (.int (pt ps (ca + 1))) := by rw [atI_cast, List.getElem?_map, List.getElem?_eq_getElem hca, pt_s hca]; rfl
  have cm : (((ca + 1 : Nat) : Int) - 1) = (ca : Int) := by omega
  have k1 : cutA (ps.map D.int) none (some (ca : Int)) = (ps.map D.int).take ca := cut_to (by rw [List.length_map]; omega)
  have k2 : cutA (ps.map D.int) (some ((ca + 1 : Nat) : Int)) none = (ps.map D.int).drop (ca + 1) := cut_from (by rw [List.length_map]; omega)
  have k3 : (ps.map D.int).take ca ++ D.int 0 :: (ps.map D.int).drop (ca + 1) = (ps.set ca 0).map D.int := by
    rw [set_split (by rw [List.length_map]; omega), List.map_set]
  have hr : F_has_point [zoD (n + 1) (rstM (ca + 1) Z), .tup ((ps.set ca 0).map D.int)] H = some (.bl (satB (n + 1) (ps.set ca 0) (rstM (ca + 1) Z)), H) := has_point_ok (by omega) (by rw [List.length_set]; omega)
  have hrs : satB (n + 1) ps Z = true → satB (n + 1) (ps.set ca 0) (rstM (ca + 1) Z) = true := fun hs => satB_iff.mpr (sat_congr (fun i hi => (pt_rst (c := ca + 1) hc0 (by omega) (by omega)).symm) (sat_rst (p := pt ps) rfl (satB_iff.mp hs)))
  have ws : satB (n + 1) ps Z = true → satB (n + 1) ps (fw (n + 1) (wdM (n + 1) m Z)) = true := fun hs => satB_iff.mpr (sat_fw pt_0 (fun i hi => pt_nn pn (by omega)) (sat_wd (satB_iff.mp hs)))
  have wl : satB (n + 1) ps (fw (n + 1) (wdM (n + 1) m Z)) = true → Sat (n + 1) (pt ps) (wdM (n + 1) m Z) := fun hs => sat_dn (satB_iff.mp hs) dn_fw
  have oa1 : oAdd (.val (.tup ((ps.map D.int).take ca))) (.val (.tup [D.int 0])) H = some (.val (.tup ((ps.map D.int).take ca ++ [D.int 0])), H) := by
    rw [oAdd_tup, if_pos]
    rw [List.length_take, List.length_map, List.length_singleton]
    omega
  have oa2 : oAdd (.val (.tup ((ps.map D.int).take ca ++ [D.int 0]))) (.val (.tup ((ps.map D.int).drop (ca + 1)))) H = some (.val (.tup ((ps.set ca 0).map D.int)), H) := by
    rw [oAdd_tup, if_pos, List.append_assoc, List.singleton_append, k3]
    rw [List.length_append, List.length_take, List.length_drop, List.length_map, List.length_singleton]
    omega
  let T : Option D → Option D → Option D → Option D → Option D → AT := fun y9 y10 y11 y12 y13 => [some (.ref b), some (zoD (n + 1) Z), some (.int ((ca + 1 : Nat) : Int)), some (.str (sgS le)), some (.int k), some (.int (m : Int)), some (.tup (ps.map D.int)), some (.bl (satB (n + 1) ps Z)), some (.ref (h.length + j.length)), y9, y10, y11, y12, y13, none, none]
  have s5 : mIfS (mNot (mB (mCall (F_law_like 6) (mCons (mCall F_has_point (mCons (mCall F_later (mCons (mVar 1) mNil)) (mCons (mVar 6) mNil))) (mCons (mBin oNe (mVar 8) (mLst mNil)) mNil))))) (mRet (mC (.bl false))) mPass (T none none none none none) H = some (.nx (T none none none none none) H) := by
    simp -implicitDefEqProofs (disch := first | assumption | omega | (simp only [List.length_cons, List.length_nil, List.length_map, List.length_set, List.length_append]; omega)) [T, la, hp', np, like_bl]
  have s6 : mAsg (gN 9) (mCall F_bounded (mCons (mVar 1) (mCons (mVar 2) (mCons (mVar 3) (mCons (mVar 4) mNil))))) (T none none none none none) H = some (.nx (T (some (optZ (n + 1) (tgt (n + 1) (cutM le Z (ca + 1) k)))) none none none none) H) := by
    simp -implicitDefEqProofs (disch := first | assumption | omega | (simp only [List.length_cons, List.length_nil, List.length_map, List.length_set, List.length_append]; omega)) [T, bo, -Int.natCast_add]
  have s7 : mAsg (gN 10) (mIf (mB (mBin oEq (mVar 3) (mC (.str ("<=" : Str))))) (mBin oLe (mBin oIx (mVar 6) (mBin oSub (mVar 2) (mC (.int 1)))) (mVar 4)) (mBin oGe (mBin oIx (mVar 6) (mBin oSub (mVar 2) (mC (.int 1)))) (mVar 4))) (T (some (optZ (n + 1) (tgt (n + 1) (cutM le Z (ca + 1) k)))) none none none none) H = some (.nx (T (some (optZ (n + 1) (tgt (n + 1) (cutM le Z (ca + 1) k)))) (some (.bl (keepB le (pt ps (ca + 1)) k))) none none none) H) := by
    cases le with
    | true => simp -implicitDefEqProofs (disch := first | assumption | omega | (simp only [List.length_cons, List.length_nil, List.length_map, List.length_set, List.length_append]; omega)) [T, sgS, cm, pk, keepB, -atI_pos, -Int.natCast_add]
    | false => simp -implicitDefEqProofs (disch := first | assumption | omega | (simp only [List.length_cons, List.length_nil, List.length_map, List.length_set, List.length_append]; omega)) [T, sgS, cm, pk, keepB, -atI_pos, -Int.natCast_add]
  have s8 : mIfS (mNot (mB (mCall (F_law_like 6) (mCons (mAndV (mBin oIsNot (mVar 9) (mC .non)) (mCall F_has_point (mCons (mVar 9) (mCons (mVar 6) mNil)))) (mCons (mAndV (mVar 7) (mVar 10)) mNil))))) (mRet (mC (.bl false))) mPass (T (some (optZ (n + 1) (tgt (n + 1) (cutM le Z (ca + 1) k)))) (some (.bl (keepB le (pt ps (ca + 1)) k))) none none none) H = some (.nx (T (some (optZ (n + 1) (tgt (n + 1) (cutM le Z (ca + 1) k)))) (some (.bl (keepB le (pt ps (ca + 1)) k))) none none none) H) := by
    cases et : tgt (n + 1) (cutM le Z (ca + 1) k) with
    | none =>
      rw [et] at cs
      dsimp only at cs
      cases hI : satB (n + 1) ps Z with
      | false => simp -implicitDefEqProofs (disch := first | assumption | omega | (simp only [List.length_cons, List.length_nil, List.length_map, List.length_set, List.length_append]; omega)) [T, optZ, like_bl, hI]
      | true =>
        rw [hI, Bool.true_and] at cs
        simp -implicitDefEqProofs (disch := first | assumption | omega | (simp only [List.length_cons, List.length_nil, List.length_map, List.length_set, List.length_append]; omega)) [T, optZ, like_bl, hI, ← cs]
    | some M' =>
      rw [et] at cs
      dsimp only at cs
      have un : isN (.val (zoD (n + 1) M')) = false := rfl
      cases hI : satB (n + 1) ps Z with
      | false =>
        rw [hI, Bool.false_and] at cs
        simp -implicitDefEqProofs (disch := first | assumption | omega | (simp only [List.length_cons, List.length_nil, List.length_map, List.length_set, List.length_append]; omega)) [T, optZ, like_bl, hI, un, hp', cs]
      | true =>
        rw [hI, Bool.true_and] at cs
        simp -implicitDefEqProofs (disch := first | assumption | omega | (simp only [List.length_cons, List.length_nil, List.length_map, List.length_set, List.length_append]; omega)) [T, optZ, like_bl, hI, un, hp', cs]
  have s9 : mIfS (mAnd (mB (mVar 7)) (mNot (mB (mCall F_has_point (mCons (mCall F_reset (mCons (mVar 1) (mCons (mVar 2) mNil))) (mCons (mAd (mBin oAdd (mBin oAdd (mSl (mVar 6) mNoP (mPart (mBin oSub (mVar 2) (mC (.int 1))))) (mTup (mCons (mC (.int 0)) mNil))) (mSl (mVar 6) (mPart (mVar 2)) mNoP))) mNil)))))) (mRet (mC (.bl false))) mPass (T (some (optZ (n + 1) (tgt (n + 1) (cutM le Z (ca + 1) k)))) (some (.bl (keepB le (pt ps (ca + 1)) k))) none none none) H = some (.nx (T (some (optZ (n + 1) (tgt (n + 1) (cutM le Z (ca + 1) k)))) (some (.bl (keepB le (pt ps (ca + 1)) k))) none none none) H) := by
    cases hI : satB (n + 1) ps Z with
    | false => simp -implicitDefEqProofs (disch := first | assumption | omega | (simp only [List.length_cons, List.length_nil, List.length_map, List.length_set, List.length_append]; omega)) [T, hI]
    | true => simp -implicitDefEqProofs (disch := first | assumption | omega | (simp only [List.length_cons, List.length_nil, List.length_map, List.length_set, List.length_append]; omega)) [T, hI, re, cm, k1, k2, oa1, oa2, hr, hrs hI, -oAdd_tup, -Int.natCast_add, -List.map_take, -List.map_drop, -List.map_set]
  have s10 : mAsg (gN 11) (mCall F_widened (mCons (mVar 1) (mCons (mVar 5) mNil))) (T (some (optZ (n + 1) (tgt (n + 1) (cutM le Z (ca + 1) k)))) (some (.bl (keepB le (pt ps (ca + 1)) k))) none none none) H = some (.nx (T (some (optZ (n + 1) (tgt (n + 1) (cutM le Z (ca + 1) k)))) (some (.bl (keepB le (pt ps (ca + 1)) k))) (some (zoD (n + 1) (fw (n + 1) (wdM (n + 1) m Z)))) none none) H) := by
    simp -implicitDefEqProofs (disch := first | assumption | omega | (simp only [List.length_cons, List.length_nil, List.length_map, List.length_set, List.length_append]; omega)) [T, wi, optZ]
  have s11 : mIfS (mAnd (mB (mVar 7)) (mNot (mB (mCall F_has_point (mCons (mVar 11) (mCons (mVar 6) mNil)))))) (mRet (mC (.bl false))) mPass (T (some (optZ (n + 1) (tgt (n + 1) (cutM le Z (ca + 1) k)))) (some (.bl (keepB le (pt ps (ca + 1)) k))) (some (zoD (n + 1) (fw (n + 1) (wdM (n + 1) m Z)))) none none) H = some (.nx (T (some (optZ (n + 1) (tgt (n + 1) (cutM le Z (ca + 1) k)))) (some (.bl (keepB le (pt ps (ca + 1)) k))) (some (zoD (n + 1) (fw (n + 1) (wdM (n + 1) m Z)))) none none) H) := by
    cases hI : satB (n + 1) ps Z with
    | false => simp -implicitDefEqProofs (disch := first | assumption | omega | (simp only [List.length_cons, List.length_nil, List.length_map, List.length_set, List.length_append]; omega)) [T, hI]
    | true => simp -implicitDefEqProofs (disch := first | assumption | omega | (simp only [List.length_cons, List.length_nil, List.length_map, List.length_set, List.length_append]; omega)) [T, hI, hp', ws hI]
  have s12 : mSeq (mIfS (mB (mCall F_has_point (mCons (mVar 11) (mCons (mVar 6) mNil)))) (mSeq (mAsg (gN 12) (mVar 1)) (mSeq (mFor (mRng1 (mCons (mFn oLen (mCons (mVar 6) mNil)) mNil)) (gN 13) l_law_holds_of_1) (mRet (mBin oIsNot (mVar 12) (mC .non))))) mPass) (mRet (mC (.bl true))) (T (some (optZ (n + 1) (tgt (n + 1) (cutM le Z (ca + 1) k)))) (some (.bl (keepB le (pt ps (ca + 1)) k))) (some (zoD (n + 1) (fw (n + 1) (wdM (n + 1) m Z)))) none none) H = some (.rt (.bl true) H) := by
    cases hG : satB (n + 1) ps (fw (n + 1) (wdM (n + 1) m Z)) with
    | false => simp -implicitDefEqProofs (disch := first | assumption | omega | (simp only [List.length_cons, List.length_nil, List.length_map, List.length_set, List.length_append]; omega)) [T, hp', hG]
    | true =>
      obtain ⟨M', y, e⟩ := ho_12 (H := H) (m := (m : Int)) (x0 := some (.ref b)) (x1 := some (zoD (n + 1) Z)) (x2 := some (.int ((ca + 1 : Nat) : Int))) (x3 := some (.str (sgS le))) (x4 := some (.int k)) (x7 := some (.bl (satB (n + 1) ps Z))) (x8 := some (.ref (h.length + j.length))) (x9 := some (optZ (n + 1) (tgt (n + 1) (cutM le Z (ca + 1) k)))) (x10 := some (.bl (keepB le (pt ps (ca + 1)) k))) (x11 := some (zoD (n + 1) (fw (n + 1) (wdM (n + 1) m Z)))) (x13 := none) (x14 := none) (x15 := none) (by omega) hl pn C (by omega) (wl hG)
      have un : isN (.val (zoD (n + 1) M')) = false := rfl
      have zl : ps.length ≤ 4000000000 := by omega
      simp -implicitDefEqProofs (disch := first | assumption | omega | (simp only [List.length_cons, List.length_nil, List.length_map, List.length_set, List.length_append]; omega)) [T, hp', hG, zl, e, un, -Int.natCast_add]
  unfold F_law_holds_of
  rw [runDef_if, if_pos (show [D.ref b, zoD (n + 1) Z, .int ((ca + 1 : Nat) : Int), .str (sgS le), .int k, .int (m : Int)].length = 6 from rfl)]
  show defK (b_law_holds_of [some (.ref b), some (zoD (n + 1) Z), some (.int ((ca + 1 : Nat) : Int)), some (.str (sgS le)), some (.int k), some (.int (m : Int)), none, none, none, none, none, none, none, none, none, none] (bset h b dg q ++ j)) _ = _
  have all : b_law_holds_of [some (.ref b), some (zoD (n + 1) Z), some (.int ((ca + 1 : Nat) : Int)), some (.str (sgS le)), some (.int k), some (.int (m : Int)), none, none, none, none, none, none, none, none, none, none] (bset h b dg q ++ j) = some (.rt (.bl true) H) := by
    unfold b_law_holds_of
    rw [mSeq_eq, s1, seqK_nx, mSeq_eq, s2, seqK_nx, mSeq_eq, s3, seqK_nx, mSeq_eq, s4, seqK_nx, mSeq_eq, s5, seqK_nx, mSeq_eq, s6, seqK_nx, mSeq_eq, s7, seqK_nx, mSeq_eq, s8, seqK_nx, mSeq_eq, s9, seqK_nx, mSeq_eq, s10, seqK_nx, mSeq_eq, s11, seqK_nx, s12]
  rw [all, defK_rt, g]
end
end Sm
namespace Sm
open PySem PySem.Spec PyProof.Rows L2
def s_law_digits_3_2 : SS := (mIfS (mB (mBin oGe (mVar 5) (mBin oPow (mC (.int 10)) (mC (.int 18))))) (mFor (mRng1 (mCons (mC (.int 60)) mNil)) (gN 6) l_law_digits_1) (mSeq (mAsg (gN 7) (mBin oMod (mFn oInt (mCons (mBin oAdd (mBin oAdd (mBin oMul (mVar 5) (mC (.int 48271))) (mBin oMul (mVar 4) (mC (.int 69621)))) (mC (.int 11))) mNil)) (mC (.int 2147483647)))) (mFor (mRng1 (mCons (mC (.int 12)) mNil)) (gN 6) l_law_digits_2)))
theorem l_law_digits_3_cut : l_law_digits_3 = (mSeq (mAsg (gN 5) (mCall F_law_cell (mCons (mVar 0) (mCons (mVar 4) mNil)))) (mSeq (mIfS (mB (mBin oLt (mVar 5) (mC (.int 0)))) (mAsg (gN 5) (mBin oSub (mC (.int 1)) (mBin oMul (mC (.int 2)) (mVar 5)))) mPass) s_law_digits_3_2)) := rfl
theorem cell_ok {h : AH} {ns : List Int} {k : Nat} : ∃ c : Int, F_law_cell [.fl (ns.map D.int), .int (k : Int)] h = some (.int c, h) := by
  by_cases hk : k < ns.length
  · refine ⟨ns[k], ?_⟩
    have g := gc_pure0 (h := h) (d := .int ns[k]) rfl
    unfold F_law_cell b_law_cell
    simp -implicitDefEqProofs (disch := first | assumption | omega | (simp only [List.length_cons, List.length_nil, List.length_map, List.length_set, List.length_append]; omega)) [runDef_if, hk, atI_cast, g]
  · refine ⟨0, ?_⟩
    have g := gc_pure0 (h := h) (d := .int 0) rfl
    unfold F_law_cell b_law_cell
    simp -implicitDefEqProofs (disch := first | assumption | omega | (simp only [List.length_cons, List.length_nil, List.length_map, List.length_set, List.length_append]; omega)) [runDef_if, hk, g]
section
variable {h : AH} {x0 x1 x2 x4 x6 x7 : Option D} {ds : List Int} {c : Int}
theorem dig1 (dl : ds.length ≤ 1000000) : ∃ (ds' : List Int) (c' : Int) (y6 : Option D), ds'.length ≤ ds.length + 60 ∧ forL [] (gN 6) l_law_digits_1 (rngD 0 60) [x0, x1, x2, some (.ref h.length), x4, some (.int c), x6, x7] (h ++ [.lst (ds.map D.int)])
    = some (.nx [x0, x1, x2, some (.ref h.length), x4, some (.int c'), y6, x7] (h ++ [.lst (ds'.map D.int)])) := by
  obtain ⟨τ', h', e, P⟩ := forRg0 (g := gN 6) (body := l_law_digits_1) (n := 60)
    (fun i τ hh => ∃ (ds' : List Int) (c' : Int) (y6 : Option D), ds'.length ≤ ds.length + i ∧ τ = [x0, x1, x2, some (.ref h.length), x4, some (.int c'), y6, x7] ∧ hh = h ++ [.lst (ds'.map D.int)])
    (fun i hi τ hh ⟨ds', c', y6, h1, h2, h3⟩ => by
      subst h2 h3
      have al : ds'.length < 16777216 := by omega
      by_cases hc : 0 < c'
      · refine ⟨_, _, _, _, rfl, .inl ?_, ds' ++ [c'.fmod 1009], c'.fdiv 1009, some (.int i), by simp; omega, rfl, rfl⟩
        unfold l_law_digits_1
        simp -implicitDefEqProofs (disch := first | assumption | omega | (simp only [List.length_cons, List.length_nil, List.length_map, List.length_set, List.length_append]; omega)) [hc, al]
      · refine ⟨_, _, _, _, rfl, .inl ?_, ds', c', some (.int i), by omega, rfl, rfl⟩
        unfold l_law_digits_1
        simp -implicitDefEqProofs (disch := first | assumption | omega | (simp only [List.length_cons, List.length_nil, List.length_map, List.length_set, List.length_append]; omega)) [hc])
    [x0, x1, x2, some (.ref h.length), x4, some (.int c), x6, x7] (h ++ [.lst (ds.map D.int)]) ⟨ds, c, x6, by omega, rfl, rfl⟩
  obtain ⟨ds', c', y6, h1, h2, h3⟩ := P
  subst h2 h3
  exact ⟨ds', c', y6, h1, e⟩
theorem dig2 (dl : ds.length ≤ 1000000) {x5 : Option D} : ∃ (ds' : List Int) (y6 y7 : Option D), ds'.length ≤ ds.length + 12 ∧ forL [] (gN 6) l_law_digits_2 (rngD 0 12) [x0, x1, x2, some (.ref h.length), x4, x5, x6, some (.int c)] (h ++ [.lst (ds.map D.int)])
    = some (.nx [x0, x1, x2, some (.ref h.length), x4, x5, y6, y7] (h ++ [.lst (ds'.map D.int)])) := by
  obtain ⟨τ', h', e, P⟩ := forRg0 (g := gN 6) (body := l_law_digits_2) (n := 12)
    (fun i τ hh => ∃ (ds' : List Int) (c' : Int) (y6 : Option D), ds'.length ≤ ds.length + i ∧ τ = [x0, x1, x2, some (.ref h.length), x4, x5, y6, some (.int c')] ∧ hh = h ++ [.lst (ds'.map D.int)])
    (fun i hi τ hh ⟨ds', c', y6, h1, h2, h3⟩ => by
      subst h2 h3
      have al : ds'.length < 16777216 := by omega
      refine ⟨_, _, _, _, rfl, .inl ?_, ds' ++ [(((c' * 16807 + 7 * i + 1).fmod 2147483647).fdiv 997).fmod 1009], (c' * 16807 + 7 * i + 1).fmod 2147483647, some (.int i), by simp; omega, rfl, rfl⟩
      unfold l_law_digits_2
      simp -implicitDefEqProofs (disch := first | assumption | omega | (simp only [List.length_cons, List.length_nil, List.length_map, List.length_set, List.length_append]; omega)) [al])
    [x0, x1, x2, some (.ref h.length), x4, x5, x6, some (.int c)] (h ++ [.lst (ds.map D.int)]) ⟨ds, c, x6, by omega, rfl, rfl⟩
  obtain ⟨ds', c', y6, h1, h2, h3⟩ := P
  subst h2 h3
  exact ⟨ds', y6, _, h1, e⟩
theorem dig3m {ns : List Int} {k : Nat} (dl : ds.length ≤ 1000000) (c : Int) : ∃ (ds' : List Int) (y5 y6 y7 : Option D), ds'.length ≤ ds.length + 60 ∧
    s_law_digits_3_2 [some (.fl (ns.map D.int)), x1, x2, some (.ref h.length), some (.int (k : Int)), some (.int c), x6, x7] (h ++ [.lst (ds.map D.int)])
      = some (.nx [some (.fl (ns.map D.int)), x1, x2, some (.ref h.length), some (.int (k : Int)), y5, y6, y7] (h ++ [.lst (ds'.map D.int)])) := by
  by_cases hc : 1000000000000000000 ≤ c
  · obtain ⟨ds', c', y6, a1, e⟩ := dig1 (h := h) (x0 := some (.fl (ns.map D.int))) (x1 := x1) (x2 := x2) (x4 := some (.int (k : Int))) (x6 := x6) (x7 := x7) (c := c) dl
    refine ⟨ds', some (.int c'), y6, x7, a1, ?_⟩
    unfold s_law_digits_3_2
    simp -implicitDefEqProofs (disch := first | assumption | omega | (simp only [List.length_cons, List.length_nil, List.length_map, List.length_set, List.length_append]; omega)) [hc]
    exact e
  · obtain ⟨ds', y6, y7, a1, e⟩ := dig2 (h := h) (x0 := some (.fl (ns.map D.int))) (x1 := x1) (x2 := x2) (x4 := some (.int (k : Int))) (x5 := some (.int c)) (x6 := x6) (c := (c * 48271 + k * 69621 + 11).fmod 2147483647) dl
    refine ⟨ds', some (.int c), y6, y7, by omega, ?_⟩
    unfold s_law_digits_3_2
    simp -implicitDefEqProofs (disch := first | assumption | omega | (simp only [List.length_cons, List.length_nil, List.length_map, List.length_set, List.length_append]; omega)) [hc]
    exact e
theorem dig3 {ns : List Int} {k : Nat} {x5 : Option D} (dl : ds.length ≤ 1000000) : ∃ (ds' : List Int) (y5 y6 y7 : Option D), ds'.length ≤ ds.length + 60 ∧
    l_law_digits_3 [some (.fl (ns.map D.int)), x1, x2, some (.ref h.length), some (.int (k : Int)), x5, x6, x7] (h ++ [.lst (ds.map D.int)])
      = some (.nx [some (.fl (ns.map D.int)), x1, x2, some (.ref h.length), some (.int (k : Int)), y5, y6, y7] (h ++ [.lst (ds'.map D.int)])) := by
  obtain ⟨c, ec⟩ := cell_ok (h := h ++ [.lst (ds.map D.int)]) (ns := ns) (k := k)
  rw [l_law_digits_3_cut]
  by_cases h0 : c < 0
  · obtain ⟨ds', y5, y6, y7, a1, e⟩ := dig3m (h := h) (x1 := x1) (x2 := x2) (x6 := x6) (x7 := x7) (ns := ns) (k := k) dl (1 - 2 * c)
    refine ⟨ds', y5, y6, y7, a1, ?_⟩
    simp -implicitDefEqProofs (disch := first | assumption | omega | (simp only [List.length_cons, List.length_nil, List.length_map, List.length_set, List.length_append]; omega)) [ec, h0, e]
  · obtain ⟨ds', y5, y6, y7, a1, e⟩ := dig3m (h := h) (x1 := x1) (x2 := x2) (x6 := x6) (x7 := x7) (ns := ns) (k := k) dl c
    refine ⟨ds', y5, y6, y7, a1, ?_⟩
    simp -implicitDefEqProofs (disch := first | assumption | omega | (simp only [List.length_cons, List.length_nil, List.length_map, List.length_set, List.length_append]; omega)) [ec, h0, e]
end
theorem ints_low {n : Nat} (ds : List Int) : D.lows n (ds.map D.int) = true := lows_all fun d hd => by obtain ⟨k, _, rfl⟩ := List.mem_map.mp hd; rfl
theorem digits_ok {h : AH} {ns : List Int} : ∃ ds : List Int, F_law_digits [.fl (ns.map D.int), .int 0, .int 63] h = some (.ref h.length, h ++ [.lst (ds.map D.int)]) := by
  obtain ⟨τ', h', e, P⟩ := forRg0 (g := gN 4) (body := l_law_digits_3) (n := 63)
    (fun i τ hh => ∃ (ds' : List Int) (y4 y5 y6 y7 : Option D), ds'.length ≤ 60 * i ∧ τ = [some (.fl (ns.map D.int)), some (.int 0), some (.int 63), some (.ref h.length), y4, y5, y6, y7] ∧ hh = h ++ [.lst (ds'.map D.int)])
    (fun i hi τ hh ⟨ds', y4, y5, y6, y7, h1, h2, h3⟩ => by
      subst h2 h3
      obtain ⟨ds2, z5, z6, z7, a1, e⟩ := dig3 (h := h) (x1 := some (.int 0)) (x2 := some (.int 63)) (x5 := y5) (x6 := y6) (x7 := y7) (ns := ns) (k := i) (ds := ds') (by omega)
      exact ⟨_, _, _, _, rfl, .inl e, ds2, some (.int i), z5, z6, z7, by omega, rfl, rfl⟩)
    [some (.fl (ns.map D.int)), some (.int 0), some (.int 63), some (.ref h.length), none, none, none, none] (h ++ [.lst []]) ⟨[], none, none, none, none, Nat.zero_le _, rfl, rfl⟩
  obtain ⟨ds', y4, y5, y6, y7, h1, h2, h3⟩ := P
  subst h2 h3
  refine ⟨ds', ?_⟩
  unfold F_law_digits b_law_digits
  simp -implicitDefEqProofs (disch := first | assumption | omega | (simp only [List.length_cons, List.length_nil, List.length_map, List.length_set, List.length_append]; omega)) [runDef_if, e]
  rw [gc_list (ds := ds'.map D.int) (k := h.length) (Nat.le_refl _) (by simp) (ints_low ds')]
end Sm
namespace Sm
open PySem PySem.Spec PyProof.Rows L2
/-! ## the statements of the law -/
theorem optZ_lk {N : Nat} {o : Option Mt} (hN : N ≤ 100) : (optZ N o).lk = true := by
  cases o with
  | none => unfold optZ D.lk; rfl
  | some M => exact zoD_lk (by omega)
theorem optZ_dep {N : Nat} {o : Option Mt} : (optZ N o).dep ≤ 2 := by
  cases o with
  | none => unfold optZ D.dep; omega
  | some M => exact zoD_dep
theorem like_optZ {N : Nat} {o : Option Mt} {h : AH} (hN : N ≤ 100) : F_law_like 6 [optZ N o, optZ N o] h = some (.bl true, h) := like6 (optZ_lk hN) optZ_dep
theorem like_zoD {N : Nat} {M : Mt} {h : AH} (hN : N ≤ 100) : F_law_like 6 [zoD N M, zoD N M] h = some (.bl true, h) := like_optZ (o := some M) hN
theorem zn_zero {N : Nat} {h : AH} (hN : N ≤ 1000) : Zn (.tup ((List.range N).map fun i => D.zt (rowD N (fun _ _ => some 0) i))) h N (fun _ _ => some 0) := by
  refine ⟨by rw [oLen_tup, List.length_map, List.length_range], _, _, rfl, fun s τ hs => ?_⟩
  have := copy_go (s := s) (τ := τ) hs (grd := []) ((List.range N).map fun i => (D.zt (rowD N (fun _ _ => some 0) i), rowD N (fun _ _ => some 0) i)) h (fun _ => rfl) (fun p hp => by
    obtain ⟨i, _, rfl⟩ := List.mem_map.mp hp
    exact ⟨by rw [rowD_len]; omega, fun _ => rfl⟩)
  rw [List.map_map, List.map_map, List.length_map, List.length_range] at this
  exact this
theorem clo_zero {N : Nat} : Clo N (fun _ _ => some 0) where
  dg k hk := ⟨0, rfl, Int.le_refl _⟩
  nn k hk z := by obtain ⟨c, e, h⟩ := z; cases e; omega
  r0 k hk := ⟨0, rfl, Int.le_refl _⟩
  cl i k j a b hi hk hj h1 h2 := by
    obtain ⟨c, e, h1⟩ := h1
    cases e
    obtain ⟨c, e, h2⟩ := h2
    cases e
    exact ⟨0, rfl, by omega⟩
theorem flat_rep {α : Type} {x : α} : ∀ n, (List.replicate n [x]).flatten = List.replicate n x
  | 0 => rfl
  | n + 1 => by rw [List.replicate_succ, List.flatten_cons, flat_rep n]; rfl
theorem map_const {α β : Type} {x : β} : ∀ {l : List α}, l.map (fun _ => x) = List.replicate l.length x
  | [] => rfl
  | a :: r => by rw [List.map_cons, map_const, List.length_cons, List.replicate_succ]
section
variable {N : Nat} {A Bm : Mt} {x0 x1 x3 x4 x5 x6 x7 x8 x9 x10 x11 x14 : Option D} {h : AH} {n : Nat}
def widJ (n : Nat) (A Bm : Mt) (i : Nat) : List D := ((List.range (n + 1)).filter fun j => !winE (A i j) (Bm i j)).map fun _ => D.int 1
def widL (n : Nat) (A Bm : Mt) : List D := ((List.range (n + 1)).filter fun i => !(widJ n A Bm i).isEmpty).map fun _ => D.int 1
theorem widJ_e {i : Nat} : (widJ n A Bm i).isEmpty = (List.range (n + 1)).all fun j => winE (A i j) (Bm i j) := by
  unfold widJ
  rw [Bool.eq_iff_iff, List.isEmpty_iff, List.map_eq_nil_iff, List.filter_eq_nil_iff, List.all_eq_true]
  exact forall_congr' fun j => forall_congr' fun hj => by simp
theorem widL_e : (widL n A Bm).isEmpty = winB (n + 1) A Bm := by
  unfold widL winB
  rw [Bool.eq_iff_iff, List.isEmpty_iff, List.map_eq_nil_iff, List.filter_eq_nil_iff, List.all_eq_true]
  refine forall_congr' fun j => forall_congr' fun hj => ?_
  rw [widJ_e]
  simp
theorem widJ_len {i : Nat} : (widJ n A Bm i).length ≤ n + 1 := by
  unfold widJ
  rw [List.length_map]
  have := List.length_filter_le (fun j => !winE (A i j) (Bm i j)) (List.range (n + 1))
  rwa [List.length_range] at this
theorem widL_len : (widL n A Bm).length ≤ n + 1 := by
  unfold widL
  rw [List.length_map]
  have := List.length_filter_le (fun i => !(widJ n A Bm i).isEmpty) (List.range (n + 1))
  rwa [List.length_range] at this
theorem widJ_int {i : Nat} : ∀ d ∈ widJ n A Bm i, ∃ k, d = .int k := fun d hd => by obtain ⟨k, _, rfl⟩ := List.mem_map.mp hd; exact ⟨_, rfl⟩
theorem widL_int : ∀ d ∈ widL n A Bm, ∃ k, d = .int k := fun d hd => by obtain ⟨k, _, rfl⟩ := List.mem_map.mp hd; exact ⟨_, rfl⟩
theorem widJ_go (hn : n ≤ 100) {i : Nat} (hi : i < n + 1) : compL [] (gN 16) (mAnd (mB (mBin oIsNot (mBin oIx (mBin oIx (mVar 13) (mVar 15)) (mVar 16)) (mC .non))) (mOr (mB (mBin oIs (mBin oIx (mBin oIx (mVar 12) (mVar 15)) (mVar 16)) (mC .non))) (mB (mBin oGt (mBin oIx (mBin oIx (mVar 12) (mVar 15)) (mVar 16)) (mBin oIx (mBin oIx (mVar 13) (mVar 15)) (mVar 16)))))) (mC (.int 1)) [x0, x1, some (.int (n : Int)), x3, x4, x5, x6, x7, x8, x9, x10, x11, some (zoD (n + 1) A), some (zoD (n + 1) Bm), x14, some (.int (i : Int)), none] (rngD 0 (n + 1)) h = some (widJ n A Bm i, h) := by
  have := compL_filterT (grd := []) (g := gN 16) (ft := mAnd (mB (mBin oIsNot (mBin oIx (mBin oIx (mVar 13) (mVar 15)) (mVar 16)) (mC .non))) (mOr (mB (mBin oIs (mBin oIx (mBin oIx (mVar 12) (mVar 15)) (mVar 16)) (mC .non))) (mB (mBin oGt (mBin oIx (mBin oIx (mVar 12) (mVar 15)) (mVar 16)) (mBin oIx (mBin oIx (mVar 13) (mVar 15)) (mVar 16)))))) (fe := mC (.int 1)) (τ := [x0, x1, some (.int (n : Int)), x3, x4, x5, x6, x7, x8, x9, x10, x11, some (zoD (n + 1) A), some (zoD (n + 1) Bm), x14, some (.int (i : Int)), none]) (h := h) (t := fun j : Nat => D.int (0 + (j : Int))) (fun j => !winE (A i j) (Bm i j)) (fun _ => D.int 1) rfl (List.range (n + 1)) (fun j hj => by
    have hj := List.mem_range.mp hj
    refine ⟨[x0, x1, some (.int (n : Int)), x3, x4, x5, x6, x7, x8, x9, x10, x11, some (zoD (n + 1) A), some (zoD (n + 1) Bm), x14, some (.int (i : Int)), some (.int (0 + (j : Int)))], rfl, ?_, fun _ => rfl⟩
    have r1 := at_rows (M := A) hi
    have r2 := at_rows (M := Bm) hi
    have a1 := at_row (M := A) (i := i) hj
    have a2 := at_row (M := Bm) (i := i) hj
    have u : ∀ M, zoD (n + 1) M = .tup (rowsD (n + 1) M) := fun _ => rfl
    rw [u, u, Int.zero_add]
    cases hb : Bm i j with
    | none =>
      rw [hb] at a2
      simp -implicitDefEqProofs (disch := first | assumption | omega | (simp only [List.length_cons, List.length_nil, List.length_map, List.length_set, List.length_append]; omega)) [r1, r2, a1, a2, winE, -atI_pos]
    | some b =>
      rw [hb] at a2
      cases ha : A i j with
      | none =>
        rw [ha] at a1
        simp -implicitDefEqProofs (disch := first | assumption | omega | (simp only [List.length_cons, List.length_nil, List.length_map, List.length_set, List.length_append]; omega)) [r1, r2, a1, a2, winE, -atI_pos]
      | some a =>
        rw [ha] at a1
        by_cases c : a ≤ b
        · have c' : ¬ b < a := by omega
          simp -implicitDefEqProofs (disch := first | assumption | omega | (simp only [List.length_cons, List.length_nil, List.length_map, List.length_set, List.length_append]; omega)) [r1, r2, a1, a2, winE, c, c', -atI_pos]
        · have c' : b < a := by omega
          simp -implicitDefEqProofs (disch := first | assumption | omega | (simp only [List.length_cons, List.length_nil, List.length_map, List.length_set, List.length_append]; omega)) [r1, r2, a1, a2, winE, c, c', -atI_pos])
  exact this
theorem pair_turn (hn : n ≤ 100) : l_law_2 [x0, x1, some (.int (n : Int)), x3, x4, x5, x6, x7, x8, x9, x10, x11, some (zoD (n + 1) A), some (zoD (n + 1) Bm), x14, none, none] h = some (.nx [x0, x1, some (.int (n : Int)), x3, x4, x5, x6, x7, x8, x9, x10, x11, some (zoD (n + 1) A), some (zoD (n + 1) Bm), some (.ref h.length), none, none] (h ++ [O.lst (widL n A Bm)])) := by
  have rn : ((n : Int) + 1).toNat = n + 1 := by omega
  have c := compL_filterT (grd := []) (g := gN 15) (ft := mB (mBin oNe (mComp (mRng1 (mCons (mBin oAdd (mVar 2) (mC (.int 1))) mNil)) (gN 16) (mAnd (mB (mBin oIsNot (mBin oIx (mBin oIx (mVar 13) (mVar 15)) (mVar 16)) (mC .non))) (mOr (mB (mBin oIs (mBin oIx (mBin oIx (mVar 12) (mVar 15)) (mVar 16)) (mC .non))) (mB (mBin oGt (mBin oIx (mBin oIx (mVar 12) (mVar 15)) (mVar 16)) (mBin oIx (mBin oIx (mVar 13) (mVar 15)) (mVar 16)))))) (mC (.int 1)) [16]) (mLst mNil))) (fe := mC (.int 1)) (τ := [x0, x1, some (.int (n : Int)), x3, x4, x5, x6, x7, x8, x9, x10, x11, some (zoD (n + 1) A), some (zoD (n + 1) Bm), x14, none, none]) (h := h) (t := fun i : Nat => D.int (0 + (i : Int))) (fun i => !(widJ n A Bm i).isEmpty) (fun _ => D.int 1) rfl (List.range (n + 1)) (fun i hi => by
    have hi := List.mem_range.mp hi
    refine ⟨[x0, x1, some (.int (n : Int)), x3, x4, x5, x6, x7, x8, x9, x10, x11, some (zoD (n + 1) A), some (zoD (n + 1) Bm), x14, some (.int (0 + (i : Int))), none], rfl, ?_, fun _ => rfl⟩
    have e := widJ_go (A := A) (Bm := Bm) (x0 := x0) (x1 := x1) (x3 := x3) (x4 := x4) (x5 := x5) (x6 := x6) (x7 := x7) (x8 := x8) (x9 := x9) (x10 := x10) (x11 := x11) (x14 := x14) (h := h) hn hi
    have nn := ne_nilN (h := h) (widJ_int (n := n) (A := A) (Bm := Bm) (i := i))
    have l := widJ_len (n := n) (A := A) (Bm := Bm) (i := i)
    have l2 : (widJ n A Bm i).length ≤ 16777216 := by omega
    rw [Int.zero_add]
    simp -implicitDefEqProofs (disch := first | assumption | omega | (simp only [List.length_cons, List.length_nil, List.length_map, List.length_set, List.length_append]; omega)) [rn, e, nn, l2, -rng1_nat])
  have c' : compL [] (gN 15) (mB (mBin oNe (mComp (mRng1 (mCons (mBin oAdd (mVar 2) (mC (.int 1))) mNil)) (gN 16) (mAnd (mB (mBin oIsNot (mBin oIx (mBin oIx (mVar 13) (mVar 15)) (mVar 16)) (mC .non))) (mOr (mB (mBin oIs (mBin oIx (mBin oIx (mVar 12) (mVar 15)) (mVar 16)) (mC .non))) (mB (mBin oGt (mBin oIx (mBin oIx (mVar 12) (mVar 15)) (mVar 16)) (mBin oIx (mBin oIx (mVar 13) (mVar 15)) (mVar 16)))))) (mC (.int 1)) [16]) (mLst mNil))) (mC (.int 1)) [x0, x1, some (.int (n : Int)), x3, x4, x5, x6, x7, x8, x9, x10, x11, some (zoD (n + 1) A), some (zoD (n + 1) Bm), x14, none, none] (rngD 0 (n + 1)) h = some (widL n A Bm, h) := c
  have l := widL_len (n := n) (A := A) (Bm := Bm)
  have l2 : (widL n A Bm).length ≤ 16777216 := by omega
  have wo := within_ok (h := h ++ [O.lst (widL n A Bm)]) (N := n + 1) (A := A) (B := Bm)
  have en := eq_nilR (a := h.length) (h := h ++ [O.lst (widL n A Bm)]) (ds := widL n A Bm) (by simp) widL_int
  rw [widL_e] at en
  unfold l_law_2
  simp -implicitDefEqProofs (disch := first | assumption | omega | (simp only [List.length_cons, List.length_nil, List.length_map, List.length_set, List.length_append]; omega)) [rn, c', l2, wo, en, like_bl, -rng1_nat]
end
end Sm
namespace Sm
open PySem PySem.Spec PyProof.Rows L2
section
variable {h j : AH} {b dg n : Nat} {dd : List Int} {p0 q : Int} {Z M A : Mt} {le : Bool} {c : Nat} {k : Int} {m : Nat} {x0 : Option D}
theorem nz_row : (rowsD (n + 1) M).isEmpty = false := by
  unfold rowsD
  rw [List.range_succ_eq_map]
  rfl
/-- the zone of the law: the drawn one, or another, or all -/
theorem due_ok (B : Bx h b dg dd p0) (hq : 0 ≤ q) (hp : q < 800000) (h1 : 1 ≤ n) (hn : n ≤ 4) : ∃ (Z : Mt) (q' : Int), Clo (n + 1) Z ∧ q ≤ q' ∧ q' ≤ q + 100 ∧
    mIfS (mB (mBin oIs (mVar 4) (mC .non))) (mAsg (gN 4) (mOrX (mCall F_law_tight (mCons (mCall F_law_drawn_zone (mCons (mVar 1) (mCons (mVar 2) mNil))) mNil)) (mCall F_law_later_zone (mCons (mFn oTuple (mCons (mBin oMul (mLst (mCons (mAd (mBin oTMul (mTup (mCons (mC (.int 0)) mNil)) (mBin oAdd (mVar 2) (mC (.int 1))))) mNil)) (mBin oAdd (mVar 2) (mC (.int 1)))) mNil)) mNil)))) mPass [x0, some (.ref b), some (.int (n : Int)), some (zoD (n + 1) M), some (optZ (n + 1) (tgt (n + 1) M)), none, none, none, none, none, none, none, none, none, none, none, none] (bset h b dg q ++ j) =
      some (.nx [x0, some (.ref b), some (.int (n : Int)), some (zoD (n + 1) M), some (zoD (n + 1) Z), none, none, none, none, none, none, none, none, none, none, none, none] (bset h b dg q' ++ j)) := by
  cases e : tgt (n + 1) M with
  | some M' =>
    refine ⟨M', q, (tgt_some e).2, by omega, by omega, ?_⟩
    have u : isN (.val (zoD (n + 1) M')) = false := rfl
    simp -implicitDefEqProofs (disch := first | assumption | omega | (simp only [List.length_cons, List.length_nil, List.length_map, List.length_set, List.length_append]; omega)) [optZ, u]
  | none =>
    obtain ⟨M1, q', a1, a2, ed⟩ := drawn_zone_ok (j := j) (n := n) B hq hn (by omega)
    have lt := law_tight_ok (h := bset h b dg q' ++ j) (N := n + 1) (M := M1) (by omega) (by omega) (zn_zo (by omega))
    cases e1 : tgt (n + 1) M1 with
    | some M' =>
      refine ⟨M', q', (tgt_some e1).2, a1, a2, ?_⟩
      rw [e1] at lt
      have u : optZ (n + 1) (some M') = .tup (rowsD (n + 1) M') := rfl
      have u2 : zoD (n + 1) M' = .tup (rowsD (n + 1) M') := rfl
      rw [u] at lt
      rw [u2]
      simp -implicitDefEqProofs (disch := first | assumption | omega | (simp only [List.length_cons, List.length_nil, List.length_map, List.length_set, List.length_append]; omega)) [optZ, ed, lt, nz_row]
    | none =>
      obtain ⟨le, M', em, cm, _⟩ := tgt_clo (clo_lat (clo_zero (N := n + 1)))
      refine ⟨M', q', cm, a1, a2, ?_⟩
      rw [e1] at lt
      have u : optZ (n + 1) none = .non := rfl
      rw [u] at lt
      have ll := llater_ok (h := bset h b dg q' ++ j) (N := n + 1) (M := fun _ _ => some 0) (by omega) (by omega) (zn_zero (by omega))
      rw [em] at ll
      have rr : (List.range (n + 1)).map (fun i => D.zt (rowD (n + 1) (fun _ _ => some 0) i)) = List.replicate (n + 1) (.zt (List.replicate (n + 1) (.int 0))) := by
        have : ∀ i, D.zt (rowD (n + 1) (fun _ _ => some 0) i) = .zt (List.replicate (n + 1) (.int 0)) := fun i => by
          unfold rowD
          rw [map_const, List.length_range]
          rfl
        rw [List.map_congr_left fun i _ => this i, map_const, List.length_range]
      rw [rr] at ll
      have rn : ((n : Int) + 1).toNat = n + 1 := by omega
      have om : ∀ H, oTMul (.val (.tup [.int 0])) (.val (.int ((n : Int) + 1))) H = some (.val (.zt (List.replicate (n + 1) (.int 0))), H) := fun H => by
        rw [oTMul_ok (by
          rw [Bool.and_eq_true, Bool.and_eq_true, Bool.and_eq_true]
          exact ⟨⟨⟨rfl, decide_eq_true (by omega)⟩, decide_eq_true (by omega)⟩, rfl⟩), rn, flat_rep]
      have oL : ∀ (d : D) H, oMul (.new [d]) (.val (.int ((n : Int) + 1))) H = some (.new (List.replicate (n + 1) d), H) := fun d H => by
        unfold oMul
        dsimp only
        rw [asM_new]
        refine (if_pos ?_).trans ?_
        · rw [Bool.and_eq_true]
          exact ⟨decide_eq_true (by omega), decide_eq_true (by simp; omega)⟩
        · rw [rn, flat_rep]
      have u3 : optZ (n + 1) (some M') = zoD (n + 1) M' := rfl
      rw [u3] at ll
      simp -implicitDefEqProofs (disch := first | assumption | omega | (simp only [List.length_cons, List.length_nil, List.length_map, List.length_set, List.length_append]; omega)) [optZ, ed, lt, om, oL, ll]
theorem holds4 (B : Bx h b dg dd p0) (hq : 0 ≤ q) (hp : q < 800000) (h1 : 1 ≤ n) (hn : n ≤ 4) (C : Clo (n + 1) Z) (hc0 : 0 < c) (hcn : c ≤ n) {x2 x3 x9 x10 : Option D} : ∃ (y : Option D) (q' : Int), q ≤ q' ∧ q' ≤ q + 100 ∧
    forL [] (gN 10) l_law_1 (rngD 0 4) [x0, some (.ref b), x2, x3, some (zoD (n + 1) Z), some (.int (c : Int)), some (.str (sgS le)), some (.int k), some (.int (m : Int)), x9, x10, none, none, none, none, none, none] (bset h b dg q ++ j) = some (.nx [x0, some (.ref b), x2, x3, some (zoD (n + 1) Z), some (.int (c : Int)), some (.str (sgS le)), some (.int k), some (.int (m : Int)), x9, y, none, none, none, none, none, none] (bset h b dg q' ++ j)) := by
  obtain ⟨τ', h', e, y, q', a1, a2, e1, e2⟩ := forRg0 (g := gN 10) (body := l_law_1) (n := 4) (fun t τ hh => ∃ (y : Option D) (q' : Int), q ≤ q' ∧ q' ≤ q + 5 * t ∧ τ = [x0, some (.ref b), x2, x3, some (zoD (n + 1) Z), some (.int (c : Int)), some (.str (sgS le)), some (.int k), some (.int (m : Int)), x9, y, none, none, none, none, none, none] ∧ hh = bset h b dg q' ++ j) (fun t ht τ hh ⟨y, q', a1, a2, e1, e2⟩ => by
    subst e1 e2
    have ho := holds_ok (j := j) (Z := Z) (le := le) (c := c) (k := k) (m := m) (q := q') B (by omega) (by omega) h1 hn C hc0 hcn
    refine ⟨_, _, [x0, some (.ref b), x2, x3, some (zoD (n + 1) Z), some (.int (c : Int)), some (.str (sgS le)), some (.int k), some (.int (m : Int)), x9, some (.int (t : Int)), none, none, none, none, none, none], bset h b dg (q' + n) ++ j, rfl, .inl ?_, _, q' + n, by omega, by omega, rfl, rfl⟩
    unfold l_law_1
    simp -implicitDefEqProofs (disch := first | assumption | omega | (simp only [List.length_cons, List.length_nil, List.length_map, List.length_set, List.length_append]; omega)) [ho]) [x0, some (.ref b), x2, x3, some (zoD (n + 1) Z), some (.int (c : Int)), some (.str (sgS le)), some (.int k), some (.int (m : Int)), x9, x10, none, none, none, none, none, none] (bset h b dg q ++ j) ⟨_, q, Int.le_refl _, by omega, rfl, rfl⟩
  subst e1 e2
  exact ⟨y, q', a1, by omega, e⟩
theorem with_cut {H : AH} (hn : n ≤ 4) (hc : c < n + 1) : (if le = true then F_law_with [zoD (n + 1) Z, .int (c : Int), .int 0, .int k] H else F_law_with [zoD (n + 1) Z, .int 0, .int (c : Int), .int (0 - k)] H) = some (optZ (n + 1) (tgt (n + 1) (cutM le Z c k)), H) := by
  unfold cutM
  cases le with
  | true => exact with_ok (i := c) (j := 0) (by omega) hc (by omega) (zn_zo (by omega))
  | false => exact with_ok (i := 0) (j := c) (by omega) (by omega) hc (zn_zo (by omega))
/-- the five pairs -/
theorem pairs_ok {H : AH} (hn : n ≤ 4) {co : Option Mt} {x1 x3 x5 x6 x7 x8 x10 x12 x13 x14 : Option D} : ∃ (y12 y13 y14 : Option D) (X : AH),
    mFor (mIter (mLst (mCons (mTup (mCons (mVar 4) (mCons (mVar 4) mNil))) (mCons (mTup (mCons (mVar 4) (mCons (mVar 11) mNil))) (mCons (mTup (mCons (mVar 4) (mCons (mCall F_later (mCons (mVar 4) mNil)) mNil))) (mCons (mTup (mCons (mCall F_later (mCons (mVar 4) mNil)) (mCons (mVar 4) mNil))) (mCons (mTup (mCons (mOrX (mVar 9) (mVar 4)) (mCons (mVar 4) mNil))) mNil))))))) (gT 2 (gsC (gN 12) (gsC (gN 13) gsN))) l_law_2 [x0, x1, some (.int (n : Int)), x3, some (zoD (n + 1) Z), x5, x6, x7, x8, some (optZ (n + 1) co), x10, some (zoD (n + 1) A), x12, x13, x14, none, none] H =
      some (.nx [x0, x1, some (.int (n : Int)), x3, some (zoD (n + 1) Z), x5, x6, x7, x8, some (optZ (n + 1) co), x10, some (zoD (n + 1) A), y12, y13, y14, none, none] (H ++ X)) := by
  have la : ∀ H, F_later [zoD (n + 1) Z] H = some (zoD (n + 1) (latM Z), H) := fun H => later_ok (by omega) (by omega) (zn_zo (by omega))
  have go : ∀ (ps : List (Mt × Mt)) (H : AH) (x12 x13 x14 : Option D), ∃ (y12 y13 y14 : Option D) (X : AH), forL [] (gT 2 (gsC (gN 12) (gsC (gN 13) gsN))) l_law_2 (ps.map fun p => D.tup [zoD (n + 1) p.1, zoD (n + 1) p.2]) [x0, x1, some (.int (n : Int)), x3, some (zoD (n + 1) Z), x5, x6, x7, x8, some (optZ (n + 1) co), x10, some (zoD (n + 1) A), x12, x13, x14, none, none] H = some (.nx [x0, x1, some (.int (n : Int)), x3, some (zoD (n + 1) Z), x5, x6, x7, x8, some (optZ (n + 1) co), x10, some (zoD (n + 1) A), y12, y13, y14, none, none] (H ++ X)) := by
    intro ps
    induction ps with
    | nil =>
      intro H x12 x13 x14
      exact ⟨x12, x13, x14, [], by rw [List.map_nil, forL_nil rfl, List.append_nil]⟩
    | cons p ps ih =>
      intro H x12 x13 x14
      have t := pair_turn (n := n) (A := p.1) (Bm := p.2) (x0 := x0) (x1 := x1) (x3 := x3) (x4 := some (zoD (n + 1) Z)) (x5 := x5) (x6 := x6) (x7 := x7) (x8 := x8) (x9 := some (optZ (n + 1) co)) (x10 := x10) (x11 := some (zoD (n + 1) A)) (x14 := x14) (h := H) (by omega)
      obtain ⟨y12, y13, y14, X, e⟩ := ih (H ++ [O.lst (widL n p.1 p.2)]) (some (zoD (n + 1) p.1)) (some (zoD (n + 1) p.2)) (some (.ref H.length))
      refine ⟨y12, y13, y14, [O.lst (widL n p.1 p.2)] ++ X, ?_⟩
      rw [List.map_cons, forL_cons (τ1 := [x0, x1, some (.int (n : Int)), x3, some (zoD (n + 1) Z), x5, x6, x7, x8, some (optZ (n + 1) co), x10, some (zoD (n + 1) A), some (zoD (n + 1) p.1), some (zoD (n + 1) p.2), x14, none, none]) (h1 := H) rfl rfl t, e, List.append_assoc]
  obtain ⟨y12, y13, y14, X, e⟩ := go [(Z, Z), (Z, A), (Z, latM Z), (latM Z, Z), (co.getD Z, Z)] H x12 x13 x14
  refine ⟨y12, y13, y14, X, ?_⟩
  simp only [List.map_cons, List.map_nil] at e
  cases co with
  | none =>
    unfold optZ at e ⊢
    simp only [Option.getD_none] at e
    simp -implicitDefEqProofs (disch := first | assumption | omega | (simp only [List.length_cons, List.length_nil, List.length_map, List.length_set, List.length_append]; omega)) [la]
    exact e
  | some M' =>
    unfold optZ at e ⊢
    simp only [Option.getD_some] at e
    have tr : ∀ H, tru (.val (zoD (n + 1) M')) H = some true := fun H => by
      show some (!(rowsD (n + 1) M').isEmpty) = _
      rw [nz_row]
      rfl
    simp -implicitDefEqProofs (disch := first | assumption | omega | (simp only [List.length_cons, List.length_nil, List.length_map, List.length_set, List.length_append]; omega)) [la, tr]
    exact e
theorem last_ok {H : AH} (h1 : 1 ≤ n) (hn : n ≤ 4) (hm : m ≤ 4) {x1 x2 x3 x5 x6 x7 x9 x10 x11 x12 x13 x14 : Option D} : ∃ H', mRet (mCall (F_law_like 6) (mCons (mCall F_points (mCons (mVar 4) (mCons (mVar 8) mNil))) (mCons (mFn oTuple (mCons (mCall F_law_caps (mCons (mVar 4) (mCons (mVar 8) mNil))) mNil)) mNil))) [x0, x1, x2, x3, some (zoD (n + 1) Z), x5, x6, x7, some (.int (m : Int)), x9, x10, x11, x12, x13, x14, none, none] H = some (.rt (.bl true) H') := by
  have po := points_ok (h := H) (m := m) (n := n) (M := Z) hn h1 hm
  have ca := caps_ok (h := H) (m := m) (n := n) (M := Z) hn hm
  have ll : lvl (n + 1) m Z n = bfs (n + 1) m n 1 [(Z, [])] := by
    have := lvl_bfs (N := n + 1) (m := m) (M := Z) n 0
    simp only [Nat.zero_add] at this
    exact this.symm
  have eq : (lvl (n + 1) m Z n).map ptI = (dfs (n + 1) m n 1 Z []).map tupI := by
    have b := bfs_dfs (N := n + 1) (m := m) n 1 [(Z, [])]
    rw [← ll, List.flatMap_cons, List.flatMap_nil, List.append_nil] at b
    rw [← b, List.map_map]
    rfl
  rw [eq] at ca
  have sm := dfs_small (N := n + 1) (M := Z) (c := 1) (ks := []) hn hm
  have pre : ∀ l ∈ dfs (n + 1) m n 1 Z [], l.length = n := fun l hl => by
    obtain ⟨t, rfl, ht⟩ := dfs_pre _ _ _ _ l hl
    simpa using ht
  have gt : (H ++ [O.lst ((dfs (n + 1) m n 1 Z []).map tupI)])[H.length]? = some (.lst ((dfs (n + 1) m n 1 Z []).map tupI)) := by simp
  generalize dfs (n + 1) m n 1 Z [] = L at *
  have lk : (D.tup (L.map tupI)).lk = true := by
    rw [lk_tup, Bool.and_eq_true]
    refine ⟨lks_of fun d hd => ?_, decide_eq_true (by rw [List.length_map]; omega)⟩
    obtain ⟨l, hl, rfl⟩ := List.mem_map.mp hd
    unfold tupI
    rw [lk_tup, Bool.and_eq_true]
    refine ⟨lks_of fun d hd => ?_, decide_eq_true (by rw [List.length_map, pre l hl]; omega)⟩
    obtain ⟨k, _, rfl⟩ := List.mem_map.mp hd
    unfold D.lk
    rfl
  have dp : (D.tup (L.map tupI)).dep ≤ 2 := by
    rw [dep_tup]
    have : D.deps (L.map tupI) ≤ 1 := deps_le fun d hd => by
      obtain ⟨l, hl, rfl⟩ := List.mem_map.mp hd
      unfold tupI
      rw [dep_tup]
      have : D.deps (l.map D.int) ≤ 0 := deps_le fun d hd => by
        obtain ⟨k, _, rfl⟩ := List.mem_map.mp hd
        unfold D.dep
        omega
      omega
    omega
  have li := like6 (h := H ++ [O.lst (L.map tupI)]) lk dp
  exact ⟨_, by simp -implicitDefEqProofs (disch := first | assumption | omega | (simp only [List.length_cons, List.length_nil, List.length_map, List.length_set, List.length_append]; omega)) [po, ca, gt, li]; exact rfl⟩
end
end Sm
namespace Sm
open PySem PySem.Spec PyProof.Rows L2
theorem gc_blx {h h' : AH} {b : Bool} : ∃ h2, gc h (.bl b) h' = (.bl b, h2) := by
  unfold gc
  split
  · exact ⟨_, rfl⟩
  · exact ⟨_, rfl⟩
theorem law_ok {h : AH} (ns : List Int) : ∃ h', F_law [.fl (ns.map D.int)] h = some (.bl true, h') := by
  obtain ⟨ds, ed⟩ := digits_ok (h := h) (ns := ns)
  have B : Bx (h ++ [.lst (ds.map D.int), .lst [.ref h.length, .int 0]]) (h.length + 1) h.length ds 0 := ⟨by simp, by simp, by omega, by omega⟩
  have s1 : mAsg (gN 1) (mLst (mCons (mCall F_law_digits (mCons (mVar 0) (mCons (mC (.int 0)) (mCons (mC (.int 63)) mNil)))) (mCons (mC (.int 0)) mNil))) [some (.fl (ns.map D.int)), none, none, none, none, none, none, none, none, none, none, none, none, none, none, none, none] h = some (.nx [some (.fl (ns.map D.int)), some (.ref (h.length + 1)), none, none, none, none, none, none, none, none, none, none, none, none, none, none, none] (h ++ [O.lst (ds.map D.int), .lst [.ref h.length, .int 0]])) := by
    simp -implicitDefEqProofs (disch := first | assumption | omega | (simp only [List.length_cons, List.length_nil, List.length_map, List.length_set, List.length_append]; omega)) [ed]
  generalize hH : h ++ [O.lst (ds.map D.int), .lst [.ref h.length, .int 0]] = H at *
  have hs : bset H (h.length + 1) h.length 0 ++ [] = H := by rw [List.append_nil]; exact B.same
  rw [← hs] at s1
  -- many
  have n0 := dr_lo (ds := ds) (p := 0) (m := 4) (by decide)
  have n1 := dr_hi (ds := ds) (p := 0) (m := 4) (by decide)
  have D1 := draw_loc (j := []) (q := 0) (m := 4) B (by omega) (by omega) (by omega)
  obtain ⟨n, en⟩ : ∃ n : Nat, 1 + dr ds 0 4 = (n : Int) := ⟨(1 + dr ds 0 4).toNat, by omega⟩
  have h1 : 1 ≤ n := by omega
  have hn : n ≤ 4 := by omega
  have s2 : mAsg (gN 2) (mBin oAdd (mC (.int 1)) (mCall F_law_draw (mCons (mVar 1) (mCons (mC (.int 4)) mNil)))) [some (.fl (ns.map D.int)), some (.ref (h.length + 1)), none, none, none, none, none, none, none, none, none, none, none, none, none, none, none] (bset H (h.length + 1) h.length 0 ++ []) = some (.nx [some (.fl (ns.map D.int)), some (.ref (h.length + 1)), some (.int (n : Int)), none, none, none, none, none, none, none, none, none, none, none, none, none, none] (bset H (h.length + 1) h.length (0 + 1) ++ [])) := by
    simp -implicitDefEqProofs (disch := first | assumption | omega | (simp only [List.length_cons, List.length_nil, List.length_map, List.length_set, List.length_append]; omega)) [D1, en, -List.append_nil]
  -- zone, due
  obtain ⟨M, q1, a1, a2, e3⟩ := drawn_zone_ok (j := []) (n := n) (q := 0 + 1) B (by omega) hn (by omega)
  have s3 : mAsg (gN 3) (mCall F_law_drawn_zone (mCons (mVar 1) (mCons (mVar 2) mNil))) [some (.fl (ns.map D.int)), some (.ref (h.length + 1)), some (.int (n : Int)), none, none, none, none, none, none, none, none, none, none, none, none, none, none] (bset H (h.length + 1) h.length (0 + 1) ++ []) = some (.nx [some (.fl (ns.map D.int)), some (.ref (h.length + 1)), some (.int (n : Int)), some (zoD (n + 1) M), none, none, none, none, none, none, none, none, none, none, none, none, none] (bset H (h.length + 1) h.length q1 ++ [])) := by
    simp only [Int.zero_add] at e3 ⊢
    simp -implicitDefEqProofs (disch := first | assumption | omega | (simp only [List.length_cons, List.length_nil, List.length_map, List.length_set, List.length_append]; omega)) [e3, -List.append_nil]
  have lt := law_tight_ok (h := bset H (h.length + 1) h.length q1 ++ []) (N := n + 1) (M := M) (by omega) (by omega) (zn_zo (by omega))
  have ti := tight_ok (h := bset H (h.length + 1) h.length q1 ++ []) (N := n + 1) (M := M) (by omega) (by omega) (zn_zo (by omega))
  have s4 : mAsg (gN 4) (mCall F_law_tight (mCons (mVar 3) mNil)) [some (.fl (ns.map D.int)), some (.ref (h.length + 1)), some (.int (n : Int)), some (zoD (n + 1) M), none, none, none, none, none, none, none, none, none, none, none, none, none] (bset H (h.length + 1) h.length q1 ++ []) = some (.nx [some (.fl (ns.map D.int)), some (.ref (h.length + 1)), some (.int (n : Int)), some (zoD (n + 1) M), some (optZ (n + 1) (tgt (n + 1) M)), none, none, none, none, none, none, none, none, none, none, none, none] (bset H (h.length + 1) h.length q1 ++ [])) := by
    simp -implicitDefEqProofs (disch := first | assumption | omega | (simp only [List.length_cons, List.length_nil, List.length_map, List.length_set, List.length_append]; omega)) [lt, -List.append_nil]
  have s5 : mIfS (mNot (mB (mCall (F_law_like 6) (mCons (mCall F_tight (mCons (mVar 3) mNil)) (mCons (mVar 4) mNil))))) (mRet (mC (.bl false))) mPass [some (.fl (ns.map D.int)), some (.ref (h.length + 1)), some (.int (n : Int)), some (zoD (n + 1) M), some (optZ (n + 1) (tgt (n + 1) M)), none, none, none, none, none, none, none, none, none, none, none, none] (bset H (h.length + 1) h.length q1 ++ []) = some (.nx [some (.fl (ns.map D.int)), some (.ref (h.length + 1)), some (.int (n : Int)), some (zoD (n + 1) M), some (optZ (n + 1) (tgt (n + 1) M)), none, none, none, none, none, none, none, none, none, none, none, none] (bset H (h.length + 1) h.length q1 ++ [])) := by
    have li := like_optZ (N := n + 1) (o := tgt (n + 1) M) (h := bset H (h.length + 1) h.length q1 ++ []) (by omega)
    simp -implicitDefEqProofs (disch := first | assumption | omega | (simp only [List.length_cons, List.length_nil, List.length_map, List.length_set, List.length_append]; omega)) [ti, li, -List.append_nil]
  obtain ⟨Z, q2, C, b1, b2, s6⟩ := due_ok (j := []) (n := n) (M := M) (q := q1) (x0 := some (.fl (ns.map D.int))) B (by omega) (by omega) h1 hn
  -- clock, sign, number, most
  have D7 := draw_loc (j := []) (q := q2) (m := (n : Int)) B (by omega) (by omega) (by omega)
  have c0 := dr_lo (ds := ds) (p := q2) (m := (n : Int)) (by omega)
  have c1 := dr_hi (ds := ds) (p := q2) (m := (n : Int)) (by omega)
  obtain ⟨c, ec⟩ : ∃ c : Nat, 1 + dr ds q2 n = (c : Int) := ⟨(1 + dr ds q2 n).toNat, by omega⟩
  have hc0 : 0 < c := by omega
  have hcn : c ≤ n := by omega
  have s7 : mAsg (gN 5) (mBin oAdd (mC (.int 1)) (mCall F_law_draw (mCons (mVar 1) (mCons (mVar 2) mNil)))) [some (.fl (ns.map D.int)), some (.ref (h.length + 1)), some (.int (n : Int)), some (zoD (n + 1) M), some (zoD (n + 1) Z), none, none, none, none, none, none, none, none, none, none, none, none] (bset H (h.length + 1) h.length q2 ++ []) = some (.nx [some (.fl (ns.map D.int)), some (.ref (h.length + 1)), some (.int (n : Int)), some (zoD (n + 1) M), some (zoD (n + 1) Z), some (.int (c : Int)), none, none, none, none, none, none, none, none, none, none, none] (bset H (h.length + 1) h.length (q2 + 1) ++ [])) := by
    simp -implicitDefEqProofs (disch := first | assumption | omega | (simp only [List.length_cons, List.length_nil, List.length_map, List.length_set, List.length_append]; omega)) [D7, ec, -List.append_nil]
  have D8 := draw_loc (j := []) (q := q2 + 1) (m := 2) B (by omega) (by omega) (by omega)
  have g0 := dr_lo (ds := ds) (p := q2 + 1) (m := 2) (by omega)
  have g1 := dr_hi (ds := ds) (p := q2 + 1) (m := 2) (by omega)
  have s8 : mAsg (gN 6) (mBin oIx (mLst (mCons (mC (.str ("<=" : Str))) (mCons (mC (.str (">=" : Str))) mNil))) (mCall F_law_draw (mCons (mVar 1) (mCons (mC (.int 2)) mNil)))) [some (.fl (ns.map D.int)), some (.ref (h.length + 1)), some (.int (n : Int)), some (zoD (n + 1) M), some (zoD (n + 1) Z), some (.int (c : Int)), none, none, none, none, none, none, none, none, none, none, none] (bset H (h.length + 1) h.length (q2 + 1) ++ []) = some (.nx [some (.fl (ns.map D.int)), some (.ref (h.length + 1)), some (.int (n : Int)), some (zoD (n + 1) M), some (zoD (n + 1) Z), some (.int (c : Int)), some (.str (sgS (decide (dr ds (q2 + 1) 2 = 0)))), none, none, none, none, none, none, none, none, none, none] (bset H (h.length + 1) h.length (q2 + 1 + 1) ++ [])) := by
    by_cases z : dr ds (q2 + 1) 2 = 0
    · simp -implicitDefEqProofs (disch := first | assumption | omega | (simp only [List.length_cons, List.length_nil, List.length_map, List.length_set, List.length_append]; omega)) [D8, z, sgS, -List.append_nil]
    · have z1 : dr ds (q2 + 1) 2 = 1 := by omega
      simp -implicitDefEqProofs (disch := first | assumption | omega | (simp only [List.length_cons, List.length_nil, List.length_map, List.length_set, List.length_append]; omega)) [D8, z1, sgS, -List.append_nil]
  generalize decide (dr ds (q2 + 1) 2 = 0) = le at *
  have D9 := draw_loc (j := []) (q := q2 + 1 + 1) (m := 8) B (by omega) (by omega) (by omega)
  generalize dr ds (q2 + 1 + 1) 8 = k at *
  have s9 : mAsg (gN 7) (mCall F_law_draw (mCons (mVar 1) (mCons (mC (.int 8)) mNil))) [some (.fl (ns.map D.int)), some (.ref (h.length + 1)), some (.int (n : Int)), some (zoD (n + 1) M), some (zoD (n + 1) Z), some (.int (c : Int)), some (.str (sgS le)), none, none, none, none, none, none, none, none, none, none] (bset H (h.length + 1) h.length (q2 + 1 + 1) ++ []) = some (.nx [some (.fl (ns.map D.int)), some (.ref (h.length + 1)), some (.int (n : Int)), some (zoD (n + 1) M), some (zoD (n + 1) Z), some (.int (c : Int)), some (.str (sgS le)), some (.int k), none, none, none, none, none, none, none, none, none] (bset H (h.length + 1) h.length (q2 + 1 + 1 + 1) ++ [])) := by
    simp -implicitDefEqProofs (disch := first | assumption | omega | (simp only [List.length_cons, List.length_nil, List.length_map, List.length_set, List.length_append]; omega)) [D9, -List.append_nil]
  obtain ⟨m, hm, s10⟩ : ∃ m : Nat, m ≤ 4 ∧ mAsg (gN 8) (mCall F_law_draw (mCons (mVar 1) (mCons (mIf (mB (mBin oLt (mVar 2) (mC (.int 4)))) (mC (.int 5)) (mC (.int 3))) mNil))) [some (.fl (ns.map D.int)), some (.ref (h.length + 1)), some (.int (n : Int)), some (zoD (n + 1) M), some (zoD (n + 1) Z), some (.int (c : Int)), some (.str (sgS le)), some (.int k), none, none, none, none, none, none, none, none, none] (bset H (h.length + 1) h.length (q2 + 1 + 1 + 1) ++ []) = some (.nx [some (.fl (ns.map D.int)), some (.ref (h.length + 1)), some (.int (n : Int)), some (zoD (n + 1) M), some (zoD (n + 1) Z), some (.int (c : Int)), some (.str (sgS le)), some (.int k), some (.int (m : Int)), none, none, none, none, none, none, none, none] (bset H (h.length + 1) h.length (q2 + 1 + 1 + 1 + 1) ++ [])) := by
    by_cases z : (n : Int) < 4
    · have D10 := draw_loc (j := []) (q := q2 + 1 + 1 + 1) (m := 5) B (by omega) (by omega) (by omega)
      have g0 := dr_lo (ds := ds) (p := q2 + 1 + 1 + 1) (m := 5) (by omega)
      have g1 := dr_hi (ds := ds) (p := q2 + 1 + 1 + 1) (m := 5) (by omega)
      obtain ⟨m, em⟩ := Int.eq_ofNat_of_zero_le g0
      refine ⟨m, by omega, ?_⟩
      rw [em] at D10
      simp -implicitDefEqProofs (disch := first | assumption | omega | (simp only [List.length_cons, List.length_nil, List.length_map, List.length_set, List.length_append]; omega)) [z, D10, -List.append_nil]
    · have D10 := draw_loc (j := []) (q := q2 + 1 + 1 + 1) (m := 3) B (by omega) (by omega) (by omega)
      have g0 := dr_lo (ds := ds) (p := q2 + 1 + 1 + 1) (m := 3) (by omega)
      have g1 := dr_hi (ds := ds) (p := q2 + 1 + 1 + 1) (m := 3) (by omega)
      obtain ⟨m, em⟩ := Int.eq_ofNat_of_zero_le g0
      refine ⟨m, by omega, ?_⟩
      rw [em] at D10
      simp -implicitDefEqProofs (disch := first | assumption | omega | (simp only [List.length_cons, List.length_nil, List.length_map, List.length_set, List.length_append]; omega)) [z, D10, -List.append_nil]
  generalize hq3 : q2 + 1 + 1 + 1 + 1 = q3 at *
  have hG : ∀ G : AH, G = bset H (h.length + 1) h.length q3 ++ [] → ∃ G' : AH, True := fun _ _ => ⟨[], trivial⟩
  -- the operations
  have wc := with_cut (le := le) (c := c) (k := k) (Z := Z) (H := bset H (h.length + 1) h.length q3 ++ []) hn (by omega)
  have s11 : mAsg (gN 9) (mIf (mB (mBin oEq (mVar 6) (mC (.str ("<=" : Str))))) (mCall F_law_with (mCons (mVar 4) (mCons (mVar 5) (mCons (mC (.int 0)) (mCons (mVar 7) mNil))))) (mCall F_law_with (mCons (mVar 4) (mCons (mC (.int 0)) (mCons (mVar 5) (mCons (mBin oSub (mC (.int 0)) (mVar 7)) mNil)))))) [some (.fl (ns.map D.int)), some (.ref (h.length + 1)), some (.int (n : Int)), some (zoD (n + 1) M), some (zoD (n + 1) Z), some (.int (c : Int)), some (.str (sgS le)), some (.int k), some (.int (m : Int)), none, none, none, none, none, none, none, none] (bset H (h.length + 1) h.length q3 ++ []) = some (.nx [some (.fl (ns.map D.int)), some (.ref (h.length + 1)), some (.int (n : Int)), some (zoD (n + 1) M), some (zoD (n + 1) Z), some (.int (c : Int)), some (.str (sgS le)), some (.int k), some (.int (m : Int)), some (optZ (n + 1) (tgt (n + 1) (cutM le Z c k))), none, none, none, none, none, none, none] (bset H (h.length + 1) h.length q3 ++ [])) := by
    cases le with
    | true =>
      rw [if_pos rfl] at wc
      simp -implicitDefEqProofs (disch := first | assumption | omega | (simp only [List.length_cons, List.length_nil, List.length_map, List.length_set, List.length_append]; omega)) [sgS, wc, -List.append_nil]
    | false =>
      rw [if_neg (by decide)] at wc
      simp -implicitDefEqProofs (disch := first | assumption | omega | (simp only [List.length_cons, List.length_nil, List.length_map, List.length_set, List.length_append]; omega)) [sgS, wc, -List.append_nil, -Int.zero_sub]
  have zz : Zn (zoD (n + 1) Z) (bset H (h.length + 1) h.length q3 ++ []) (n + 1) Z := zn_zo (by omega)
  have la := later_ok (by omega) (by omega) zz
  have ll := llater_ok (by omega) (by omega) zz
  have bo := bounded_ok (h := bset H (h.length + 1) h.length q3 ++ []) (N := n + 1) (Z := Z) (le := le) (c := c) (k := k) (by omega) (by omega)
  have re := reset_ok (c := c) (by omega) hc0 (by omega) (by rw [C.z (by omega), C.z (by omega)]) zz
  have lr := lreset_ok (c := c) (by omega) (by omega) zz
  have wi := widened_ok (m := (m : Int)) (by omega) (by omega) zz
  have lw := lwide_ok (m := (m : Int)) (by omega) (by omega) zz
  rw [(tgt_clo (clo_lat C)).1] at ll
  obtain ⟨r1, r2⟩ := fw_lrs C hc0 (by omega : c < n + 1)
  rw [r1, show optZ (n + 1) (some (fw (n + 1) (lrsM c (n + 1) Z))) = zoD (n + 1) (rstM c Z) from zoD_ext r2] at lr
  have l1 := fun o => like_optZ (N := n + 1) (o := o) (h := bset H (h.length + 1) h.length q3 ++ []) (by omega)
  have l2 := fun M => like_zoD (N := n + 1) (M := M) (h := bset H (h.length + 1) h.length q3 ++ []) (by omega)
  have s12 : mIfS (mOr (mNot (mB (mCall (F_law_like 6) (mCons (mCall F_later (mCons (mVar 4) mNil)) (mCons (mCall F_law_later_zone (mCons (mVar 4) mNil)) mNil))))) (mNot (mB (mCall (F_law_like 6) (mCons (mCall F_bounded (mCons (mVar 4) (mCons (mVar 5) (mCons (mVar 6) (mCons (mVar 7) mNil))))) (mCons (mVar 9) mNil)))))) (mRet (mC (.bl false))) mPass [some (.fl (ns.map D.int)), some (.ref (h.length + 1)), some (.int (n : Int)), some (zoD (n + 1) M), some (zoD (n + 1) Z), some (.int (c : Int)), some (.str (sgS le)), some (.int k), some (.int (m : Int)), some (optZ (n + 1) (tgt (n + 1) (cutM le Z c k))), none, none, none, none, none, none, none] (bset H (h.length + 1) h.length q3 ++ []) = some (.nx [some (.fl (ns.map D.int)), some (.ref (h.length + 1)), some (.int (n : Int)), some (zoD (n + 1) M), some (zoD (n + 1) Z), some (.int (c : Int)), some (.str (sgS le)), some (.int k), some (.int (m : Int)), some (optZ (n + 1) (tgt (n + 1) (cutM le Z c k))), none, none, none, none, none, none, none] (bset H (h.length + 1) h.length q3 ++ [])) := by
    simp -implicitDefEqProofs (disch := first | assumption | omega | (simp only [List.length_cons, List.length_nil, List.length_map, List.length_set, List.length_append]; omega)) [la, ll, bo, l1, l2, -List.append_nil]
  have s13 : mIfS (mOr (mNot (mB (mCall (F_law_like 6) (mCons (mCall F_reset (mCons (mVar 4) (mCons (mVar 5) mNil))) (mCons (mCall F_law_reset_zone (mCons (mVar 4) (mCons (mVar 5) mNil))) mNil))))) (mNot (mB (mCall (F_law_like 6) (mCons (mCall F_widened (mCons (mVar 4) (mCons (mVar 8) mNil))) (mCons (mCall F_law_wide (mCons (mVar 4) (mCons (mVar 8) mNil))) mNil)))))) (mRet (mC (.bl false))) mPass [some (.fl (ns.map D.int)), some (.ref (h.length + 1)), some (.int (n : Int)), some (zoD (n + 1) M), some (zoD (n + 1) Z), some (.int (c : Int)), some (.str (sgS le)), some (.int k), some (.int (m : Int)), some (optZ (n + 1) (tgt (n + 1) (cutM le Z c k))), none, none, none, none, none, none, none] (bset H (h.length + 1) h.length q3 ++ []) = some (.nx [some (.fl (ns.map D.int)), some (.ref (h.length + 1)), some (.int (n : Int)), some (zoD (n + 1) M), some (zoD (n + 1) Z), some (.int (c : Int)), some (.str (sgS le)), some (.int k), some (.int (m : Int)), some (optZ (n + 1) (tgt (n + 1) (cutM le Z c k))), none, none, none, none, none, none, none] (bset H (h.length + 1) h.length q3 ++ [])) := by
    simp -implicitDefEqProofs (disch := first | assumption | omega | (simp only [List.length_cons, List.length_nil, List.length_map, List.length_set, List.length_append]; omega)) [re, lr, wi, lw, l1, l2, -List.append_nil]
  obtain ⟨y10, q4, d1, d2, e14⟩ := holds4 (j := []) (q := q3) (le := le) (k := k) (m := m) (x0 := some (.fl (ns.map D.int))) (x2 := some (.int (n : Int))) (x3 := some (zoD (n + 1) M)) (x9 := some (optZ (n + 1) (tgt (n + 1) (cutM le Z c k)))) (x10 := none) B (by omega) (by omega) h1 hn C hc0 hcn
  have s14 : mFor (mRng1 (mCons (mC (.int 4)) mNil)) (gN 10) l_law_1 [some (.fl (ns.map D.int)), some (.ref (h.length + 1)), some (.int (n : Int)), some (zoD (n + 1) M), some (zoD (n + 1) Z), some (.int (c : Int)), some (.str (sgS le)), some (.int k), some (.int (m : Int)), some (optZ (n + 1) (tgt (n + 1) (cutM le Z c k))), none, none, none, none, none, none, none] (bset H (h.length + 1) h.length q3 ++ []) = some (.nx [some (.fl (ns.map D.int)), some (.ref (h.length + 1)), some (.int (n : Int)), some (zoD (n + 1) M), some (zoD (n + 1) Z), some (.int (c : Int)), some (.str (sgS le)), some (.int k), some (.int (m : Int)), some (optZ (n + 1) (tgt (n + 1) (cutM le Z c k))), y10, none, none, none, none, none, none] (bset H (h.length + 1) h.length q4 ++ [])) := by
    simp -implicitDefEqProofs (disch := first | assumption | omega | (simp only [List.length_cons, List.length_nil, List.length_map, List.length_set, List.length_append]; omega)) [e14, -List.append_nil]
  obtain ⟨A, q5, f1, f2, e15⟩ := drawn_zone_ok (j := []) (n := n) (q := q4) B (by omega) hn (by omega)
  have s15 : mAsg (gN 11) (mCall F_law_drawn_zone (mCons (mVar 1) (mCons (mVar 2) mNil))) [some (.fl (ns.map D.int)), some (.ref (h.length + 1)), some (.int (n : Int)), some (zoD (n + 1) M), some (zoD (n + 1) Z), some (.int (c : Int)), some (.str (sgS le)), some (.int k), some (.int (m : Int)), some (optZ (n + 1) (tgt (n + 1) (cutM le Z c k))), y10, none, none, none, none, none, none] (bset H (h.length + 1) h.length q4 ++ []) = some (.nx [some (.fl (ns.map D.int)), some (.ref (h.length + 1)), some (.int (n : Int)), some (zoD (n + 1) M), some (zoD (n + 1) Z), some (.int (c : Int)), some (.str (sgS le)), some (.int k), some (.int (m : Int)), some (optZ (n + 1) (tgt (n + 1) (cutM le Z c k))), y10, some (zoD (n + 1) A), none, none, none, none, none] (bset H (h.length + 1) h.length q5 ++ [])) := by
    simp -implicitDefEqProofs (disch := first | assumption | omega | (simp only [List.length_cons, List.length_nil, List.length_map, List.length_set, List.length_append]; omega)) [e15, -List.append_nil]
  obtain ⟨y12, y13, y14, X, s16⟩ := pairs_ok (n := n) (Z := Z) (A := A) (co := tgt (n + 1) (cutM le Z c k)) (H := bset H (h.length + 1) h.length q5 ++ []) (x0 := some (.fl (ns.map D.int))) (x1 := some (.ref (h.length + 1))) (x3 := some (zoD (n + 1) M)) (x5 := some (.int (c : Int))) (x6 := some (.str (sgS le))) (x7 := some (.int k)) (x8 := some (.int (m : Int))) (x10 := y10) (x12 := none) (x13 := none) (x14 := none) hn
  obtain ⟨H', s17⟩ := last_ok (n := n) (m := m) (Z := Z) (H := bset H (h.length + 1) h.length q5 ++ [] ++ X) (x0 := some (.fl (ns.map D.int))) (x1 := some (.ref (h.length + 1))) (x2 := some (.int (n : Int))) (x3 := some (zoD (n + 1) M)) (x5 := some (.int (c : Int))) (x6 := some (.str (sgS le))) (x7 := some (.int k)) (x9 := some (optZ (n + 1) (tgt (n + 1) (cutM le Z c k)))) (x10 := y10) (x11 := some (zoD (n + 1) A)) (x12 := y12) (x13 := y13) (x14 := y14) h1 hn hm
  obtain ⟨h2, e4⟩ := gc_blx (h := h) (h' := H') (b := true)
  refine ⟨h2, ?_⟩
  have all : b_law [some (.fl (ns.map D.int)), none, none, none, none, none, none, none, none, none, none, none, none, none, none, none, none] h = some (.rt (.bl true) H') := by
    unfold b_law
    rw [mSeq_eq, s1, seqK_nx, mSeq_eq, s2, seqK_nx, mSeq_eq, s3, seqK_nx, mSeq_eq, s4, seqK_nx, mSeq_eq, s5, seqK_nx, mSeq_eq, s6, seqK_nx, mSeq_eq, s7, seqK_nx, mSeq_eq, s8, seqK_nx, mSeq_eq, s9, seqK_nx, mSeq_eq, s10, seqK_nx, mSeq_eq, s11, seqK_nx, mSeq_eq, s12, seqK_nx, mSeq_eq, s13, seqK_nx, mSeq_eq, s14, seqK_nx, mSeq_eq, s15, seqK_nx, mSeq_eq, s16, seqK_nx, s17]
  unfold F_law
  rw [runDef_if, if_pos (show [D.fl (ns.map D.int)].length = 1 from rfl)]
  show defK (b_law [some (.fl (ns.map D.int)), none, none, none, none, none, none, none, none, none, none, none, none, none, none, none, none] h) _ = _
  rw [all, defK_rt, e4]
end Sm
namespace Sm
open PySem PySem.Spec PyProof.Rows L2
def topS (i : Nat) : Stmt := PySem.Challenge.pw_allroads_k69_zones_of_points.main.body.getD i (.Pass ⟨0, 0, 0, 0⟩)
structure Tx (K : PySem.W.Frag) (mg : Str → Option Value) (w : World) where
  f_less_of : Addr
  d_less_of : FuncData
  F_less_of : Fun K "less_of" "less_of" (topS 1) f_less_of d_less_of
  b_less_of : Binds K d_less_of ["one", "other"] []
  m_less_of : mg "less_of" = some (.ref f_less_of)
  f_sum_of : Addr
  d_sum_of : FuncData
  F_sum_of : Fun K "sum_of" "sum_of" (topS 2) f_sum_of d_sum_of
  b_sum_of : Binds K d_sum_of ["one", "other"] []
  m_sum_of : mg "sum_of" = some (.ref f_sum_of)
  f_tight_rows : Addr
  d_tight_rows : FuncData
  F_tight_rows : Fun K "tight_rows" "tight_rows" (topS 3) f_tight_rows d_tight_rows
  b_tight_rows : Binds K d_tight_rows ["zone"] []
  m_tight_rows : mg "tight_rows" = some (.ref f_tight_rows)
  f_tight : Addr
  d_tight : FuncData
  F_tight : Fun K "tight" "tight" (topS 4) f_tight d_tight
  b_tight : Binds K d_tight ["zone"] []
  m_tight : mg "tight" = some (.ref f_tight)
  f_later : Addr
  d_later : FuncData
  F_later : Fun K "later" "later" (topS 5) f_later d_later
  b_later : Binds K d_later ["zone"] []
  m_later : mg "later" = some (.ref f_later)
  f_bounded : Addr
  d_bounded : FuncData
  F_bounded : Fun K "bounded" "bounded" (topS 6) f_bounded d_bounded
  b_bounded : Binds K d_bounded ["zone", "clock", "sign", "number"] []
  m_bounded : mg "bounded" = some (.ref f_bounded)
  f_reset : Addr
  d_reset : FuncData
  F_reset : Fun K "reset" "reset" (topS 7) f_reset d_reset
  b_reset : Binds K d_reset ["zone", "clock"] []
  m_reset : mg "reset" = some (.ref f_reset)
  f_widened : Addr
  d_widened : FuncData
  F_widened : Fun K "widened" "widened" (topS 8) f_widened d_widened
  b_widened : Binds K d_widened ["zone", "most"] []
  m_widened : mg "widened" = some (.ref f_widened)
  f_has_point : Addr
  d_has_point : FuncData
  F_has_point : Fun K "has_point" "has_point" (topS 9) f_has_point d_has_point
  b_has_point : Binds K d_has_point ["zone", "point"] []
  m_has_point : mg "has_point" = some (.ref f_has_point)
  f_within : Addr
  d_within : FuncData
  F_within : Fun K "within" "within" (topS 10) f_within d_within
  b_within : Binds K d_within ["one", "other"] []
  m_within : mg "within" = some (.ref f_within)
  f_gather : Addr
  d_gather : FuncData
  F_gather : Fun K "gather" "gather" (topS 12) f_gather d_gather
  b_gather : Binds K d_gather ["zone", "most", "clock", "ahead", "found"] []
  m_gather : mg "gather" = some (.ref f_gather)
  f_points : Addr
  d_points : FuncData
  F_points : Fun K "points" "points" (topS 11) f_points d_points
  b_points : Binds K d_points ["zone", "most"] []
  m_points : mg "points" = some (.ref f_points)
  f_law_cell : Addr
  d_law_cell : FuncData
  F_law_cell : Fun K "_law_cell" "_law_cell" (topS 14) f_law_cell d_law_cell
  b_law_cell : Binds K d_law_cell ["script", "k"] []
  m_law_cell : mg "_law_cell" = some (.ref f_law_cell)
  f_law_digits : Addr
  d_law_digits : FuncData
  F_law_digits : Fun K "_law_digits" "_law_digits" (topS 15) f_law_digits d_law_digits
  b_law_digits : Binds K d_law_digits ["script", "first", "last"] []
  m_law_digits : mg "_law_digits" = some (.ref f_law_digits)
  f_law_draw : Addr
  d_law_draw : FuncData
  F_law_draw : Fun K "_law_draw" "_law_draw" (topS 16) f_law_draw d_law_draw
  b_law_draw : Binds K d_law_draw ["box", "many"] []
  m_law_draw : mg "_law_draw" = some (.ref f_law_draw)
  f_law_like : Addr
  d_law_like : FuncData
  F_law_like : Fun K "_law_like" "_law_like" (topS 17) f_law_like d_law_like
  b_law_like : Binds K d_law_like ["actual", "due"] []
  m_law_like : mg "_law_like" = some (.ref f_law_like)
  f_law_less : Addr
  d_law_less : FuncData
  F_law_less : Fun K "_law_less" "_law_less" (topS 18) f_law_less d_law_less
  b_law_less : Binds K d_law_less ["one", "other"] []
  m_law_less : mg "_law_less" = some (.ref f_law_less)
  f_law_tight : Addr
  d_law_tight : FuncData
  F_law_tight : Fun K "_law_tight" "_law_tight" (topS 19) f_law_tight d_law_tight
  b_law_tight : Binds K d_law_tight ["zone"] []
  m_law_tight : mg "_law_tight" = some (.ref f_law_tight)
  f_law_with : Addr
  d_law_with : FuncData
  F_law_with : Fun K "_law_with" "_law_with" (topS 20) f_law_with d_law_with
  b_law_with : Binds K d_law_with ["zone", "i", "j", "bound"] []
  m_law_with : mg "_law_with" = some (.ref f_law_with)
  f_law_later_zone : Addr
  d_law_later_zone : FuncData
  F_law_later_zone : Fun K "_law_later_zone" "_law_later_zone" (topS 21) f_law_later_zone d_law_later_zone
  b_law_later_zone : Binds K d_law_later_zone ["zone"] []
  m_law_later_zone : mg "_law_later_zone" = some (.ref f_law_later_zone)
  f_law_reset_zone : Addr
  d_law_reset_zone : FuncData
  F_law_reset_zone : Fun K "_law_reset_zone" "_law_reset_zone" (topS 22) f_law_reset_zone d_law_reset_zone
  b_law_reset_zone : Binds K d_law_reset_zone ["zone", "clock"] []
  m_law_reset_zone : mg "_law_reset_zone" = some (.ref f_law_reset_zone)
  f_law_wide : Addr
  d_law_wide : FuncData
  F_law_wide : Fun K "_law_wide" "_law_wide" (topS 23) f_law_wide d_law_wide
  b_law_wide : Binds K d_law_wide ["zone", "most"] []
  m_law_wide : mg "_law_wide" = some (.ref f_law_wide)
  f_law_caps : Addr
  d_law_caps : FuncData
  F_law_caps : Fun K "_law_caps" "_law_caps" (topS 24) f_law_caps d_law_caps
  b_law_caps : Binds K d_law_caps ["zone", "most"] []
  m_law_caps : mg "_law_caps" = some (.ref f_law_caps)
  f_law_drawn_zone : Addr
  d_law_drawn_zone : FuncData
  F_law_drawn_zone : Fun K "_law_drawn_zone" "_law_drawn_zone" (topS 25) f_law_drawn_zone d_law_drawn_zone
  b_law_drawn_zone : Binds K d_law_drawn_zone ["box", "many"] []
  m_law_drawn_zone : mg "_law_drawn_zone" = some (.ref f_law_drawn_zone)
  f_law_in_zone : Addr
  d_law_in_zone : FuncData
  F_law_in_zone : Fun K "_law_in_zone" "_law_in_zone" (topS 26) f_law_in_zone d_law_in_zone
  b_law_in_zone : Binds K d_law_in_zone ["zone", "point"] []
  m_law_in_zone : mg "_law_in_zone" = some (.ref f_law_in_zone)
  f_law_holds_of : Addr
  d_law_holds_of : FuncData
  F_law_holds_of : Fun K "_law_holds_of" "_law_holds_of" (topS 27) f_law_holds_of d_law_holds_of
  b_law_holds_of : Binds K d_law_holds_of ["box", "zone", "clock", "sign", "number", "most"] []
  m_law_holds_of : mg "_law_holds_of" = some (.ref f_law_holds_of)
  f_law : Addr
  d_law : FuncData
  F_law : Fun K "law" "law" (topS 28) f_law d_law
  b_law : Binds K d_law ["script"] []
  m_law : mg "law" = some (.ref f_law)
  z_all : mg "all" = none
  z_bool : mg "bool" = none
  z_enumerate : mg "enumerate" = none
  z_int : mg "int" = none
  z_isinstance : mg "isinstance" = none
  z_len : mg "len" = none
  z_list : mg "list" = none
  z_max : mg "max" = none
  z_min : mg "min" = none
  z_range : mg "range" = none
  z_sorted : mg "sorted" = none
  z_str : mg "str" = none
  z_tuple : mg "tuple" = none
  z_zip : mg "zip" = none
section
variable {P : Program} {w : World} {K : PySem.W.Frag} {mg : Str → Option Value} {base : Heap}
theorem sc_less_of : FnScope ["one", "other"] ["one", "other"] (defScope (topS 1)) := ⟨rfl, rfl, rfl, by decide +kernel, rfl, by decide +kernel, by decide +kernel⟩
theorem ok_less_of (T : Tx K mg w) : FnOk P w K mg base CX0 1 T.f_less_of T.d_less_of ["one", "other"] (spF w K 2 F_less_of) :=
  fn_sem (k := 0) T.F_less_of sc_less_of rfl rfl fun cdv A outer s H E hr =>
  (jb_cons (js_if (JW.t (jw_or (jt_c c_is (je_var 0) je_non) (jw_or1 (jt_c c_is (je_var 1) je_non)))) (jb_one (js_ret (je_if (jt_c c_is (je_var 0) je_non) (je_var 1) (je_var 0)))) jb_nil) (jb_one (js_ret (je_min rfl (by rfl) T.z_min (ja_cons (je_var 0) (ja_cons (je_var 1) ja_nil))))))
theorem sc_sum_of : FnScope ["one", "other"] ["one", "other"] (defScope (topS 2)) := ⟨rfl, rfl, rfl, by decide +kernel, rfl, by decide +kernel, by decide +kernel⟩
theorem ok_sum_of (T : Tx K mg w) : FnOk P w K mg base CX0 1 T.f_sum_of T.d_sum_of ["one", "other"] (spF w K 2 F_sum_of) :=
  fn_sem (k := 0) T.F_sum_of sc_sum_of rfl rfl fun cdv A outer s H E hr =>
  (jb_one (js_ret (je_if (JW.t (jw_or (jt_c c_is (je_var 0) je_non) (jw_or1 (jt_c c_is (je_var 1) je_non)))) je_non (je_add (je_var 0) (je_var 1)))))
theorem sc_tight_rows : FnScope ["zone", "many", "rows", "at", "middle", "one", "row", "other", "through"] ["zone"] (defScope (topS 3)) := ⟨rfl, rfl, rfl, by decide +kernel, rfl, by decide +kernel, by decide +kernel⟩
theorem ok_tight_rows (T : Tx K mg w) : FnOk P w K mg base CX0 2 T.f_tight_rows T.d_tight_rows ["zone"] (spF w K 1 F_tight_rows) :=
  fn_sem (k := 1) T.F_tight_rows sc_tight_rows rfl rfl fun cdv A outer s H E hr =>
  (jb_cons (js_set (i := 1) sc_tight_rows.nd rfl (by first | exact .inl rfl | exact .inr rfl) (je_len (by rfl) T.z_len (ja_cons (je_var 0) ja_nil))) (jb_cons (js_set (i := 2) sc_tight_rows.nd rfl (by first | exact .inl rfl | exact .inr rfl) (je_comp (own := [(("row" : Str), 6)]) rfl sc_tight_rows.nd (ji_seq (je_var 0)) (blkOk_by (by kernel_rfl)) (fun _ _ _ _ _ => (jg_name (i := 6) sc_tight_rows.nd rfl (by first | exact .inl rfl | exact .inr rfl) (by decide))) (fun _ _ _ _ _ => jts_nil) (fun _ _ _ _ _ => (je_list (by rfl) T.z_list (ja_cons (je_var 6) ja_nil))))) (jb_cons (js_for (vs := [3]) PassesOwn.never rfl (ji_rng1 (by rfl) T.z_range (ja_cons (je_var 1) ja_nil)) (jg_name (i := 3) sc_tight_rows.nd rfl (by first | exact .inl rfl | exact .inr rfl) (by decide)) (jb_cons (js_asg (vs := []) (je_call (ok_less_of T) (hr.mono (by decide)) (by rfl) T.m_less_of T.F_less_of.kp T.b_less_of (ja_cons (je_at (je_at (je_var 2) (je_var 3)) (je_var 3)) (ja_cons je_int ja_nil)) (lenA_cons (lenA_cons lenA_nil)) rfl) (jg_sub (je_at (je_var 2) (je_var 3)) (je_var 3))) (jb_one (js_asg (vs := []) (je_call (ok_less_of T) (hr.mono (by decide)) (by rfl) T.m_less_of T.F_less_of.kp T.b_less_of (ja_cons (je_at (je_at (je_var 2) je_int) (je_var 3)) (ja_cons je_int ja_nil)) (lenA_cons (lenA_cons lenA_nil)) rfl) (jg_sub (je_at (je_var 2) je_int) (je_var 3)))))) (jb_cons (js_for (vs := [4]) PassesOwn.never rfl (ji_rng1 (by rfl) T.z_range (ja_cons (je_var 1) ja_nil)) (jg_name (i := 4) sc_tight_rows.nd rfl (by first | exact .inl rfl | exact .inr rfl) (by decide)) (jb_one (js_for (vs := [5]) PassesOwn.never rfl (ji_rng1 (by rfl) T.z_range (ja_cons (je_var 1) ja_nil)) (jg_name (i := 5) sc_tight_rows.nd rfl (by first | exact .inl rfl | exact .inr rfl) (by decide)) (jb_one (js_for (vs := [7]) PassesOwn.never rfl (ji_rng1 (by rfl) T.z_range (ja_cons (je_var 1) ja_nil)) (jg_name (i := 7) sc_tight_rows.nd rfl (by first | exact .inl rfl | exact .inr rfl) (by decide)) (jb_cons (js_set (i := 8) sc_tight_rows.nd rfl (by first | exact .inl rfl | exact .inr rfl) (je_call (ok_sum_of T) (hr.mono (by decide)) (by rfl) T.m_sum_of T.F_sum_of.kp T.b_sum_of (ja_cons (je_at (je_at (je_var 2) (je_var 5)) (je_var 4)) (ja_cons (je_at (je_at (je_var 2) (je_var 4)) (je_var 7)) ja_nil)) (lenA_cons (lenA_cons lenA_nil)) rfl)) (jb_one (js_asg (vs := []) (je_call (ok_less_of T) (hr.mono (by decide)) (by rfl) T.m_less_of T.F_less_of.kp T.b_less_of (ja_cons (je_at (je_at (je_var 2) (je_var 5)) (je_var 7)) (ja_cons (je_var 8) ja_nil)) (lenA_cons (lenA_cons lenA_nil)) rfl) (jg_sub (je_at (je_var 2) (je_var 5)) (je_var 7)))))))))) (jb_one (js_ret (je_if (jt_val (je_all rfl (by rfl) T.z_all (ja_cons (je_comp (own := [(("at" : Str), 3)]) rfl sc_tight_rows.nd (ji_rng1 (by rfl) T.z_range (ja_cons (je_var 1) ja_nil)) (blkOk_by (by kernel_rfl)) (fun _ _ _ _ _ => (jg_name (i := 3) sc_tight_rows.nd rfl (by first | exact .inl rfl | exact .inr rfl) (by decide))) (fun _ _ _ _ _ => jts_nil) (fun _ _ _ _ _ => (je_c (c_eq hr) (je_at (je_at (je_var 2) (je_var 3)) (je_var 3)) je_int))) ja_nil))) (je_var 2) je_non)))))))
theorem sc_tight : FnScope ["zone", "rows", "row"] ["zone"] (defScope (topS 4)) := ⟨rfl, rfl, rfl, by decide +kernel, rfl, by decide +kernel, by decide +kernel⟩
theorem ok_tight (T : Tx K mg w) : FnOk P w K mg base CX0 3 T.f_tight T.d_tight ["zone"] (spF w K 1 F_tight) :=
  fn_sem (k := 2) T.F_tight sc_tight rfl rfl fun cdv A outer s H E hr =>
  (jb_cons (js_set (i := 1) sc_tight.nd rfl (by first | exact .inl rfl | exact .inr rfl) (je_call (ok_tight_rows T) (hr.mono (by decide)) (by rfl) T.m_tight_rows T.F_tight_rows.kp T.b_tight_rows (ja_cons (je_var 0) ja_nil) (lenA_cons lenA_nil) rfl)) (jb_one (js_ret (je_if (jt_c c_is (je_var 1) je_non) je_non (je_tuple (by rfl) T.z_tuple (ja_cons (je_comp (own := [(("row" : Str), 2)]) rfl sc_tight.nd (ji_seq (je_var 1)) (blkOk_by (by kernel_rfl)) (fun _ _ _ _ _ => (jg_name (i := 2) sc_tight.nd rfl (by first | exact .inl rfl | exact .inr rfl) (by decide))) (fun _ _ _ _ _ => jts_nil) (fun _ _ _ _ _ => (je_tuple (by rfl) T.z_tuple (ja_cons (je_var 2) ja_nil)))) ja_nil))))))
theorem sc_later : FnScope ["zone", "rows", "at", "row"] ["zone"] (defScope (topS 5)) := ⟨rfl, rfl, rfl, by decide +kernel, rfl, by decide +kernel, by decide +kernel⟩
theorem ok_later (T : Tx K mg w) : FnOk P w K mg base CX0 1 T.f_later T.d_later ["zone"] (spF w K 1 F_later) :=
  fn_sem (k := 0) T.F_later sc_later rfl rfl fun cdv A outer s H E hr =>
  (jb_cons (js_setComp (i := 1) (own := [(("row" : Str), 3)]) rfl sc_later.nd rfl rfl (sw_true rfl rfl rfl (by decide +kernel)) (ji_seq (je_var 0)) (blkOk_by (by kernel_rfl)) (fun _ _ _ _ _ => (jg_name (i := 3) sc_later.nd rfl (by first | exact .inl rfl | exact .inr rfl) (by decide))) (fun _ _ _ _ _ => jts_nil) (fun _ _ _ _ _ => (je_list (by rfl) T.z_list (ja_cons (je_var 3) ja_nil)))) (jb_cons (js_for (vs := [2]) PassesOwn.never rfl (ji_rng2 (by rfl) T.z_range (ja_cons je_int (ja_cons (je_len (by rfl) T.z_len (ja_cons (je_var 1) ja_nil)) ja_nil))) (jg_name (i := 2) sc_later.nd rfl (by first | exact .inl rfl | exact .inr rfl) (by decide)) (jb_one (js_asg (vs := []) je_non (jg_sub (je_at (je_var 1) (je_var 2)) je_int)))) (jb_one (js_ret (je_tuple (by rfl) T.z_tuple (ja_cons (je_comp (own := [(("row" : Str), 3)]) rfl sc_later.nd (ji_seq (je_var 1)) (blkOk_by (by kernel_rfl)) (fun _ _ _ _ _ => (jg_name (i := 3) sc_later.nd rfl (by first | exact .inl rfl | exact .inr rfl) (by decide))) (fun _ _ _ _ _ => jts_nil) (fun _ _ _ _ _ => (je_tuple (by rfl) T.z_tuple (ja_cons (je_var 3) ja_nil)))) ja_nil))))))
theorem sc_bounded : FnScope ["zone", "clock", "sign", "number", "rows", "row"] ["zone", "clock", "sign", "number"] (defScope (topS 6)) := ⟨rfl, rfl, rfl, by decide +kernel, rfl, by decide +kernel, by decide +kernel⟩
theorem ok_bounded (T : Tx K mg w) : FnOk P w K mg base CX0 4 T.f_bounded T.d_bounded ["zone", "clock", "sign", "number"] (spF w K 4 F_bounded) :=
  fn_sem (k := 3) T.F_bounded sc_bounded rfl rfl fun cdv A outer s H E hr =>
  (jb_cons (js_setComp (i := 4) (own := [(("row" : Str), 5)]) rfl sc_bounded.nd rfl rfl (sw_true rfl rfl rfl (by decide +kernel)) (ji_seq (je_var 0)) (blkOk_by (by kernel_rfl)) (fun _ _ _ _ _ => (jg_name (i := 5) sc_bounded.nd rfl (by first | exact .inl rfl | exact .inr rfl) (by decide))) (fun _ _ _ _ _ => jts_nil) (fun _ _ _ _ _ => (je_list (by rfl) T.z_list (ja_cons (je_var 5) ja_nil)))) (jb_cons (js_if (jt_c (c_eq hr) (je_var 2) je_str) (jb_one (js_asg (vs := []) (je_call (ok_less_of T) (hr.mono (by decide)) (by rfl) T.m_less_of T.F_less_of.kp T.b_less_of (ja_cons (je_at (je_at (je_var 4) (je_var 1)) je_int) (ja_cons (je_var 3) ja_nil)) (lenA_cons (lenA_cons lenA_nil)) rfl) (jg_sub (je_at (je_var 4) (je_var 1)) je_int))) (jb_one (js_asg (vs := []) (je_call (ok_less_of T) (hr.mono (by decide)) (by rfl) T.m_less_of T.F_less_of.kp T.b_less_of (ja_cons (je_at (je_at (je_var 4) je_int) (je_var 1)) (ja_cons (je_sub je_int (je_var 3)) ja_nil)) (lenA_cons (lenA_cons lenA_nil)) rfl) (jg_sub (je_at (je_var 4) je_int) (je_var 1))))) (jb_one (js_ret (je_call (ok_tight T) (hr.mono (by decide)) (by rfl) T.m_tight T.F_tight.kp T.b_tight (ja_cons (je_var 4) ja_nil) (lenA_cons lenA_nil) rfl)))))
theorem sc_reset : FnScope ["zone", "clock", "rows", "at", "row"] ["zone", "clock"] (defScope (topS 7)) := ⟨rfl, rfl, rfl, by decide +kernel, rfl, by decide +kernel, by decide +kernel⟩
theorem ok_reset (T : Tx K mg w) : FnOk P w K mg base CX0 1 T.f_reset T.d_reset ["zone", "clock"] (spF w K 2 F_reset) :=
  fn_sem (k := 0) T.F_reset sc_reset rfl rfl fun cdv A outer s H E hr =>
  (jb_cons (js_setComp (i := 2) (own := [(("row" : Str), 4)]) rfl sc_reset.nd rfl rfl (sw_true rfl rfl rfl (by decide +kernel)) (ji_seq (je_var 0)) (blkOk_by (by kernel_rfl)) (fun _ _ _ _ _ => (jg_name (i := 4) sc_reset.nd rfl (by first | exact .inl rfl | exact .inr rfl) (by decide))) (fun _ _ _ _ _ => jts_nil) (fun _ _ _ _ _ => (je_list (by rfl) T.z_list (ja_cons (je_var 4) ja_nil)))) (jb_cons (js_for (vs := [3]) PassesOwn.never rfl (ji_rng1 (by rfl) T.z_range (ja_cons (je_len (by rfl) T.z_len (ja_cons (je_var 2) ja_nil)) ja_nil)) (jg_name (i := 3) sc_reset.nd rfl (by first | exact .inl rfl | exact .inr rfl) (by decide)) (jb_one (js_if (jt_c (c_ne hr) (je_var 3) (je_var 1)) (jb_cons (js_asg (vs := []) (je_at (je_at (je_var 2) je_int) (je_var 3)) (jg_sub (je_at (je_var 2) (je_var 1)) (je_var 3))) (jb_one (js_asg (vs := []) (je_at (je_at (je_var 2) (je_var 3)) je_int) (jg_sub (je_at (je_var 2) (je_var 3)) (je_var 1))))) jb_nil))) (jb_one (js_ret (je_tuple (by rfl) T.z_tuple (ja_cons (je_comp (own := [(("row" : Str), 4)]) rfl sc_reset.nd (ji_seq (je_var 2)) (blkOk_by (by kernel_rfl)) (fun _ _ _ _ _ => (jg_name (i := 4) sc_reset.nd rfl (by first | exact .inl rfl | exact .inr rfl) (by decide))) (fun _ _ _ _ _ => jts_nil) (fun _ _ _ _ _ => (je_tuple (by rfl) T.z_tuple (ja_cons (je_var 4) ja_nil)))) ja_nil))))))
theorem sc_widened : FnScope ["zone", "most", "rows", "one", "other", "row", "bound"] ["zone", "most"] (defScope (topS 8)) := ⟨rfl, rfl, rfl, by decide +kernel, rfl, by decide +kernel, by decide +kernel⟩
theorem ok_widened (T : Tx K mg w) : FnOk P w K mg base CX0 4 T.f_widened T.d_widened ["zone", "most"] (spF w K 2 F_widened) :=
  fn_sem (k := 3) T.F_widened sc_widened rfl rfl fun cdv A outer s H E hr =>
  (jb_cons (js_setComp (i := 2) (own := [(("row" : Str), 5)]) rfl sc_widened.nd rfl rfl (sw_true rfl rfl rfl (by decide +kernel)) (ji_seq (je_var 0)) (blkOk_by (by kernel_rfl)) (fun _ _ _ _ _ => (jg_name (i := 5) sc_widened.nd rfl (by first | exact .inl rfl | exact .inr rfl) (by decide))) (fun _ _ _ _ _ => jts_nil) (fun _ _ _ _ _ => (je_list (by rfl) T.z_list (ja_cons (je_var 5) ja_nil)))) (jb_cons (js_for (vs := [3]) PassesOwn.never rfl (ji_rng1 (by rfl) T.z_range (ja_cons (je_len (by rfl) T.z_len (ja_cons (je_var 2) ja_nil)) ja_nil)) (jg_name (i := 3) sc_widened.nd rfl (by first | exact .inl rfl | exact .inr rfl) (by decide)) (jb_one (js_for (vs := [4]) PassesOwn.never rfl (ji_rng1 (by rfl) T.z_range (ja_cons (je_len (by rfl) T.z_len (ja_cons (je_var 2) ja_nil)) ja_nil)) (jg_name (i := 4) sc_widened.nd rfl (by first | exact .inl rfl | exact .inr rfl) (by decide)) (jb_cons (js_set (i := 6) sc_widened.nd rfl (by first | exact .inl rfl | exact .inr rfl) (je_at (je_at (je_var 2) (je_var 3)) (je_var 4))) (jb_one (js_if (JW.t (jw_and (jt_c (c_ne hr) (je_var 3) (je_var 4)) (jw_and1 (jt_c c_isnot (je_var 6) je_non)))) (jb_one (js_if (jt_c c_gt (je_var 6) (je_var 1)) (jb_one (js_asg (vs := []) je_non (jg_sub (je_at (je_var 2) (je_var 3)) (je_var 4)))) (jb_one (js_if (jt_c c_lt (je_var 6) (je_sub (je_sub je_int (je_var 1)) je_int)) (jb_one (js_asg (vs := []) (je_sub (je_sub je_int (je_var 1)) je_int) (jg_sub (je_at (je_var 2) (je_var 3)) (je_var 4)))) jb_nil)))) jb_nil)))))) (jb_one (js_ret (je_call (ok_tight T) (hr.mono (by decide)) (by rfl) T.m_tight T.F_tight.kp T.b_tight (ja_cons (je_var 2) ja_nil) (lenA_cons lenA_nil) rfl)))))
theorem sc_has_point : FnScope ["zone", "point", "numbers", "one", "row", "other", "bound"] ["zone", "point"] (defScope (topS 9)) := ⟨rfl, rfl, rfl, by decide +kernel, rfl, by decide +kernel, by decide +kernel⟩
theorem ok_has_point (T : Tx K mg w) : FnOk P w K mg base CX0 1 T.f_has_point T.d_has_point ["zone", "point"] (spF w K 2 F_has_point) :=
  fn_sem (k := 0) T.F_has_point sc_has_point rfl rfl fun cdv A outer s H E hr =>
  (jb_cons (js_set (i := 2) sc_has_point.nd rfl (by first | exact .inl rfl | exact .inr rfl) (je_add (je_tup (ja_cons je_int ja_nil)) (je_var 1))) (jb_cons (js_for (vs := [3, 4]) PassesOwn.never rfl (ji_enum (by rfl) T.z_enumerate (ja_cons (je_var 0) ja_nil)) (jg_tup rfl (jgs_cons (jg_name (i := 3) sc_has_point.nd rfl (by first | exact .inl rfl | exact .inr rfl) (by decide)) (jgs_cons (jg_name (i := 4) sc_has_point.nd rfl (by first | exact .inl rfl | exact .inr rfl) (by decide)) jgs_nil))) (jb_one (js_for (vs := [5, 6]) PassesOwn.never rfl (ji_enum (by rfl) T.z_enumerate (ja_cons (je_var 4) ja_nil)) (jg_tup rfl (jgs_cons (jg_name (i := 5) sc_has_point.nd rfl (by first | exact .inl rfl | exact .inr rfl) (by decide)) (jgs_cons (jg_name (i := 6) sc_has_point.nd rfl (by first | exact .inl rfl | exact .inr rfl) (by decide)) jgs_nil))) (jb_one (js_if (JW.t (jw_and (jt_c c_isnot (je_var 6) je_non) (jw_and1 (jt_c c_gt (je_sub (je_at (je_var 2) (je_var 3)) (je_at (je_var 2) (je_var 5))) (je_var 6))))) (jb_one (js_ret je_bl)) jb_nil))))) (jb_one (js_ret je_bl))))
theorem sc_within : FnScope ["one", "other", "first", "second", "bound", "most"] ["one", "other"] (defScope (topS 10)) := ⟨rfl, rfl, rfl, by decide +kernel, rfl, by decide +kernel, by decide +kernel⟩
theorem ok_within (T : Tx K mg w) : FnOk P w K mg base CX0 1 T.f_within T.d_within ["one", "other"] (spF w K 2 F_within) :=
  fn_sem (k := 0) T.F_within sc_within rfl rfl fun cdv A outer s H E hr =>
  (jb_cons (js_for (vs := [2, 3]) PassesOwn.never rfl (ji_zip (by rfl) T.z_zip (ja_cons (je_var 0) (ja_cons (je_var 1) ja_nil))) (jg_tup rfl (jgs_cons (jg_name (i := 2) sc_within.nd rfl (by first | exact .inl rfl | exact .inr rfl) (by decide)) (jgs_cons (jg_name (i := 3) sc_within.nd rfl (by first | exact .inl rfl | exact .inr rfl) (by decide)) jgs_nil))) (jb_one (js_for (vs := [4, 5]) PassesOwn.never rfl (ji_zip (by rfl) T.z_zip (ja_cons (je_var 2) (ja_cons (je_var 3) ja_nil))) (jg_tup rfl (jgs_cons (jg_name (i := 4) sc_within.nd rfl (by first | exact .inl rfl | exact .inr rfl) (by decide)) (jgs_cons (jg_name (i := 5) sc_within.nd rfl (by first | exact .inl rfl | exact .inr rfl) (by decide)) jgs_nil))) (jb_one (js_if (JW.t (jw_and (jt_c c_isnot (je_var 5) je_non) (jw_and1 (JW.t (jw_or (jt_c c_is (je_var 4) je_non) (jw_or1 (jt_c c_gt (je_var 4) (je_var 5)))))))) (jb_one (js_ret je_bl)) jb_nil))))) (jb_one (js_ret je_bl)))
theorem sc_gather : FnScope ["zone", "most", "clock", "ahead", "found", "number", "part"] ["zone", "most", "clock", "ahead", "found"] (defScope (topS 12)) := ⟨rfl, rfl, rfl, by decide +kernel, rfl, by decide +kernel, by decide +kernel⟩
theorem ok_gather (T : Tx K mg w) : ∀ k : Nat, FnOk P w K mg base CX0 (4 + k) T.f_gather T.d_gather ["zone", "most", "clock", "ahead", "found"] (spF w K 5 (F_gather k))
  | 0 => fn_none fun vs H Q E ⟨m, h, ds, d, h', S, r, hl, e, q⟩ => by cases e
  | k + 1 => by
    have ih := ok_gather T k
    exact fn_sem (k := 4 + k) T.F_gather sc_gather rfl rfl fun cdv A outer s H E hr =>
      (jb_cons (js_if (jt_c (c_eq hr) (je_var 2) (je_len (by rfl) T.z_len (ja_cons (je_var 0) ja_nil))) (jb_cons (js_asg (vs := []) je_bl (jg_subN hr.units (je_var 4) (je_var 3))) (jb_one js_retN)) jb_nil) (jb_one (js_for (vs := [5]) PassesOwn.never rfl (ji_rng1 (by rfl) T.z_range (ja_cons (je_add (je_var 1) je_int) ja_nil)) (jg_name (i := 5) sc_gather.nd rfl (by first | exact .inl rfl | exact .inr rfl) (by decide)) (jb_cons (js_set (i := 6) sc_gather.nd rfl (by first | exact .inl rfl | exact .inr rfl) (je_call (ok_bounded T) (hr.mono (by omega)) (by rfl) T.m_bounded T.F_bounded.kp T.b_bounded (ja_cons (je_var 0) (ja_cons (je_var 2) (ja_cons je_str (ja_cons (je_var 5) ja_nil)))) (lenA_cons (lenA_cons (lenA_cons (lenA_cons lenA_nil)))) rfl)) (jb_cons (js_if (JW.t (jw_and (jt_c c_isnot (je_var 6) je_non) (jw_and1 (jt_c c_le (je_var 5) (je_var 1))))) (jb_one (js_set (i := 6) sc_gather.nd rfl (by first | exact .inl rfl | exact .inr rfl) (je_call (ok_bounded T) (hr.mono (by omega)) (by rfl) T.m_bounded T.F_bounded.kp T.b_bounded (ja_cons (je_var 6) (ja_cons (je_var 2) (ja_cons je_str (ja_cons (je_var 5) ja_nil)))) (lenA_cons (lenA_cons (lenA_cons (lenA_cons lenA_nil)))) rfl))) jb_nil) (jb_one (js_if (jt_c c_isnot (je_var 6) je_non) (jb_one (js_expr (je_call ih (hr.mono (Nat.le_refl _)) (by rfl) T.m_gather T.F_gather.kp T.b_gather (ja_cons (je_var 6) (ja_cons (je_var 1) (ja_cons (je_ad (je_add (je_var 2) je_int)) (ja_cons (je_ad (je_add (je_var 3) (je_tup (ja_cons (je_var 5) ja_nil)))) (ja_cons (je_var 4) ja_nil))))) (lenA_cons (lenA_cons (lenA_cons (lenA_cons (lenA_cons lenA_nil))))) rfl))) jb_nil)))))))
theorem sc_points : FnScope ["zone", "most", "found"] ["zone", "most"] (defScope (topS 11)) := ⟨rfl, rfl, rfl, by decide +kernel, rfl, by decide +kernel, by decide +kernel⟩
theorem ok_points (T : Tx K mg w) : FnOk P w K mg base CX0 11 T.f_points T.d_points ["zone", "most"] (spF w K 2 F_points) :=
  fn_sem (k := 10) T.F_points sc_points rfl rfl fun cdv A outer s H E hr =>
  (jb_cons (js_set (i := 2) sc_points.nd rfl (by first | exact .inl rfl | exact .inr rfl) je_newN) (jb_cons (js_expr (je_call (ok_gather T 6) (hr.mono (by decide)) (by rfl) T.m_gather T.F_gather.kp T.b_gather (ja_cons (je_var 0) (ja_cons (je_var 1) (ja_cons je_int (ja_cons (je_tup ja_nil) (ja_cons (je_var 2) ja_nil))))) (lenA_cons (lenA_cons (lenA_cons (lenA_cons (lenA_cons lenA_nil))))) rfl)) (jb_one (js_ret (je_tuple (by rfl) T.z_tuple (ja_cons (je_sortN hr (by rfl) T.z_sorted (ja_cons (je_var 2) ja_nil)) ja_nil))))))
theorem sc_law_cell : FnScope ["script", "k"] ["script", "k"] (defScope (topS 14)) := ⟨rfl, rfl, rfl, by decide +kernel, rfl, by decide +kernel, by decide +kernel⟩
theorem ok_law_cell (T : Tx K mg w) : FnOk P w K mg base CX0 1 T.f_law_cell T.d_law_cell ["script", "k"] (spF w K 2 F_law_cell) :=
  fn_sem (k := 0) T.F_law_cell sc_law_cell rfl rfl fun cdv A outer s H E hr =>
  (jb_cons (js_if (jt_c c_lt (je_var 1) (je_len (by rfl) T.z_len (ja_cons (je_var 0) ja_nil))) (jb_one (js_ret (je_at (je_var 0) (je_var 1)))) jb_nil) (jb_one (js_ret je_int)))
theorem sc_law_digits : FnScope ["script", "first", "last", "digits", "k", "cell", "turn", "seed"] ["script", "first", "last"] (defScope (topS 15)) := ⟨rfl, rfl, rfl, by decide +kernel, rfl, by decide +kernel, by decide +kernel⟩
theorem ok_law_digits (T : Tx K mg w) : FnOk P w K mg base CX0 2 T.f_law_digits T.d_law_digits ["script", "first", "last"] (spF w K 3 F_law_digits) :=
  fn_sem (k := 1) T.F_law_digits sc_law_digits rfl rfl fun cdv A outer s H E hr =>
  (jb_cons (js_set (i := 3) sc_law_digits.nd rfl (by first | exact .inl rfl | exact .inr rfl) (je_lst ja_nil)) (jb_cons (js_for (vs := [4]) PassesOwn.never rfl (ji_rng2 (by rfl) T.z_range (ja_cons (je_var 1) (ja_cons (je_var 2) ja_nil))) (jg_name (i := 4) sc_law_digits.nd rfl (by first | exact .inl rfl | exact .inr rfl) (by decide)) (jb_cons (js_set (i := 5) sc_law_digits.nd rfl (by first | exact .inl rfl | exact .inr rfl) (je_call (ok_law_cell T) (hr.mono (by decide)) (by rfl) T.m_law_cell T.F_law_cell.kp T.b_law_cell (ja_cons (je_var 0) (ja_cons (je_var 4) ja_nil)) (lenA_cons (lenA_cons lenA_nil)) rfl)) (jb_cons (js_if (jt_c c_lt (je_var 5) je_int) (jb_one (js_set (i := 5) sc_law_digits.nd rfl (by first | exact .inl rfl | exact .inr rfl) (je_sub je_int (je_mul je_int (je_var 5))))) jb_nil) (jb_one (js_if (jt_c c_ge (je_var 5) (je_pow je_int je_int)) (jb_one (js_for (vs := [6]) PassesOwn.never rfl (ji_rng1 (by rfl) T.z_range (ja_cons je_int ja_nil)) (jg_name (i := 6) sc_law_digits.nd rfl (by first | exact .inl rfl | exact .inr rfl) (by decide)) (jb_one (js_if (jt_c c_gt (je_var 5) je_int) (jb_cons (js_expr (je_append (je_var 3) (je_mod (je_intc (by rfl) T.z_int (ja_cons (je_var 5) ja_nil)) je_int))) (jb_one (js_set (i := 5) sc_law_digits.nd rfl (by first | exact .inl rfl | exact .inr rfl) (je_div (je_var 5) je_int)))) jb_nil)))) (jb_cons (js_set (i := 7) sc_law_digits.nd rfl (by first | exact .inl rfl | exact .inr rfl) (je_mod (je_intc (by rfl) T.z_int (ja_cons (je_add (je_add (je_mul (je_var 5) je_int) (je_mul (je_var 4) je_int)) je_int) ja_nil)) je_int)) (jb_one (js_for (vs := [6]) PassesOwn.never rfl (ji_rng1 (by rfl) T.z_range (ja_cons je_int ja_nil)) (jg_name (i := 6) sc_law_digits.nd rfl (by first | exact .inl rfl | exact .inr rfl) (by decide)) (jb_cons (js_set (i := 7) sc_law_digits.nd rfl (by first | exact .inl rfl | exact .inr rfl) (je_mod (je_intc (by rfl) T.z_int (ja_cons (je_add (je_add (je_mul (je_var 7) je_int) (je_mul je_int (je_var 6))) je_int) ja_nil)) je_int)) (jb_one (js_expr (je_append (je_var 3) (je_mod (je_intc (by rfl) T.z_int (ja_cons (je_div (je_var 7) je_int) ja_nil)) je_int))))))))))))) (jb_one (js_ret (je_var 3)))))
theorem sc_law_draw : FnScope ["box", "many", "at"] ["box", "many"] (defScope (topS 16)) := ⟨rfl, rfl, rfl, by decide +kernel, rfl, by decide +kernel, by decide +kernel⟩
theorem ok_law_draw (T : Tx K mg w) : FnOk P w K mg base CX0 1 T.f_law_draw T.d_law_draw ["box", "many"] (spF w K 2 F_law_draw) :=
  fn_sem (k := 0) T.F_law_draw sc_law_draw rfl rfl fun cdv A outer s H E hr =>
  (jb_cons (js_set (i := 2) sc_law_draw.nd rfl (by first | exact .inl rfl | exact .inr rfl) (je_at (je_var 0) je_int)) (jb_cons (js_asg (vs := []) (je_add (je_var 2) je_int) (jg_sub (je_var 0) je_int)) (jb_cons (js_if (jt_c c_lt (je_var 2) (je_len (by rfl) T.z_len (ja_cons (je_at (je_var 0) je_int) ja_nil))) (jb_one (js_ret (je_mod (je_intc (by rfl) T.z_int (ja_cons (je_at (je_at (je_var 0) je_int) (je_var 2)) ja_nil)) (je_var 1)))) jb_nil) (jb_one (js_ret (je_mod (je_intc (by rfl) T.z_int (ja_cons (je_add (je_add (je_add (je_mul (je_mul (je_var 2) (je_var 2)) je_int) (je_mul (je_var 2) je_int)) (je_div (je_var 2) je_int)) je_int) ja_nil)) (je_var 1)))))))
theorem sc_law_like : FnScope ["actual", "due", "k"] ["actual", "due"] (defScope (topS 17)) := ⟨rfl, rfl, rfl, by decide +kernel, rfl, by decide +kernel, by decide +kernel⟩
theorem ok_law_like (T : Tx K mg w) : ∀ k : Nat, FnOk P w K mg base CX0 (0 + k) T.f_law_like T.d_law_like ["actual", "due"] (spF w K 2 (F_law_like k))
  | 0 => fn_none fun vs H Q E ⟨m, h, ds, d, h', S, r, hl, e, q⟩ => by cases e
  | k + 1 => by
    have ih := ok_law_like T k
    exact fn_sem (k := 0 + k) T.F_law_like sc_law_like rfl rfl fun cdv A outer s H E hr =>
      (jb_cons (js_if (JW.t (jw_or (jt_val (je_isi (by rfl) T.z_isinstance (ja_cons (je_var 1) (ja_cons (je_ty (by rfl) T.z_tuple PyProof.Rows.boot_tuple) ja_nil)))) (jw_or1 (jt_val (je_isi (by rfl) T.z_isinstance (ja_cons (je_var 1) (ja_cons (je_ty (by rfl) T.z_list PyProof.Rows.boot_list) ja_nil))))))) (jb_cons (js_if (JW.t (jw_or (JW.t (jw_and (jt_val (je_isi (by rfl) T.z_isinstance (ja_cons (je_var 1) (ja_cons (je_ty (by rfl) T.z_tuple PyProof.Rows.boot_tuple) ja_nil)))) (jw_and1 (jt_not (jt_val (je_isi (by rfl) T.z_isinstance (ja_cons (je_var 0) (ja_cons (je_ty (by rfl) T.z_tuple PyProof.Rows.boot_tuple) ja_nil)))))))) (jw_or1 (JW.t (jw_and (jt_val (je_isi (by rfl) T.z_isinstance (ja_cons (je_var 1) (ja_cons (je_ty (by rfl) T.z_list PyProof.Rows.boot_list) ja_nil)))) (jw_and1 (jt_not (jt_val (je_isi (by rfl) T.z_isinstance (ja_cons (je_var 0) (ja_cons (je_ty (by rfl) T.z_list PyProof.Rows.boot_list) ja_nil))))))))))) (jb_one (js_ret je_bl)) jb_nil) (jb_cons (js_if (jt_c (c_ne hr) (je_len (by rfl) T.z_len (ja_cons (je_var 0) ja_nil)) (je_len (by rfl) T.z_len (ja_cons (je_var 1) ja_nil))) (jb_one (js_ret je_bl)) jb_nil) (jb_cons (js_for (vs := [2]) PassesOwn.never rfl (ji_rng1 (by rfl) T.z_range (ja_cons (je_len (by rfl) T.z_len (ja_cons (je_var 1) ja_nil)) ja_nil)) (jg_name (i := 2) sc_law_like.nd rfl (by first | exact .inl rfl | exact .inr rfl) (by decide)) (jb_one (js_if (jt_not (jt_val (je_call ih (hr.mono (Nat.le_refl _)) (by rfl) T.m_law_like T.F_law_like.kp T.b_law_like (ja_cons (je_at (je_var 0) (je_var 2)) (ja_cons (je_at (je_var 1) (je_var 2)) ja_nil)) (lenA_cons (lenA_cons lenA_nil)) rfl))) (jb_one (js_ret je_bl)) jb_nil))) (jb_one (js_ret je_bl))))) jb_nil) (jb_cons (js_if (jt_c c_is (je_var 1) je_non) (jb_one (js_ret (je_c c_is (je_var 0) je_non))) jb_nil) (jb_cons (js_if (jt_val (je_isi (by rfl) T.z_isinstance (ja_cons (je_var 1) (ja_cons (je_ty (by rfl) T.z_bool PyProof.Rows.boot_bool) ja_nil)))) (jb_one (js_ret (je_and (je_isi (by rfl) T.z_isinstance (ja_cons (je_var 0) (ja_cons (je_ty (by rfl) T.z_bool PyProof.Rows.boot_bool) ja_nil))) (je_and1 (je_c (c_eq hr) (je_var 0) (je_var 1)))))) jb_nil) (jb_cons (js_if (jt_val (je_isi (by rfl) T.z_isinstance (ja_cons (je_var 1) (ja_cons (je_ty (by rfl) T.z_int PyProof.Rows.boot_int) ja_nil)))) (jb_one (js_ret (je_and (je_isi (by rfl) T.z_isinstance (ja_cons (je_var 0) (ja_cons (je_ty (by rfl) T.z_int PyProof.Rows.boot_int) ja_nil))) (je_and (je_not (je_isi (by rfl) T.z_isinstance (ja_cons (je_var 0) (ja_cons (je_ty (by rfl) T.z_bool PyProof.Rows.boot_bool) ja_nil)))) (je_and1 (je_c (c_eq hr) (je_var 0) (je_var 1))))))) jb_nil) (jb_one (js_ret (je_and (je_isi (by rfl) T.z_isinstance (ja_cons (je_var 0) (ja_cons (je_ty (by rfl) T.z_str PyProof.Rows.boot_str) ja_nil))) (je_and1 (je_c (c_eq hr) (je_var 0) (je_var 1))))))))))
theorem sc_law_less : FnScope ["one", "other"] ["one", "other"] (defScope (topS 18)) := ⟨rfl, rfl, rfl, by decide +kernel, rfl, by decide +kernel, by decide +kernel⟩
theorem ok_law_less (T : Tx K mg w) : FnOk P w K mg base CX0 1 T.f_law_less T.d_law_less ["one", "other"] (spF w K 2 F_law_less) :=
  fn_sem (k := 0) T.F_law_less sc_law_less rfl rfl fun cdv A outer s H E hr =>
  (jb_cons (js_if (jt_c c_is (je_var 0) je_non) (jb_one (js_ret (je_var 1))) jb_nil) (jb_cons (js_if (jt_c c_is (je_var 1) je_non) (jb_one (js_ret (je_var 0))) jb_nil) (jb_one (js_ret (je_min rfl (by rfl) T.z_min (ja_cons (je_var 0) (ja_cons (je_var 1) ja_nil)))))))
theorem sc_law_tight : FnScope ["zone", "many", "rows", "k", "i", "row", "j"] ["zone"] (defScope (topS 19)) := ⟨rfl, rfl, rfl, by decide +kernel, rfl, by decide +kernel, by decide +kernel⟩
theorem ok_law_tight (T : Tx K mg w) : FnOk P w K mg base CX0 2 T.f_law_tight T.d_law_tight ["zone"] (spF w K 1 F_law_tight) :=
  fn_sem (k := 1) T.F_law_tight sc_law_tight rfl rfl fun cdv A outer s H E hr =>
  (jb_cons (js_set (i := 1) sc_law_tight.nd rfl (by first | exact .inl rfl | exact .inr rfl) (je_len (by rfl) T.z_len (ja_cons (je_var 0) ja_nil))) (jb_cons (js_set (i := 2) sc_law_tight.nd rfl (by first | exact .inl rfl | exact .inr rfl) (je_comp (own := [(("row" : Str), 5)]) rfl sc_law_tight.nd (ji_seq (je_var 0)) (blkOk_by (by kernel_rfl)) (fun _ _ _ _ _ => (jg_name (i := 5) sc_law_tight.nd rfl (by first | exact .inl rfl | exact .inr rfl) (by decide))) (fun _ _ _ _ _ => jts_nil) (fun _ _ _ _ _ => (je_list (by rfl) T.z_list (ja_cons (je_var 5) ja_nil))))) (jb_cons (js_for (vs := [3]) PassesOwn.never rfl (ji_rng1 (by rfl) T.z_range (ja_cons (je_var 1) ja_nil)) (jg_name (i := 3) sc_law_tight.nd rfl (by first | exact .inl rfl | exact .inr rfl) (by decide)) (jb_cons (js_asg (vs := []) (je_call (ok_law_less T) (hr.mono (by decide)) (by rfl) T.m_law_less T.F_law_less.kp T.b_law_less (ja_cons (je_at (je_at (je_var 2) (je_var 3)) (je_var 3)) (ja_cons je_int ja_nil)) (lenA_cons (lenA_cons lenA_nil)) rfl) (jg_sub (je_at (je_var 2) (je_var 3)) (je_var 3))) (jb_one (js_asg (vs := []) (je_call (ok_law_less T) (hr.mono (by decide)) (by rfl) T.m_law_less T.F_law_less.kp T.b_law_less (ja_cons (je_at (je_at (je_var 2) je_int) (je_var 3)) (ja_cons je_int ja_nil)) (lenA_cons (lenA_cons lenA_nil)) rfl) (jg_sub (je_at (je_var 2) je_int) (je_var 3)))))) (jb_cons (js_for (vs := [3]) PassesOwn.never rfl (ji_rng1 (by rfl) T.z_range (ja_cons (je_var 1) ja_nil)) (jg_name (i := 3) sc_law_tight.nd rfl (by first | exact .inl rfl | exact .inr rfl) (by decide)) (jb_one (js_for (vs := [4]) PassesOwn.never rfl (ji_rng1 (by rfl) T.z_range (ja_cons (je_var 1) ja_nil)) (jg_name (i := 4) sc_law_tight.nd rfl (by first | exact .inl rfl | exact .inr rfl) (by decide)) (jb_one (js_for (vs := [6]) PassesOwn.never rfl (ji_rng1 (by rfl) T.z_range (ja_cons (je_var 1) ja_nil)) (jg_name (i := 6) sc_law_tight.nd rfl (by first | exact .inl rfl | exact .inr rfl) (by decide)) (jb_one (js_if (JW.t (jw_and (jt_c c_isnot (je_at (je_at (je_var 2) (je_var 4)) (je_var 3)) je_non) (jw_and1 (jt_c c_isnot (je_at (je_at (je_var 2) (je_var 3)) (je_var 6)) je_non)))) (jb_one (js_asg (vs := []) (je_call (ok_law_less T) (hr.mono (by decide)) (by rfl) T.m_law_less T.F_law_less.kp T.b_law_less (ja_cons (je_at (je_at (je_var 2) (je_var 4)) (je_var 6)) (ja_cons (je_ad (je_add (je_at (je_at (je_var 2) (je_var 4)) (je_var 3)) (je_at (je_at (je_var 2) (je_var 3)) (je_var 6)))) ja_nil)) (lenA_cons (lenA_cons lenA_nil)) rfl) (jg_sub (je_at (je_var 2) (je_var 4)) (je_var 6)))) jb_nil))))))) (jb_cons (js_if (jt_c (c_ne hr) (je_comp (own := [(("k" : Str), 3)]) rfl sc_law_tight.nd (ji_rng1 (by rfl) T.z_range (ja_cons (je_var 1) ja_nil)) (blkOk_by (by kernel_rfl)) (fun _ _ _ _ _ => (jg_name (i := 3) sc_law_tight.nd rfl (by first | exact .inl rfl | exact .inr rfl) (by decide))) (fun _ _ _ _ _ => (jts_one (jt_c c_lt (je_at (je_at (je_var 2) (je_var 3)) (je_var 3)) je_int))) (fun _ _ _ _ _ => (je_var 3))) (je_lst ja_nil)) (jb_one (js_ret je_non)) jb_nil) (jb_one (js_ret (je_tuple (by rfl) T.z_tuple (ja_cons (je_comp (own := [(("row" : Str), 5)]) rfl sc_law_tight.nd (ji_seq (je_var 2)) (blkOk_by (by kernel_rfl)) (fun _ _ _ _ _ => (jg_name (i := 5) sc_law_tight.nd rfl (by first | exact .inl rfl | exact .inr rfl) (by decide))) (fun _ _ _ _ _ => jts_nil) (fun _ _ _ _ _ => (je_tuple (by rfl) T.z_tuple (ja_cons (je_var 5) ja_nil)))) ja_nil)))))))))
theorem sc_law_with : FnScope ["zone", "i", "j", "bound", "rows", "row"] ["zone", "i", "j", "bound"] (defScope (topS 20)) := ⟨rfl, rfl, rfl, by decide +kernel, rfl, by decide +kernel, by decide +kernel⟩
theorem ok_law_with (T : Tx K mg w) : FnOk P w K mg base CX0 3 T.f_law_with T.d_law_with ["zone", "i", "j", "bound"] (spF w K 4 F_law_with) :=
  fn_sem (k := 2) T.F_law_with sc_law_with rfl rfl fun cdv A outer s H E hr =>
  (jb_cons (js_if (jt_c c_is (je_var 0) je_non) (jb_one (js_ret je_non)) jb_nil) (jb_cons (js_setComp (i := 4) (own := [(("row" : Str), 5)]) rfl sc_law_with.nd rfl rfl (sw_true rfl rfl rfl (by decide +kernel)) (ji_seq (je_var 0)) (blkOk_by (by kernel_rfl)) (fun _ _ _ _ _ => (jg_name (i := 5) sc_law_with.nd rfl (by first | exact .inl rfl | exact .inr rfl) (by decide))) (fun _ _ _ _ _ => jts_nil) (fun _ _ _ _ _ => (je_list (by rfl) T.z_list (ja_cons (je_var 5) ja_nil)))) (jb_cons (js_asg (vs := []) (je_call (ok_law_less T) (hr.mono (by decide)) (by rfl) T.m_law_less T.F_law_less.kp T.b_law_less (ja_cons (je_at (je_at (je_var 4) (je_var 1)) (je_var 2)) (ja_cons (je_var 3) ja_nil)) (lenA_cons (lenA_cons lenA_nil)) rfl) (jg_sub (je_at (je_var 4) (je_var 1)) (je_var 2))) (jb_one (js_ret (je_call (ok_law_tight T) (hr.mono (by decide)) (by rfl) T.m_law_tight T.F_law_tight.kp T.b_law_tight (ja_cons (je_var 4) ja_nil) (lenA_cons lenA_nil) rfl))))))
theorem sc_law_later_zone : FnScope ["zone", "rows", "k", "row"] ["zone"] (defScope (topS 21)) := ⟨rfl, rfl, rfl, by decide +kernel, rfl, by decide +kernel, by decide +kernel⟩
theorem ok_law_later_zone (T : Tx K mg w) : FnOk P w K mg base CX0 3 T.f_law_later_zone T.d_law_later_zone ["zone"] (spF w K 1 F_law_later_zone) :=
  fn_sem (k := 2) T.F_law_later_zone sc_law_later_zone rfl rfl fun cdv A outer s H E hr =>
  (jb_cons (js_setComp (i := 1) (own := [(("row" : Str), 3)]) rfl sc_law_later_zone.nd rfl rfl (sw_true rfl rfl rfl (by decide +kernel)) (ji_seq (je_var 0)) (blkOk_by (by kernel_rfl)) (fun _ _ _ _ _ => (jg_name (i := 3) sc_law_later_zone.nd rfl (by first | exact .inl rfl | exact .inr rfl) (by decide))) (fun _ _ _ _ _ => jts_nil) (fun _ _ _ _ _ => (je_list (by rfl) T.z_list (ja_cons (je_var 3) ja_nil)))) (jb_cons (js_for (vs := [2]) PassesOwn.never rfl (ji_rng2 (by rfl) T.z_range (ja_cons je_int (ja_cons (je_len (by rfl) T.z_len (ja_cons (je_var 1) ja_nil)) ja_nil))) (jg_name (i := 2) sc_law_later_zone.nd rfl (by first | exact .inl rfl | exact .inr rfl) (by decide)) (jb_one (js_asg (vs := []) je_non (jg_sub (je_at (je_var 1) (je_var 2)) je_int)))) (jb_one (js_ret (je_call (ok_law_tight T) (hr.mono (by decide)) (by rfl) T.m_law_tight T.F_law_tight.kp T.b_law_tight (ja_cons (je_var 1) ja_nil) (lenA_cons lenA_nil) rfl)))))
theorem sc_law_reset_zone : FnScope ["zone", "clock", "rows", "k", "row"] ["zone", "clock"] (defScope (topS 22)) := ⟨rfl, rfl, rfl, by decide +kernel, rfl, by decide +kernel, by decide +kernel⟩
theorem ok_law_reset_zone (T : Tx K mg w) : FnOk P w K mg base CX0 3 T.f_law_reset_zone T.d_law_reset_zone ["zone", "clock"] (spF w K 2 F_law_reset_zone) :=
  fn_sem (k := 2) T.F_law_reset_zone sc_law_reset_zone rfl rfl fun cdv A outer s H E hr =>
  (jb_cons (js_setComp (i := 2) (own := [(("row" : Str), 4)]) rfl sc_law_reset_zone.nd rfl rfl (sw_true rfl rfl rfl (by decide +kernel)) (ji_seq (je_var 0)) (blkOk_by (by kernel_rfl)) (fun _ _ _ _ _ => (jg_name (i := 4) sc_law_reset_zone.nd rfl (by first | exact .inl rfl | exact .inr rfl) (by decide))) (fun _ _ _ _ _ => jts_nil) (fun _ _ _ _ _ => (je_list (by rfl) T.z_list (ja_cons (je_var 4) ja_nil)))) (jb_cons (js_for (vs := [3]) PassesOwn.never rfl (ji_rng1 (by rfl) T.z_range (ja_cons (je_len (by rfl) T.z_len (ja_cons (je_var 2) ja_nil)) ja_nil)) (jg_name (i := 3) sc_law_reset_zone.nd rfl (by first | exact .inl rfl | exact .inr rfl) (by decide)) (jb_one (js_if (jt_c (c_ne hr) (je_var 3) (je_var 1)) (jb_cons (js_asg (vs := []) je_non (jg_sub (je_at (je_var 2) (je_var 1)) (je_var 3))) (jb_one (js_asg (vs := []) je_non (jg_sub (je_at (je_var 2) (je_var 3)) (je_var 1))))) jb_nil))) (jb_cons (js_asg (vs := []) je_int (jg_sub (je_at (je_var 2) (je_var 1)) je_int)) (jb_cons (js_asg (vs := []) je_int (jg_sub (je_at (je_var 2) je_int) (je_var 1))) (jb_one (js_ret (je_call (ok_law_tight T) (hr.mono (by decide)) (by rfl) T.m_law_tight T.F_law_tight.kp T.b_law_tight (ja_cons (je_var 2) ja_nil) (lenA_cons lenA_nil) rfl)))))))
theorem sc_law_wide : FnScope ["zone", "most", "rows", "i", "j", "row"] ["zone", "most"] (defScope (topS 23)) := ⟨rfl, rfl, rfl, by decide +kernel, rfl, by decide +kernel, by decide +kernel⟩
theorem ok_law_wide (T : Tx K mg w) : FnOk P w K mg base CX0 3 T.f_law_wide T.d_law_wide ["zone", "most"] (spF w K 2 F_law_wide) :=
  fn_sem (k := 2) T.F_law_wide sc_law_wide rfl rfl fun cdv A outer s H E hr =>
  (jb_cons (js_setComp (i := 2) (own := [(("row" : Str), 5)]) rfl sc_law_wide.nd rfl rfl (sw_true rfl rfl rfl (by decide +kernel)) (ji_seq (je_var 0)) (blkOk_by (by kernel_rfl)) (fun _ _ _ _ _ => (jg_name (i := 5) sc_law_wide.nd rfl (by first | exact .inl rfl | exact .inr rfl) (by decide))) (fun _ _ _ _ _ => jts_nil) (fun _ _ _ _ _ => (je_list (by rfl) T.z_list (ja_cons (je_var 5) ja_nil)))) (jb_cons (js_for (vs := [3]) PassesOwn.never rfl (ji_rng1 (by rfl) T.z_range (ja_cons (je_len (by rfl) T.z_len (ja_cons (je_var 2) ja_nil)) ja_nil)) (jg_name (i := 3) sc_law_wide.nd rfl (by first | exact .inl rfl | exact .inr rfl) (by decide)) (jb_one (js_for (vs := [4]) PassesOwn.never rfl (ji_rng1 (by rfl) T.z_range (ja_cons (je_len (by rfl) T.z_len (ja_cons (je_var 2) ja_nil)) ja_nil)) (jg_name (i := 4) sc_law_wide.nd rfl (by first | exact .inl rfl | exact .inr rfl) (by decide)) (jb_one (js_if (JW.t (jw_and (jt_c (c_ne hr) (je_var 3) (je_var 4)) (jw_and1 (jt_c c_isnot (je_at (je_at (je_var 2) (je_var 3)) (je_var 4)) je_non)))) (jb_one (js_if (jt_c c_gt (je_at (je_at (je_var 2) (je_var 3)) (je_var 4)) (je_var 1)) (jb_one (js_asg (vs := []) je_non (jg_sub (je_at (je_var 2) (je_var 3)) (je_var 4)))) (jb_one (js_if (jt_c c_lt (je_at (je_at (je_var 2) (je_var 3)) (je_var 4)) (je_sub (je_sub je_int (je_var 1)) je_int)) (jb_one (js_asg (vs := []) (je_sub (je_sub je_int (je_var 1)) je_int) (jg_sub (je_at (je_var 2) (je_var 3)) (je_var 4)))) jb_nil)))) jb_nil))))) (jb_one (js_ret (je_call (ok_law_tight T) (hr.mono (by decide)) (by rfl) T.m_law_tight T.F_law_tight.kp T.b_law_tight (ja_cons (je_var 2) ja_nil) (lenA_cons lenA_nil) rfl)))))
theorem sc_law_caps : FnScope ["zone", "most", "found", "zones", "clock", "longer", "parts", "k", "number", "part"] ["zone", "most"] (defScope (topS 24)) := ⟨rfl, rfl, rfl, by decide +kernel, rfl, by decide +kernel, by decide +kernel⟩
theorem ok_law_caps (T : Tx K mg w) : FnOk P w K mg base CX0 4 T.f_law_caps T.d_law_caps ["zone", "most"] (spF w K 2 F_law_caps) :=
  fn_sem (k := 3) T.F_law_caps sc_law_caps rfl rfl fun cdv A outer s H E hr =>
  (jb_cons (js_set (i := 2) sc_law_caps.nd rfl (by first | exact .inl rfl | exact .inr rfl) (je_lst (ja_cons (je_tup ja_nil) ja_nil))) (jb_cons (js_set (i := 3) sc_law_caps.nd rfl (by first | exact .inl rfl | exact .inr rfl) (je_lst (ja_cons (je_var 0) ja_nil))) (jb_cons (js_for (vs := [4]) PassesOwn.never rfl (ji_rng2 (by rfl) T.z_range (ja_cons je_int (ja_cons (je_len (by rfl) T.z_len (ja_cons (je_var 0) ja_nil)) ja_nil))) (jg_name (i := 4) sc_law_caps.nd rfl (by first | exact .inl rfl | exact .inr rfl) (by decide)) (jb_cons (js_set (i := 5) sc_law_caps.nd rfl (by first | exact .inl rfl | exact .inr rfl) (je_lst ja_nil)) (jb_cons (js_set (i := 6) sc_law_caps.nd rfl (by first | exact .inl rfl | exact .inr rfl) (je_lst ja_nil)) (jb_cons (js_for (vs := [7]) PassesOwn.never rfl (ji_rng1 (by rfl) T.z_range (ja_cons (je_len (by rfl) T.z_len (ja_cons (je_var 2) ja_nil)) ja_nil)) (jg_name (i := 7) sc_law_caps.nd rfl (by first | exact .inl rfl | exact .inr rfl) (by decide)) (jb_one (js_for (vs := [8]) PassesOwn.never rfl (ji_rng1 (by rfl) T.z_range (ja_cons (je_add (je_var 1) je_int) ja_nil)) (jg_name (i := 8) sc_law_caps.nd rfl (by first | exact .inl rfl | exact .inr rfl) (by decide)) (jb_cons (js_set (i := 9) sc_law_caps.nd rfl (by first | exact .inl rfl | exact .inr rfl) (je_call (ok_law_with T) (hr.mono (by decide)) (by rfl) T.m_law_with T.F_law_with.kp T.b_law_with (ja_cons (je_at (je_var 3) (je_var 7)) (ja_cons je_int (ja_cons (je_var 4) (ja_cons (je_sub je_int (je_var 8)) ja_nil)))) (lenA_cons (lenA_cons (lenA_cons (lenA_cons lenA_nil)))) rfl)) (jb_cons (js_if (jt_c c_le (je_var 8) (je_var 1)) (jb_one (js_set (i := 9) sc_law_caps.nd rfl (by first | exact .inl rfl | exact .inr rfl) (je_call (ok_law_with T) (hr.mono (by decide)) (by rfl) T.m_law_with T.F_law_with.kp T.b_law_with (ja_cons (je_var 9) (ja_cons (je_var 4) (ja_cons je_int (ja_cons (je_var 8) ja_nil)))) (lenA_cons (lenA_cons (lenA_cons (lenA_cons lenA_nil)))) rfl))) jb_nil) (jb_one (js_if (jt_c c_isnot (je_var 9) je_non) (jb_cons (js_expr (je_append (je_var 5) (je_ad (je_add (je_at (je_var 2) (je_var 7)) (je_tup (ja_cons (je_var 8) ja_nil)))))) (jb_one (js_expr (je_append (je_var 6) (je_var 9))))) jb_nil))))))) (jb_cons (js_set (i := 2) sc_law_caps.nd rfl (by first | exact .inl rfl | exact .inr rfl) (je_var 5)) (jb_one (js_set (i := 3) sc_law_caps.nd rfl (by first | exact .inl rfl | exact .inr rfl) (je_var 6)))))))) (jb_one (js_ret (je_var 2))))))
theorem sc_law_drawn_zone : FnScope ["box", "many", "free", "spots", "rows", "i", "row", "j", "turn", "number", "k", "point"] ["box", "many"] (defScope (topS 25)) := ⟨rfl, rfl, rfl, by decide +kernel, rfl, by decide +kernel, by decide +kernel⟩
theorem ok_law_drawn_zone (T : Tx K mg w) : FnOk P w K mg base CX0 2 T.f_law_drawn_zone T.d_law_drawn_zone ["box", "many"] (spF w K 2 F_law_drawn_zone) :=
  fn_sem (k := 1) T.F_law_drawn_zone sc_law_drawn_zone rfl rfl fun cdv A outer s H E hr =>
  (jb_cons (js_set (i := 2) sc_law_drawn_zone.nd rfl (by first | exact .inl rfl | exact .inr rfl) (je_c (c_eq hr) (je_call (ok_law_draw T) (hr.mono (by decide)) (by rfl) T.m_law_draw T.F_law_draw.kp T.b_law_draw (ja_cons (je_var 0) (ja_cons je_int ja_nil)) (lenA_cons (lenA_cons lenA_nil)) rfl) je_int)) (jb_cons (js_setComp (i := 3) (own := [(("turn" : Str), 8)]) rfl sc_law_drawn_zone.nd rfl rfl (sw_true rfl rfl rfl (by decide +kernel)) (ji_rng1 (by rfl) T.z_range (ja_cons je_int ja_nil)) (blkOk_by (by kernel_rfl)) (fun _ _ _ _ _ => (jg_name (i := 8) sc_law_drawn_zone.nd rfl (by first | exact .inl rfl | exact .inr rfl) (by decide))) (fun _ _ _ _ _ => jts_nil) (fun _ _ _ _ _ => (je_add (je_lst (ja_cons je_int ja_nil)) (je_comp (own := [(("k" : Str), 10)]) rfl sc_law_drawn_zone.nd (ji_rng1 (by rfl) T.z_range (ja_cons (je_var 1) ja_nil)) (blkOk_by (by kernel_rfl)) (fun _ _ _ _ _ => (jg_name (i := 10) sc_law_drawn_zone.nd rfl (by first | exact .inl rfl | exact .inr rfl) (by decide))) (fun _ _ _ _ _ => jts_nil) (fun _ _ _ _ _ => (je_call (ok_law_draw T) (hr.mono (by decide)) (by rfl) T.m_law_draw T.F_law_draw.kp T.b_law_draw (ja_cons (je_var 0) (ja_cons je_int ja_nil)) (lenA_cons (lenA_cons lenA_nil)) rfl)))))) (jb_cons (js_set (i := 4) sc_law_drawn_zone.nd rfl (by first | exact .inl rfl | exact .inr rfl) (je_lst ja_nil)) (jb_cons (js_for (vs := [5]) PassesOwn.never rfl (ji_rng1 (by rfl) T.z_range (ja_cons (je_add (je_var 1) je_int) ja_nil)) (jg_name (i := 5) sc_law_drawn_zone.nd rfl (by first | exact .inl rfl | exact .inr rfl) (by decide)) (jb_cons (js_set (i := 6) sc_law_drawn_zone.nd rfl (by first | exact .inl rfl | exact .inr rfl) (je_lst ja_nil)) (jb_cons (js_for (vs := [7]) PassesOwn.never rfl (ji_rng1 (by rfl) T.z_range (ja_cons (je_add (je_var 1) je_int) ja_nil)) (jg_name (i := 7) sc_law_drawn_zone.nd rfl (by first | exact .inl rfl | exact .inr rfl) (by decide)) (jb_cons (js_set (i := 9) sc_law_drawn_zone.nd rfl (by first | exact .inl rfl | exact .inr rfl) (je_add (je_max rfl (by rfl) T.z_max (ja_cons (je_comp (own := [(("point" : Str), 11)]) rfl sc_law_drawn_zone.nd (ji_seq (je_var 3)) (blkOk_by (by kernel_rfl)) (fun _ _ _ _ _ => (jg_name (i := 11) sc_law_drawn_zone.nd rfl (by first | exact .inl rfl | exact .inr rfl) (by decide))) (fun _ _ _ _ _ => jts_nil) (fun _ _ _ _ _ => (je_sub (je_at (je_var 11) (je_var 5)) (je_at (je_var 11) (je_var 7))))) ja_nil)) (je_call (ok_law_draw T) (hr.mono (by decide)) (by rfl) T.m_law_draw T.F_law_draw.kp T.b_law_draw (ja_cons (je_var 0) (ja_cons je_int ja_nil)) (lenA_cons (lenA_cons lenA_nil)) rfl))) (jb_cons (js_if (jt_tr (je_var 2)) (jb_one (js_set (i := 9) sc_law_drawn_zone.nd rfl (by first | exact .inl rfl | exact .inr rfl) (je_sub (je_call (ok_law_draw T) (hr.mono (by decide)) (by rfl) T.m_law_draw T.F_law_draw.kp T.b_law_draw (ja_cons (je_var 0) (ja_cons je_int ja_nil)) (lenA_cons (lenA_cons lenA_nil)) rfl) je_int))) jb_nil) (jb_one (js_expr (je_append (je_var 6) (je_if (jt_c (c_eq hr) (je_call (ok_law_draw T) (hr.mono (by decide)) (by rfl) T.m_law_draw T.F_law_draw.kp T.b_law_draw (ja_cons (je_var 0) (ja_cons je_int ja_nil)) (lenA_cons (lenA_cons lenA_nil)) rfl) je_int) je_non (je_var 9)))))))) (jb_one (js_expr (je_append (je_var 4) (je_tuple (by rfl) T.z_tuple (ja_cons (je_var 6) ja_nil)))))))) (jb_one (js_ret (je_tuple (by rfl) T.z_tuple (ja_cons (je_var 4) ja_nil))))))))
theorem sc_law_in_zone : FnScope ["zone", "point", "numbers", "i", "j"] ["zone", "point"] (defScope (topS 26)) := ⟨rfl, rfl, rfl, by decide +kernel, rfl, by decide +kernel, by decide +kernel⟩
theorem ok_law_in_zone (T : Tx K mg w) : FnOk P w K mg base CX0 1 T.f_law_in_zone T.d_law_in_zone ["zone", "point"] (spF w K 2 F_law_in_zone) :=
  fn_sem (k := 0) T.F_law_in_zone sc_law_in_zone rfl rfl fun cdv A outer s H E hr =>
  (jb_cons (js_set (i := 2) sc_law_in_zone.nd rfl (by first | exact .inl rfl | exact .inr rfl) (je_add (je_tup (ja_cons je_int ja_nil)) (je_var 1))) (jb_cons (js_for (vs := [3]) PassesOwn.never rfl (ji_rng1 (by rfl) T.z_range (ja_cons (je_len (by rfl) T.z_len (ja_cons (je_var 0) ja_nil)) ja_nil)) (jg_name (i := 3) sc_law_in_zone.nd rfl (by first | exact .inl rfl | exact .inr rfl) (by decide)) (jb_one (js_for (vs := [4]) PassesOwn.never rfl (ji_rng1 (by rfl) T.z_range (ja_cons (je_len (by rfl) T.z_len (ja_cons (je_var 0) ja_nil)) ja_nil)) (jg_name (i := 4) sc_law_in_zone.nd rfl (by first | exact .inl rfl | exact .inr rfl) (by decide)) (jb_one (js_if (JW.t (jw_and (jt_c c_isnot (je_at (je_at (je_var 0) (je_var 3)) (je_var 4)) je_non) (jw_and1 (jt_c c_gt (je_sub (je_at (je_var 2) (je_var 3)) (je_at (je_var 2) (je_var 4))) (je_at (je_at (je_var 0) (je_var 3)) (je_var 4)))))) (jb_one (js_ret je_bl)) jb_nil))))) (jb_one (js_ret je_bl))))
theorem sc_law_holds_of : FnScope ["box", "zone", "clock", "sign", "number", "most", "point", "inside", "past", "cut", "keeps", "grown", "part", "k", "t", "value"] ["box", "zone", "clock", "sign", "number", "most"] (defScope (topS 27)) := ⟨rfl, rfl, rfl, by decide +kernel, rfl, by decide +kernel, by decide +kernel⟩
theorem ok_law_holds_of (T : Tx K mg w) : FnOk P w K mg base CX0 7 T.f_law_holds_of T.d_law_holds_of ["box", "zone", "clock", "sign", "number", "most"] (spF w K 6 F_law_holds_of) :=
  fn_sem (k := 6) T.F_law_holds_of sc_law_holds_of rfl rfl fun cdv A outer s H E hr =>
  (jb_cons (js_set (i := 6) sc_law_holds_of.nd rfl (by first | exact .inl rfl | exact .inr rfl) (je_tuple (by rfl) T.z_tuple (ja_cons (je_comp (own := [(("k" : Str), 13)]) rfl sc_law_holds_of.nd (ji_rng1 (by rfl) T.z_range (ja_cons (je_sub (je_len (by rfl) T.z_len (ja_cons (je_var 1) ja_nil)) je_int) ja_nil)) (blkOk_by (by kernel_rfl)) (fun _ _ _ _ _ => (jg_name (i := 13) sc_law_holds_of.nd rfl (by first | exact .inl rfl | exact .inr rfl) (by decide))) (fun _ _ _ _ _ => jts_nil) (fun _ _ _ _ _ => (je_call (ok_law_draw T) (hr.mono (by decide)) (by rfl) T.m_law_draw T.F_law_draw.kp T.b_law_draw (ja_cons (je_var 0) (ja_cons je_int ja_nil)) (lenA_cons (lenA_cons lenA_nil)) rfl))) ja_nil))) (jb_cons (js_set (i := 7) sc_law_holds_of.nd rfl (by first | exact .inl rfl | exact .inr rfl) (je_call (ok_law_in_zone T) (hr.mono (by decide)) (by rfl) T.m_law_in_zone T.F_law_in_zone.kp T.b_law_in_zone (ja_cons (je_var 1) (ja_cons (je_var 6) ja_nil)) (lenA_cons (lenA_cons lenA_nil)) rfl)) (jb_cons (js_if (jt_not (jt_val (je_call (ok_law_like T 6) (hr.mono (by decide)) (by rfl) T.m_law_like T.F_law_like.kp T.b_law_like (ja_cons (je_call (ok_has_point T) (hr.mono (by decide)) (by rfl) T.m_has_point T.F_has_point.kp T.b_has_point (ja_cons (je_var 1) (ja_cons (je_var 6) ja_nil)) (lenA_cons (lenA_cons lenA_nil)) rfl) (ja_cons (je_var 7) ja_nil)) (lenA_cons (lenA_cons lenA_nil)) rfl))) (jb_one (js_ret je_bl)) jb_nil) (jb_cons (js_setComp (i := 8) (own := [(("t" : Str), 14)]) rfl sc_law_holds_of.nd rfl rfl (sw_true rfl rfl rfl (by decide +kernel)) (ji_rng1 (by rfl) T.z_range (ja_cons (je_add (je_minT rfl (by rfl) T.z_min (ja_cons (je_var 6) ja_nil)) je_int) ja_nil)) (blkOk_by (by kernel_rfl)) (fun _ _ _ _ _ => (jg_name (i := 14) sc_law_holds_of.nd rfl (by first | exact .inl rfl | exact .inr rfl) (by decide))) (fun _ _ _ _ _ => (jts_one (jt_val (je_call (ok_law_in_zone T) (hr.mono (by decide)) (by rfl) T.m_law_in_zone T.F_law_in_zone.kp T.b_law_in_zone (ja_cons (je_var 1) (ja_cons (je_tuple (by rfl) T.z_tuple (ja_cons (je_comp (own := [(("value" : Str), 15)]) rfl sc_law_holds_of.nd (ji_seq (je_var 6)) (blkOk_by (by kernel_rfl)) (fun _ _ _ _ _ => (jg_name (i := 15) sc_law_holds_of.nd rfl (by first | exact .inl rfl | exact .inr rfl) (by decide))) (fun _ _ _ _ _ => jts_nil) (fun _ _ _ _ _ => (je_sub (je_var 15) (je_var 14)))) ja_nil)) ja_nil)) (lenA_cons (lenA_cons lenA_nil)) rfl)))) (fun _ _ _ _ _ => (je_var 14))) (jb_cons (js_if (jt_not (jt_val (je_call (ok_law_like T 6) (hr.mono (by decide)) (by rfl) T.m_law_like T.F_law_like.kp T.b_law_like (ja_cons (je_call (ok_has_point T) (hr.mono (by decide)) (by rfl) T.m_has_point T.F_has_point.kp T.b_has_point (ja_cons (je_call (ok_later T) (hr.mono (by decide)) (by rfl) T.m_later T.F_later.kp T.b_later (ja_cons (je_var 1) ja_nil) (lenA_cons lenA_nil) rfl) (ja_cons (je_var 6) ja_nil)) (lenA_cons (lenA_cons lenA_nil)) rfl) (ja_cons (je_c (c_ne hr) (je_var 8) (je_lst ja_nil)) ja_nil)) (lenA_cons (lenA_cons lenA_nil)) rfl))) (jb_one (js_ret je_bl)) jb_nil) (jb_cons (js_set (i := 9) sc_law_holds_of.nd rfl (by first | exact .inl rfl | exact .inr rfl) (je_call (ok_bounded T) (hr.mono (by decide)) (by rfl) T.m_bounded T.F_bounded.kp T.b_bounded (ja_cons (je_var 1) (ja_cons (je_var 2) (ja_cons (je_var 3) (ja_cons (je_var 4) ja_nil)))) (lenA_cons (lenA_cons (lenA_cons (lenA_cons lenA_nil)))) rfl)) (jb_cons (js_set (i := 10) sc_law_holds_of.nd rfl (by first | exact .inl rfl | exact .inr rfl) (je_if (jt_c (c_eq hr) (je_var 3) je_str) (je_c c_le (je_at (je_var 6) (je_sub (je_var 2) je_int)) (je_var 4)) (je_c c_ge (je_at (je_var 6) (je_sub (je_var 2) je_int)) (je_var 4)))) (jb_cons (js_if (jt_not (jt_val (je_call (ok_law_like T 6) (hr.mono (by decide)) (by rfl) T.m_law_like T.F_law_like.kp T.b_law_like (ja_cons (je_and (je_c c_isnot (je_var 9) je_non) (je_and1 (je_call (ok_has_point T) (hr.mono (by decide)) (by rfl) T.m_has_point T.F_has_point.kp T.b_has_point (ja_cons (je_var 9) (ja_cons (je_var 6) ja_nil)) (lenA_cons (lenA_cons lenA_nil)) rfl))) (ja_cons (je_and (je_var 7) (je_and1 (je_var 10))) ja_nil)) (lenA_cons (lenA_cons lenA_nil)) rfl))) (jb_one (js_ret je_bl)) jb_nil) (jb_cons (js_if (JW.t (jw_and (jt_val (je_var 7)) (jw_and1 (jt_not (jt_val (je_call (ok_has_point T) (hr.mono (by decide)) (by rfl) T.m_has_point T.F_has_point.kp T.b_has_point (ja_cons (je_call (ok_reset T) (hr.mono (by decide)) (by rfl) T.m_reset T.F_reset.kp T.b_reset (ja_cons (je_var 1) (ja_cons (je_var 2) ja_nil)) (lenA_cons (lenA_cons lenA_nil)) rfl) (ja_cons (je_ad (je_add (je_add (je_sl (je_var 6) jo_none (jo_some (je_sub (je_var 2) je_int))) (je_tup (ja_cons je_int ja_nil))) (je_sl (je_var 6) (jo_some (je_var 2)) jo_none))) ja_nil)) (lenA_cons (lenA_cons lenA_nil)) rfl)))))) (jb_one (js_ret je_bl)) jb_nil) (jb_cons (js_set (i := 11) sc_law_holds_of.nd rfl (by first | exact .inl rfl | exact .inr rfl) (je_call (ok_widened T) (hr.mono (by decide)) (by rfl) T.m_widened T.F_widened.kp T.b_widened (ja_cons (je_var 1) (ja_cons (je_var 5) ja_nil)) (lenA_cons (lenA_cons lenA_nil)) rfl)) (jb_cons (js_if (JW.t (jw_and (jt_val (je_var 7)) (jw_and1 (jt_not (jt_val (je_call (ok_has_point T) (hr.mono (by decide)) (by rfl) T.m_has_point T.F_has_point.kp T.b_has_point (ja_cons (je_var 11) (ja_cons (je_var 6) ja_nil)) (lenA_cons (lenA_cons lenA_nil)) rfl)))))) (jb_one (js_ret je_bl)) jb_nil) (jb_cons (js_if (jt_val (je_call (ok_has_point T) (hr.mono (by decide)) (by rfl) T.m_has_point T.F_has_point.kp T.b_has_point (ja_cons (je_var 11) (ja_cons (je_var 6) ja_nil)) (lenA_cons (lenA_cons lenA_nil)) rfl)) (jb_cons (js_set (i := 12) sc_law_holds_of.nd rfl (by first | exact .inl rfl | exact .inr rfl) (je_var 1)) (jb_cons (js_for (vs := [13]) PassesOwn.never rfl (ji_rng1 (by rfl) T.z_range (ja_cons (je_len (by rfl) T.z_len (ja_cons (je_var 6) ja_nil)) ja_nil)) (jg_name (i := 13) sc_law_holds_of.nd rfl (by first | exact .inl rfl | exact .inr rfl) (by decide)) (jb_cons (js_set (i := 12) sc_law_holds_of.nd rfl (by first | exact .inl rfl | exact .inr rfl) (je_call (ok_law_with T) (hr.mono (by decide)) (by rfl) T.m_law_with T.F_law_with.kp T.b_law_with (ja_cons (je_var 12) (ja_cons je_int (ja_cons (je_ad (je_add (je_var 13) je_int)) (ja_cons (je_sub je_int (je_min rfl (by rfl) T.z_min (ja_cons (je_at (je_var 6) (je_var 13)) (ja_cons (je_add (je_var 5) je_int) ja_nil)))) ja_nil)))) (lenA_cons (lenA_cons (lenA_cons (lenA_cons lenA_nil)))) rfl)) (jb_one (js_if (jt_c c_le (je_at (je_var 6) (je_var 13)) (je_var 5)) (jb_one (js_set (i := 12) sc_law_holds_of.nd rfl (by first | exact .inl rfl | exact .inr rfl) (je_call (ok_law_with T) (hr.mono (by decide)) (by rfl) T.m_law_with T.F_law_with.kp T.b_law_with (ja_cons (je_var 12) (ja_cons (je_ad (je_add (je_var 13) je_int)) (ja_cons je_int (ja_cons (je_at (je_var 6) (je_var 13)) ja_nil)))) (lenA_cons (lenA_cons (lenA_cons (lenA_cons lenA_nil)))) rfl))) jb_nil)))) (jb_one (js_ret (je_c c_isnot (je_var 12) je_non))))) jb_nil) (jb_one (js_ret je_bl))))))))))))))
theorem sc_law : FnScope ["script", "box", "many", "zone", "due", "clock", "sign", "number", "most", "cut", "turn", "other", "one", "two", "wider", "i", "j"] ["script"] (defScope (topS 28)) := ⟨rfl, rfl, rfl, by decide +kernel, rfl, by decide +kernel, by decide +kernel⟩
theorem ok_law (T : Tx K mg w) : FnOk P w K mg base CX0 12 T.f_law T.d_law ["script"] (spF w K 1 F_law) :=
  fn_sem (k := 11) T.F_law sc_law rfl rfl fun cdv A outer s H E hr =>
  (jb_cons (js_set (i := 1) sc_law.nd rfl (by first | exact .inl rfl | exact .inr rfl) (je_lst (ja_cons (je_call (ok_law_digits T) (hr.mono (by decide)) (by rfl) T.m_law_digits T.F_law_digits.kp T.b_law_digits (ja_cons (je_var 0) (ja_cons je_int (ja_cons je_int ja_nil))) (lenA_cons (lenA_cons (lenA_cons lenA_nil))) rfl) (ja_cons je_int ja_nil)))) (jb_cons (js_set (i := 2) sc_law.nd rfl (by first | exact .inl rfl | exact .inr rfl) (je_add je_int (je_call (ok_law_draw T) (hr.mono (by decide)) (by rfl) T.m_law_draw T.F_law_draw.kp T.b_law_draw (ja_cons (je_var 1) (ja_cons je_int ja_nil)) (lenA_cons (lenA_cons lenA_nil)) rfl))) (jb_cons (js_set (i := 3) sc_law.nd rfl (by first | exact .inl rfl | exact .inr rfl) (je_call (ok_law_drawn_zone T) (hr.mono (by decide)) (by rfl) T.m_law_drawn_zone T.F_law_drawn_zone.kp T.b_law_drawn_zone (ja_cons (je_var 1) (ja_cons (je_var 2) ja_nil)) (lenA_cons (lenA_cons lenA_nil)) rfl)) (jb_cons (js_set (i := 4) sc_law.nd rfl (by first | exact .inl rfl | exact .inr rfl) (je_call (ok_law_tight T) (hr.mono (by decide)) (by rfl) T.m_law_tight T.F_law_tight.kp T.b_law_tight (ja_cons (je_var 3) ja_nil) (lenA_cons lenA_nil) rfl)) (jb_cons (js_if (jt_not (jt_val (je_call (ok_law_like T 6) (hr.mono (by decide)) (by rfl) T.m_law_like T.F_law_like.kp T.b_law_like (ja_cons (je_call (ok_tight T) (hr.mono (by decide)) (by rfl) T.m_tight T.F_tight.kp T.b_tight (ja_cons (je_var 3) ja_nil) (lenA_cons lenA_nil) rfl) (ja_cons (je_var 4) ja_nil)) (lenA_cons (lenA_cons lenA_nil)) rfl))) (jb_one (js_ret je_bl)) jb_nil) (jb_cons (js_if (jt_c c_is (je_var 4) je_non) (jb_one (js_set (i := 4) sc_law.nd rfl (by first | exact .inl rfl | exact .inr rfl) (je_orX (je_call (ok_law_tight T) (hr.mono (by decide)) (by rfl) T.m_law_tight T.F_law_tight.kp T.b_law_tight (ja_cons (je_call (ok_law_drawn_zone T) (hr.mono (by decide)) (by rfl) T.m_law_drawn_zone T.F_law_drawn_zone.kp T.b_law_drawn_zone (ja_cons (je_var 1) (ja_cons (je_var 2) ja_nil)) (lenA_cons (lenA_cons lenA_nil)) rfl) ja_nil) (lenA_cons lenA_nil) rfl) (je_and1 (je_call (ok_law_later_zone T) (hr.mono (by decide)) (by rfl) T.m_law_later_zone T.F_law_later_zone.kp T.b_law_later_zone (ja_cons (je_tuple (by rfl) T.z_tuple (ja_cons (je_mul (je_lst (ja_cons (je_ad (je_tmul (je_tup (ja_cons je_int ja_nil)) (je_add (je_var 2) je_int))) ja_nil)) (je_add (je_var 2) je_int)) ja_nil)) ja_nil) (lenA_cons lenA_nil) rfl))))) jb_nil) (jb_cons (js_set (i := 5) sc_law.nd rfl (by first | exact .inl rfl | exact .inr rfl) (je_add je_int (je_call (ok_law_draw T) (hr.mono (by decide)) (by rfl) T.m_law_draw T.F_law_draw.kp T.b_law_draw (ja_cons (je_var 1) (ja_cons (je_var 2) ja_nil)) (lenA_cons (lenA_cons lenA_nil)) rfl))) (jb_cons (js_set (i := 6) sc_law.nd rfl (by first | exact .inl rfl | exact .inr rfl) (je_at (je_lst (ja_cons je_str (ja_cons je_str ja_nil))) (je_call (ok_law_draw T) (hr.mono (by decide)) (by rfl) T.m_law_draw T.F_law_draw.kp T.b_law_draw (ja_cons (je_var 1) (ja_cons je_int ja_nil)) (lenA_cons (lenA_cons lenA_nil)) rfl))) (jb_cons (js_set (i := 7) sc_law.nd rfl (by first | exact .inl rfl | exact .inr rfl) (je_call (ok_law_draw T) (hr.mono (by decide)) (by rfl) T.m_law_draw T.F_law_draw.kp T.b_law_draw (ja_cons (je_var 1) (ja_cons je_int ja_nil)) (lenA_cons (lenA_cons lenA_nil)) rfl)) (jb_cons (js_set (i := 8) sc_law.nd rfl (by first | exact .inl rfl | exact .inr rfl) (je_call (ok_law_draw T) (hr.mono (by decide)) (by rfl) T.m_law_draw T.F_law_draw.kp T.b_law_draw (ja_cons (je_var 1) (ja_cons (je_if (jt_c c_lt (je_var 2) je_int) je_int je_int) ja_nil)) (lenA_cons (lenA_cons lenA_nil)) rfl)) (jb_cons (js_set (i := 9) sc_law.nd rfl (by first | exact .inl rfl | exact .inr rfl) (je_if (jt_c (c_eq hr) (je_var 6) je_str) (je_call (ok_law_with T) (hr.mono (by decide)) (by rfl) T.m_law_with T.F_law_with.kp T.b_law_with (ja_cons (je_var 4) (ja_cons (je_var 5) (ja_cons je_int (ja_cons (je_var 7) ja_nil)))) (lenA_cons (lenA_cons (lenA_cons (lenA_cons lenA_nil)))) rfl) (je_call (ok_law_with T) (hr.mono (by decide)) (by rfl) T.m_law_with T.F_law_with.kp T.b_law_with (ja_cons (je_var 4) (ja_cons je_int (ja_cons (je_var 5) (ja_cons (je_sub je_int (je_var 7)) ja_nil)))) (lenA_cons (lenA_cons (lenA_cons (lenA_cons lenA_nil)))) rfl))) (jb_cons (js_if (JW.t (jw_or (jt_not (jt_val (je_call (ok_law_like T 6) (hr.mono (by decide)) (by rfl) T.m_law_like T.F_law_like.kp T.b_law_like (ja_cons (je_call (ok_later T) (hr.mono (by decide)) (by rfl) T.m_later T.F_later.kp T.b_later (ja_cons (je_var 4) ja_nil) (lenA_cons lenA_nil) rfl) (ja_cons (je_call (ok_law_later_zone T) (hr.mono (by decide)) (by rfl) T.m_law_later_zone T.F_law_later_zone.kp T.b_law_later_zone (ja_cons (je_var 4) ja_nil) (lenA_cons lenA_nil) rfl) ja_nil)) (lenA_cons (lenA_cons lenA_nil)) rfl))) (jw_or1 (jt_not (jt_val (je_call (ok_law_like T 6) (hr.mono (by decide)) (by rfl) T.m_law_like T.F_law_like.kp T.b_law_like (ja_cons (je_call (ok_bounded T) (hr.mono (by decide)) (by rfl) T.m_bounded T.F_bounded.kp T.b_bounded (ja_cons (je_var 4) (ja_cons (je_var 5) (ja_cons (je_var 6) (ja_cons (je_var 7) ja_nil)))) (lenA_cons (lenA_cons (lenA_cons (lenA_cons lenA_nil)))) rfl) (ja_cons (je_var 9) ja_nil)) (lenA_cons (lenA_cons lenA_nil)) rfl)))))) (jb_one (js_ret je_bl)) jb_nil) (jb_cons (js_if (JW.t (jw_or (jt_not (jt_val (je_call (ok_law_like T 6) (hr.mono (by decide)) (by rfl) T.m_law_like T.F_law_like.kp T.b_law_like (ja_cons (je_call (ok_reset T) (hr.mono (by decide)) (by rfl) T.m_reset T.F_reset.kp T.b_reset (ja_cons (je_var 4) (ja_cons (je_var 5) ja_nil)) (lenA_cons (lenA_cons lenA_nil)) rfl) (ja_cons (je_call (ok_law_reset_zone T) (hr.mono (by decide)) (by rfl) T.m_law_reset_zone T.F_law_reset_zone.kp T.b_law_reset_zone (ja_cons (je_var 4) (ja_cons (je_var 5) ja_nil)) (lenA_cons (lenA_cons lenA_nil)) rfl) ja_nil)) (lenA_cons (lenA_cons lenA_nil)) rfl))) (jw_or1 (jt_not (jt_val (je_call (ok_law_like T 6) (hr.mono (by decide)) (by rfl) T.m_law_like T.F_law_like.kp T.b_law_like (ja_cons (je_call (ok_widened T) (hr.mono (by decide)) (by rfl) T.m_widened T.F_widened.kp T.b_widened (ja_cons (je_var 4) (ja_cons (je_var 8) ja_nil)) (lenA_cons (lenA_cons lenA_nil)) rfl) (ja_cons (je_call (ok_law_wide T) (hr.mono (by decide)) (by rfl) T.m_law_wide T.F_law_wide.kp T.b_law_wide (ja_cons (je_var 4) (ja_cons (je_var 8) ja_nil)) (lenA_cons (lenA_cons lenA_nil)) rfl) ja_nil)) (lenA_cons (lenA_cons lenA_nil)) rfl)))))) (jb_one (js_ret je_bl)) jb_nil) (jb_cons (js_for (vs := [10]) PassesOwn.never rfl (ji_rng1 (by rfl) T.z_range (ja_cons je_int ja_nil)) (jg_name (i := 10) sc_law.nd rfl (by first | exact .inl rfl | exact .inr rfl) (by decide)) (jb_one (js_if (jt_not (jt_tr (je_call (ok_law_holds_of T) (hr.mono (by decide)) (by rfl) T.m_law_holds_of T.F_law_holds_of.kp T.b_law_holds_of (ja_cons (je_var 1) (ja_cons (je_var 4) (ja_cons (je_var 5) (ja_cons (je_var 6) (ja_cons (je_var 7) (ja_cons (je_var 8) ja_nil)))))) (lenA_cons (lenA_cons (lenA_cons (lenA_cons (lenA_cons (lenA_cons lenA_nil)))))) rfl))) (jb_one (js_ret je_bl)) jb_nil))) (jb_cons (js_set (i := 11) sc_law.nd rfl (by first | exact .inl rfl | exact .inr rfl) (je_call (ok_law_drawn_zone T) (hr.mono (by decide)) (by rfl) T.m_law_drawn_zone T.F_law_drawn_zone.kp T.b_law_drawn_zone (ja_cons (je_var 1) (ja_cons (je_var 2) ja_nil)) (lenA_cons (lenA_cons lenA_nil)) rfl)) (jb_cons (js_for (vs := [12, 13]) PassesOwn.never rfl (ji_seq (je_lst (ja_cons (je_tup (ja_cons (je_var 4) (ja_cons (je_var 4) ja_nil))) (ja_cons (je_tup (ja_cons (je_var 4) (ja_cons (je_var 11) ja_nil))) (ja_cons (je_tup (ja_cons (je_var 4) (ja_cons (je_call (ok_later T) (hr.mono (by decide)) (by rfl) T.m_later T.F_later.kp T.b_later (ja_cons (je_var 4) ja_nil) (lenA_cons lenA_nil) rfl) ja_nil))) (ja_cons (je_tup (ja_cons (je_call (ok_later T) (hr.mono (by decide)) (by rfl) T.m_later T.F_later.kp T.b_later (ja_cons (je_var 4) ja_nil) (lenA_cons lenA_nil) rfl) (ja_cons (je_var 4) ja_nil))) (ja_cons (je_tup (ja_cons (je_orX (je_var 9) (je_and1 (je_var 4))) (ja_cons (je_var 4) ja_nil))) ja_nil))))))) (jg_tup rfl (jgs_cons (jg_name (i := 12) sc_law.nd rfl (by first | exact .inl rfl | exact .inr rfl) (by decide)) (jgs_cons (jg_name (i := 13) sc_law.nd rfl (by first | exact .inl rfl | exact .inr rfl) (by decide)) jgs_nil))) (jb_cons (js_setComp (i := 14) (own := [(("i" : Str), 15)]) rfl sc_law.nd rfl rfl (sw_true rfl rfl rfl (by decide +kernel)) (ji_rng1 (by rfl) T.z_range (ja_cons (je_add (je_var 2) je_int) ja_nil)) (blkOk_by (by kernel_rfl)) (fun _ _ _ _ _ => (jg_name (i := 15) sc_law.nd rfl (by first | exact .inl rfl | exact .inr rfl) (by decide))) (fun _ _ _ _ _ => (jts_one (jt_c (c_ne hr) (je_comp (own := [(("j" : Str), 16)]) rfl sc_law.nd (ji_rng1 (by rfl) T.z_range (ja_cons (je_add (je_var 2) je_int) ja_nil)) (blkOk_by (by kernel_rfl)) (fun _ _ _ _ _ => (jg_name (i := 16) sc_law.nd rfl (by first | exact .inl rfl | exact .inr rfl) (by decide))) (fun _ _ _ _ _ => (jts_one (JW.t (jw_and (jt_c c_isnot (je_at (je_at (je_var 13) (je_var 15)) (je_var 16)) je_non) (jw_and1 (JW.t (jw_or (jt_c c_is (je_at (je_at (je_var 12) (je_var 15)) (je_var 16)) je_non) (jw_or1 (jt_c c_gt (je_at (je_at (je_var 12) (je_var 15)) (je_var 16)) (je_at (je_at (je_var 13) (je_var 15)) (je_var 16))))))))))) (fun _ _ _ _ _ => je_int)) (je_lst ja_nil)))) (fun _ _ _ _ _ => je_int)) (jb_one (js_if (jt_not (jt_val (je_call (ok_law_like T 6) (hr.mono (by decide)) (by rfl) T.m_law_like T.F_law_like.kp T.b_law_like (ja_cons (je_call (ok_within T) (hr.mono (by decide)) (by rfl) T.m_within T.F_within.kp T.b_within (ja_cons (je_var 12) (ja_cons (je_var 13) ja_nil)) (lenA_cons (lenA_cons lenA_nil)) rfl) (ja_cons (je_c (c_eq hr) (je_var 14) (je_lst ja_nil)) ja_nil)) (lenA_cons (lenA_cons lenA_nil)) rfl))) (jb_one (js_ret je_bl)) jb_nil)))) (jb_one (js_ret (je_call (ok_law_like T 6) (hr.mono (by decide)) (by rfl) T.m_law_like T.F_law_like.kp T.b_law_like (ja_cons (je_call (ok_points T) (hr.mono (by decide)) (by rfl) T.m_points T.F_points.kp T.b_points (ja_cons (je_var 4) (ja_cons (je_var 8) ja_nil)) (lenA_cons (lenA_cons lenA_nil)) rfl) (ja_cons (je_tuple (by rfl) T.z_tuple (ja_cons (je_call (ok_law_caps T) (hr.mono (by decide)) (by rfl) T.m_law_caps T.F_law_caps.kp T.b_law_caps (ja_cons (je_var 4) (ja_cons (je_var 8) ja_nil)) (lenA_cons (lenA_cons lenA_nil)) rfl) ja_nil)) ja_nil)) (lenA_cons (lenA_cons lenA_nil)) rfl)))))))))))))))))))
end
end Sm
namespace Sm
open PySem PySem.Spec PyProof.Rows L2
theorem sq_fz {K : PySem.W.Frag} {H : Hp} {a : Addr} {vs : List V} (O : L2.Only H) (h : SqL K H a vs) : FzL K H a vs := by
  rcases h with h | h
  · rcases O a with e | ⟨o, xs, e⟩
    · rcases h with h | ⟨o, h⟩ <;> (rw [e] at h; cases h)
    · rcases h with h | ⟨o', h⟩
      · rw [e] at h; cases h
      · exact .inl ⟨o', h⟩
  · exact .inr (.inr h)
theorem rv_ints {K : PySem.W.Frag} {m : List Addr} {H : Hp} : ∀ ns : List Int, RVs K m H (ns.map V.int) (ns.map D.int)
  | [] => .nil
  | n :: r => .cons (.int n) (rv_ints r)
theorem sim_nil {w : World} {K : PySem.W.Frag} {H : Hp} : Sim w K [] [] H := ⟨rfl, List.nodup_nil, fun i a o h => by cases h⟩
set_option maxHeartbeats 0 in
theorem all_mk {l : PySem.W.OpenLaw} {w : World} {K : PySem.W.Frag} {h : Heap} {mg : Str → Option Value} {fa f1 f2 f3 f4 f5 f6 f7 f8 f9 f10 f11 f12 f13 f14 f15 f16 f17 f18 f19 f20 f21 f22 f23 f24 f25 f26 f27 : Addr} {od1 an1 od2 an2 od3 an3 od4 an4 od5 an5 od6 an6 od7 an7 od8 an8 od9 an9 od10 an10 od11 an11 od12 an12 od13 an13 od14 an14 od15 an15 od16 an16 od17 an17 od18 an18 od19 an19 od20 an20 od21 an21 od22 an22 od23 an23 od24 an24 od25 an25 od26 an26 od27 an27 : Option Addr} {sl1 sl2 sl3 sl4 sl5 sl6 sl7 sl8 sl9 sl10 sl11 sl12 sl13 sl14 sl15 sl16 sl17 sl18 sl19 sl20 sl21 sl22 sl23 sl24 sl25 sl26 sl27 : Array (Option Value)} {oc1 kV1 dc1 pm1 cd1 ct1 oc2 kV2 dc2 pm2 cd2 ct2 oc3 kV3 dc3 pm3 cd3 ct3 oc4 kV4 dc4 pm4 cd4 ct4 oc5 kV5 dc5 pm5 cd5 ct5 oc6 kV6 dc6 pm6 cd6 ct6 oc7 kV7 dc7 pm7 cd7 ct7 oc8 kV8 dc8 pm8 cd8 ct8 oc9 kV9 dc9 pm9 cd9 ct9 oc10 kV10 dc10 pm10 cd10 ct10 oc11 kV11 dc11 pm11 cd11 ct11 oc12 kV12 dc12 pm12 cd12 ct12 oc13 kV13 dc13 pm13 cd13 ct13 oc14 kV14 dc14 pm14 cd14 ct14 oc15 kV15 dc15 pm15 cd15 ct15 oc16 kV16 dc16 pm16 cd16 ct16 oc17 kV17 dc17 pm17 cd17 ct17 oc18 kV18 dc18 pm18 cd18 ct18 oc19 kV19 dc19 pm19 cd19 ct19 oc20 kV20 dc20 pm20 cd20 ct20 oc21 kV21 dc21 pm21 cd21 ct21 oc22 kV22 dc22 pm22 cd22 ct22 oc23 kV23 dc23 pm23 cd23 ct23 oc24 kV24 dc24 pm24 cd24 ct24 oc25 kV25 dc25 pm25 cd25 ct25 oc26 kV26 dc26 pm26 cd26 ct26 oc27 kV27 dc27 pm27 cd27 ct27 : Value} (X : K.In h) (G : h.Ns mainGlobals mg) (hfa : mg "law" = some (.ref fa))
    (a1 : PySem.W.nsIn K mainGlobals "less_of" = some (some (.ref f1))) (l1 : K.lookup f1 = some ⟨oc1, od1, .func (PySem.W.fnOf "less_of" "less_of" (defArgs (topS 1)) (defBody (topS 1)) (defScope (topS 1)) .none kV1 dc1 pm1 an1 cd1 ct1), sl1⟩) (c1 : PySem.W.codeIn K cd1 "less_of" = true) (k1 : PySem.W.keepIn K (.ref f1) = true)
    (a2 : PySem.W.nsIn K mainGlobals "sum_of" = some (some (.ref f2))) (l2 : K.lookup f2 = some ⟨oc2, od2, .func (PySem.W.fnOf "sum_of" "sum_of" (defArgs (topS 2)) (defBody (topS 2)) (defScope (topS 2)) .none kV2 dc2 pm2 an2 cd2 ct2), sl2⟩) (c2 : PySem.W.codeIn K cd2 "sum_of" = true) (k2 : PySem.W.keepIn K (.ref f2) = true)
    (a3 : PySem.W.nsIn K mainGlobals "tight_rows" = some (some (.ref f3))) (l3 : K.lookup f3 = some ⟨oc3, od3, .func (PySem.W.fnOf "tight_rows" "tight_rows" (defArgs (topS 3)) (defBody (topS 3)) (defScope (topS 3)) .none kV3 dc3 pm3 an3 cd3 ct3), sl3⟩) (c3 : PySem.W.codeIn K cd3 "tight_rows" = true) (k3 : PySem.W.keepIn K (.ref f3) = true)
    (a4 : PySem.W.nsIn K mainGlobals "tight" = some (some (.ref f4))) (l4 : K.lookup f4 = some ⟨oc4, od4, .func (PySem.W.fnOf "tight" "tight" (defArgs (topS 4)) (defBody (topS 4)) (defScope (topS 4)) .none kV4 dc4 pm4 an4 cd4 ct4), sl4⟩) (c4 : PySem.W.codeIn K cd4 "tight" = true) (k4 : PySem.W.keepIn K (.ref f4) = true)
    (a5 : PySem.W.nsIn K mainGlobals "later" = some (some (.ref f5))) (l5 : K.lookup f5 = some ⟨oc5, od5, .func (PySem.W.fnOf "later" "later" (defArgs (topS 5)) (defBody (topS 5)) (defScope (topS 5)) .none kV5 dc5 pm5 an5 cd5 ct5), sl5⟩) (c5 : PySem.W.codeIn K cd5 "later" = true) (k5 : PySem.W.keepIn K (.ref f5) = true)
    (a6 : PySem.W.nsIn K mainGlobals "bounded" = some (some (.ref f6))) (l6 : K.lookup f6 = some ⟨oc6, od6, .func (PySem.W.fnOf "bounded" "bounded" (defArgs (topS 6)) (defBody (topS 6)) (defScope (topS 6)) .none kV6 dc6 pm6 an6 cd6 ct6), sl6⟩) (c6 : PySem.W.codeIn K cd6 "bounded" = true) (k6 : PySem.W.keepIn K (.ref f6) = true)
    (a7 : PySem.W.nsIn K mainGlobals "reset" = some (some (.ref f7))) (l7 : K.lookup f7 = some ⟨oc7, od7, .func (PySem.W.fnOf "reset" "reset" (defArgs (topS 7)) (defBody (topS 7)) (defScope (topS 7)) .none kV7 dc7 pm7 an7 cd7 ct7), sl7⟩) (c7 : PySem.W.codeIn K cd7 "reset" = true) (k7 : PySem.W.keepIn K (.ref f7) = true)
    (a8 : PySem.W.nsIn K mainGlobals "widened" = some (some (.ref f8))) (l8 : K.lookup f8 = some ⟨oc8, od8, .func (PySem.W.fnOf "widened" "widened" (defArgs (topS 8)) (defBody (topS 8)) (defScope (topS 8)) .none kV8 dc8 pm8 an8 cd8 ct8), sl8⟩) (c8 : PySem.W.codeIn K cd8 "widened" = true) (k8 : PySem.W.keepIn K (.ref f8) = true)
    (a9 : PySem.W.nsIn K mainGlobals "has_point" = some (some (.ref f9))) (l9 : K.lookup f9 = some ⟨oc9, od9, .func (PySem.W.fnOf "has_point" "has_point" (defArgs (topS 9)) (defBody (topS 9)) (defScope (topS 9)) .none kV9 dc9 pm9 an9 cd9 ct9), sl9⟩) (c9 : PySem.W.codeIn K cd9 "has_point" = true) (k9 : PySem.W.keepIn K (.ref f9) = true)
    (a10 : PySem.W.nsIn K mainGlobals "within" = some (some (.ref f10))) (l10 : K.lookup f10 = some ⟨oc10, od10, .func (PySem.W.fnOf "within" "within" (defArgs (topS 10)) (defBody (topS 10)) (defScope (topS 10)) .none kV10 dc10 pm10 an10 cd10 ct10), sl10⟩) (c10 : PySem.W.codeIn K cd10 "within" = true) (k10 : PySem.W.keepIn K (.ref f10) = true)
    (a11 : PySem.W.nsIn K mainGlobals "gather" = some (some (.ref f11))) (l11 : K.lookup f11 = some ⟨oc11, od11, .func (PySem.W.fnOf "gather" "gather" (defArgs (topS 12)) (defBody (topS 12)) (defScope (topS 12)) .none kV11 dc11 pm11 an11 cd11 ct11), sl11⟩) (c11 : PySem.W.codeIn K cd11 "gather" = true) (k11 : PySem.W.keepIn K (.ref f11) = true)
    (a12 : PySem.W.nsIn K mainGlobals "points" = some (some (.ref f12))) (l12 : K.lookup f12 = some ⟨oc12, od12, .func (PySem.W.fnOf "points" "points" (defArgs (topS 11)) (defBody (topS 11)) (defScope (topS 11)) .none kV12 dc12 pm12 an12 cd12 ct12), sl12⟩) (c12 : PySem.W.codeIn K cd12 "points" = true) (k12 : PySem.W.keepIn K (.ref f12) = true)
    (a13 : PySem.W.nsIn K mainGlobals "_law_cell" = some (some (.ref f13))) (l13 : K.lookup f13 = some ⟨oc13, od13, .func (PySem.W.fnOf "_law_cell" "_law_cell" (defArgs (topS 14)) (defBody (topS 14)) (defScope (topS 14)) .none kV13 dc13 pm13 an13 cd13 ct13), sl13⟩) (c13 : PySem.W.codeIn K cd13 "_law_cell" = true) (k13 : PySem.W.keepIn K (.ref f13) = true)
    (a14 : PySem.W.nsIn K mainGlobals "_law_digits" = some (some (.ref f14))) (l14 : K.lookup f14 = some ⟨oc14, od14, .func (PySem.W.fnOf "_law_digits" "_law_digits" (defArgs (topS 15)) (defBody (topS 15)) (defScope (topS 15)) .none kV14 dc14 pm14 an14 cd14 ct14), sl14⟩) (c14 : PySem.W.codeIn K cd14 "_law_digits" = true) (k14 : PySem.W.keepIn K (.ref f14) = true)
    (a15 : PySem.W.nsIn K mainGlobals "_law_draw" = some (some (.ref f15))) (l15 : K.lookup f15 = some ⟨oc15, od15, .func (PySem.W.fnOf "_law_draw" "_law_draw" (defArgs (topS 16)) (defBody (topS 16)) (defScope (topS 16)) .none kV15 dc15 pm15 an15 cd15 ct15), sl15⟩) (c15 : PySem.W.codeIn K cd15 "_law_draw" = true) (k15 : PySem.W.keepIn K (.ref f15) = true)
    (a16 : PySem.W.nsIn K mainGlobals "_law_like" = some (some (.ref f16))) (l16 : K.lookup f16 = some ⟨oc16, od16, .func (PySem.W.fnOf "_law_like" "_law_like" (defArgs (topS 17)) (defBody (topS 17)) (defScope (topS 17)) .none kV16 dc16 pm16 an16 cd16 ct16), sl16⟩) (c16 : PySem.W.codeIn K cd16 "_law_like" = true) (k16 : PySem.W.keepIn K (.ref f16) = true)
    (a17 : PySem.W.nsIn K mainGlobals "_law_less" = some (some (.ref f17))) (l17 : K.lookup f17 = some ⟨oc17, od17, .func (PySem.W.fnOf "_law_less" "_law_less" (defArgs (topS 18)) (defBody (topS 18)) (defScope (topS 18)) .none kV17 dc17 pm17 an17 cd17 ct17), sl17⟩) (c17 : PySem.W.codeIn K cd17 "_law_less" = true) (k17 : PySem.W.keepIn K (.ref f17) = true)
    (a18 : PySem.W.nsIn K mainGlobals "_law_tight" = some (some (.ref f18))) (l18 : K.lookup f18 = some ⟨oc18, od18, .func (PySem.W.fnOf "_law_tight" "_law_tight" (defArgs (topS 19)) (defBody (topS 19)) (defScope (topS 19)) .none kV18 dc18 pm18 an18 cd18 ct18), sl18⟩) (c18 : PySem.W.codeIn K cd18 "_law_tight" = true) (k18 : PySem.W.keepIn K (.ref f18) = true)
    (a19 : PySem.W.nsIn K mainGlobals "_law_with" = some (some (.ref f19))) (l19 : K.lookup f19 = some ⟨oc19, od19, .func (PySem.W.fnOf "_law_with" "_law_with" (defArgs (topS 20)) (defBody (topS 20)) (defScope (topS 20)) .none kV19 dc19 pm19 an19 cd19 ct19), sl19⟩) (c19 : PySem.W.codeIn K cd19 "_law_with" = true) (k19 : PySem.W.keepIn K (.ref f19) = true)
    (a20 : PySem.W.nsIn K mainGlobals "_law_later_zone" = some (some (.ref f20))) (l20 : K.lookup f20 = some ⟨oc20, od20, .func (PySem.W.fnOf "_law_later_zone" "_law_later_zone" (defArgs (topS 21)) (defBody (topS 21)) (defScope (topS 21)) .none kV20 dc20 pm20 an20 cd20 ct20), sl20⟩) (c20 : PySem.W.codeIn K cd20 "_law_later_zone" = true) (k20 : PySem.W.keepIn K (.ref f20) = true)
    (a21 : PySem.W.nsIn K mainGlobals "_law_reset_zone" = some (some (.ref f21))) (l21 : K.lookup f21 = some ⟨oc21, od21, .func (PySem.W.fnOf "_law_reset_zone" "_law_reset_zone" (defArgs (topS 22)) (defBody (topS 22)) (defScope (topS 22)) .none kV21 dc21 pm21 an21 cd21 ct21), sl21⟩) (c21 : PySem.W.codeIn K cd21 "_law_reset_zone" = true) (k21 : PySem.W.keepIn K (.ref f21) = true)
    (a22 : PySem.W.nsIn K mainGlobals "_law_wide" = some (some (.ref f22))) (l22 : K.lookup f22 = some ⟨oc22, od22, .func (PySem.W.fnOf "_law_wide" "_law_wide" (defArgs (topS 23)) (defBody (topS 23)) (defScope (topS 23)) .none kV22 dc22 pm22 an22 cd22 ct22), sl22⟩) (c22 : PySem.W.codeIn K cd22 "_law_wide" = true) (k22 : PySem.W.keepIn K (.ref f22) = true)
    (a23 : PySem.W.nsIn K mainGlobals "_law_caps" = some (some (.ref f23))) (l23 : K.lookup f23 = some ⟨oc23, od23, .func (PySem.W.fnOf "_law_caps" "_law_caps" (defArgs (topS 24)) (defBody (topS 24)) (defScope (topS 24)) .none kV23 dc23 pm23 an23 cd23 ct23), sl23⟩) (c23 : PySem.W.codeIn K cd23 "_law_caps" = true) (k23 : PySem.W.keepIn K (.ref f23) = true)
    (a24 : PySem.W.nsIn K mainGlobals "_law_drawn_zone" = some (some (.ref f24))) (l24 : K.lookup f24 = some ⟨oc24, od24, .func (PySem.W.fnOf "_law_drawn_zone" "_law_drawn_zone" (defArgs (topS 25)) (defBody (topS 25)) (defScope (topS 25)) .none kV24 dc24 pm24 an24 cd24 ct24), sl24⟩) (c24 : PySem.W.codeIn K cd24 "_law_drawn_zone" = true) (k24 : PySem.W.keepIn K (.ref f24) = true)
    (a25 : PySem.W.nsIn K mainGlobals "_law_in_zone" = some (some (.ref f25))) (l25 : K.lookup f25 = some ⟨oc25, od25, .func (PySem.W.fnOf "_law_in_zone" "_law_in_zone" (defArgs (topS 26)) (defBody (topS 26)) (defScope (topS 26)) .none kV25 dc25 pm25 an25 cd25 ct25), sl25⟩) (c25 : PySem.W.codeIn K cd25 "_law_in_zone" = true) (k25 : PySem.W.keepIn K (.ref f25) = true)
    (a26 : PySem.W.nsIn K mainGlobals "_law_holds_of" = some (some (.ref f26))) (l26 : K.lookup f26 = some ⟨oc26, od26, .func (PySem.W.fnOf "_law_holds_of" "_law_holds_of" (defArgs (topS 27)) (defBody (topS 27)) (defScope (topS 27)) .none kV26 dc26 pm26 an26 cd26 ct26), sl26⟩) (c26 : PySem.W.codeIn K cd26 "_law_holds_of" = true) (k26 : PySem.W.keepIn K (.ref f26) = true)
    (a27 : PySem.W.nsIn K mainGlobals "law" = some (some (.ref f27))) (l27 : K.lookup f27 = some ⟨oc27, od27, .func (PySem.W.fnOf "law" "law" (defArgs (topS 28)) (defBody (topS 28)) (defScope (topS 28)) .none kV27 dc27 pm27 an27 cd27 ct27), sl27⟩) (c27 : PySem.W.codeIn K cd27 "law" = true) (k27 : PySem.W.keepIn K (.ref f27) = true)
    (z1 : PySem.W.nsIn K mainGlobals "all" = some none)
    (z2 : PySem.W.nsIn K mainGlobals "bool" = some none)
    (z3 : PySem.W.nsIn K mainGlobals "enumerate" = some none)
    (z4 : PySem.W.nsIn K mainGlobals "int" = some none)
    (z5 : PySem.W.nsIn K mainGlobals "isinstance" = some none)
    (z6 : PySem.W.nsIn K mainGlobals "len" = some none)
    (z7 : PySem.W.nsIn K mainGlobals "list" = some none)
    (z8 : PySem.W.nsIn K mainGlobals "max" = some none)
    (z9 : PySem.W.nsIn K mainGlobals "min" = some none)
    (z10 : PySem.W.nsIn K mainGlobals "range" = some none)
    (z11 : PySem.W.nsIn K mainGlobals "sorted" = some none)
    (z12 : PySem.W.nsIn K mainGlobals "str" = some none)
    (z13 : PySem.W.nsIn K mainGlobals "tuple" = some none)
    (z14 : PySem.W.nsIn K mainGlobals "zip" = some none) :
    ∃ fd : FuncData, (∀ (s : Shared) (v : Value), BindsTo s fd ⟨[v], []⟩ [("script", v)]) ∧ ∀ base : Heap, K.In base → base.Ns mainGlobals mg → FnOk l.prog w K mg base CX0 12 fa fd ["script"] (spF w K 1 F_law) := by
  have e := hfa.symm.trans (PySem.W.mg_of X G a27)
  cases e
  have F1 := fun_mk (st := topS 1) l1 c1 k1
  have b1 := F1.binds (ps := ["one", "other"]) fun _ _ _ _ _ _ us hl => match us, hl with | [_, _], _ => rfl
  have F2 := fun_mk (st := topS 2) l2 c2 k2
  have b2 := F2.binds (ps := ["one", "other"]) fun _ _ _ _ _ _ us hl => match us, hl with | [_, _], _ => rfl
  have F3 := fun_mk (st := topS 3) l3 c3 k3
  have b3 := F3.binds (ps := ["zone"]) fun _ _ _ _ _ _ us hl => match us, hl with | [_], _ => rfl
  have F4 := fun_mk (st := topS 4) l4 c4 k4
  have b4 := F4.binds (ps := ["zone"]) fun _ _ _ _ _ _ us hl => match us, hl with | [_], _ => rfl
  have F5 := fun_mk (st := topS 5) l5 c5 k5
  have b5 := F5.binds (ps := ["zone"]) fun _ _ _ _ _ _ us hl => match us, hl with | [_], _ => rfl
  have F6 := fun_mk (st := topS 6) l6 c6 k6
  have b6 := F6.binds (ps := ["zone", "clock", "sign", "number"]) fun _ _ _ _ _ _ us hl => match us, hl with | [_, _, _, _], _ => rfl
  have F7 := fun_mk (st := topS 7) l7 c7 k7
  have b7 := F7.binds (ps := ["zone", "clock"]) fun _ _ _ _ _ _ us hl => match us, hl with | [_, _], _ => rfl
  have F8 := fun_mk (st := topS 8) l8 c8 k8
  have b8 := F8.binds (ps := ["zone", "most"]) fun _ _ _ _ _ _ us hl => match us, hl with | [_, _], _ => rfl
  have F9 := fun_mk (st := topS 9) l9 c9 k9
  have b9 := F9.binds (ps := ["zone", "point"]) fun _ _ _ _ _ _ us hl => match us, hl with | [_, _], _ => rfl
  have F10 := fun_mk (st := topS 10) l10 c10 k10
  have b10 := F10.binds (ps := ["one", "other"]) fun _ _ _ _ _ _ us hl => match us, hl with | [_, _], _ => rfl
  have F11 := fun_mk (st := topS 12) l11 c11 k11
  have b11 := F11.binds (ps := ["zone", "most", "clock", "ahead", "found"]) fun _ _ _ _ _ _ us hl => match us, hl with | [_, _, _, _, _], _ => rfl
  have F12 := fun_mk (st := topS 11) l12 c12 k12
  have b12 := F12.binds (ps := ["zone", "most"]) fun _ _ _ _ _ _ us hl => match us, hl with | [_, _], _ => rfl
  have F13 := fun_mk (st := topS 14) l13 c13 k13
  have b13 := F13.binds (ps := ["script", "k"]) fun _ _ _ _ _ _ us hl => match us, hl with | [_, _], _ => rfl
  have F14 := fun_mk (st := topS 15) l14 c14 k14
  have b14 := F14.binds (ps := ["script", "first", "last"]) fun _ _ _ _ _ _ us hl => match us, hl with | [_, _, _], _ => rfl
  have F15 := fun_mk (st := topS 16) l15 c15 k15
  have b15 := F15.binds (ps := ["box", "many"]) fun _ _ _ _ _ _ us hl => match us, hl with | [_, _], _ => rfl
  have F16 := fun_mk (st := topS 17) l16 c16 k16
  have b16 := F16.binds (ps := ["actual", "due"]) fun _ _ _ _ _ _ us hl => match us, hl with | [_, _], _ => rfl
  have F17 := fun_mk (st := topS 18) l17 c17 k17
  have b17 := F17.binds (ps := ["one", "other"]) fun _ _ _ _ _ _ us hl => match us, hl with | [_, _], _ => rfl
  have F18 := fun_mk (st := topS 19) l18 c18 k18
  have b18 := F18.binds (ps := ["zone"]) fun _ _ _ _ _ _ us hl => match us, hl with | [_], _ => rfl
  have F19 := fun_mk (st := topS 20) l19 c19 k19
  have b19 := F19.binds (ps := ["zone", "i", "j", "bound"]) fun _ _ _ _ _ _ us hl => match us, hl with | [_, _, _, _], _ => rfl
  have F20 := fun_mk (st := topS 21) l20 c20 k20
  have b20 := F20.binds (ps := ["zone"]) fun _ _ _ _ _ _ us hl => match us, hl with | [_], _ => rfl
  have F21 := fun_mk (st := topS 22) l21 c21 k21
  have b21 := F21.binds (ps := ["zone", "clock"]) fun _ _ _ _ _ _ us hl => match us, hl with | [_, _], _ => rfl
  have F22 := fun_mk (st := topS 23) l22 c22 k22
  have b22 := F22.binds (ps := ["zone", "most"]) fun _ _ _ _ _ _ us hl => match us, hl with | [_, _], _ => rfl
  have F23 := fun_mk (st := topS 24) l23 c23 k23
  have b23 := F23.binds (ps := ["zone", "most"]) fun _ _ _ _ _ _ us hl => match us, hl with | [_, _], _ => rfl
  have F24 := fun_mk (st := topS 25) l24 c24 k24
  have b24 := F24.binds (ps := ["box", "many"]) fun _ _ _ _ _ _ us hl => match us, hl with | [_, _], _ => rfl
  have F25 := fun_mk (st := topS 26) l25 c25 k25
  have b25 := F25.binds (ps := ["zone", "point"]) fun _ _ _ _ _ _ us hl => match us, hl with | [_, _], _ => rfl
  have F26 := fun_mk (st := topS 27) l26 c26 k26
  have b26 := F26.binds (ps := ["box", "zone", "clock", "sign", "number", "most"]) fun _ _ _ _ _ _ us hl => match us, hl with | [_, _, _, _, _, _], _ => rfl
  have F27 := fun_mk (st := topS 28) l27 c27 k27
  have b27 := F27.binds (ps := ["script"]) fun _ _ _ _ _ _ us hl => match us, hl with | [_], _ => rfl
  refine ⟨PySem.W.fnOf "law" "law" (defArgs (topS 28)) (defBody (topS 28)) (defScope (topS 28)) .none kV27 dc27 pm27 an27 cd27 ct27, fun s v => .of_eq rfl, fun base _ _ => ?_⟩
  exact ok_law (P := l.prog) (w := w) (base := base) (Tx.mk _ _ F1 b1 (PySem.W.mg_of X G a1) _ _ F2 b2 (PySem.W.mg_of X G a2) _ _ F3 b3 (PySem.W.mg_of X G a3) _ _ F4 b4 (PySem.W.mg_of X G a4) _ _ F5 b5 (PySem.W.mg_of X G a5) _ _ F6 b6 (PySem.W.mg_of X G a6) _ _ F7 b7 (PySem.W.mg_of X G a7) _ _ F8 b8 (PySem.W.mg_of X G a8) _ _ F9 b9 (PySem.W.mg_of X G a9) _ _ F10 b10 (PySem.W.mg_of X G a10) _ _ F11 b11 (PySem.W.mg_of X G a11) _ _ F12 b12 (PySem.W.mg_of X G a12) _ _ F13 b13 (PySem.W.mg_of X G a13) _ _ F14 b14 (PySem.W.mg_of X G a14) _ _ F15 b15 (PySem.W.mg_of X G a15) _ _ F16 b16 (PySem.W.mg_of X G a16) _ _ F17 b17 (PySem.W.mg_of X G a17) _ _ F18 b18 (PySem.W.mg_of X G a18) _ _ F19 b19 (PySem.W.mg_of X G a19) _ _ F20 b20 (PySem.W.mg_of X G a20) _ _ F21 b21 (PySem.W.mg_of X G a21) _ _ F22 b22 (PySem.W.mg_of X G a22) _ _ F23 b23 (PySem.W.mg_of X G a23) _ _ F24 b24 (PySem.W.mg_of X G a24) _ _ F25 b25 (PySem.W.mg_of X G a25) _ _ F26 b26 (PySem.W.mg_of X G a26) _ _ F27 b27 (PySem.W.mg_of X G a27) (PySem.W.mg_none_of X G z1) (PySem.W.mg_none_of X G z2) (PySem.W.mg_none_of X G z3) (PySem.W.mg_none_of X G z4) (PySem.W.mg_none_of X G z5) (PySem.W.mg_none_of X G z6) (PySem.W.mg_none_of X G z7) (PySem.W.mg_none_of X G z8) (PySem.W.mg_none_of X G z9) (PySem.W.mg_none_of X G z10) (PySem.W.mg_none_of X G z11) (PySem.W.mg_none_of X G z12) (PySem.W.mg_none_of X G z13) (PySem.W.mg_none_of X G z14))
theorem walk {l : PySem.W.OpenLaw} {q : Program} {loose : List Str} {XP : (Str → Option Value) → Heap → Prop} {YP : World → Heap → Prop} {d : DefRec} {K : Params → PySem.W.Frag} (hn : l.most = some 63) (hdf : d.params.defaults = [])
    (hY : ∀ (w : World) (h : Heap), YP w h → (K w.params).In h)
    (F : ∀ (w : World) (mg : Str → Option Value) (fa : Addr) (h : Heap), (K w.params).In h → h.Ns mainGlobals mg → mg d.name = some (.ref fa) →
      ∃ fd : FuncData, (∀ (s : Shared) (u : Value), BindsTo s fd ⟨[u], []⟩ [("script", u)]) ∧ ∀ base : Heap, (K w.params).In base → base.Ns mainGlobals mg → FnOk l.prog w (K w.params) mg base CX0 12 fa fd ["script"] (spF w (K w.params) 1 F_law)) :
    PySem.W.WalkO q loose XP YP l.row.toRowW d [] (fun f vs => PySem.call f vs) :=
  L2.walk_of (n := 63) (k := 12) (x := "script") (CX := fun _ => CX0) (sp := fun w => spF w (K w.params) 1 F_law) hn (by decide) hdf ⟨rfl, by decide, by decide⟩ hY F (fun w H a ns hl O hS => by
    obtain ⟨h', e⟩ := law_ok (h := []) ns
    exact ⟨[], [], [.fl (ns.map D.int)], .bl true, h', sim_nil, .cons (.fl (sq_fz O hS) (rv_ints ns)) .nil, rfl, e, fun m' H' v _ _ r => by cases r; rfl⟩) fun _ _ _ _ _ z => z
end Sm
open PySem PySem.W PyProof.Rows
set_option maxRecDepth 100000 in
set_option maxHeartbeats 0 in
theorem PySem.Challenge.cw_allroads_k69_zones_of_points_holds : PySem.Challenge.rw_allroads_k69_zones_of_points.Holds := by
  w_on; o_law; k_head; (case hw => w_witness2)
  k_fill
  refine Sm.walk (l := PySem.Challenge.rw_allroads_k69_zones_of_points) rfl rfl (fun w h Y => PySem.W.kIn_of Y) ?F
  case F =>
    intro w mg fa h KX G hmg
    refine' Sm.all_mk KX G hmg ?a1 ?l1 ?c1 ?k1 ?a2 ?l2 ?c2 ?k2 ?a3 ?l3 ?c3 ?k3 ?a4 ?l4 ?c4 ?k4 ?a5 ?l5 ?c5 ?k5 ?a6 ?l6 ?c6 ?k6 ?a7 ?l7 ?c7 ?k7 ?a8 ?l8 ?c8 ?k8 ?a9 ?l9 ?c9 ?k9 ?a10 ?l10 ?c10 ?k10 ?a11 ?l11 ?c11 ?k11 ?a12 ?l12 ?c12 ?k12 ?a13 ?l13 ?c13 ?k13 ?a14 ?l14 ?c14 ?k14 ?a15 ?l15 ?c15 ?k15 ?a16 ?l16 ?c16 ?k16 ?a17 ?l17 ?c17 ?k17 ?a18 ?l18 ?c18 ?k18 ?a19 ?l19 ?c19 ?k19 ?a20 ?l20 ?c20 ?k20 ?a21 ?l21 ?c21 ?k21 ?a22 ?l22 ?c22 ?k22 ?a23 ?l23 ?c23 ?k23 ?a24 ?l24 ?c24 ?k24 ?a25 ?l25 ?c25 ?k25 ?a26 ?l26 ?c26 ?k26 ?a27 ?l27 ?c27 ?k27 ?z1 ?z2 ?z3 ?z4 ?z5 ?z6 ?z7 ?z8 ?z9 ?z10 ?z11 ?z12 ?z13 ?z14
    (case a1 => k_is)
    (case l1 => k_is)
    (case c1 => k_is)
    (case k1 => k_is)
    (case a2 => k_is)
    (case l2 => k_is)
    (case c2 => k_is)
    (case k2 => k_is)
    (case a3 => k_is)
    (case l3 => k_is)
    (case c3 => k_is)
    (case k3 => k_is)
    (case a4 => k_is)
    (case l4 => k_is)
    (case c4 => k_is)
    (case k4 => k_is)
    (case a5 => k_is)
    (case l5 => k_is)
    (case c5 => k_is)
    (case k5 => k_is)
    (case a6 => k_is)
    (case l6 => k_is)
    (case c6 => k_is)
    (case k6 => k_is)
    (case a7 => k_is)
    (case l7 => k_is)
    (case c7 => k_is)
    (case k7 => k_is)
    (case a8 => k_is)
    (case l8 => k_is)
    (case c8 => k_is)
    (case k8 => k_is)
    (case a9 => k_is)
    (case l9 => k_is)
    (case c9 => k_is)
    (case k9 => k_is)
    (case a10 => k_is)
    (case l10 => k_is)
    (case c10 => k_is)
    (case k10 => k_is)
    (case a11 => k_is)
    (case l11 => k_is)
    (case c11 => k_is)
    (case k11 => k_is)
    (case a12 => k_is)
    (case l12 => k_is)
    (case c12 => k_is)
    (case k12 => k_is)
    (case a13 => k_is)
    (case l13 => k_is)
    (case c13 => k_is)
    (case k13 => k_is)
    (case a14 => k_is)
    (case l14 => k_is)
    (case c14 => k_is)
    (case k14 => k_is)
    (case a15 => k_is)
    (case l15 => k_is)
    (case c15 => k_is)
    (case k15 => k_is)
    (case a16 => k_is)
    (case l16 => k_is)
    (case c16 => k_is)
    (case k16 => k_is)
    (case a17 => k_is)
    (case l17 => k_is)
    (case c17 => k_is)
    (case k17 => k_is)
    (case a18 => k_is)
    (case l18 => k_is)
    (case c18 => k_is)
    (case k18 => k_is)
    (case a19 => k_is)
    (case l19 => k_is)
    (case c19 => k_is)
    (case k19 => k_is)
    (case a20 => k_is)
    (case l20 => k_is)
    (case c20 => k_is)
    (case k20 => k_is)
    (case a21 => k_is)
    (case l21 => k_is)
    (case c21 => k_is)
    (case k21 => k_is)
    (case a22 => k_is)
    (case l22 => k_is)
    (case c22 => k_is)
    (case k22 => k_is)
    (case a23 => k_is)
    (case l23 => k_is)
    (case c23 => k_is)
    (case k23 => k_is)
    (case a24 => k_is)
    (case l24 => k_is)
    (case c24 => k_is)
    (case k24 => k_is)
    (case a25 => k_is)
    (case l25 => k_is)
    (case c25 => k_is)
    (case k25 => k_is)
    (case a26 => k_is)
    (case l26 => k_is)
    (case c26 => k_is)
    (case k26 => k_is)
    (case a27 => k_is)
    (case l27 => k_is)
    (case c27 => k_is)
    (case k27 => k_is)
    (case z1 => k_is)
    (case z2 => k_is)
    (case z3 => k_is)
    (case z4 => k_is)
    (case z5 => k_is)
    (case z6 => k_is)
    (case z7 => k_is)
    (case z8 => k_is)
    (case z9 => k_is)
    (case z10 => k_is)
    (case z11 => k_is)
    (case z12 => k_is)
    (case z13 => k_is)
    (case z14 => k_is)
#print axioms PySem.Challenge.cw_allroads_k69_zones_of_points_holds
