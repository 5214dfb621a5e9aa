import PyProof.Rows.All
import Wide.All
import OpenK.AllK
import Wide.FinOn
import HandS.ForMost
import HandS.TupAny
import HandS.IsInst
import HandS.Conv
import HandS.Style
import HandS.Flow
import HandS.Strs
import HandS.Zip
import KE.GoesMore
import KE.GoesZip
import PySem.Challenge.RW_allroads_k31_cells_and_rows
set_option Elab.async false
set_option linter.all false
set_option maxRecDepth 100000
namespace Sm
open PySem PySem.Spec PyProof.Rows L2

/-! ## plain data, plain heaps -/
inductive D where
  | non | bl (b : Bool) | int (i : Int) | str (x : Str) | tup (ds : List D) | zt (ds : List D) | fl (ds : List D) | ref (a : Nat) | ty (n : String)
mutual
def D.same : D → D → Bool
  | .non, .non => true
  | .bl a, .bl b => a == b
  | .int a, .int b => a == b
  | .str a, .str b => decide (a = b)
  | .tup a, .tup b => D.sames a b
  | .zt a, .zt b => D.sames a b
  | .fl a, .fl b => D.sames a b
  | .ref a, .ref b => a == b
  | .ty a, .ty b => a == b
  | _, _ => false
def D.sames : List D → List D → Bool
  | [], [] => true
  | a :: r, b :: s => D.same a b && D.sames r s
  | _, _ => false
end
mutual
theorem D.same_iff : ∀ a b : D, D.same a b = true ↔ a = b
  | .non, b => by cases b <;> simp [D.same]
  | .bl a, b => by cases b <;> simp [D.same]
  | .int a, b => by cases b <;> simp [D.same]
  | .str a, b => by cases b <;> simp [D.same]
  | .tup a, b => by cases b <;> simp [D.same, D.sames_iff a]
  | .zt a, b => by cases b <;> simp [D.same, D.sames_iff a]
  | .fl a, b => by cases b <;> simp [D.same, D.sames_iff a]
  | .ref a, b => by cases b <;> simp [D.same]
  | .ty a, b => by cases b <;> simp [D.same]
theorem D.sames_iff : ∀ a b : List D, D.sames a b = true ↔ a = b
  | [], b => by cases b <;> simp [D.sames]
  | a :: r, b => by cases b <;> simp [D.sames, D.same_iff a, D.sames_iff r]
end
instance : DecidableEq D := fun a b => decidable_of_iff (D.same a b = true) (D.same_iff a b)
inductive O where
  | lst (ds : List D)
  | dic (kvs : List (D × D))
  deriving DecidableEq
abbrev AH := List O
abbrev AT := List (Option D)
/-- what an expression hands on: a plain value, or a new list that nobody holds yet -/
inductive LV where
  | val (d : D) | new (ds : List D)
  deriving DecidableEq
abbrev SE := AT → AH → Option (LV × AH)
abbrev SA := AT → AH → Option (List LV × AH)
abbrev ST := AT → AH → Option (Bool × AH)
abbrev SF := List D → AH → Option (D × AH)
inductive Res where
  | nx (τ : AT) (h : AH) | rt (d : D) (h : AH) | bk (τ : AT) (h : AH) | ct (τ : AT) (h : AH)
abbrev SS := AT → AH → Option Res

/-! ## how they stand for the layer's values and heaps -/
def FzL (K : PySem.W.Frag) (H : Hp) (a : Addr) (vs : List V) : Prop := (∃ o, H a = some (.frz o (.lst vs))) ∨ SqL K (fun _ => none) a vs
/-- a tuple that is known to the object: it has no dict of its own -/
def FzT (K : PySem.W.Frag) (H : Hp) (a : Addr) (vs : List V) : Prop := (∃ o, H a = some (.frz o (.tup vs)) ∧ o.cls = .type "tuple" ∧ o.dict = none) ∨
  ∃ (o : Obj) (its : Array Value) (n : Nat), K.lookup a = some o ∧ o.cls = .type "tuple" ∧ o.dict = none ∧ o.data = .seq its n ∧ its.size ≤ sizeLine ∧ Vals vs its.toList
mutual
inductive RV (K : PySem.W.Frag) (m : List Addr) (H : Hp) : V → D → Prop
  | non : RV K m H .non .non
  | bl (b : Bool) : RV K m H (.bl b) (.bl b)
  | int (i : Int) : RV K m H (.int i) (.int i)
  | str (x : Str) : RV K m H (.str x) (.str x)
  | tup {a : Addr} {vs : List V} {ds : List D} : FzT K H a vs → RVs K m H vs ds → RV K m H (.ref a) (.tup ds)
  | zt {a : Addr} {vs : List V} {ds : List D} : SqT K H a vs → RVs K m H vs ds → RV K m H (.ref a) (.zt ds)
  | fl {a : Addr} {vs : List V} {ds : List D} : FzL K H a vs → RVs K m H vs ds → RV K m H (.ref a) (.fl ds)
  | ref {a : Addr} {i : Nat} : m[i]? = some a → RV K m H (.ref a) (.ref i)
  | ty (n : String) : RV K m H (.ty n) (.ty n)
inductive RVs (K : PySem.W.Frag) (m : List Addr) (H : Hp) : List V → List D → Prop
  | nil : RVs K m H [] []
  | cons {v : V} {vs : List V} {d : D} {ds : List D} : RV K m H v d → RVs K m H vs ds → RVs K m H (v :: vs) (d :: ds)
end
/-- keys of a dict -/
inductive RKs (K : PySem.W.Frag) (m : List Addr) (H : Hp) : List (Key × V) → List (D × D) → Prop
  | nil : RKs K m H [] []
  | int {i : Int} {v : V} {d : D} {ks : List (Key × V)} {kvs : List (D × D)} : RV K m H v d → RKs K m H ks kvs → RKs K m H ((.inl i, v) :: ks) ((.int i, d) :: kvs)
  | str {x : Str} {v : V} {d : D} {ks : List (Key × V)} {kvs : List (D × D)} : RV K m H v d → RKs K m H ks kvs → RKs K m H ((.inr x, v) :: ks) ((.str x, d) :: kvs)
/-- what was there stands (weakly: what is tracked may grow by what is there) -/
structure Lw (m : List Addr) (H : Hp) (m' : List Addr) (H' : Hp) : Prop where
  pre : ∃ t, m' = m ++ t
  fr : ∀ a o, H a = some o → a ∉ m → H' a = some o
structure Le (m : List Addr) (H : Hp) (m' : List Addr) (H' : Hp) : Prop extends Lw m H m' H' where
  nw : ∀ a, a ∈ m' → a ∉ m → H a = none
def RO (K : PySem.W.Frag) (m : List Addr) (H : Hp) (a : Addr) : O → Prop
  | .lst ds => ∃ vs, H a = some (.lst vs) ∧ RVs K m H vs ds
  | .dic kvs => ∃ ks, H a = some (.dK ks) ∧ RKs K m H ks kvs
structure Sim (K : PySem.W.Frag) (m : List Addr) (h : AH) (H : Hp) : Prop where
  len : m.length = h.length
  nd : m.Nodup
  ob : ∀ (i : Nat) (a : Addr) (o : O), m[i]? = some a → h[i]? = some o → RO K m H a o
def RSt (K : PySem.W.Frag) (m : List Addr) (H : Hp) (σ : L2.St) (τ : AT) : Prop :=
  σ.length = τ.length ∧ ∀ (i : Nat) (d : D), τ[i]? = some (some d) → ∃ v, σ[i]? = some (some v) ∧ RV K m H v d

/-! ## facts -/
theorem Le.refl (m : List Addr) (H : Hp) : Le m H m H := ⟨⟨⟨[], by simp⟩, fun _ _ h _ => h⟩, fun a h1 h2 => absurd h1 h2⟩
theorem Le.mem {m m' : List Addr} {H H' : Hp} (L : Le m H m' H') {a : Addr} (h : a ∈ m) : a ∈ m' := by
  obtain ⟨t, rfl⟩ := L.pre
  exact List.mem_append_left _ h
theorem Le.trans {m m1 m2 : List Addr} {H H1 H2 : Hp} (a : Le m H m1 H1) (b : Le m1 H1 m2 H2) : Le m H m2 H2 where
  pre := by
    obtain ⟨t, rfl⟩ := a.pre
    obtain ⟨u, rfl⟩ := b.pre
    exact ⟨t ++ u, by simp⟩
  fr := fun c o h hn => b.fr c o (a.fr c o h hn) fun hm => by
    rw [a.nw c hm hn] at h
    cases h
  nw := fun c h hn => by
    by_cases hc : c ∈ m1
    · exact a.nw c hc hn
    · have q := b.nw c h hc
      cases e : H c with
      | none => rfl
      | some o =>
        rw [a.fr c o e hn] at q
        cases q
theorem Lw.get {m m' : List Addr} {H H' : Hp} (L : Lw m H m' H') {i : Nat} {a : Addr} (h : m[i]? = some a) : m'[i]? = some a := by
  obtain ⟨t, rfl⟩ := L.pre
  have hi : i < m.length := by
    rcases Nat.lt_or_ge i m.length with q | q
    · exact q
    · rw [List.getElem?_eq_none q] at h
      cases h
  rw [List.getElem?_append_left hi]
  exact h
/-- what is tracked by m is no tuple, nothing frozen -/
def Cl (m : List Addr) (H : Hp) : Prop := ∀ a ∈ m, (∃ vs, H a = some (.lst vs)) ∨ ∃ ks, H a = some (.dK ks)
theorem Cl.tup {m : List Addr} {H : Hp} (c : Cl m H) {a : Addr} {vs : List V} (h : H a = some (.tup vs)) : a ∉ m := fun hm => by
  rcases c a hm with ⟨_, e⟩ | ⟨_, e⟩ <;> (rw [h] at e; cases e)
theorem Cl.frz {m : List Addr} {H : Hp} (c : Cl m H) {a : Addr} {o : Obj} {u : HO} (h : H a = some (.frz o u)) : a ∉ m := fun hm => by
  rcases c a hm with ⟨_, e⟩ | ⟨_, e⟩ <;> (rw [h] at e; cases e)
theorem Cl.non {m : List Addr} {H : Hp} (c : Cl m H) {a : Addr} (h : H a = none) : a ∉ m := fun hm => by
  rcases c a hm with ⟨_, e⟩ | ⟨_, e⟩ <;> (rw [h] at e; cases e)
theorem Sim.get {K : PySem.W.Frag} {m : List Addr} {h : AH} {H : Hp} (S : Sim K m h H) {i : Nat} {a : Addr} (e : m[i]? = some a) : ∃ o, h[i]? = some o ∧ RO K m H a o := by
  have hi : i < m.length := by
    rcases Nat.lt_or_ge i m.length with q | q
    · exact q
    · rw [List.getElem?_eq_none q] at e
      cases e
  have hi' : i < h.length := by
    rw [← S.len]
    exact hi
  exact ⟨h[i], List.getElem?_eq_getElem hi', S.ob i a _ e (List.getElem?_eq_getElem hi')⟩
theorem Sim.cl {K : PySem.W.Frag} {m : List Addr} {h : AH} {H : Hp} (S : Sim K m h H) : Cl m H := fun a ha => by
  obtain ⟨i, hi, e⟩ := List.getElem_of_mem ha
  obtain ⟨o, _, r⟩ := S.get (i := i) (a := a) (by rw [List.getElem?_eq_getElem hi, e])
  cases o with
  | lst ds => obtain ⟨vs, q, _⟩ := r; exact .inl ⟨vs, q⟩
  | dic ds => obtain ⟨vs, q, _⟩ := r; exact .inr ⟨vs, q⟩
section
variable {K : PySem.W.Frag} {m m' : List Addr} {H H' : Hp}
theorem sqT_mono (c : Cl m H) (L : Lw m H m' H') {a : Addr} {vs : List V} (h : SqT K H a vs) : SqT K H' a vs := by
  rcases h with (h | ⟨o, h⟩) | h
  · exact .inl (.inl (L.fr _ _ h (c.tup h)))
  · exact .inl (.inr ⟨o, L.fr _ _ h (c.frz h)⟩)
  · exact .inr h
theorem fzT_mono (c : Cl m H) (L : Lw m H m' H') {a : Addr} {vs : List V} (h : FzT K H a vs) : FzT K H' a vs := by
  rcases h with ⟨o, h, r⟩ | h
  · exact .inl ⟨o, L.fr _ _ h (c.frz h), r⟩
  · exact .inr h
theorem FzT.sq {a : Addr} {vs : List V} (h : FzT K H a vs) : SqT K H a vs := by
  rcases h with ⟨o, h, r⟩ | ⟨o, its, n, h1, h2, h3, h4⟩
  · exact .inl (.inr ⟨o, h⟩)
  · exact .inr ⟨o, its, n, h1, h2, h4⟩
theorem fzL_mono (c : Cl m H) (L : Lw m H m' H') {a : Addr} {vs : List V} (h : FzL K H a vs) : FzL K H' a vs := by
  rcases h with ⟨o, h⟩ | h
  · exact .inl ⟨o, L.fr _ _ h (c.frz h)⟩
  · exact .inr h
theorem FzL.sq {a : Addr} {vs : List V} (h : FzL K H a vs) : SqL K H a vs := by
  rcases h with ⟨o, h⟩ | (h | ⟨o, h⟩) | h
  · exact .inl (.inr ⟨o, h⟩)
  · cases h
  · cases h
  · exact .inr h
/-- tuples and what is frozen stand -/
structure Ls (m : List Addr) (H : Hp) (m' : List Addr) (H' : Hp) : Prop where
  pre : ∃ t, m' = m ++ t
  tu : ∀ a vs, H a = some (.tup vs) → H' a = some (.tup vs)
  fz : ∀ a o u, H a = some (.frz o u) → H' a = some (.frz o u)
theorem Ls.get (L : Ls m H m' H') {i : Nat} {a : Addr} (h : m[i]? = some a) : m'[i]? = some a := by
  obtain ⟨t, rfl⟩ := L.pre
  have hi : i < m.length := by
    rcases Nat.lt_or_ge i m.length with q | q
    · exact q
    · rw [List.getElem?_eq_none q] at h
      cases h
  rw [List.getElem?_append_left hi]
  exact h
theorem Ls.sqT (L : Ls m H m' H') {a : Addr} {vs : List V} (h : SqT K H a vs) : SqT K H' a vs := by
  rcases h with (h | ⟨o, h⟩) | h
  · exact .inl (.inl (L.tu _ _ h))
  · exact .inl (.inr ⟨o, L.fz _ _ _ h⟩)
  · exact .inr h
theorem Ls.fzT (L : Ls m H m' H') {a : Addr} {vs : List V} (h : FzT K H a vs) : FzT K H' a vs := by
  rcases h with ⟨o, h, r⟩ | h
  · exact .inl ⟨o, L.fz _ _ _ h, r⟩
  · exact .inr h
theorem Ls.fzL (L : Ls m H m' H') {a : Addr} {vs : List V} (h : FzL K H a vs) : FzL K H' a vs := by
  rcases h with ⟨o, h⟩ | h
  · exact .inl ⟨o, L.fz _ _ _ h⟩
  · exact .inr h
mutual
theorem RV.monoS (L : Ls m H m' H') : ∀ {v : V} {d : D}, RV K m H v d → RV K m' H' v d
  | _, _, .non => .non
  | _, _, .bl b => .bl b
  | _, _, .int i => .int i
  | _, _, .str x => .str x
  | _, _, .tup h r => .tup (L.fzT h) (RVs.monoS L r)
  | _, _, .zt h r => .zt (L.sqT h) (RVs.monoS L r)
  | _, _, .fl h r => .fl (L.fzL h) (RVs.monoS L r)
  | _, _, .ref e => .ref (L.get e)
  | _, _, .ty n => .ty n
theorem RVs.monoS (L : Ls m H m' H') : ∀ {vs : List V} {ds : List D}, RVs K m H vs ds → RVs K m' H' vs ds
  | _, _, .nil => .nil
  | _, _, .cons h r => .cons (RV.monoS L h) (RVs.monoS L r)
end
theorem RKs.monoS (L : Ls m H m' H') : ∀ {ks : List (Key × V)} {kvs : List (D × D)}, RKs K m H ks kvs → RKs K m' H' ks kvs
  | _, _, .nil => .nil
  | _, _, .int h r => .int (RV.monoS L h) (RKs.monoS L r)
  | _, _, .str h r => .str (RV.monoS L h) (RKs.monoS L r)
theorem Lw.ls (c : Cl m H) (L : Lw m H m' H') : Ls m H m' H' := ⟨L.pre, fun a vs e => L.fr _ _ e (c.tup e), fun a o u e => L.fr _ _ e (c.frz e)⟩
theorem RV.mono (c : Cl m H) (L : Lw m H m' H') {v : V} {d : D} (r : RV K m H v d) : RV K m' H' v d := r.monoS (L.ls c)
theorem RVs.mono (c : Cl m H) (L : Lw m H m' H') {vs : List V} {ds : List D} (r : RVs K m H vs ds) : RVs K m' H' vs ds := r.monoS (L.ls c)
theorem RKs.mono (c : Cl m H) (L : Lw m H m' H') {ks : List (Key × V)} {kvs : List (D × D)} (r : RKs K m H ks kvs) : RKs K m' H' ks kvs := r.monoS (L.ls c)
theorem RSt.mono (c : Cl m H) (L : Lw m H m' H') {σ : L2.St} {τ : AT} (r : RSt K m H σ τ) : RSt K m' H' σ τ :=
  ⟨r.1, fun i d e => by
    obtain ⟨v, h1, h2⟩ := r.2 i d e
    exact ⟨v, h1, h2.mono c L⟩⟩
theorem RSt.set {σ : L2.St} {τ : AT} (r : RSt K m H σ τ) {v : V} {d : D} (q : RV K m H v d) (i : Nat) : RSt K m H (σ.set i (some v)) (τ.set i (some d)) := by
  refine ⟨by simp [r.1], fun j e h => ?_⟩
  by_cases hij : i = j
  · subst hij
    by_cases hl : i < τ.length
    · rw [List.getElem?_set_self hl] at h
      cases h
      exact ⟨v, List.getElem?_set_self (by rw [r.1]; exact hl), q⟩
    · rw [List.getElem?_eq_none (by simpa using hl)] at h
      cases h
  · rw [List.getElem?_set_ne hij] at h ⊢
    exact r.2 j e h
theorem RVs.length : ∀ {vs : List V} {ds : List D}, RVs K m H vs ds → vs.length = ds.length
  | _, _, .nil => rfl
  | _, _, .cons _ r => by rw [List.length_cons, List.length_cons, RVs.length r]
theorem RVs.append : ∀ {vs ws : List V} {ds es : List D}, RVs K m H vs ds → RVs K m H ws es → RVs K m H (vs ++ ws) (ds ++ es)
  | _, _, _, _, .nil, s => s
  | _, _, _, _, .cons r t, s => .cons r (RVs.append t s)
theorem RVs.one {v : V} {d : D} (r : RV K m H v d) : RVs K m H [v] [d] := .cons r .nil
theorem RVs.get : ∀ {vs : List V} {ds : List D} {i : Nat} {d : D}, RVs K m H vs ds → ds[i]? = some d → ∃ v, vs[i]? = some v ∧ RV K m H v d
  | _, _, _, _, .nil, e => by simp at e
  | _, _, 0, _, .cons r _, e => by simp at e; subst e; exact ⟨_, rfl, r⟩
  | _, _, i + 1, d, .cons _ t, e => by
    obtain ⟨v, h1, h2⟩ := RVs.get (i := i) (d := d) t (by simpa using e)
    exact ⟨v, by simpa using h1, h2⟩
theorem RVs.set {v : V} {d : D} (r : RV K m H v d) : ∀ {vs : List V} {ds : List D} (i : Nat), RVs K m H vs ds → RVs K m H (vs.set i v) (ds.set i d)
  | _, _, _, .nil => .nil
  | _, _, 0, .cons _ t => .cons r t
  | _, _, i + 1, .cons q t => .cons q (RVs.set r i t)
theorem RVs.take : ∀ {vs : List V} {ds : List D} (n : Nat), RVs K m H vs ds → RVs K m H (vs.take n) (ds.take n)
  | _, _, 0, _ => by simp only [List.take_zero]; exact .nil
  | _, _, _ + 1, .nil => by simp only [List.take_nil]; exact .nil
  | _, _, n + 1, .cons r t => .cons r (RVs.take n t)
theorem RVs.drop : ∀ {vs : List V} {ds : List D} (n : Nat), RVs K m H vs ds → RVs K m H (vs.drop n) (ds.drop n)
  | _, _, 0, r => r
  | _, _, _ + 1, .nil => by simp only [List.drop_nil]; exact .nil
  | _, _, n + 1, .cons _ t => RVs.drop n t
theorem RVs.reverse : ∀ {vs : List V} {ds : List D}, RVs K m H vs ds → RVs K m H vs.reverse ds.reverse
  | _, _, .nil => .nil
  | _, _, .cons r t => by
    rw [List.reverse_cons, List.reverse_cons]
    exact (RVs.reverse t).append (.one r)
theorem RVs.replicate {vs : List V} {ds : List D} (r : RVs K m H vs ds) : ∀ k : Nat, RVs K m H (List.replicate k vs).flatten (List.replicate k ds).flatten
  | 0 => .nil
  | k + 1 => by
    rw [List.replicate_succ, List.replicate_succ, List.flatten_cons, List.flatten_cons]
    exact r.append (RVs.replicate r k)
theorem RVs.ints : ∀ {vs : List V} {ns : List Int}, RVs K m H vs (ns.map D.int) → vs = ns.map V.int
  | _, [], .nil => rfl
  | _, n :: ns, .cons (.int _) r => by rw [RVs.ints r]; rfl
theorem RVs.of_ints : ∀ (ns : List Int), RVs K m H (ns.map V.int) (ns.map D.int)
  | [] => .nil
  | n :: ns => .cons (.int n) (RVs.of_ints ns)
theorem RVs.bls : ∀ {vs : List V} {bs : List Bool}, RVs K m H vs (bs.map D.bl) → vs = bs.map V.bl
  | _, [], .nil => rfl
  | _, n :: ns, .cons (.bl _) r => by rw [RVs.bls r]; rfl
theorem RVs.strs : ∀ {vs : List V} {bs : List Str}, RVs K m H vs (bs.map D.str) → vs = bs.map V.str
  | _, [], .nil => rfl
  | _, n :: ns, .cons (.str _) r => by rw [RVs.strs r]; rfl
/-- a new object that is not tracked -/
theorem Le.upd (c : Cl m H) {p : Addr} (hp : H p = none) (o : HO) : Le m H m (upd H p o) := ⟨⟨⟨[], by simp⟩, fun a u h _ => by rw [upd_ne (ne_of_none h hp)]; exact h⟩, fun a h1 h2 => absurd h1 h2⟩
end
section
variable {K : PySem.W.Frag} {m m' : List Addr} {H H' : Hp} {h : AH}
theorem RO.mono (c : Cl m H) (L : Lw m H m' H') {a : Addr} {o : O} (hk : H' a = H a) (r : RO K m H a o) : RO K m' H' a o := by
  cases o with
  | lst ds => obtain ⟨vs, e, q⟩ := r; exact ⟨vs, by rw [hk]; exact e, q.mono c L⟩
  | dic ds => obtain ⟨vs, e, q⟩ := r; exact ⟨vs, by rw [hk]; exact e, q.mono c L⟩
theorem Sim.upd (S : Sim K m h H) {p : Addr} (hp : H p = none) (o : HO) : Sim K m h (L2.upd H p o) := by
  refine ⟨S.len, S.nd, fun i a ob e1 e2 => (S.ob i a ob e1 e2).mono S.cl (Le.upd S.cl hp o).toLw (upd_ne ?_)⟩
  intro z
  subst z
  exact S.cl.non hp (List.mem_of_getElem? e1)
theorem RV.tupN (S : Sim K m h H) {p : Addr} (hp : H p = none) {vs : List V} {ds : List D} {o : Obj} (hc : o.cls = .type "tuple") (hd : o.dict = none) (r : RVs K m H vs ds) : RV K m (L2.upd H p (.frz o (.tup vs))) (.ref p) (.tup ds) :=
  .tup (.inl ⟨o, upd_same, hc, hd⟩) (r.mono S.cl (Le.upd S.cl hp _).toLw)
theorem RV.ztN (S : Sim K m h H) {p : Addr} (hp : H p = none) {vs : List V} {ds : List D} (r : RVs K m H vs ds) : RV K m (L2.upd H p (.tup vs)) (.ref p) (.zt ds) :=
  .zt (SqT.of upd_same) (r.mono S.cl (Le.upd S.cl hp _).toLw)
/-- a new list that is tracked -/
theorem Le.lay (S : Sim K m h H) {p : Addr} (hp : H p = none) (o : HO) : Le m H (m ++ [p]) (L2.upd H p o) := ⟨⟨⟨[p], rfl⟩, fun a u q _ => by rw [upd_ne (ne_of_none q hp)]; exact q⟩, fun a h1 h2 => by
  rcases List.mem_append.mp h1 with z | z
  · exact absurd z h2
  · rw [List.mem_singleton.mp z]; exact hp⟩
theorem nodup_add {m : List Addr} {p : Addr} (h : m.Nodup) (hn : p ∉ m) : (m ++ [p]).Nodup := by
  rw [List.nodup_append]
  refine ⟨h, by simp, fun a ha b hb e => ?_⟩
  rw [List.mem_singleton.mp hb] at e
  exact hn (e ▸ ha)
theorem get_add {α : Type} {m : List α} {p a : α} {i : Nat} (e : (m ++ [p])[i]? = some a) : m[i]? = some a ∨ (i = m.length ∧ a = p) := by
  rcases Nat.lt_or_ge i m.length with q | q
  · rw [List.getElem?_append_left q] at e
    exact .inl e
  · rw [List.getElem?_append_right q] at e
    have : i - m.length = 0 := by
      rcases Nat.eq_zero_or_pos (i - m.length) with z | z
      · exact z
      · rw [List.getElem?_eq_none (by simp; omega)] at e
        cases e
    rw [this] at e
    exact .inr ⟨by omega, (Option.some.inj e).symm⟩
theorem Sim.lay (S : Sim K m h H) {p : Addr} (hp : H p = none) {u : HO} {o : O} (r : RO K (m ++ [p]) (L2.upd H p u) p o) : Sim K (m ++ [p]) (h ++ [o]) (L2.upd H p u) := by
  have hn := S.cl.non hp
  refine ⟨by simp [S.len], nodup_add S.nd hn, fun i a ob e1 e2 => ?_⟩
  rcases get_add e1 with q | ⟨q, rfl⟩
  · have hi : i < m.length := by
      rcases Nat.lt_or_ge i m.length with z | z
      · exact z
      · rw [List.getElem?_eq_none z] at q
        cases q
    rw [List.getElem?_append_left (by rw [← S.len]; exact hi)] at e2
    refine (S.ob i a ob q e2).mono S.cl (Le.lay S hp u).toLw (upd_ne ?_)
    intro z
    subst z
    exact hn (List.mem_of_getElem? q)
  · rw [q, S.len, List.getElem?_append_right (Nat.le_refl _), Nat.sub_self] at e2
    cases e2
    exact r
theorem Sim.layL (S : Sim K m h H) {p : Addr} (hp : H p = none) {vs : List V} {ds : List D} (r : RVs K m H vs ds) : Sim K (m ++ [p]) (h ++ [.lst ds]) (L2.upd H p (.lst vs)) :=
  S.lay hp ⟨vs, upd_same, r.mono S.cl (Le.lay S hp _).toLw⟩
theorem RV.new (S : Sim K m h H) {p : Addr} {G : Hp} : RV K (m ++ [p]) G (.ref p) (.ref h.length) := .ref (by rw [← S.len, List.getElem?_append_right (Nat.le_refl _), Nat.sub_self]; rfl)
/-- a tracked object is changed -/
theorem Le.put (S : Sim K m h H) {i : Nat} {a : Addr} (e : m[i]? = some a) (o : HO) : Le m H m (L2.upd H a o) := by
  refine ⟨⟨⟨[], by simp⟩, fun b u q hb => ?_⟩, fun b h1 h2 => absurd h1 h2⟩
  rw [upd_ne]
  · exact q
  · intro z
    rw [z] at hb
    exact hb (List.mem_of_getElem? e)
theorem Sim.put (S : Sim K m h H) {i : Nat} {a : Addr} (e : m[i]? = some a) {u : HO} {o : O} (r : RO K m (L2.upd H a u) a o) : Sim K m (h.set i o) (L2.upd H a u) := by
  have hi : i < m.length := by
    rcases Nat.lt_or_ge i m.length with z | z
    · exact z
    · rw [List.getElem?_eq_none z] at e
      cases e
  refine ⟨by simp [S.len], S.nd, fun j b ob e1 e2 => ?_⟩
  by_cases hij : i = j
  · subst hij
    rw [e] at e1
    cases e1
    rw [List.getElem?_set_self (by rw [← S.len]; exact hi)] at e2
    cases e2
    exact r
  · rw [List.getElem?_set_ne hij] at e2
    refine (S.ob j b ob e1 e2).mono S.cl (Le.put S e u).toLw (upd_ne ?_)
    intro z
    subst z
    have hj : j < m.length := by
      rcases Nat.lt_or_ge j m.length with z | z
      · exact z
      · rw [List.getElem?_eq_none z] at e1
        cases e1
    rw [List.getElem?_eq_getElem hi] at e
    rw [List.getElem?_eq_getElem hj] at e1
    exact hij ((List.getElem_inj S.nd).mp ((Option.some.inj e).trans (Option.some.inj e1).symm))
/-- a list that nobody tracks is changed -/
theorem Ls.side {p : Addr} {vs ws : List V} (e : H p = some (.lst vs)) : Ls m H m (L2.upd H p (.lst ws)) :=
  ⟨⟨[], by simp⟩, fun a us h => by rw [upd_ne (fun z => by rw [z, e] at h; cases h)]; exact h, fun a o u h => by rw [upd_ne (fun z => by rw [z, e] at h; cases h)]; exact h⟩
theorem Sim.side (S : Sim K m h H) {p : Addr} {vs : List V} (ws : List V) (e : H p = some (.lst vs)) (hn : p ∉ m) : Sim K m h (L2.upd H p (.lst ws)) := by
  refine ⟨S.len, S.nd, fun i a ob e1 e2 => ?_⟩
  have hk : L2.upd H p (.lst ws) a = H a := upd_ne (fun z => hn (by rw [← z]; exact List.mem_of_getElem? e1))
  have r := S.ob i a ob e1 e2
  cases ob with
  | lst ds => obtain ⟨us, q, r⟩ := r; exact ⟨us, by rw [hk]; exact q, r.monoS (Ls.side e)⟩
  | dic ds => obtain ⟨us, q, r⟩ := r; exact ⟨us, by rw [hk]; exact q, r.monoS (Ls.side e)⟩
theorem Le.side {m1 : List Addr} {H1 : Hp} (L : Le m1 H1 m H) {p : Addr} (u : HO) (hp : H1 p = none) : Le m1 H1 m (L2.upd H p u) :=
  ⟨⟨L.pre, fun a o q hn => by rw [upd_ne (ne_of_none q hp)]; exact L.fr a o q hn⟩, L.nw⟩
theorem Sim.putL (S : Sim K m h H) {i : Nat} {a : Addr} (e : m[i]? = some a) {vs : List V} {ds : List D} (r : RVs K m H vs ds) : Sim K m (h.set i (.lst ds)) (L2.upd H a (.lst vs)) :=
  S.put e ⟨vs, upd_same, r.mono S.cl (Le.put S e _).toLw⟩
theorem Sim.lst (S : Sim K m h H) {i : Nat} {a : Addr} {ds : List D} (e : m[i]? = some a) (q : h[i]? = some (.lst ds)) : ∃ vs, H a = some (.lst vs) ∧ RVs K m H vs ds := S.ob i a _ e q
end

/-! ## what an expression hands on -/
inductive RQ (K : PySem.W.Frag) (m : List Addr) (H : Hp) : V → LV → Prop
  | val {v : V} {d : D} : RV K m H v d → RQ K m H v (.val d)
  | new {p : Addr} {vs : List V} {ds : List D} : p ∉ m → H p = some (.lst vs) → RVs K m H vs ds → ds.length ≤ 16777216 → RQ K m H (.ref p) (.new ds)
inductive RQs (K : PySem.W.Frag) (m : List Addr) (H : Hp) : List V → List LV → Prop
  | nil : RQs K m H [] []
  | cons {v : V} {vs : List V} {d : LV} {ds : List LV} : RQ K m H v d → RQs K m H vs ds → RQs K m H (v :: vs) (d :: ds)
/-- a new list is newer than the heap H0 -/
def Nw (H0 : Hp) : V → LV → Prop
  | .ref p, .new _ => H0 p = none
  | _, _ => True
section
variable {K : PySem.W.Frag} {m m' : List Addr} {H H' : Hp}
theorem RQ.mono (c : Cl m H) (L : Le m H m' H') {v : V} {q : LV} (r : RQ K m H v q) : RQ K m' H' v q := by
  cases r with
  | val r => exact .val (r.mono c L.toLw)
  | new hn e r z =>
    refine .new (fun hm => ?_) (L.fr _ _ e hn) (r.mono c L.toLw) z
    have := L.nw _ hm hn
    rw [e] at this
    cases this
theorem RQs.mono (c : Cl m H) (L : Le m H m' H') : ∀ {vs : List V} {qs : List LV}, RQs K m H vs qs → RQs K m' H' vs qs
  | _, _, .nil => .nil
  | _, _, .cons r t => .cons (r.mono c L) (RQs.mono c L t)
theorem fresh_back (c : Cl m' H') (L : Le m H m' H') {p : Addr} (hp : H' p = none) : H p = none := by
  cases z : H p with
  | none => rfl
  | some o =>
    by_cases hm : p ∈ m
    · exact absurd (L.mem hm) (c.non hp)
    · rw [L.fr p o z hm] at hp; cases hp
theorem Nw.back (c : Cl m' H') (L : Le m H m' H') {v : V} {q : LV} (n : Nw H' v q) : Nw H v q := by
  cases q with
  | val d => cases v <;> exact True.intro
  | new ds =>
    cases v with
    | ref p => exact fresh_back c L n
    | _ => exact True.intro
theorem nwV (H0 : Hp) (v : V) (d : D) : Nw H0 v (.val d) := by cases v <;> exact True.intro
end

/-! ## what a piece of syntax does, by a plain function -/
def tE (K : PySem.W.Frag) (f : SE) : TE := fun σ H Q => ∃ m τ h q h', RSt K m H σ τ ∧ Sim K m h H ∧ f τ h = some (q, h') ∧ ∀ m' H' v, Le m H m' H' → Sim K m' h' H' → RQ K m' H' v q → Nw H v q → Q v H'
def tA (K : PySem.W.Frag) (f : SA) : TA := fun σ H Q => ∃ m τ h qs h', RSt K m H σ τ ∧ Sim K m h H ∧ f τ h = some (qs, h') ∧ ∀ m' H' vs, Le m H m' H' → Sim K m' h' H' → RQs K m' H' vs qs → Q vs H'
def tT (K : PySem.W.Frag) (f : ST) : TT := fun σ H Q => ∃ m τ h b h', RSt K m H σ τ ∧ Sim K m h H ∧ f τ h = some (b, h') ∧ ∀ m' H', Le m H m' H' → Sim K m' h' H' → Q b H'
def Aft (K : PySem.W.Frag) (D : Ends) (m : List Addr) (H : Hp) : Res → Prop
  | .nx τ' h' => ∀ m' H' σ', Le m H m' H' → Sim K m' h' H' → RSt K m' H' σ' τ' → D.nx σ' H'
  | .rt d h' => ∀ m' H' v, Le m H m' H' → Sim K m' h' H' → RV K m' H' v d → D.rt v H'
  | .bk τ' h' => ∀ m' H' σ', Le m H m' H' → Sim K m' h' H' → RSt K m' H' σ' τ' → D.bk σ' H'
  | .ct τ' h' => ∀ m' H' σ', Le m H m' H' → Sim K m' h' H' → RSt K m' H' σ' τ' → D.ct σ' H'
theorem Aft.le {K : PySem.W.Frag} {D : Ends} {m m1 : List Addr} {H H1 : Hp} {r : Res} (q : Aft K D m H r) (L : Le m H m1 H1) : Aft K D m1 H1 r := by
  cases r with
  | nx τ' h' => exact fun m' H' σ' L' => q m' H' σ' (L.trans L')
  | rt d h' => exact fun m' H' v L' => q m' H' v (L.trans L')
  | bk τ' h' => exact fun m' H' σ' L' => q m' H' σ' (L.trans L')
  | ct τ' h' => exact fun m' H' σ' L' => q m' H' σ' (L.trans L')
def tS (K : PySem.W.Frag) (f : SS) : TS := fun D σ H => ∃ m τ h r, RSt K m H σ τ ∧ Sim K m h H ∧ f τ h = some r ∧ Aft K D m H r
def JE (X : Cx) (e : Expr) (f : SE) : Prop := PE X e (tE X.K f)
def JT (X : Cx) (e : Expr) (f : ST) : Prop := PT X e (tT X.K f)
def JW (X : Cx) (e : Expr) (f : ST) : Prop := PW X e (tT X.K f)
def JA (X : Cx) (es : List Expr) (f : SA) : Prop := PA X es (tA X.K f)
def JS (X : Cx) (st : Stmt) (f : SS) : Prop := PS X st (tS X.K f)
def JB (X : Cx) (sts : List Stmt) (f : SS) : Prop := PSs X sts (tS X.K f)
theorem pe_weak {X : Cx} {e : Expr} {t t' : TE} (h : PE X e t) (hw : ∀ σ H Q, t' σ H Q → t σ H Q) : PE X e t' := ⟨fun pins s σ H Q I q => h.run pins s σ H Q I (hw _ _ _ q)⟩
theorem pt_weak {X : Cx} {e : Expr} {t t' : TT} (h : PT X e t) (hw : ∀ σ H Q, t' σ H Q → t σ H Q) : PT X e t' := ⟨fun pins s σ H Q I q => h.run pins s σ H Q I (hw _ _ _ q)⟩
theorem pw_weak {X : Cx} {e : Expr} {t t' : TT} (h : PW X e t) (hw : ∀ σ H Q, t' σ H Q → t σ H Q) : PW X e t' := ⟨fun wh pins s σ H Q I q => h.run wh pins s σ H Q I (hw _ _ _ q)⟩
theorem pa_weak {X : Cx} {e : List Expr} {t t' : TA} (h : PA X e t) (hw : ∀ σ H Q, t' σ H Q → t σ H Q) : PA X e t' := ⟨fun pos pins s σ H Q I q => h.run pos pins s σ H Q I (hw _ _ _ q)⟩
theorem ps_weak {X : Cx} {e : Stmt} {t t' : TS} (h : PS X e t) (hw : ∀ D σ H, t' D σ H → t D σ H) : PS X e t' := ⟨fun pins s σ H D I q => h.run pins s σ H D I (hw _ _ _ q)⟩
theorem pss_weak {X : Cx} {e : List Stmt} {t t' : TS} (h : PSs X e t) (hw : ∀ D σ H, t' D σ H → t D σ H) : PSs X e t' := ⟨fun pins s σ H D I q => h.run pins s σ H D I (hw _ _ _ q)⟩

/-! ## plain semantics: the pieces -/
def mVar (i : Nat) : SE := fun τ h => match τ[i]? with
  | some (some d) => some (.val d, h)
  | _ => none
def mC (d : D) : SE := fun _ h => some (.val d, h)
abbrev Op2 := LV → LV → AH → Option (LV × AH)
abbrev Op1 := LV → AH → Option (LV × AH)
abbrev OpN := List LV → AH → Option (LV × AH)
def mBin (op : Op2) (fa fb : SE) : SE := fun τ h => (fa τ h).bind fun p => (fb τ p.2).bind fun q => op p.1 q.1 q.2
def mUn (op : Op1) (fa : SE) : SE := fun τ h => (fa τ h).bind fun p => op p.1 p.2
def mNil : SA := fun _ h => some ([], h)
def mCons (fa : SE) (fr : SA) : SA := fun τ h => (fa τ h).bind fun p => (fr τ p.2).bind fun q => some (p.1 :: q.1, q.2)
def plain : List LV → Option (List D)
  | [] => some []
  | .val d :: r => (plain r).bind fun s => some (d :: s)
  | .new _ :: _ => none
def mTup (fa : SA) : SE := fun τ h => (fa τ h).bind fun p => (plain p.1).bind fun ds => if ds.length ≤ 16777216 then some (.val (.tup ds), p.2) else none
def mLst (fa : SA) : SE := fun τ h => (fa τ h).bind fun p => (plain p.1).bind fun ds => if ds.length ≤ 16777216 then some (.new ds, p.2) else none
/-- a new list is laid, to be held -/
def lay : LV → AH → D × AH
  | .val d, h => (d, h)
  | .new ds, h => (.ref h.length, h ++ [.lst ds])
def mAd (fa : SE) : SE := fun τ h => (fa τ h).bind fun p => some (.val (lay p.1 p.2).1, (lay p.1 p.2).2)
def mIf (ft : ST) (fa fb : SE) : SE := fun τ h => (ft τ h).bind fun p => if p.1 = true then fa τ p.2 else fb τ p.2
def mB (fa : SE) : ST := fun τ h => (fa τ h).bind fun p => match p.1 with
  | .val (.bl b) => some (b, p.2)
  | _ => none
def mAnd (ta tb : ST) : ST := fun τ h => (ta τ h).bind fun p => if p.1 = true then tb τ p.2 else some (false, p.2)
def mOr (ta tb : ST) : ST := fun τ h => (ta τ h).bind fun p => if p.1 = true then some (true, p.2) else tb τ p.2
def mNot (ta : ST) : ST := fun τ h => (ta τ h).bind fun p => some (!p.1, p.2)
def mCall (F : SF) (fa : SA) : SE := fun τ h => (fa τ h).bind fun p => (plain p.1).bind fun ds => (F ds p.2).bind fun q => some (.val q.1, q.2)
def mFn (op : OpN) (fa : SA) : SE := fun τ h => (fa τ h).bind fun p => op p.1 p.2

theorem bind_some' {α β : Type} {x : Option α} {f : α → Option β} {b : β} (h : x.bind f = some b) : ∃ a, x = some a ∧ f a = some b := by
  cases x with
  | none => cases h
  | some a => exact ⟨a, rfl, h⟩
theorem ite_some' {c : Prop} [Decidable c] {α : Type} {x : Option α} {b : α} (h : (if c then x else none) = some b) : c ∧ x = some b := by
  by_cases q : c
  · rw [if_pos q] at h; exact ⟨q, h⟩
  · rw [if_neg q] at h; cases h
theorem RQs.plain {K : PySem.W.Frag} {m : List Addr} {H : Hp} : ∀ {vs : List V} {qs : List LV} {ds : List D}, RQs K m H vs qs → Sm.plain qs = some ds → RVs K m H vs ds
  | _, _, _, .nil, h => by cases h; exact .nil
  | _, _, _, .cons (.val r) t, h => by
    obtain ⟨s, e, q⟩ := bind_some' h
    cases q
    exact .cons r (RQs.plain t e)
  | _, _, _, .cons (.new _ _ _ _) t, h => by cases h
section
variable {X : Cx} {a b c : Expr} {es : List Expr} {fa fb : SE} {fr : SA} {ft fu : ST} {pos : Pos}

theorem je_var (i : Nat) {x : Str} {pos : Pos} (hN : X.N[i]? = some x := by rfl) (hv : Vis X.env.scope x := by first | exact Or.inl rfl | exact Or.inr (Or.inl rfl) | exact Or.inr (Or.inr rfl)) (hd : (x == ("__debug__" : Str)) = false := by decide)
    (hcd : (x == ("__classdict__" : Str)) = false := by decide) : JE X (.Name x pos) (mVar i) := by
  refine pe_weak (pe_var hN hv hd hcd) fun σ H Q ⟨m, τ, h, d, h', R, S, e, q⟩ => ?_
  unfold mVar at e
  split at e
  · rename_i d' q'
    cases e
    obtain ⟨v, h1, h2⟩ := R.2 i d' q'
    exact ⟨v, h1, q m H v (Le.refl m H) S (.val h2) (nwV _ _ _)⟩
  · cases e
theorem je_const {e : Expr} {v : V} {d : D} (p : PE X e (tC v)) (r : ∀ m H, RV X.K m H v d) : JE X e (mC d) := by
  refine pe_weak p fun σ H Q ⟨m, τ, h, d', h', R, S, e, q⟩ => ?_
  cases e
  exact q m H v (Le.refl m H) S (.val (r m H)) (nwV _ _ _)
theorem je_int {i j pos} : JE X (.Constant (.int i) j pos) (mC (.int i)) := je_const pe_int fun _ _ => .int i
theorem je_bl {b j pos} : JE X (.Constant (.bool b) j pos) (mC (.bl b)) := je_const pe_bl fun _ _ => .bl b
theorem je_non {j pos} : JE X (.Constant .none j pos) (mC .non) := je_const pe_non fun _ _ => .non
theorem je_str {x j pos} : JE X (.Constant (.str x) j pos) (mC (.str x)) := je_const pe_str fun _ _ => .str x

/-! rules by values -/
abbrev SimR (K : PySem.W.Frag) (r : R2) (op : Op2) : Prop :=
  ∀ m h H x y dx dy d h' (Q : VK), Sim K m h H → RQ K m H x dx → RQ K m H y dy → op dx dy h = some (d, h') → (∀ m' H' v, Le m H m' H' → Sim K m' h' H' → RQ K m' H' v d → Nw H v d → Q v H') → r x y H Q
abbrev SimU (K : PySem.W.Frag) (r : V → Hp → VK → Prop) (op : Op1) : Prop :=
  ∀ m h H x dx d h' (Q : VK), Sim K m h H → RQ K m H x dx → op dx h = some (d, h') → (∀ m' H' v, Le m H m' H' → Sim K m' h' H' → RQ K m' H' v d → Nw H v d → Q v H') → r x H Q
abbrev SimN (K : PySem.W.Frag) (r : List V → Hp → VK → Prop) (op : OpN) : Prop :=
  ∀ m h H xs dxs d h' (Q : VK), Sim K m h H → RQs K m H xs dxs → op dxs h = some (d, h') → (∀ m' H' v, Le m H m' H' → Sim K m' h' H' → RQ K m' H' v d → Nw H v d → Q v H') → r xs H Q
theorem two {K : PySem.W.Frag} {fa fb : SE} {op : Op2} {r : R2} (hs : SimR K r op)
    (σ : L2.St) (H : Hp) (Q : VK) (h : tE K (mBin op fa fb) σ H Q) : tOp r (tE K fa) (tE K fb) σ H Q := by
  obtain ⟨m, τ, h, d, h', R, S, e, q⟩ := h
  obtain ⟨⟨x, h1⟩, e1, e⟩ := bind_some' e
  obtain ⟨⟨y, h2⟩, e2, e⟩ := bind_some' e
  refine ⟨m, τ, h, x, h1, R, S, e1, fun m1 H1 v1 L1 S1 r1 _ => ?_⟩
  refine ⟨m1, τ, h1, y, h2, R.mono S.cl L1.toLw, S1, e2, fun m2 H2 v2 L2 S2 r2 _ => ?_⟩
  exact hs m2 h2 H2 v1 v2 x y d h' Q S2 (r1.mono S1.cl L2) r2 e fun m' H' v L' S' r' n' => q m' H' v (L1.trans (L2.trans L')) S' r' (n'.back S2.cl (L1.trans L2))
theorem one {K : PySem.W.Frag} {fa : SE} {op : Op1} {r : V → Hp → VK → Prop} (hs : SimU K r op)
    (σ : L2.St) (H : Hp) (Q : VK) (h : tE K (mUn op fa) σ H Q) : tE K fa σ H fun x H1 => r x H1 Q := by
  obtain ⟨m, τ, h, d, h', R, S, e, q⟩ := h
  obtain ⟨⟨x, h1⟩, e1, e⟩ := bind_some' e
  refine ⟨m, τ, h, x, h1, R, S, e1, fun m1 H1 v1 L1 S1 r1 _ => ?_⟩
  exact hs m1 h1 H1 v1 x d h' Q S1 r1 e fun m' H' v L' S' r' n' => q m' H' v (L1.trans L') S' r' (n'.back S1.cl L1)
theorem many {K : PySem.W.Frag} {fa : SA} {op : OpN} {r : List V → Hp → VK → Prop} (hs : SimN K r op)
    (σ : L2.St) (H : Hp) (Q : VK) (h : tE K (mFn op fa) σ H Q) : tA K fa σ H fun x H1 => r x H1 Q := by
  obtain ⟨m, τ, h, d, h', R, S, e, q⟩ := h
  obtain ⟨⟨x, h1⟩, e1, e⟩ := bind_some' e
  refine ⟨m, τ, h, x, h1, R, S, e1, fun m1 H1 v1 L1 S1 r1 => ?_⟩
  exact hs m1 h1 H1 v1 x d h' Q S1 r1 e fun m' H' v L' S' r' n' => q m' H' v (L1.trans L') S' r' (n'.back S1.cl L1)
theorem je_bin {o : Operator} {r : R2} {op : Op2} (ho : OpR X (binaryOp o) r) (hs : SimR X.K r op) (ha : JE X a fa) (hb : JE X b fb) : JE X (.BinOp a o b pos) (mBin op fa fb) :=
  pe_weak (pe_op ho ha hb) (two hs)
theorem je_cmp {o : CmpOp} {r : R2} {op : Op2} (ho : OpR X (compareOp o) r) (hs : SimR X.K r op) (ha : JE X a fa) (hb : JE X b fb) (hm : behindInMarks o b = false) : JE X (.Compare a [o] [b] pos) (mBin op fa fb) :=
  pe_weak (pe_cmpR ho ha hb hm) (two hs)
theorem je_ix {r : R2} {op : Op2} (ho : IxR X r) (hs : SimR X.K r op) (ha : JE X a fa) (hb : JE X b fb) (hp : PlainIx b) : JE X (.Subscript a b pos) (mBin op fa fb) :=
  pe_weak (pe_ix ho ha hb hp) (two hs)
theorem je_un {o : UnaryOp} {r : V → Hp → VK → Prop} {op : Op1} (ho : UnR X (unaryOp o) r) (hs : SimU X.K r op) (ha : JE X a fa) : JE X (.UnaryOp o a pos) (mUn op fa) :=
  pe_weak (pe_un ho ha) (one hs)
theorem je_fnB {x : Str} {p : Pos} {id : String} {r : List V → Hp → VK → Prop} {op : OpN} (hc : CallR X (.builtin id) r) (hs : SimN X.K r op) (hg : Gl X x) (hm : X.mg x = none) (hv : bootBuiltins x = some (.builtin id)) (ha : JA X (a :: es) fr) (hn : x ≠ "__name__" := by decide) (hdb : (x == ("__debug__" : Str)) = false := by decide)
    (he : starEach (a :: es) X.env = (false, eval a X.env) :: starEach es X.env := by rfl) (hpl : (backTo pos (starEach es X.env)).any (·.1) = false := by rfl) : JE X (.Call (.Name x p) (a :: es) [] pos) (mFn op fr) :=
  pe_weak (pe_callB hc hg hm hv ha hn hdb he hpl) (many hs)
theorem je_fnT {x : Str} {p : Pos} {T : String} {r : List V → Hp → VK → Prop} {op : OpN} (hc : CallR X (.type T) r) (hs : SimN X.K r op) (hg : Gl X x) (hm : X.mg x = none) (hv : bootBuiltins x = some (.type T)) (ha : JA X (a :: es) fr) (hn : x ≠ "__name__" := by decide) (hdb : (x == ("__debug__" : Str)) = false := by decide)
    (he : starEach (a :: es) X.env = (false, eval a X.env) :: starEach es X.env := by rfl) (hpl : (backTo pos (starEach es X.env)).any (·.1) = false := by rfl) : JE X (.Call (.Name x p) (a :: es) [] pos) (mFn op fr) :=
  pe_weak (pe_callTy hc hg hm hv ha hn hdb he hpl) (many hs)
/-! arguments -/
theorem ja_nil : JA X [] mNil := pa_weak pa_nil fun σ H Q ⟨m, τ, h, d, h', R, S, e, q⟩ => by
  cases e
  exact q m H [] (Le.refl m H) S .nil
theorem ja_cons (ha : JE X a fa) (hr : JA X es fr) (hs : starEach (a :: es) X.env = (false, eval a X.env) :: starEach es X.env := by rfl) : JA X (a :: es) (mCons fa fr) := by
  refine pa_weak (pa_cons ha hr hs) fun σ H Q ⟨m, τ, h, d, h', R, S, e, q⟩ => ?_
  obtain ⟨⟨x, h1⟩, e1, e⟩ := bind_some' e
  obtain ⟨⟨y, h2⟩, e2, e⟩ := bind_some' e
  cases e
  refine ⟨m, τ, h, x, h1, R, S, e1, fun m1 H1 v1 L1 S1 r1 _ => ?_⟩
  refine ⟨m1, τ, h1, y, h2, R.mono S.cl L1.toLw, S1, e2, fun m2 H2 v2 L2 S2 r2 => ?_⟩
  exact q m2 H2 (v1 :: v2) (L1.trans L2) S2 (.cons (r1.mono S1.cl L2) r2)
/-- a new tuple with its object known -/
def FzN (H : Hp) (vs : List V) (Q : VK) : Prop := ∀ (p : Addr) (o : Obj), H p = none → o.cls = .type "tuple" → o.dict = none → Q (.ref p) (upd H p (.frz o (.tup vs)))
theorem inv_newT {X : Cx} {pins : List (Addr × Obj)} {σ : L2.St} {H : Hp} {s : Shared} {vs : List V} {us : List Value} {Q : VK} (I : Inv X pins σ H s) (r : Vals vs us) (z : vs.length ≤ sizeLine) (q : FzN H vs Q) {d : Array Value} (hd : d = us.toArray) :
    EP X pins σ Q (.ref s.heap.objs.size) { s with heap := s.heap.push { cls := .type "tuple", data := .seq d } } := by
  subst hd
  have new := q s.heap.objs.size { cls := .type "tuple", data := .seq us.toArray } (I.hok.fresh (Nat.le_refl _)) rfl rfl
  refine ⟨.ref s.heap.objs.size, _, I.laid (t' := s.toks) (fun b u e => Heap.get?_push_of_some _ e) (Nat.le_refl _) ?_, rfl, new⟩
  refine ⟨Heap.get?_push_size _ rfl, z, us, r, ?_⟩
  exact ⟨_, Heap.get?_push_size _ rfl, rfl, _, rfl⟩
theorem pe_tupF {k} {t : TA} (h : PA X es t) : PE X (.Tuple es k pos) (fun σ H Q => t σ H fun xs H1 => xs.length ≤ sizeLine ∧ FzN H1 xs Q) := by
  refine ⟨fun pins s σ H Q I hq => ?_⟩
  refine wpAny_Tuple_spliced (thn (h.run pos pins s σ H _ I hq) fun us s1 ⟨xs, H1, I1, r, z, q⟩ => ?_)
  exact ⟨by rw [← r.length]; exact z, inv_newT I1 r z q rfl⟩
theorem je_tup {k} (ha : JA X es fr) : JE X (.Tuple es k pos) (mTup fr) := by
  refine pe_weak (pe_tupF ha) fun σ H Q ⟨m, τ, h, d, h', R, S, e, q⟩ => ?_
  obtain ⟨⟨x, h1⟩, e1, e⟩ := bind_some' e
  obtain ⟨ds, e2, e⟩ := bind_some' e
  obtain ⟨hz, e⟩ := ite_some' e
  cases e
  refine ⟨m, τ, h, x, h1, R, S, e1, fun m1 H1 v1 L1 S1 r1 => ?_⟩
  have r2 := r1.plain e2
  refine ⟨?_, fun p o hp hc hd => ?_⟩
  · rw [r2.length, sizeLine_eq]; exact hz
  · exact q m1 _ _ (L1.trans (Le.upd S1.cl hp _)) (S1.upd hp _) (.val (RV.tupN S1 hp hc hd r2)) (nwV _ _ _)
/-- a new list at p, held by nobody -/
theorem RQ.newN {K : PySem.W.Frag} {m : List Addr} {h : AH} {H : Hp} (S : Sim K m h H) {p : Addr} (hp : H p = none) {vs : List V} {ds : List D} (r : RVs K m H vs ds) (z : ds.length ≤ 16777216) : RQ K m (upd H p (.lst vs)) (.ref p) (.new ds) :=
  .new (S.cl.non hp) upd_same (r.mono S.cl (Le.upd S.cl hp _).toLw) z
theorem je_lst (ha : JA X es fr) : JE X (.List es pos) (mLst fr) := by
  refine pe_weak (pe_lst ha) fun σ H Q ⟨m, τ, h, d, h', R, S, e, q⟩ => ?_
  obtain ⟨⟨x, h1⟩, e1, e⟩ := bind_some' e
  obtain ⟨ds, e2, e⟩ := bind_some' e
  obtain ⟨hz, e⟩ := ite_some' e
  cases e
  refine ⟨m, τ, h, x, h1, R, S, e1, fun m1 H1 v1 L1 S1 r1 => ?_⟩
  have r2 := r1.plain e2
  refine ⟨?_, fun p hp => ?_⟩
  · rw [r2.length, sizeLine_eq]; exact hz
  · exact q m1 _ _ (L1.trans (Le.upd S1.cl hp _)) (S1.upd hp _) (RQ.newN S1 hp r2 hz) (fresh_back S1.cl L1 hp)
/-- what nobody holds is tracked from now on -/
theorem hold {K : PySem.W.Frag} {m m1 : List Addr} {h1 : AH} {H H1 : Hp} {v : V} {q : LV} (S : Sim K m1 h1 H1) (L : Le m H m1 H1) (r : RQ K m1 H1 v q) (n : Nw H v q) :
    ∃ m2, Le m H m2 H1 ∧ Sim K m2 (lay q h1).2 H1 ∧ RV K m2 H1 v (lay q h1).1 := by
  cases r with
  | val r => exact ⟨m1, L, S, r⟩
  | @new p vs ds hn hv rv z =>
    have Lg : Lw m1 H1 (m1 ++ [p]) H1 := ⟨⟨[p], rfl⟩, fun a o z _ => z⟩
    refine ⟨m1 ++ [p], ⟨⟨?_, L.fr⟩, fun a h1 h2 => ?_⟩, ?_, RV.new S⟩
    · obtain ⟨t, rfl⟩ := L.pre
      exact ⟨t ++ [p], by simp⟩
    · rcases List.mem_append.mp h1 with w | w
      · exact L.nw a w h2
      · rw [List.mem_singleton.mp w]; exact n
    · refine ⟨by simp [lay, S.len], nodup_add S.nd hn, fun i a ob e1 e2 => ?_⟩
      rcases get_add e1 with z | ⟨z, rfl⟩
      · have hi : i < m1.length := by
          rcases Nat.lt_or_ge i m1.length with w | w
          · exact w
          · rw [List.getElem?_eq_none w] at z
            cases z
        unfold lay at e2
        rw [List.getElem?_append_left (by rw [← S.len]; exact hi)] at e2
        exact (S.ob i a ob z e2).mono S.cl Lg rfl
      · unfold lay at e2
        rw [z, S.len, List.getElem?_append_right (Nat.le_refl _), Nat.sub_self] at e2
        cases e2
        exact ⟨vs, hv, rv.mono S.cl Lg⟩
theorem je_ad {e : Expr} (ha : JE X e fa) : JE X e (mAd fa) := by
  refine pe_weak ha fun σ H Q ⟨m, τ, h, d, h', R, S, e, q⟩ => ?_
  obtain ⟨⟨x, h1⟩, e1, e⟩ := bind_some' e
  cases e
  refine ⟨m, τ, h, x, h1, R, S, e1, fun m1 H1 v L1 S1 r1 n1 => ?_⟩
  obtain ⟨m2, L2, S2, r2⟩ := hold S1 L1 r1 n1
  exact q m2 H1 v L2 S2 (.val r2) (nwV _ _ _)
/-! tests -/
theorem jt_val {e : Expr} (h : JE X e fa) (he : ∀ whole, isTrue e X.env whole = (do let v ← whole; standAt e.pos; holding [v] (truthy v)) := by intro _; rfl) : JT X e (mB fa) := by
  refine pt_weak (pt_val h he) fun σ H Q ⟨m, τ, h, d, h', R, S, e, q⟩ => ?_
  obtain ⟨⟨x, h1⟩, e1, e⟩ := bind_some' e
  refine ⟨m, τ, h, x, h1, R, S, e1, fun m1 H1 v L1 S1 r1 n1 => ?_⟩
  dsimp only at e
  split at e
  · cases e
    cases r1 with
    | val r =>
      cases r
      exact ⟨_, rfl, q m1 H1 L1 S1⟩
  · cases e
theorem jw_and1 (ha : JT X a ft) : JW X (.BoolOp .And [a] pos) ft := pw_and1 ha
theorem jw_or1 (ha : JT X a ft) : JW X (.BoolOp .Or [a] pos) ft := pw_or1 ha
theorem jw_and (ha : JT X a ft) (hb : JW X (.BoolOp .And (b :: es) pos) fu) : JW X (.BoolOp .And (a :: b :: es) pos) (mAnd ft fu) := by
  refine pw_weak (pw_and ha hb) fun σ H Q ⟨m, τ, h, d, h', R, S, e, q⟩ => ?_
  obtain ⟨⟨x, h1⟩, e1, e⟩ := bind_some' e
  refine ⟨m, τ, h, x, h1, R, S, e1, fun m1 H1 L1 S1 => ?_⟩
  cases x with
  | true => exact ⟨m1, τ, h1, d, h', R.mono S.cl L1.toLw, S1, e, fun m2 H2 L2 S2 => q m2 H2 (L1.trans L2) S2⟩
  | false => cases e; exact q m1 H1 L1 S1
theorem jw_or (ha : JT X a ft) (hb : JW X (.BoolOp .Or (b :: es) pos) fu) : JW X (.BoolOp .Or (a :: b :: es) pos) (mOr ft fu) := by
  refine pw_weak (pw_or ha hb) fun σ H Q ⟨m, τ, h, d, h', R, S, e, q⟩ => ?_
  obtain ⟨⟨x, h1⟩, e1, e⟩ := bind_some' e
  refine ⟨m, τ, h, x, h1, R, S, e1, fun m1 H1 L1 S1 => ?_⟩
  cases x with
  | false => exact ⟨m1, τ, h1, d, h', R.mono S.cl L1.toLw, S1, e, fun m2 H2 L2 S2 => q m2 H2 (L1.trans L2) S2⟩
  | true => cases e; exact q m1 H1 L1 S1
theorem JW.t {e : Expr} (h : JW X e ft) : JT X e ft := PW.pt h
theorem jt_not (ha : JT X a ft) : JT X (.UnaryOp .Not a pos) (mNot ft) := by
  refine pt_weak (pt_not ha) fun σ H Q ⟨m, τ, h, d, h', R, S, e, q⟩ => ?_
  obtain ⟨⟨x, h1⟩, e1, e⟩ := bind_some' e
  cases e
  exact ⟨m, τ, h, x, h1, R, S, e1, fun m1 H1 L1 S1 => q m1 H1 L1 S1⟩
theorem je_if (hc : JT X c ft) (ha : JE X a fa) (hb : JE X b fb) : JE X (.IfExp c a b pos) (mIf ft fa fb) := by
  refine pe_weak (pe_ifExp hc ha hb) fun σ H Q ⟨m, τ, h, d, h', R, S, e, q⟩ => ?_
  obtain ⟨⟨x, h1⟩, e1, e⟩ := bind_some' e
  refine ⟨m, τ, h, x, h1, R, S, e1, fun m1 H1 L1 S1 => ?_⟩
  cases x with
  | true => exact ⟨m1, τ, h1, d, h', R.mono S.cl L1.toLw, S1, e, fun m2 H2 v L2 S2 r2 n2 => q m2 H2 v (L1.trans L2) S2 r2 (n2.back S1.cl L1)⟩
  | false => exact ⟨m1, τ, h1, d, h', R.mono S.cl L1.toLw, S1, e, fun m2 H2 v L2 S2 r2 n2 => q m2 H2 v (L1.trans L2) S2 r2 (n2.back S1.cl L1)⟩
/-! and, or, not as values -/
def mAndV (fa fb : SE) : SE := fun τ h => (fa τ h).bind fun p => match p.1 with
  | .val (.bl true) => fb τ p.2
  | .val (.bl false) => some (.val (.bl false), p.2)
  | _ => none
def mOrV (fa fb : SE) : SE := fun τ h => (fa τ h).bind fun p => match p.1 with
  | .val (.bl false) => fb τ p.2
  | .val (.bl true) => some (.val (.bl true), p.2)
  | _ => none
def mNotV (fa : SE) : SE := fun τ h => (fa τ h).bind fun p => match p.1 with
  | .val (.bl b) => some (.val (.bl (!b)), p.2)
  | _ => none
theorem je_and1 {op} (ha : JE X a fa) : JE X (.BoolOp op [a] pos) fa := pe_one ha
theorem je_and (ha : JE X a fa) (hb : JE X (.BoolOp .And (b :: es) pos) fb) : JE X (.BoolOp .And (a :: b :: es) pos) (mAndV fa fb) := by
  refine pe_weak (pe_and ha hb) fun σ H Q ⟨m, τ, h, d, h', R, S, e, q⟩ => ?_
  obtain ⟨⟨x, h1⟩, e1, e⟩ := bind_some' e
  refine ⟨m, τ, h, x, h1, R, S, e1, fun m1 H1 v L1 S1 r1 n1 => ?_⟩
  dsimp only at e
  split at e
  · cases r1 with
    | val r => cases r; exact ⟨true, rfl, ⟨m1, τ, h1, d, h', R.mono S.cl L1.toLw, S1, e, fun m2 H2 v L2 S2 r2 n2 => q m2 H2 v (L1.trans L2) S2 r2 (n2.back S1.cl L1)⟩⟩
  · cases e
    cases r1 with
    | val r => cases r; exact ⟨false, rfl, q m1 H1 _ L1 S1 (.val (.bl false)) (nwV _ _ _)⟩
  · cases e
theorem je_or (ha : JE X a fa) (hb : JE X (.BoolOp .Or (b :: es) pos) fb) : JE X (.BoolOp .Or (a :: b :: es) pos) (mOrV fa fb) := by
  refine pe_weak (pe_or ha hb) fun σ H Q ⟨m, τ, h, d, h', R, S, e, q⟩ => ?_
  obtain ⟨⟨x, h1⟩, e1, e⟩ := bind_some' e
  refine ⟨m, τ, h, x, h1, R, S, e1, fun m1 H1 v L1 S1 r1 n1 => ?_⟩
  dsimp only at e
  split at e
  · cases r1 with
    | val r => cases r; exact ⟨false, rfl, ⟨m1, τ, h1, d, h', R.mono S.cl L1.toLw, S1, e, fun m2 H2 v L2 S2 r2 n2 => q m2 H2 v (L1.trans L2) S2 r2 (n2.back S1.cl L1)⟩⟩
  · cases e
    cases r1 with
    | val r => cases r; exact ⟨true, rfl, q m1 H1 _ L1 S1 (.val (.bl true)) (nwV _ _ _)⟩
  · cases e
theorem je_not (ha : JE X a fa) : JE X (.UnaryOp .Not a pos) (mNotV fa) := by
  refine pe_weak (pe_not ha) fun σ H Q ⟨m, τ, h, d, h', R, S, e, q⟩ => ?_
  obtain ⟨⟨x, h1⟩, e1, e⟩ := bind_some' e
  refine ⟨m, τ, h, x, h1, R, S, e1, fun m1 H1 v L1 S1 r1 n1 => ?_⟩
  dsimp only at e
  split at e
  · cases e
    cases r1 with
    | val r => cases r; exact ⟨_, rfl, q m1 H1 _ L1 S1 (.val (.bl _)) (nwV _ _ _)⟩
  · cases e
/-! calls of the program's own defs -/
def spF (K : PySem.W.Frag) (n : Nat) (F : SF) : Sp := fun vs H Q _ => ∃ m h ds d h', Sim K m h H ∧ RVs K m H vs ds ∧ ds.length = n ∧ F ds h = some (d, h') ∧ ∀ m' H' v, Le m H m' H' → Sim K m' h' H' → RV K m' H' v d → Q v H'
theorem call_sem {K : PySem.W.Frag} {n : Nat} {F : SF} {ps : List Str} (hl : ps.length = n) {fr : SA} {σ : L2.St} {H : Hp} {Q : VK} (hn : ∀ τ h qs h', fr τ h = some (qs, h') → qs.length = n) (h : tE K (mCall F fr) σ H Q) : tA K fr σ H fun vs H1 => spF K n F vs H1 Q E0 := by
  obtain ⟨m, τ, h, d, h', R, S, e, q⟩ := h
  obtain ⟨⟨x, h1⟩, e1, e⟩ := bind_some' e
  obtain ⟨ds, e2, e⟩ := bind_some' e
  obtain ⟨⟨y, h2⟩, e3, e⟩ := bind_some' e
  cases e
  refine ⟨m, τ, h, x, h1, R, S, e1, fun m1 H1 v1 L1 S1 r1 => ?_⟩
  have r2 := r1.plain e2
  refine ⟨m1, h1, ds, y, h2, S1, r2, ?_, e3, fun m' H' v L' S' r' => q m' H' v (L1.trans L') S' (.val r') (nwV _ _ _)⟩
  have e4 := hn _ _ _ _ e1
  have : ∀ (qs : List LV) (ds : List D), plain qs = some ds → ds.length = qs.length := by
    intro qs
    induction qs with
    | nil => intro ds z; cases z; rfl
    | cons a r ih =>
      intro ds z
      cases a with
      | new _ => cases z
      | val d =>
        obtain ⟨s, z1, z2⟩ := bind_some' z
        cases z2
        rw [List.length_cons, List.length_cons, ih _ z1]
  rw [this _ _ e2]
  exact e4
/-- an argument list of a known length -/
def LenA (fr : SA) (n : Nat) : Prop := ∀ τ h qs h', fr τ h = some (qs, h') → qs.length = n
theorem lenA_nil : LenA mNil 0 := fun τ h qs h' e => by cases e; rfl
theorem lenA_cons {fa : SE} {fr : SA} {n : Nat} (h : LenA fr n) : LenA (mCons fa fr) (n + 1) := fun τ h0 qs h' e => by
  obtain ⟨⟨x, h1⟩, e1, e⟩ := bind_some' e
  obtain ⟨⟨y, h2⟩, e2, e⟩ := bind_some' e
  cases e
  rw [List.length_cons, h _ _ _ _ e2]
theorem je_call {x : Str} {p : Pos} {k n : Nat} {f : Addr} {fd : FuncData} {ps : List Str} {F : SF} (G : FnOk X.prog X.w X.K X.mg X.base CX0 k f fd ps (spF X.K n F)) (hr : Room k X.A) (hg : Gl X x) (hm : X.mg x = some (.ref f)) (hk : PySem.W.keepIn X.K (.ref f) = true) (hb : Binds X.K fd ps [])
    (ha : JA X (a :: es) fr) (hl : LenA fr n) (hp : ps.length = n) (hdb : (x == ("__debug__" : Str)) = false := by decide) (he : starEach (a :: es) X.env = (false, eval a X.env) :: starEach es X.env := by rfl) (hpl : (backTo pos (starEach es X.env)).any (·.1) = false := by rfl) :
    JE X (.Call (.Name x p) (a :: es) [] pos) (mCall F fr) := by
  refine pe_weak (pe_call G hr hg hm hk hb .nil pass0 ha hdb he hpl) fun σ H Q h => ?_
  obtain ⟨m, τ, h, qs, h', R, S, e, q⟩ := call_sem hp hl h
  exact ⟨m, τ, h, qs, h', R, S, e, fun m' H' vs L' S' r' => by
    show spF X.K n F (vs ++ []) H' Q E0
    rw [List.append_nil]
    exact q m' H' vs L' S' r'⟩
end
end Sm
namespace Sm
open PySem PySem.Spec PyProof.Rows L2

/-! ## statements -/
abbrev SG := D → AT → AH → Option (AT × AH)
abbrev SGs := List D → AT → AH → Option (AT × AH)
def tG (K : PySem.W.Frag) (vs : List Nat) (g : SG) : TG := fun v σ H Q => ∃ m d τ h τ' h', RV K m H v d ∧ RSt K m H σ τ ∧ Sim K m h H ∧ g d τ h = some (τ', h') ∧ ∀ m' H' σ', Le m H m' H' → Sim K m' h' H' → RSt K m' H' σ' τ' → wipe σ' vs = wipe σ vs → Q σ' H'
def tGs (K : PySem.W.Frag) (vs : List Nat) (g : SGs) : TGs := fun us σ H Q => ∃ m ds τ h τ' h', RVs K m H us ds ∧ RSt K m H σ τ ∧ Sim K m h H ∧ g ds τ h = some (τ', h') ∧ ∀ m' H' σ', Le m H m' H' → Sim K m' h' H' → RSt K m' H' σ' τ' → wipe σ' vs = wipe σ vs → Q σ' H'
def JG (X : Cx) (vs : List Nat) (e : Expr) (g : SG) : Prop := PG X e (tG X.K vs g)
def JGs (X : Cx) (vs : List Nat) (es : List Expr) (g : SGs) : Prop := PGs X es (tGs X.K vs g)
theorem pg_weak {X : Cx} {e : Expr} {t t' : TG} (h : PG X e t) (hw : ∀ v σ H Q, t' v σ H Q → t v σ H Q) : PG X e t' := ⟨fun pins s σ H v u Q I r q => h.run pins s σ H v u Q I r (hw _ _ _ _ q)⟩
theorem pgs_weak {X : Cx} {e : List Expr} {t t' : TGs} (h : PGs X e t) (hw : ∀ v σ H Q, t' v σ H Q → t v σ H Q) : PGs X e t' := ⟨fun pins s σ H v u Q I r q => h.run pins s σ H v u Q I r (hw _ _ _ _ q)⟩
def gN (i : Nat) : SG := fun d τ h => some (τ.set i (some d), h)
def gT (n : Nat) (gs : SGs) : SG := fun d τ h => match d with
  | .tup ds => if ds.length = n then gs ds τ h else none
  | .zt ds => if ds.length = n then gs ds τ h else none
  | _ => none
def gsN : SGs := fun ds τ h => match ds with
  | [] => some (τ, h)
  | _ => none
def gsC (g : SG) (gs : SGs) : SGs := fun ds τ h => match ds with
  | d :: r => (g d τ h).bind fun p => gs r p.1 p.2
  | _ => none
theorem wipe_set {σ : L2.St} {i : Nat} {x : Option V} : ∀ {vs : List Nat}, i ∈ vs → wipe (σ.set i x) vs = wipe σ vs
  | v :: vs, h => by
    unfold wipe
    by_cases hv : i ∈ vs
    · rw [wipe_set hv]
    · have e : v = i := by
        rcases List.mem_cons.mp h with z | z
        · exact z.symm
        · exact absurd z hv
      subst e
      have : ∀ (us : List Nat) (σ : L2.St), v ∉ us → wipe (σ.set v x) us = (wipe σ us).set v x := by
        intro us
        induction us with
        | nil => intro σ _; rfl
        | cons u us ih =>
          intro σ hn
          unfold wipe
          rw [ih σ (fun z => hn (List.mem_cons_of_mem _ z)), List.set_comm _ _ (fun z => hn (by rw [z]; exact List.mem_cons_self))]
      rw [this vs σ hv, List.set_set]
section
variable {X : Cx} {pos : Pos} {vs : List Nat} {e o : Expr} {es : List Expr} {fa fb fo : SE} {fr : SA} {ft : ST} {st : Stmt} {rest sts sts2 : List Stmt} {f f1 f2 : SS} {g : SG} {gs : SGs}
theorem jg_name {i : Nat} {x : Str} (hN : X.N.Nodup) (hi : X.N[i]? = some x) (hx : Loc X.env.scope x) (hv : i ∈ vs) (hf : X.fn x = true ∨ X.env.scope.names.lookup x = some .local := by first | exact .inl rfl | exact .inr rfl | assumption) : JG X vs (.Name x pos) (gN i) := by
  refine pg_weak (pg_name hN hi hx hf) fun v σ H Q ⟨m, d, τ, h, τ', h', r, R, S, e, q⟩ => ?_
  cases e
  exact q m H _ (Le.refl m H) S (R.set r i) (wipe_set hv)
theorem jgs_nil : JGs X vs [] gsN := by
  refine pgs_weak pgs_nil fun v σ H Q ⟨m, d, τ, h, τ', h', r, R, S, e, q⟩ => ?_
  cases d with
  | nil =>
    cases r
    cases e
    exact ⟨rfl, q m H _ (Le.refl m H) S R rfl⟩
  | cons _ _ => cases e
theorem jgs_cons (h1 : JG X vs e g) (h2 : JGs X vs es gs) (hs : (assignEach (e :: es) X.env).map (·.2) = assign e X.env :: (assignEach es X.env).map (·.2) := by rfl) : JGs X vs (e :: es) (gsC g gs) := by
  refine pgs_weak (pgs_cons h1 h2 hs) fun v σ H Q ⟨m, d, τ, h, τ', h', r, R, S, e, q⟩ => ?_
  cases r with
  | nil => cases e
  | cons r rr =>
    obtain ⟨⟨x, hx⟩, e1, e⟩ := bind_some' e
    refine ⟨_, _, rfl, m, _, τ, h, x, hx, r, R, S, e1, fun m1 H1 σ1 L1 S1 R1 w1 => ?_⟩
    exact ⟨m1, _, x, hx, τ', h', rr.mono S.cl L1.toLw, R1, S1, e, fun m2 H2 σ2 L2 S2 R2 w2 => q m2 H2 σ2 (L1.trans L2) S2 R2 (w2.trans w1)⟩
theorem jg_tup {k n : Nat} (hc : X.calm = true) (h : JGs X vs es gs) (hn : (assignEach es X.env).length = n := by rfl) (hst : (assignEach es X.env).findIdx? (·.1) = none := by rfl) : JG X vs (.Tuple es k pos) (gT n gs) := by
  refine pg_weak (pg_tup hc h hn hst) fun v σ H Q ⟨m, d, τ, h, τ', h', r, R, S, e, q⟩ => ?_
  have fin : ∀ {a : Addr} {us : List V} {ds : List D}, SqT X.K H a us → RVs X.K m H us ds → (if ds.length = n then gs ds τ h else none) = some (τ', h') → gTup X.K n (tGs X.K vs gs) (.ref a) σ H Q := fun {a us ds} hq rr e => by
    obtain ⟨hl, e⟩ := ite_some' e
    exact ⟨a, us, rfl, hq, rr.length.trans hl, m, ds, τ, h, τ', h', rr, R, S, e, q⟩
  cases r with
  | tup hq rr => exact fin hq.sq rr e
  | zt hq rr => exact fin hq rr e
  | _ => cases e
/-- o[i] = .. over a list -/
def setD : LV → LV → D → AH → Option AH
  | .val (.ref a), .val (.int k), d, h => match h[a]? with
    | some (.lst xs) => (ixN xs.length k).bind fun j => some (h.set a (.lst (xs.set j d)))
    | _ => none
  | _, _, _, _ => none
def gS (fo fi : SE) : SG := fun d τ h => (fo τ h).bind fun p => (fi τ p.2).bind fun q => (setD p.1 q.1 d q.2).bind fun h' => some (τ, h')
theorem jg_sub {i : Expr} {fi : SE} (ho : JE X o fo) (hi : JE X i fi) (ha : ∀ v, assign (.Subscript o i pos) X.env v = (do
      let ov ← holding [v] (eval o X.env)
      let iv ← holding [v, ov] (eval i X.env)
      standAt pos
      holding [v, ov, iv] (setItem ov iv v)
      release [v, ov, iv] []) := by intro _; rfl) : JG X vs (.Subscript o i pos) (gS fo fi) := by
  refine pg_weak (pg_sub ho hi set_list ha) fun v σ H Q ⟨m, d, τ, h, τ', h', r, R, S, e, q⟩ => ?_
  obtain ⟨⟨x, h1⟩, e1, e⟩ := bind_some' e
  obtain ⟨⟨y, h2⟩, e2, e⟩ := bind_some' e
  obtain ⟨h3, e3, e⟩ := bind_some' e
  cases e
  refine ⟨m, τ, h, x, h1, R, S, e1, fun m1 H1 v1 L1 S1 r1 _ => ⟨m1, τ, h1, y, h2, R.mono S.cl L1.toLw, S1, e2, fun m2 H2 v2 L2 S2 r2 _ => ?_⟩⟩
  have r1' := r1.mono S1.cl L2
  have rv := (r.mono S.cl L1.toLw).mono S1.cl L2.toLw
  dsimp only at e3
  unfold setD at e3
  split at e3
  · split at e3
    · rename_i xs hx
      obtain ⟨j, hj, e3⟩ := bind_some' e3
      cases e3
      cases r1' with
      | val r1' =>
        cases r1' with
        | ref ea =>
          cases r2 with
          | val r2 =>
            cases r2
            obtain ⟨us, hu, ru⟩ := S2.lst ea hx
            refine ⟨_, us, _, j, rfl, rfl, hu, by rw [ru.length]; exact hj, ?_⟩
            exact q m2 _ σ (L1.trans (L2.trans (Le.put S2 ea _))) (S2.putL ea (ru.set rv j)) (((R.mono S.cl L1.toLw).mono S1.cl L2.toLw).mono S2.cl (Le.put S2 ea _).toLw) rfl
    · cases e3
  · cases e3

def mAsg (g : SG) (fa : SE) : SS := fun τ h => (fa τ h).bind fun p => (g (lay p.1 p.2).1 τ (lay p.1 p.2).2).bind fun q => some (.nx q.1 q.2)
def mExpr (fa : SE) : SS := fun τ h => (fa τ h).bind fun p => some (.nx τ p.2)
def mRet (fa : SE) : SS := fun τ h => (fa τ h).bind fun p => some (.rt (lay p.1 p.2).1 (lay p.1 p.2).2)
def mRetN : SS := fun _ h => some (.rt .non h)
def mPass : SS := fun τ h => some (.nx τ h)
def mBrk : SS := fun τ h => some (.bk τ h)
def mCnt : SS := fun τ h => some (.ct τ h)
def mNever : SS := fun _ _ => none
def mSeq (f1 f2 : SS) : SS := fun τ h => (f1 τ h).bind fun r => match r with
  | .nx τ' h' => f2 τ' h'
  | r => some r
def mIfS (ft : ST) (f1 f2 : SS) : SS := fun τ h => (ft τ h).bind fun p => if p.1 = true then f1 τ p.2 else f2 τ p.2

theorem asg_sem {K : PySem.W.Frag} (D : Ends) (σ : L2.St) (H : Hp) (h : tS K (mAsg g fa) D σ H) : tAsg (tE K fa) (tG K vs g) D σ H := by
  obtain ⟨m, τ, h, r, R, S, e, q⟩ := h
  obtain ⟨⟨x, h1⟩, e1, e⟩ := bind_some' e
  obtain ⟨⟨τ', h'⟩, e2, e⟩ := bind_some' e
  cases e
  refine ⟨m, τ, h, x, h1, R, S, e1, fun m1 H1 v1 L1 S1 r1 n1 => ?_⟩
  obtain ⟨m2, L2, S2, r2⟩ := hold S1 L1 r1 n1
  exact ⟨m2, _, τ, _, τ', h', r2, R.mono S.cl L2.toLw, S2, e2, fun m3 H3 σ3 L3 S3 R3 _ => q m3 H3 σ3 (L2.trans L3) S3 R3⟩
theorem js_asg {tg : Expr} (he : JE X e fa) (hg : JG X vs tg g) (hs : swapsWithSole [tg] e pos.line X.env = pure false := by rfl) (hw : swappedStores [tg] e X.env = pure none := by rfl)
    (h1 : (assignEach [tg] X.env).map (·.2) = [assign tg X.env] := by rfl) : JS X (.Assign [tg] e pos) (mAsg g fa) := ps_weak (ps_asg he hg hs hw h1) asg_sem
theorem js_set {i : Nat} {x : Str} {pos' : Pos} (hN : X.N.Nodup) (hi : X.N[i]? = some x) (hx : Loc X.env.scope x) (he : JE X e fa) (hs : swapsWith e (some (.Name x pos')) pos.line X.env = pure false := by rfl) (hf : X.fn x = true ∨ X.env.scope.names.lookup x = some .local := by first | exact .inl rfl | exact .inr rfl | assumption) :
    JS X (.Assign [.Name x pos'] e pos) (mAsg (gN i) fa) := by
  refine ps_weak (ps_set hN hi hx he hs hf) fun D σ H h => ?_
  obtain ⟨m, τ, h, r, R, S, e, q⟩ := h
  obtain ⟨⟨x, h1⟩, e1, e⟩ := bind_some' e
  cases e
  refine ⟨m, τ, h, x, h1, R, S, e1, fun m1 H1 v1 L1 S1 r1 n1 => ?_⟩
  obtain ⟨m2, L2, S2, r2⟩ := hold S1 L1 r1 n1
  exact q m2 H1 _ L2 S2 ((R.mono S.cl L2.toLw).set r2 i)
theorem js_expr (he : JE X e fa) (hs : swapsWith e none pos.line X.env = pure false := by rfl) : JS X (.Expr e pos) (mExpr fa) := by
  refine ps_weak (ps_expr he hs) fun D σ H ⟨m, τ, h, r, R, S, e, q⟩ => ?_
  obtain ⟨⟨x, h1⟩, e1, e⟩ := bind_some' e
  cases e
  exact ⟨m, τ, h, x, h1, R, S, e1, fun m1 H1 v1 L1 S1 r1 n1 => q m1 H1 σ L1 S1 (R.mono S.cl L1.toLw)⟩
theorem js_ret (he : JE X e fa) : JS X (.Return (some e) pos) (mRet fa) := by
  refine ps_weak (ps_ret he) fun D σ H ⟨m, τ, h, r, R, S, e, q⟩ => ?_
  obtain ⟨⟨x, h1⟩, e1, e⟩ := bind_some' e
  cases e
  refine ⟨m, τ, h, x, h1, R, S, e1, fun m1 H1 v1 L1 S1 r1 n1 => ?_⟩
  obtain ⟨m2, L2, S2, r2⟩ := hold S1 L1 r1 n1
  exact q m2 H1 v1 L2 S2 r2
theorem js_retN : JS X (.Return none pos) mRetN := by
  refine ps_weak ps_retN fun D σ H ⟨m, τ, h, r, R, S, e, q⟩ => ?_
  cases e
  exact q m H _ (Le.refl m H) S .non
theorem js_pass : JS X (.Pass pos) mPass := by
  refine ps_weak ps_pass fun D σ H ⟨m, τ, h, r, R, S, e, q⟩ => ?_
  cases e
  exact q m H _ (Le.refl m H) S R
theorem js_brk : JS X (.Break pos) mBrk := by
  refine ps_weak ps_break fun D σ H ⟨m, τ, h, r, R, S, e, q⟩ => ?_
  cases e
  exact q m H _ (Le.refl m H) S R
theorem js_cnt : JS X (.Continue pos) mCnt := by
  refine ps_weak ps_continue fun D σ H ⟨m, τ, h, r, R, S, e, q⟩ => ?_
  cases e
  exact q m H _ (Le.refl m H) S R
theorem js_never : JS X st mNever := by
  refine ps_weak ps_never fun D σ H ⟨m, τ, h, r, R, S, e, q⟩ => ?_
  cases e
theorem jb_nil : JB X [] mPass := by
  refine pss_weak pss_nil fun D σ H ⟨m, τ, h, r, R, S, e, q⟩ => ?_
  cases e
  exact q m H _ (Le.refl m H) S R
theorem jb_one (h : JS X st f) : JB X [st] f := pss_one h
theorem jb_cons (h1 : JS X st f1) (h2 : JB X rest f2) : JB X (st :: rest) (mSeq f1 f2) := by
  refine pss_weak (pss_cons h1 h2) fun D σ H ⟨m, τ, h, r, R, S, e, q⟩ => ?_
  obtain ⟨r1, e1, e⟩ := bind_some' e
  refine ⟨m, τ, h, r1, R, S, e1, ?_⟩
  cases r1 with
  | nx τ' h' => exact fun m' H' σ' L' S' R' => ⟨m', τ', h', r, R', S', e, q.le L'⟩
  | rt d h' => cases e; exact q
  | bk τ' h' => cases e; exact q
  | ct τ' h' => cases e; exact q
theorem js_if {c : Expr} (hc : JT X c ft) (ha : JB X sts f1) (hb : JB X sts2 f2) : JS X (.If c sts sts2 pos) (mIfS ft f1 f2) := by
  refine ps_weak (ps_if hc ha hb) fun D σ H ⟨m, τ, h, r, R, S, e, q⟩ => ?_
  obtain ⟨⟨b, h1⟩, e1, e⟩ := bind_some' e
  refine ⟨m, τ, h, b, h1, R, S, e1, fun m1 H1 L1 S1 => ?_⟩
  cases b with
  | true => exact ⟨m1, τ, h1, r, R.mono S.cl L1.toLw, S1, e, q.le L1⟩
  | false => exact ⟨m1, τ, h1, r, R.mono S.cl L1.toLw, S1, e, q.le L1⟩
end
end Sm
namespace Sm
open PySem PySem.Spec PyProof.Rows L2

/-! ## what is walked -/
structure ItD where
  items : List D
  grd : List (Nat × List D)
abbrev SI := AT → AH → Option (ItD × AH)
def grdOk (g : List (Nat × List D)) (h : AH) : Bool := g.all fun p => decide (h[p.1]? = some (.lst p.2))
def ItOk (K : PySem.W.Frag) (J : It) (m0 : List Addr) (H0 : Hp) (it : ItD) : Prop :=
  ∀ (i : Nat) (m : List Addr) (h : AH) (H : Hp), Le m0 H0 m H → Sim K m h H → grdOk it.grd h = true →
    (∀ d, it.items[i]? = some d → J.go i H ∧ ∀ x H', J.yld i H x H' → Le m H m H' ∧ Sim K m h H' ∧ RV K m H' x d) ∧ (i = it.items.length → J.stop i H)
def tI (K : PySem.W.Frag) (f : SI) : TI := fun σ H R => ∃ m τ h it h', RSt K m H σ τ ∧ Sim K m h H ∧ f τ h = some (it, h') ∧ ∀ m' H' J, Le m H m' H' → Sim K m' h' H' → ItOk K J m' H' it → R J H'
def JI (X : Cx) (tg e : Expr) (f : SI) : Prop := PI X tg e (tI X.K f)
theorem pi_weak {X : Cx} {tg e : Expr} {t t' : TI} (h : PI X tg e t) (hw : ∀ σ H R, t' σ H R → t σ H R) : PI X tg e t' := ⟨fun pins s σ H R I q => h.run pins s σ H R I (hw _ _ _ q)⟩
theorem pi_or {X : Cx} {tg e : Expr} {t t' : TI} (h : PI X tg e t) (h' : PI X tg e t') : PI X tg e (fun σ H R => t σ H R ∨ t' σ H R) := ⟨fun pins s σ H R I q => q.elim (h.run pins s σ H R I) (h'.run pins s σ H R I)⟩
/-- over a list or a tuple -/
def iterOf : LV → AH → Option ItD
  | .new ds, _ => some ⟨ds, []⟩
  | .val (.tup ds), _ => some ⟨ds, []⟩
  | .val (.zt ds), _ => some ⟨ds, []⟩
  | .val (.fl ds), _ => some ⟨ds, []⟩
  | .val (.ref a), h => match h[a]? with
    | some (.lst ds) => some ⟨ds, [(a, ds)]⟩
    | _ => none
  | _, _ => none
def mIter (fa : SE) : SI := fun τ h => (fa τ h).bind fun p => (iterOf p.1 p.2).bind fun it => some (it, p.2)
theorem RVs.atd {K : PySem.W.Frag} {m : List Addr} {H : Hp} {vs : List V} {ds : List D} (r : RVs K m H vs ds) {i : Nat} {d : D} (e : ds[i]? = some d) : ∃ v, vs[i]? = some v ∧ RV K m H v d := r.get e
section
variable {K : PySem.W.Frag} {m : List Addr} {h : AH} {H : Hp}
theorem itOk_list {a : Addr} {ds : List D} {g : List (Nat × List D)} (hs : ∀ m' h' H', Le m H m' H' → Sim K m' h' H' → grdOk g h' = true → ∃ us, SqL K H' a us ∧ RVs K m' H' us ds) : ItOk K (Itl K a) m H ⟨ds, g⟩ := fun i m1 h1 H1 L S G => by
  obtain ⟨us, hq, r⟩ := hs m1 h1 H1 L S G
  refine ⟨fun d e => ?_, fun e => ⟨us, hq, by rw [r.length, e]; exact Nat.le_refl _⟩⟩
  obtain ⟨v, e1, r1⟩ := r.get e
  refine ⟨⟨us, v, hq, e1⟩, fun x H2 ⟨e2, y⟩ => ?_⟩
  subst e2
  have := y us hq
  rw [e1] at this
  cases this
  exact ⟨Le.refl _ _, S, r1⟩
theorem itOk_tup {a : Addr} {ds : List D} {g : List (Nat × List D)} (hs : ∀ m' h' H', Le m H m' H' → Sim K m' h' H' → grdOk g h' = true → ∃ us, SqT K H' a us ∧ RVs K m' H' us ds) : ItOk K (Itt K a) m H ⟨ds, g⟩ := fun i m1 h1 H1 L S G => by
  obtain ⟨us, hq, r⟩ := hs m1 h1 H1 L S G
  refine ⟨fun d e => ?_, fun e => ⟨us, hq, by rw [r.length, e]; exact Nat.le_refl _⟩⟩
  obtain ⟨v, e1, r1⟩ := r.get e
  refine ⟨⟨us, v, hq, e1⟩, fun x H2 ⟨e2, y⟩ => ?_⟩
  subst e2
  have := y us hq
  rw [e1] at this
  cases this
  exact ⟨Le.refl _ _, S, r1⟩
/-- what an expression that is walked stands for -/
inductive SrcL (K : PySem.W.Frag) (m : List Addr) (H : Hp) (h : AH) : V → LV → List D → List (Nat × List D) → Prop
  | new {p : Addr} {vs : List V} {ds : List D} : p ∉ m → H p = some (.lst vs) → RVs K m H vs ds → SrcL K m H h (.ref p) (.new ds) ds []
  | fl {p : Addr} {vs : List V} {ds : List D} : FzL K H p vs → RVs K m H vs ds → SrcL K m H h (.ref p) (.val (.fl ds)) ds []
  | ref {p : Addr} {i : Nat} {ds : List D} : m[i]? = some p → h[i]? = some (.lst ds) → SrcL K m H h (.ref p) (.val (.ref i)) ds [(i, ds)]
theorem SrcL.stays (S : Sim K m h H) {v : V} {q : LV} {ds : List D} {g : List (Nat × List D)} (s : SrcL K m H h v q ds g) : ∃ p, v = .ref p ∧ (∃ us, SqL K H p us ∧ RVs K m H us ds) ∧ ∀ m' h' H', Le m H m' H' → Sim K m' h' H' → grdOk g h' = true → ∃ us, SqL K H' p us ∧ RVs K m' H' us ds := by
  cases s with
  | new hn e r => exact ⟨_, rfl, ⟨_, SqL.of e, r⟩, fun m' h' H' L' S' _ => ⟨_, SqL.of (L'.fr _ _ e hn), r.mono S.cl L'.toLw⟩⟩
  | fl f r => exact ⟨_, rfl, ⟨_, f.sq, r⟩, fun m' h' H' L' S' _ => ⟨_, (fzL_mono S.cl L'.toLw f).sq, r.mono S.cl L'.toLw⟩⟩
  | ref e1 e2 =>
    refine ⟨_, rfl, ?_, fun m' h' H' L' S' G => ?_⟩
    · obtain ⟨vs, q, r⟩ := S.lst e1 e2
      exact ⟨vs, SqL.of q, r⟩
    · have e3 := L'.get e1
      have e4 := of_decide_eq_true (List.all_eq_true.mp G _ List.mem_cons_self)
      obtain ⟨vs, q, r⟩ := S'.lst e3 e4
      exact ⟨vs, SqL.of q, r⟩
theorem srcL_of (S : Sim K m h H) {v : V} {q : LV} {it : ItD} (r : RQ K m H v q) (e : iterOf q h = some it) : SrcL K m H h v q it.items it.grd ∨ (∃ p us, v = .ref p ∧ SqT K H p us ∧ RVs K m H us it.items ∧ it.grd = [] ∧ ((∃ ds, q = .val (.tup ds)) ∨ ∃ ds, q = .val (.zt ds))) := by
  unfold iterOf at e
  split at e
  · cases e
    cases r with
    | new a b c d => exact .inl (.new a b c)
  · cases e
    cases r with
    | val r =>
      cases r with
      | tup f r => exact .inr ⟨_, _, rfl, f.sq, r, rfl, .inl ⟨_, rfl⟩⟩
  · cases e
    cases r with
    | val r =>
      cases r with
      | zt f r => exact .inr ⟨_, _, rfl, f, r, rfl, .inr ⟨_, rfl⟩⟩
  · cases e
    cases r with
    | val r =>
      cases r with
      | fl f r => exact .inl (.fl f r)
  · split at e
    · rename_i hh
      cases e
      cases r with
      | val r =>
        cases r with
        | ref e1 => exact .inl (.ref e1 hh)
    · cases e
  · cases e
end
section
variable {X : Cx} {tg e a b : Expr} {fa fb : SE} {fr : SA} {p pos : Pos}
theorem ji_seq (he : JE X e fa) : JI X tg e (mIter fa) := by
  refine pi_weak (pi_or (pi_list he) (pi_tup he)) fun σ H R ⟨m, τ, h, it, h', Rs, S, e, q⟩ => ?_
  obtain ⟨⟨x, h1⟩, e1, e⟩ := bind_some' e
  obtain ⟨it', e2, e⟩ := bind_some' e
  cases e
  have key : ∀ m1 H1 v1, Le m H m1 H1 → Sim X.K m1 h1 H1 → RQ X.K m1 H1 v1 x →
      (∃ p, v1 = .ref p ∧ (∃ us, SqL X.K H1 p us) ∧ R (Itl X.K p) H1) ∨ (∃ p, v1 = .ref p ∧ (∃ us, SqT X.K H1 p us) ∧ R (Itt X.K p) H1 ∧ ((∃ ds, x = .val (.tup ds)) ∨ ∃ ds, x = .val (.zt ds))) := fun m1 H1 v1 L1 S1 r1 => by
    rcases srcL_of S1 r1 e2 with s | ⟨p, us, rfl, hq, rr, hg, ht⟩
    · obtain ⟨p, rfl, ⟨us, hq, _⟩, st⟩ := s.stays S1
      exact .inl ⟨p, rfl, ⟨us, hq⟩, q m1 H1 _ L1 S1 (itOk_list st)⟩
    · refine .inr ⟨p, rfl, ⟨us, hq⟩, q m1 H1 _ L1 S1 (itOk_tup fun m' h' H' L' S' _ => ⟨us, sqT_mono S1.cl L'.toLw hq, rr.mono S1.cl L'.toLw⟩), ht⟩
  by_cases ht : (∃ ds, x = .val (.tup ds)) ∨ ∃ ds, x = .val (.zt ds)
  · refine .inr ⟨m, τ, h, x, h1, Rs, S, e1, fun m1 H1 v1 L1 S1 r1 _ => ?_⟩
    rcases srcL_of S1 r1 e2 with s | ⟨p, us, rfl, hq, rr, hg, _⟩
    · rcases ht with ⟨ds, rfl⟩ | ⟨ds, rfl⟩ <;> cases s
    · exact ⟨p, rfl, ⟨us, hq⟩, q m1 H1 _ L1 S1 (itOk_tup fun m' h' H' L' S' _ => ⟨us, sqT_mono S1.cl L'.toLw hq, rr.mono S1.cl L'.toLw⟩)⟩
  · refine .inl ⟨m, τ, h, x, h1, Rs, S, e1, fun m1 H1 v1 L1 S1 r1 _ => ?_⟩
    rcases key m1 H1 v1 L1 S1 r1 with k | ⟨_, _, _, _, k⟩
    · exact k
    · exact absurd k ht
/-- range -/
def rngD (lo : Int) (n : Nat) : List D := (List.range n).map fun (i : Nat) => D.int (lo + i)
theorem rngD_get {lo : Int} {n i : Nat} {d : D} (h : (rngD lo n)[i]? = some d) : i < n ∧ d = .int (lo + i) := by
  unfold rngD at h
  rw [List.getElem?_map] at h
  by_cases hi : i < n
  · rw [List.getElem?_eq_getElem (by simpa using hi)] at h
    simp at h
    exact ⟨hi, h.symm⟩
  · rw [List.getElem?_eq_none (by simpa using hi)] at h
    cases h
theorem itOk_rng {K : PySem.W.Frag} {m : List Addr} {H : Hp} {lo : Int} {n : Nat} : ItOk K (Itr lo n) m H ⟨rngD lo n, []⟩ := fun i m1 h1 H1 L S G => by
  refine ⟨fun d e => ?_, fun e => by show n ≤ i; rw [e]; simp [rngD]⟩
  obtain ⟨h1, h2⟩ := rngD_get e
  subst h2
  refine ⟨h1, fun x H2 ⟨e2, y⟩ => ?_⟩
  subst e2
  subst y
  exact ⟨Le.refl _ _, S, .int _⟩
def rng1 : List LV → Option ItD
  | [.val (.int j)] => if j.natAbs < 4611686018427387904 then some ⟨rngD 0 j.toNat, []⟩ else none
  | _ => none
def rng2 : List LV → Option ItD
  | [.val (.int i), .val (.int j)] => if i.natAbs < 4611686018427387904 ∧ j.natAbs < 4611686018427387904 then some ⟨rngD i (j - i).toNat, []⟩ else none
  | _ => none
def mRng1 (fr : SA) : SI := fun τ h => (fr τ h).bind fun p => (rng1 p.1).bind fun it => some (it, p.2)
def mRng2 (fr : SA) : SI := fun τ h => (fr τ h).bind fun p => (rng2 p.1).bind fun it => some (it, p.2)
theorem two62 : (2 : Int) ^ 62 = 4611686018427387904 := by decide
theorem ji_rng1 (hg : Gl X "range") (hm : X.mg "range" = none) (ha : JA X [a] fr) (hs : starEach [a] X.env = [(false, eval a X.env)] := by rfl) : JI X tg (.Call (.Name "range" p) [a] [] pos) (mRng1 fr) := by
  refine pi_weak (pi_range1 hg hm ha hs) fun σ H R ⟨m, τ, h, it, h', Rs, S, e, q⟩ => ?_
  obtain ⟨⟨x, h1⟩, e1, e⟩ := bind_some' e
  obtain ⟨it', e2, e⟩ := bind_some' e
  cases e
  refine ⟨m, τ, h, x, h1, Rs, S, e1, fun m1 H1 v1 L1 S1 r1 => ?_⟩
  dsimp only at e2
  unfold rng1 at e2
  split at e2
  · obtain ⟨b1, e2⟩ := ite_some' e2
    cases e2
    cases r1 with
    | cons r1 r2 =>
      cases r2
      cases r1 with
      | val r1 =>
        cases r1
        exact ⟨_, rfl, by rw [two62]; omega, by rw [two62]; omega, q m1 H1 _ L1 S1 itOk_rng⟩
  · cases e2
theorem ji_rng2 (hg : Gl X "range") (hm : X.mg "range" = none) (ha : JA X [a, b] fr) (hs : starEach [a, b] X.env = [(false, eval a X.env), (false, eval b X.env)] := by rfl) (hs2 : starEach [b] X.env = [(false, eval b X.env)] := by rfl) : JI X tg (.Call (.Name "range" p) [a, b] [] pos) (mRng2 fr) := by
  refine pi_weak (pi_range2 hg hm ha hs hs2) fun σ H R ⟨m, τ, h, it, h', Rs, S, e, q⟩ => ?_
  obtain ⟨⟨x, h1⟩, e1, e⟩ := bind_some' e
  obtain ⟨it', e2, e⟩ := bind_some' e
  cases e
  refine ⟨m, τ, h, x, h1, Rs, S, e1, fun m1 H1 v1 L1 S1 r1 => ?_⟩
  dsimp only at e2
  unfold rng2 at e2
  split at e2
  · obtain ⟨⟨b1, b2⟩, e2⟩ := ite_some' e2
    cases e2
    cases r1 with
    | cons r1 r2 =>
      cases r2 with
      | cons r2 r3 =>
        cases r3
        cases r1 with
        | val r1 =>
          cases r2 with
          | val r2 =>
            cases r1
            cases r2
            exact ⟨_, _, rfl, by rw [two62]; omega, q m1 H1 _ L1 S1 itOk_rng⟩
  · cases e2
end

/-! ## for -/
def forL (grd : List (Nat × List D)) (g : SG) (body : SS) : List D → AT → AH → Option Res
  | [], τ, h => if grdOk grd h = true then some (.nx τ h) else none
  | x :: xs, τ, h => if grdOk grd h = true then (g x τ h).bind fun p => (body p.1 p.2).bind fun r => match r with
    | .nx τ' h' => forL grd g body xs τ' h'
    | .ct τ' h' => forL grd g body xs τ' h'
    | .bk τ' h' => some (.nx τ' h')
    | .rt d h' => some (.rt d h') else none
def mFor (fi : SI) (g : SG) (body : SS) : SS := fun τ h => (fi τ h).bind fun p => forL p.1.grd g body p.1.items τ p.2
section
variable {X : Cx} {pos : Pos} {vs : List Nat} {tg iter : Expr} {fi : SI} {g : SG} {f : SS} {sts : List Stmt}
theorem js_for (hp : PassesOwn (model X.prog X.w) X.A X.env X.xe) (hc : X.calm = true) (hi : JI X tg iter fi) (hg : JG X vs tg g) (hb : JB X sts f)
    (hs : ∀ x, foldedSetIterable iter X.env x = pure x := by intro _; rfl) : JS X (.For tg iter sts [] pos) (mFor fi g f) := by
  refine ps_weak (ps_for hp hc hi hg hb hs) fun D σ H ⟨m, τ, h, r, R, S, e, q⟩ => ?_
  obtain ⟨⟨it, h1⟩, e1, e⟩ := bind_some' e
  refine ⟨m, τ, h, it, h1, R, S, e1, fun m1 H1 J L1 S1 J1 => ?_⟩
  refine ⟨fun i n σ2 H2 => ∃ m2 τ2 h2, n = (it.items.drop i).length ∧ i ≤ it.items.length ∧ Le m1 H1 m2 H2 ∧ Sim X.K m2 h2 H2 ∧ RSt X.K m2 H2 σ2 τ2 ∧ forL it.grd g f (it.items.drop i) τ2 h2 = some r,
    ⟨_, m1, τ, h1, rfl, Nat.zero_le _, Le.refl _ _, S1, R.mono S.cl L1.toLw, e⟩, ?_⟩
  rintro i n σ2 H2 ⟨m2, τ2, h2, rfl, hi2, L2, S2, R2, e2⟩
  cases hd : it.items.drop i with
  | nil =>
    rw [hd] at e2
    unfold forL at e2
    obtain ⟨G, e2⟩ := ite_some' e2
    cases e2
    have hi3 : i = it.items.length := by
      have := congrArg List.length hd
      rw [List.length_drop, List.length_nil] at this
      omega
    exact .inl ⟨(J1 i m2 h2 H2 L2 S2 G).2 hi3, q m2 H2 σ2 (L1.trans L2) S2 R2⟩
  | cons x xs =>
    rw [hd] at e2
    unfold forL at e2
    obtain ⟨G, e2⟩ := ite_some' e2
    obtain ⟨⟨τ3, h3⟩, e3, e2⟩ := bind_some' e2
    obtain ⟨r4, e4, e2⟩ := bind_some' e2
    have hx : it.items[i]? = some x := by
      have := congrArg (fun l => l[0]?) hd
      simpa using this
    have hlt : i < it.items.length := (List.getElem?_eq_some_iff.mp hx).1
    have hxs : it.items.drop (i + 1) = xs := by
      rw [← List.drop_drop, hd]
      rfl
    obtain ⟨go, yl⟩ := (J1 i m2 h2 H2 L2 S2 G).1 x hx
    refine .inr ⟨go, fun σ' H' => ∃ m' τ' h', Le m1 H1 m' H' ∧ Sim X.K m' h' H' ∧ RSt X.K m' H' σ' τ' ∧ forL it.grd g f xs τ' h' = some r, fun σ' H' ⟨m', τ', h', L', S', R', e'⟩ => ?_, fun v H' y => ?_⟩
    · exact ⟨xs.length, by rw [List.length_cons]; exact Nat.lt_succ_self _, m', τ', h', by rw [hxs], hlt, L', S', R', by rw [hxs]; exact e'⟩
    · obtain ⟨L3, S3, rv⟩ := yl v H' y
      refine ⟨m2, x, τ2, h2, τ3, h3, rv, R2.mono S2.cl L3.toLw, S3, e3, fun m5 H5 σ5 L5 S5 R5 _ => ?_⟩
      refine ⟨m5, τ3, h3, r4, R5, S5, e4, ?_⟩
      have L6 := L2.trans (L3.trans L5)
      cases r4 with
      | nx τ' h' => exact fun m' H' σ' L' S' R' => ⟨m', τ', h', L6.trans L', S', R', e2⟩
      | ct τ' h' => exact fun m' H' σ' L' S' R' => ⟨m', τ', h', L6.trans L', S', R', e2⟩
      | bk τ' h' => cases e2; exact fun m' H' σ' L' S' R' => q m' H' σ' (L1.trans (L6.trans L')) S' R'
      | rt d h' => cases e2; exact fun m' H' v L' S' R' => q m' H' v (L1.trans (L6.trans L')) S' R'
end

/-! ## while -/
def whN (ft : ST) (body : SS) : Nat → AT → AH → Option Res
  | 0, _, _ => none
  | n + 1, τ, h => (ft τ h).bind fun p => if p.1 = true then (body τ p.2).bind fun r => match r with
    | .nx τ' h' => whN ft body n τ' h'
    | .ct τ' h' => whN ft body n τ' h'
    | .bk τ' h' => some (.nx τ' h')
    | .rt d h' => some (.rt d h') else some (.nx τ p.2)
theorem whN_more {ft : ST} {body : SS} : ∀ {n : Nat} {τ : AT} {h : AH} {r : Res} (k : Nat), whN ft body n τ h = some r → whN ft body (n + k) τ h = some r
  | 0, _, _, _, _, e => by cases e
  | n + 1, τ, h, r, k, e => by
    rw [show n + 1 + k = (n + k) + 1 by omega]
    unfold whN at e ⊢
    obtain ⟨⟨b, h1⟩, e1, e⟩ := bind_some' e
    rw [e1]
    show (if b = true then _ else _) = _
    dsimp only at e
    cases b with
    | false => exact e
    | true =>
      obtain ⟨r2, e2, e⟩ := bind_some' e
      rw [if_pos rfl]
      dsimp only
      rw [e2]
      rw [Option.bind_some]
      cases r2 with
      | nx τ' h' => exact whN_more k e
      | ct τ' h' => exact whN_more k e
      | bk τ' h' => exact e
      | rt d h' => exact e
open Classical in
noncomputable def mWhile (ft : ST) (body : SS) : SS := fun τ h => if H : ∃ n, (whN ft body n τ h).isSome = true then whN ft body H.choose τ h else none
theorem mWhile_of {ft : ST} {body : SS} {n : Nat} {τ : AT} {h : AH} {r : Res} (e : whN ft body n τ h = some r) : mWhile ft body τ h = some r := by
  have H : ∃ n, (whN ft body n τ h).isSome = true := ⟨n, by rw [e]; rfl⟩
  unfold mWhile
  rw [dif_pos H]
  obtain ⟨r2, e2⟩ := Option.isSome_iff_exists.mp H.choose_spec
  rw [e2]
  have a1 := whN_more n e2
  have a2 := whN_more H.choose e
  rw [Nat.add_comm] at a1
  rw [a1] at a2
  exact a2
theorem mWhile_n {ft : ST} {body : SS} {τ : AT} {h : AH} {r : Res} (e : mWhile ft body τ h = some r) : ∃ n, whN ft body n τ h = some r := by
  unfold mWhile at e
  split at e
  · exact ⟨_, e⟩
  · cases e
theorem js_while {X : Cx} {pos : Pos} {c : Expr} {sts : List Stmt} {ft : ST} {f : SS} (hp : PassesOwn (model X.prog X.w) X.A X.env X.xe) (hc : JT X c ft) (hb : JB X sts f) : JS X (.While c sts [] pos) (mWhile ft f) := by
  refine ps_weak (ps_while hp hc hb) fun D σ H ⟨m, τ, h, r, R, S, e, q⟩ => ?_
  obtain ⟨n, e⟩ := mWhile_n e
  refine ⟨fun n σ2 H2 => ∃ m2 τ2 h2, Le m H m2 H2 ∧ Sim X.K m2 h2 H2 ∧ RSt X.K m2 H2 σ2 τ2 ∧ whN ft f n τ2 h2 = some r, ⟨n, m, τ, h, Le.refl _ _, S, R, e⟩, ?_⟩
  rintro n σ2 H2 ⟨m2, τ2, h2, L2, S2, R2, e2⟩
  cases n with
  | zero => cases e2
  | succ n =>
    unfold whN at e2
    obtain ⟨⟨b, h3⟩, e3, e2⟩ := bind_some' e2
    refine ⟨m2, τ2, h2, b, h3, R2, S2, e3, fun m3 H3 L3 S3 => ?_⟩
    dsimp only at e2
    cases b with
    | false =>
      rw [if_neg Bool.false_ne_true] at e2 ⊢
      cases e2
      exact q m3 H3 σ2 (L2.trans L3) S3 (R2.mono S2.cl L3.toLw)
    | true =>
      rw [if_pos rfl] at e2 ⊢
      obtain ⟨r4, e4, e2⟩ := bind_some' e2
      refine ⟨fun σ' H' => ∃ m' τ' h', Le m H m' H' ∧ Sim X.K m' h' H' ∧ RSt X.K m' H' σ' τ' ∧ whN ft f n τ' h' = some r, fun σ' H' w => ⟨n, Nat.lt_succ_self n, w⟩, ?_⟩
      refine ⟨m3, τ2, h3, r4, R2.mono S2.cl L3.toLw, S3, e4, ?_⟩
      have L6 := L2.trans L3
      cases r4 with
      | nx τ' h' => exact fun m' H' σ' L' S' R' => ⟨m', τ', h', L6.trans L', S', R', e2⟩
      | ct τ' h' => exact fun m' H' σ' L' S' R' => ⟨m', τ', h', L6.trans L', S', R', e2⟩
      | bk τ' h' => cases e2; exact fun m' H' σ' L' S' R' => q m' H' σ' (L6.trans L') S' R'
      | rt d h' => cases e2; exact fun m' H' v L' S' R' => q m' H' v (L6.trans L') S' R'
end Sm
namespace Sm
open PySem PySem.Spec PyProof.Rows L2

/-! ## list comprehensions -/
def wipeA (τ : AT) : List Nat → AT
  | [] => τ
  | v :: vs => (wipeA τ vs).set v none
theorem RSt.wipe {K : PySem.W.Frag} {m : List Addr} {H : Hp} {σ : L2.St} {τ : AT} (r : RSt K m H σ τ) : ∀ vs : List Nat, RSt K m H (L2.wipe σ vs) (wipeA τ vs)
  | [] => r
  | v :: vs => by
    have q := RSt.wipe r vs
    unfold L2.wipe wipeA
    refine ⟨by simp [q.1], fun j e h => ?_⟩
    by_cases hij : v = j
    · subst hij
      by_cases hl : v < (wipeA τ vs).length
      · rw [List.getElem?_set_self hl] at h
        cases h
      · rw [List.getElem?_eq_none (by simpa using hl)] at h
        cases h
    · rw [List.getElem?_set_ne hij] at h ⊢
      exact q.2 j e h
def compL (grd : List (Nat × List D)) (g : SG) (ft : ST) (fe : SE) (τ : AT) : List D → AH → Option (List D × AH)
  | [], h => if grdOk grd h = true then some ([], h) else none
  | x :: xs, h => if grdOk grd h = true then (g x τ h).bind fun p => (ft p.1 p.2).bind fun b => if b.1 = true then
      (fe p.1 b.2).bind fun y => (compL grd g ft fe τ xs (lay y.1 y.2).2).bind fun z => some ((lay y.1 y.2).1 :: z.1, z.2)
    else compL grd g ft fe τ xs b.2 else none
def mYes : ST := fun _ h => some (true, h)
def mComp (fi : SI) (g : SG) (ft : ST) (fe : SE) (vs : List Nat) : SE := fun τ h => (fi τ h).bind fun p => (compL p.1.grd g ft fe (wipeA τ vs) p.1.items p.2).bind fun z =>
  if z.1.length ≤ 16777216 then some (.new z.1, z.2) else none
def JTs (X : Cx) (es : List Expr) (f : ST) : Prop := PTs X es (tT X.K f)
theorem pts_weak {X : Cx} {e : List Expr} {t t' : TT} (h : PTs X e t) (hw : ∀ σ H Q, t' σ H Q → t σ H Q) : PTs X e t' := ⟨fun pins s σ H Q I q => h.run pins s σ H Q I (hw _ _ _ q)⟩
theorem jts_nil {X : Cx} : JTs X [] mYes := pts_weak pts_nil fun σ H Q ⟨m, τ, h, b, h', R, S, e, q⟩ => by
  cases e
  exact q m H (Le.refl m H) S
theorem jts_one {X : Cx} {c : Expr} {ft : ST} (h : JT X c ft) : JTs X [c] ft := pts_one h
theorem wipe_none {σ : L2.St} {i : Nat} : ∀ {vs : List Nat}, i ∈ vs → (wipe σ vs).set i none = wipe σ vs
  | v :: vs, h => by
    unfold wipe
    by_cases e : v = i
    · rw [e, List.set_set]
    · rw [List.set_comm _ _ e, wipe_none (List.mem_of_ne_of_mem (fun z => e z.symm) h)]
theorem wipe_wipe_aux (σ : L2.St) (us : List Nat) : ∀ vs : List Nat, (∀ v ∈ vs, v ∈ us) → wipe (wipe σ us) vs = wipe σ us
  | [], _ => rfl
  | v :: vs, h => by
    show (wipe (wipe σ us) vs).set v none = wipe σ us
    rw [wipe_wipe_aux σ us vs (fun w hw => h w (List.mem_cons_of_mem _ hw)), wipe_none (h v List.mem_cons_self)]
theorem wipe_wipe (σ : L2.St) (vs : List Nat) : wipe (wipe σ vs) vs = wipe σ vs := wipe_wipe_aux σ vs vs fun _ h => h
section
variable {X : Cx} {elt tg iter : Expr} {ifs : List Expr} {scope : Scope} {own : List (Str × Nat)} {pos : Pos} {fi : SI} {g : SG} {ft : ST} {fe : SE}
theorem comp_sem {K : PySem.W.Frag} {vs : List Nat} (σ : L2.St) (H : Hp) (Q : VK) (h : tE K (mComp fi g ft fe vs) σ H Q) : tLc (tI K fi) (tG K vs g) (tT K ft) (tE K (mAd fe)) vs σ H Q := by
  obtain ⟨m, τ, h, r, h', R, S, e, q⟩ := h
  obtain ⟨⟨it, h1⟩, e1, e⟩ := bind_some' e
  obtain ⟨⟨total, hf⟩, e2, e⟩ := bind_some' e
  obtain ⟨hz, e⟩ := ite_some' e
  obtain ⟨e8, e9⟩ := Prod.mk.inj (Option.some.inj e)
  dsimp only at e8 e9 hz e2
  subst e8
  subst e9
  refine ⟨m, τ, h, it, h1, R, S, e1, fun m1 H1 J L1 S1 J1 => ?_⟩
  intro Dn hD
  have hD0 : H Dn = none := fresh_back S1.cl L1 hD
  have LD := Le.upd S1.cl hD (.lst [])
  refine ⟨fun i n H2 => ∃ m2 h2 acc accV rest', n = (it.items.drop i).length ∧ i ≤ it.items.length ∧ Le m1 H1 m2 H2 ∧ Sim K m2 h2 H2 ∧ Dn ∉ m2 ∧ H2 Dn = some (.lst accV) ∧ RVs K m2 H2 accV acc ∧
      compL it.grd g ft fe (wipeA τ vs) (it.items.drop i) h2 = some (rest', hf) ∧ acc ++ rest' = total,
    ⟨_, m1, h1, [], [], total, rfl, Nat.zero_le _, LD, S1.upd hD _, S1.cl.non hD, upd_same, .nil, e2, rfl⟩, ?_⟩
  rintro i n H2 ⟨m2, h2, acc, accV, rest', rfl, hi2, L2, S2, hn2, hD2, rv2, e3, et⟩
  cases hd : it.items.drop i with
  | nil =>
    rw [hd] at e3
    unfold compL at e3
    obtain ⟨G, e3⟩ := ite_some' e3
    cases e3
    have hi3 : i = it.items.length := by
      have := congrArg List.length hd
      rw [List.length_drop, List.length_nil] at this
      omega
    rw [List.append_nil] at et
    subst et
    exact .inl ⟨(J1 i m2 _ H2 L2 S2 G).2 hi3, q m2 H2 _ (L1.trans L2) S2 (.new hn2 hD2 rv2 hz) hD0⟩
  | cons x xs =>
    rw [hd] at e3
    unfold compL at e3
    obtain ⟨G, e3⟩ := ite_some' e3
    obtain ⟨⟨τ3, h3⟩, e4, e3⟩ := bind_some' e3
    obtain ⟨⟨b, h4⟩, e5, e3⟩ := bind_some' e3
    have hx : it.items[i]? = some x := by
      have := congrArg (fun l => l[0]?) hd
      simpa using this
    have hlt : i < it.items.length := (List.getElem?_eq_some_iff.mp hx).1
    have hxs : it.items.drop (i + 1) = xs := by
      rw [← List.drop_drop, hd]
      rfl
    obtain ⟨go, yl⟩ := (J1 i m2 h2 H2 L2 S2 G).1 x hx
    refine .inr ⟨go, fun H' => ∃ m' h' acc' accV' rest'', Le m1 H1 m' H' ∧ Sim K m' h' H' ∧ Dn ∉ m' ∧ H' Dn = some (.lst accV') ∧ RVs K m' H' accV' acc' ∧
        compL it.grd g ft fe (wipeA τ vs) xs h' = some (rest'', hf) ∧ acc' ++ rest'' = total, fun H' ⟨m', h', acc', accV', rest'', L', S', n', d', r', e', t'⟩ => ?_, fun v H' y => ?_⟩
    · exact ⟨xs.length, by rw [List.length_cons]; exact Nat.lt_succ_self _, m', h', acc', accV', rest'', by rw [hxs], hlt, L', S', n', d', r', by rw [hxs]; exact e', t'⟩
    · obtain ⟨L3, S3, rv⟩ := yl v H' y
      have Rw := (((R.mono S.cl L1.toLw).mono S1.cl L2.toLw).mono S2.cl L3.toLw).wipe vs
      have keepD : ∀ {m3 H3}, Le m2 H2 m3 H3 → Dn ∉ m3 ∧ H3 Dn = some (.lst accV) := fun {m3 H3} L => by
        refine ⟨fun z => ?_, L.fr _ _ hD2 hn2⟩
        have w := L.nw _ z hn2
        rw [hD2] at w
        cases w
      refine ⟨m2, x, _, h2, τ3, h3, rv, Rw, S3, e4, fun m5 H5 σ5 L5 S5 R5 w5 => ⟨w5.trans (wipe_wipe σ vs), m5, τ3, h3, b, h4, R5, S5, e5, fun m6 H6 L6 S6 => ?_⟩⟩
      have L7 := L3.trans (L5.trans L6)
      dsimp only at e3
      cases b with
      | false =>
        rw [if_neg Bool.false_ne_true] at e3
        refine iteF ?_
        obtain ⟨n', d'⟩ := keepD L7
        exact ⟨m6, h4, acc, accV, rest', L2.trans L7, S6, n', d', rv2.mono S2.cl L7.toLw, e3, et⟩
      | true =>
        rw [if_pos rfl] at e3
        refine iteT ?_
        obtain ⟨⟨y, h5⟩, e6, e3⟩ := bind_some' e3
        obtain ⟨⟨zs, h6⟩, e7, e3⟩ := bind_some' e3
        obtain ⟨e8, e9⟩ := Prod.mk.inj (Option.some.inj e3)
        dsimp only at e8 e9 e7
        subst e9
        subst e8
        refine ⟨m6, τ3, h4, .val (lay y h5).1, (lay y h5).2, R5.mono S5.cl L6.toLw, S6, ?_, fun m7 H7 v7 L8 S7 r7 _ => ?_⟩
        · unfold mAd
          rw [e6]
          rfl
        · have L9 := L7.trans L8
          obtain ⟨n', d'⟩ := keepD L9
          cases r7 with
          | val r7 =>
            have ru : RVs K m7 H7 (accV ++ [v7]) (acc ++ [(lay y h5).1]) := (rv2.mono S2.cl L9.toLw).append (.one r7)
            refine ⟨accV, d', ?_, m7, (lay y h5).2, acc ++ [(lay y h5).1], accV ++ [v7], zs, (L2.trans L9).side _ hD, S7.side _ d' n', n', upd_same, ru.monoS (Ls.side d'), e7, by rw [← et]; simp⟩
            have z1 := rv2.length
            have z2 := congrArg List.length et
            rw [List.length_append, List.length_cons] at z2
            rw [sizeLine_eq]
            omega
/-- [elt for tg in iter if ..] -/
theorem je_comp (hc : X.calm = true) (hN : X.N.Nodup) (hi : JI X tg iter fi) (ok : BlkOk X.N X.env.scope scope own)
    (hg : ∀ (s : Shared) (H : Hp) (C : Addr) (cl : List (Str × Addr)) (fp : List Addr), JG (X.blk s H scope (compEnvC scope cl C X.env) fp) (own.map (·.2)) tg g)
    (ht : ∀ (s : Shared) (H : Hp) (C : Addr) (cl : List (Str × Addr)) (fp : List Addr), JTs (X.blk s H scope (compEnvC scope cl C X.env) fp) ifs ft)
    (he : ∀ (s : Shared) (H : Hp) (C : Addr) (cl : List (Str × Addr)) (fp : List Addr), JE (X.blk s H scope (compEnvC scope cl C X.env) fp) elt fe) (hs : ∀ x, foldedSetIterable iter X.env x = pure x := by intro _; rfl) :
    JE X (.ListComp elt [⟨tg, iter, ifs, 0⟩] scope pos) (mComp fi g ft fe (own.map (·.2))) :=
  pe_weak (pe_lc (g := tG X.K (own.map fun x : Str × Nat => x.2) g) (tt := tT X.K ft) (te := tE X.K (mAd fe)) hc hN hi ok hg ht (fun s H C cl fp => je_ad (he s H C cl fp)) hs) comp_sem
/-- y = [..] -/
theorem js_setComp {i : Nat} {y : Str} {py spos : Pos} (hc : X.calm = true) (hN : X.N.Nodup) (hy : X.N[i]? = some y) (hyl : X.env.scope.names.lookup y = some .local)
    (hsw : swapsWith (.ListComp elt [⟨tg, iter, ifs, 0⟩] scope pos) (some (.Name y py)) spos.line X.env = pure true) (hi : JI X tg iter fi) (ok : BlkOk X.N X.env.scope scope own)
    (hg : ∀ (s : Shared) (H : Hp) (C : Addr) (cl : List (Str × Addr)) (fp : List Addr), JG (X.blk s H scope (compEnvC scope cl C X.env) fp) (own.map (·.2)) tg g)
    (ht : ∀ (s : Shared) (H : Hp) (C : Addr) (cl : List (Str × Addr)) (fp : List Addr), JTs (X.blk s H scope (compEnvC scope cl C X.env) fp) ifs ft)
    (he : ∀ (s : Shared) (H : Hp) (C : Addr) (cl : List (Str × Addr)) (fp : List Addr), JE (X.blk s H scope (compEnvC scope cl C X.env) fp) elt fe) (hs : ∀ x, foldedSetIterable iter X.env x = pure x := by intro _; rfl) :
    JS X (.Assign [.Name y py] (.ListComp elt [⟨tg, iter, ifs, 0⟩] scope pos) spos) (mAsg (gN i) (mComp fi g ft fe (own.map (·.2)))) := by
  refine ps_weak (ps_setLc (g := tG X.K (own.map fun x : Str × Nat => x.2) g) (tt := tT X.K ft) (te := tE X.K (mAd fe)) hc hN hy hyl hsw hi ok hg ht (fun s H C cl fp => je_ad (he s H C cl fp)) hs) fun D σ H h => ?_
  obtain ⟨m, τ, h, r, R, S, e, q⟩ := h
  obtain ⟨⟨x, h1⟩, e1, e⟩ := bind_some' e
  cases e
  refine comp_sem σ H _ ⟨m, τ, h, x, h1, R, S, e1, fun m1 H1 v1 L1 S1 r1 n1 => ?_⟩
  obtain ⟨m2, L2, S2, r2⟩ := hold S1 L1 r1 n1
  exact q m2 H1 _ L2 S2 ((R.mono S.cl L2.toLw).set r2 i)
end

/-! ## defs -/
mutual
def D.low (n : Nat) : D → Bool
  | .tup ds => D.lows n ds
  | .zt ds => D.lows n ds
  | .fl ds => D.lows n ds
  | .ref a => decide (a < n)
  | _ => true
def D.lows (n : Nat) : List D → Bool
  | [] => true
  | d :: r => D.low n d && D.lows n r
end
def O.low (n : Nat) : O → Bool
  | .lst ds => D.lows n ds
  | .dic kvs => kvs.all fun p => p.1.low n && p.2.low n
/-- the objects that stood ahead of the call stand, or hold nothing new -/
def oldOk (n : Nat) : AH → AH → Bool
  | [], _ => true
  | o :: r, o' :: r' => (decide (o = o') || o'.low n) && oldOk n r r'
  | _ :: _, [] => false
/-- what a call hands back: what it has made and no one can reach is forgotten -/
def gc (h : AH) (d : D) (h' : AH) : D × AH :=
  if oldOk h.length h h' = true then
    if d.low h.length = true then (d, h'.take h.length)
    else match d with
      | .ref k => match h'[k]? with
        | some (.lst ds) => if D.lows h.length ds = true then (.ref h.length, h'.take h.length ++ [.lst ds]) else (d, h')
        | _ => (d, h')
      | _ => (d, h')
  else (d, h')
section
variable {K : PySem.W.Frag} {m m' : List Addr} {H : Hp} {h : AH}
theorem get_take {m : List Addr} {n i : Nat} {a : Addr} (h : i < n) (e : m[i]? = some a) : (m.take n)[i]? = some a := by
  rw [List.getElem?_take_of_lt h]
  exact e
mutual
theorem RV.cut (n : Nat) : ∀ {v : V} {d : D}, RV K m H v d → d.low n = true → RV K (m.take n) H v d
  | _, _, .non, _ => .non
  | _, _, .bl b, _ => .bl b
  | _, _, .int i, _ => .int i
  | _, _, .str x, _ => .str x
  | _, _, .tup f r, b => .tup f (RVs.cut n r (by unfold D.low at b; exact b))
  | _, _, .zt f r, b => .zt f (RVs.cut n r (by unfold D.low at b; exact b))
  | _, _, .fl f r, b => .fl f (RVs.cut n r (by unfold D.low at b; exact b))
  | _, _, .ref e, b => .ref (get_take (by unfold D.low at b; exact of_decide_eq_true b) e)
  | _, _, .ty n, _ => .ty n
theorem RVs.cut (n : Nat) : ∀ {vs : List V} {ds : List D}, RVs K m H vs ds → D.lows n ds = true → RVs K (m.take n) H vs ds
  | _, _, .nil, _ => .nil
  | _, _, .cons r t, b => by
    unfold D.lows at b
    rw [Bool.and_eq_true] at b
    exact .cons (RV.cut n r b.1) (RVs.cut n t b.2)
end
end
end Sm
namespace Sm
open PySem PySem.Spec PyProof.Rows L2
section
variable {K : PySem.W.Frag} {m m' : List Addr} {H H' : Hp} {h h' : AH}
theorem RKs.cut (n : Nat) : ∀ {ks : List (Key × V)} {kvs : List (D × D)}, RKs K m H ks kvs → (kvs.all fun p => p.1.low n && p.2.low n) = true → RKs K (m.take n) H ks kvs
  | _, _, .nil, _ => .nil
  | _, _, .int r t, b => by
    rw [List.all_cons, Bool.and_eq_true, Bool.and_eq_true] at b
    exact .int (RV.cut n r b.1.2) (RKs.cut n t b.2)
  | _, _, .str r t, b => by
    rw [List.all_cons, Bool.and_eq_true, Bool.and_eq_true] at b
    exact .str (RV.cut n r b.1.2) (RKs.cut n t b.2)
theorem RO.cut (n : Nat) {a : Addr} {o : O} (r : RO K m H a o) (b : o.low n = true) : RO K (m.take n) H a o := by
  cases o with
  | lst ds => obtain ⟨vs, e, r⟩ := r; exact ⟨vs, e, RVs.cut n r b⟩
  | dic ds => obtain ⟨vs, e, r⟩ := r; exact ⟨vs, e, RKs.cut n r b⟩
mutual
theorem RV.lowOf : ∀ {v : V} {d : D}, RV K m H v d → d.low m.length = true
  | _, _, .non => rfl
  | _, _, .bl b => rfl
  | _, _, .int i => rfl
  | _, _, .str x => rfl
  | _, _, .tup f r => by unfold D.low; exact RVs.lowOf r
  | _, _, .zt f r => by unfold D.low; exact RVs.lowOf r
  | _, _, .fl f r => by unfold D.low; exact RVs.lowOf r
  | _, _, .ref e => by unfold D.low; exact decide_eq_true (List.getElem?_eq_some_iff.mp e).1
  | _, _, .ty n => rfl
theorem RVs.lowOf : ∀ {vs : List V} {ds : List D}, RVs K m H vs ds → D.lows m.length ds = true
  | _, _, .nil => rfl
  | _, _, .cons r t => by
    unfold D.lows
    rw [RV.lowOf r, RVs.lowOf t]
    rfl
end
theorem RKs.lowOf : ∀ {ks : List (Key × V)} {kvs : List (D × D)}, RKs K m H ks kvs → (kvs.all fun p => p.1.low m.length && p.2.low m.length) = true
  | _, _, .nil => rfl
  | _, _, .int r t => by rw [List.all_cons, RKs.lowOf t, r.lowOf]; rfl
  | _, _, .str r t => by rw [List.all_cons, RKs.lowOf t, r.lowOf]; rfl
theorem RO.lowOf {a : Addr} {o : O} (r : RO K m H a o) : o.low m.length = true := by
  cases o with
  | lst ds => obtain ⟨vs, e, r⟩ := r; exact r.lowOf
  | dic ds => obtain ⟨vs, e, r⟩ := r; exact r.lowOf
theorem oldOk_get {n : Nat} : ∀ {h h' : AH} {i : Nat} {o : O}, oldOk n h h' = true → h[i]? = some o → ∃ o', h'[i]? = some o' ∧ (o' = o ∨ o'.low n = true)
  | [], _, _, _, _, e => by simp at e
  | _ :: _, [], _, _, b, _ => by cases b
  | a :: r, a' :: r', 0, o, b, e => by
    unfold oldOk at b
    rw [Bool.and_eq_true, Bool.or_eq_true] at b
    have e' : a = o := Option.some.inj e
    subst e'
    refine ⟨a', rfl, ?_⟩
    rcases b.1 with z | z
    · exact .inl (of_decide_eq_true z).symm
    · exact .inr z
  | a :: r, a' :: r', i + 1, o, b, e => by
    unfold oldOk at b
    rw [Bool.and_eq_true] at b
    exact oldOk_get (i := i) b.2 (by simpa using e)
theorem oldOk_len {n : Nat} : ∀ {h h' : AH}, oldOk n h h' = true → h.length ≤ h'.length
  | [], _, _ => Nat.zero_le _
  | _ :: _, [], b => by cases b
  | a :: r, a' :: r', b => by
    unfold oldOk at b
    rw [Bool.and_eq_true] at b
    exact Nat.succ_le_succ (oldOk_len b.2)
/-- the objects that stood ahead, told without what is new -/
theorem sim_cut (S0 : Sim K m h H) (L : Le m H m' H') (S : Sim K m' h' H') (b : oldOk h.length h h' = true) : Sim K m (h'.take h.length) H' := by
  have hm : m'.take h.length = m := by
    obtain ⟨t, rfl⟩ := L.pre
    rw [← S0.len]
    exact List.take_left
  refine ⟨by rw [List.length_take, S0.len]; have := oldOk_len b; omega, S0.nd, fun i a o e1 e2 => ?_⟩
  have hi : i < m.length := (List.getElem?_eq_some_iff.mp e1).1
  rw [List.getElem?_take_of_lt (by rw [← S0.len]; exact hi)] at e2
  have r := S.ob i a o (L.get e1) e2
  have hl : o.low h.length = true := by
    obtain ⟨o', e3, z⟩ := oldOk_get b (List.getElem?_eq_getElem (by rw [← S0.len]; exact hi))
    rw [e2] at e3
    cases e3
    rcases z with z | z
    · have w := (S0.ob i a _ e1 (List.getElem?_eq_getElem (by rw [← S0.len]; exact hi))).lowOf
      rw [← z] at w
      rw [← S0.len]
      exact w
    · exact z
  have r2 := r.cut h.length hl
  rw [hm] at r2
  exact r2
theorem gc_ok (S0 : Sim K m h H) (L : Le m H m' H') (S : Sim K m' h' H') {v : V} {d : D} (r : RV K m' H' v d) : ∃ m2, Le m H m2 H' ∧ Sim K m2 (gc h d h').2 H' ∧ RV K m2 H' v (gc h d h').1 := by
  have hm : m'.take h.length = m := by
    obtain ⟨t, rfl⟩ := L.pre
    rw [← S0.len]
    exact List.take_left
  unfold gc
  by_cases b : oldOk h.length h h' = true
  · rw [if_pos b]
    have S1 := sim_cut S0 L S b
    by_cases c : d.low h.length = true
    · rw [if_pos c]
      refine ⟨m, ⟨⟨⟨[], by simp⟩, L.fr⟩, fun a h1 h2 => absurd h1 h2⟩, S1, ?_⟩
      have r2 := RV.cut h.length r c
      rw [hm] at r2
      exact r2
    · rw [if_neg c]
      cases d with
      | ref k =>
        dsimp only
        cases hk : h'[k]? with
        | none => exact ⟨m', L, S, r⟩
        | some o =>
          cases o with
          | dic _ => exact ⟨m', L, S, r⟩
          | lst ds =>
            dsimp only
            by_cases c2 : D.lows h.length ds = true
            · rw [if_pos c2]
              cases r with
              | @ref p i e =>
                obtain ⟨vs, ev, rv⟩ := S.lst e hk
                have hkn : h.length ≤ k := by
                  unfold D.low at c
                  rcases Nat.lt_or_ge k h.length with z | z
                  · exact absurd (decide_eq_true z) c
                  · exact z
                have hp : p ∉ m := fun z => by
                  obtain ⟨j, hj, ej⟩ := List.getElem_of_mem z
                  have e5 : m'[j]? = some p := L.get (by rw [List.getElem?_eq_getElem hj, ej])
                  have hk' : k < m'.length := (List.getElem?_eq_some_iff.mp e).1
                  have hj' : j < m'.length := (List.getElem?_eq_some_iff.mp e5).1
                  rw [List.getElem?_eq_getElem hk'] at e
                  rw [List.getElem?_eq_getElem hj'] at e5
                  have := (List.getElem_inj S.nd).mp ((Option.some.inj e).trans (Option.some.inj e5).symm)
                  have := S0.len
                  omega
                have rv2 := RVs.cut h.length rv c2
                rw [hm] at rv2
                have Lg : Lw m H' (m ++ [p]) H' := ⟨⟨[p], rfl⟩, fun a o z _ => z⟩
                refine ⟨m ++ [p], ⟨⟨⟨[p], rfl⟩, L.fr⟩, fun a h1 h2 => ?_⟩, ?_, ?_⟩
                · rcases List.mem_append.mp h1 with w | w
                  · exact absurd w h2
                  · rw [List.mem_singleton.mp w]
                    exact L.nw p (List.mem_of_getElem? e) hp
                · refine ⟨by simp [S1.len], nodup_add S1.nd hp, fun i a ob e1 e2 => ?_⟩
                  rcases get_add e1 with z | ⟨z, rfl⟩
                  · have hi : i < m.length := (List.getElem?_eq_some_iff.mp z).1
                    rw [List.getElem?_append_left (by rw [← S1.len]; exact hi)] at e2
                    exact (S1.ob i a ob z e2).mono S1.cl Lg rfl
                  · rw [z, S1.len, List.getElem?_append_right (Nat.le_refl _), Nat.sub_self] at e2
                    cases e2
                    exact ⟨vs, ev, rv2.mono S1.cl Lg⟩
                · refine .ref ?_
                  rw [← S0.len, List.getElem?_append_right (Nat.le_refl _), Nat.sub_self]
                  rfl
            · rw [if_neg c2]
              exact ⟨m', L, S, r⟩
      | _ => exact ⟨m', L, S, r⟩
  · rw [if_neg b]
    exact ⟨m', L, S, r⟩
end
/-- what a def does: n parameters, nn names -/
def runDef (n nn : Nat) (body : SS) : SF := fun ds h => if ds.length = n then (body (ds.map some ++ List.replicate (nn - n) none) h).bind fun r => match r with
  | .nx _ h' => some (gc h .non h')
  | .rt d h' => some (gc h d h')
  | _ => none else none
theorem rst_start {K : PySem.W.Frag} {m : List Addr} {H : Hp} {vs : List V} {ds : List D} (r : RVs K m H vs ds) (k : Nat) : RSt K m H (vs.map some ++ List.replicate k none) (ds.map some ++ List.replicate k none) := by
  refine ⟨by simp [r.length], fun i d e => ?_⟩
  by_cases hi : i < ds.length
  · have hi2 : i < vs.length := by rw [r.length]; exact hi
    rw [List.getElem?_append_left (by simpa using hi)] at e
    rw [List.getElem?_append_left (by simpa using hi2)]
    rw [List.getElem?_map] at e ⊢
    rw [List.getElem?_eq_getElem hi] at e
    cases e
    obtain ⟨v, e1, r1⟩ := r.get (List.getElem?_eq_getElem hi)
    exact ⟨v, by rw [e1]; rfl, r1⟩
  · rw [List.getElem?_append_right (by simpa using hi)] at e
    rw [List.getElem?_replicate] at e
    split at e <;> cases e
theorem fn_sem {P : Program} {w : World} {K : PySem.W.Frag} {mg : Str → Option Value} {base : Heap} {x qual : Str} {st : Stmt} {f : Addr} {fd : FuncData} {N ps : List Str} {k n nn : Nat} {body : SS}
    (F : Fun K x qual st f fd) (Sc : FnScope N ps (defScope st)) (hn : ps.length = n) (hN : N.length = nn)
    (hb : ∀ (cdv : Value) (A : Around) (outer : List Env) (s : Shared) (H : Hp) (E : XK), Room k (A.deeper (envOfC qual (defScope st) s.heap.objs.size f cdv)) →
      JB (cxOf CX0 P w K mg base N qual (defScope st) f cdv A outer s H E).nox (defBody st) body) : FnOk P w K mg base CX0 (k + 1) f fd ps (spF K n (runDef n nn body)) := by
  refine F.ok Sc (fun vs H Q E ⟨m, h, ds, d, h', S, r, hl, _⟩ => by rw [r.length, hl, hn]) fun cdv A outer s H vs Q E hr hsp => ?_
  obtain ⟨m, h, ds, d, h', S, r, hl, e, q⟩ := hsp
  refine ⟨_, hb cdv A outer s H E hr, ?_⟩
  unfold runDef at e
  rw [if_pos hl] at e
  obtain ⟨r1, e1, e⟩ := bind_some' e
  have R := rst_start r (nn - n)
  refine ⟨m, _, h, r1, ?_, S, e1, ?_⟩
  · unfold L2.start
    rw [hN, r.length, hl]
    exact R
  · cases r1 with
    | nx τ' h1 =>
      intro m' H' σ' L' S' R'
      obtain ⟨m2, L2, S2, r2⟩ := gc_ok S L' S' (RV.non (K := K) (m := m') (H := H'))
      have e2 := Option.some.inj e
      rw [e2] at S2 r2
      exact q m2 H' _ L2 S2 r2
    | rt d1 h1 =>
      intro m' H' v L' S' r'
      obtain ⟨m2, L2, S2, r2⟩ := gc_ok S L' S' r'
      have e2 := Option.some.inj e
      rw [e2] at S2 r2
      exact q m2 H' v L2 S2 r2
    | bk τ' h1 => cases e
    | ct τ' h1 => cases e
theorem fn_none {P : Program} {w : World} {K : PySem.W.Frag} {mg : Str → Option Value} {base : Heap} {CX : CXT} {k : Nat} {f : Addr} {fd : FuncData} {ps : List Str} {sp : Sp} (no : ∀ vs H Q E, ¬ sp vs H Q E) : FnOk P w K mg base CX k f fd ps sp :=
  ⟨fun vs H Q E h => absurd h (no vs H Q E), fun A outer s H args us vs Q E _ _ _ _ h => absurd h (no vs H Q E)⟩
end Sm
namespace Sm
open PySem PySem.Spec PyProof.Rows L2

/-! ## lists and tuples as what they hold -/
/-- a list that may be changed -/
def asM : LV → AH → Option (List D)
  | .new ds, _ => some ds
  | .val (.ref a), h => match h[a]? with
    | some (.lst ds) => some ds
    | _ => none
  | _, _ => none
def asL : LV → AH → Option (List D)
  | .val (.fl ds), _ => some ds
  | q, h => asM q h
def asT : LV → Option (List D)
  | .val (.tup ds) => some ds
  | .val (.zt ds) => some ds
  | _ => none
def asQ : LV → AH → Option (List D)
  | .val (.tup ds), _ => some ds
  | .val (.zt ds), _ => some ds
  | q, h => asL q h
section
variable {K : PySem.W.Frag} {m : List Addr} {h : AH} {H : Hp} {v : V} {q : LV} {ds : List D}
theorem asM_ok (S : Sim K m h H) (r : RQ K m H v q) (e : asM q h = some ds) : ∃ p vs, v = .ref p ∧ H p = some (.lst vs) ∧ RVs K m H vs ds := by
  cases r with
  | new hn e1 r z => cases e; exact ⟨_, _, rfl, e1, r⟩
  | val r =>
    cases r with
    | ref e1 =>
      unfold asM at e
      dsimp only at e
      split at e
      · rename_i hh
        cases e
        obtain ⟨vs, e2, r2⟩ := S.lst e1 hh
        exact ⟨_, vs, rfl, e2, r2⟩
      · cases e
    | _ => cases e
theorem asL_ok (S : Sim K m h H) (r : RQ K m H v q) (e : asL q h = some ds) : ∃ p vs, v = .ref p ∧ SqL K H p vs ∧ RVs K m H vs ds := by
  have gen : asM q h = some ds → ∃ p vs, v = .ref p ∧ SqL K H p vs ∧ RVs K m H vs ds := fun e => by
    obtain ⟨p, vs, e1, e2, r2⟩ := asM_ok S r e
    exact ⟨p, vs, e1, SqL.of e2, r2⟩
  cases r with
  | new hn e1 r z => exact gen e
  | val r =>
    cases r with
    | fl f r => cases e; exact ⟨_, _, rfl, f.sq, r⟩
    | _ => exact gen e
theorem asT_ok (r : RQ K m H v q) (e : asT q = some ds) : ∃ p vs, v = .ref p ∧ SqT K H p vs ∧ RVs K m H vs ds := by
  cases r with
  | new hn e1 r z => cases e
  | val r =>
    cases r with
    | tup f r => cases e; exact ⟨_, _, rfl, f.sq, r⟩
    | zt f r => cases e; exact ⟨_, _, rfl, f, r⟩
    | _ => cases e
theorem asQ_ok (S : Sim K m h H) (r : RQ K m H v q) (e : asQ q h = some ds) : ∃ p vs, v = .ref p ∧ (SqL K H p vs ∨ SqT K H p vs) ∧ RVs K m H vs ds := by
  have gen : asL q h = some ds → ∃ p vs, v = .ref p ∧ (SqL K H p vs ∨ SqT K H p vs) ∧ RVs K m H vs ds := fun e => by
    obtain ⟨p, vs, e1, e2, r2⟩ := asL_ok S r e
    exact ⟨p, vs, e1, .inl e2, r2⟩
  cases r with
  | new hn e1 r z => exact gen e
  | val r =>
    cases r with
    | tup f r => cases e; exact ⟨_, _, rfl, .inr f.sq, r⟩
    | zt f r => cases e; exact ⟨_, _, rfl, .inr f, r⟩
    | fl f r => exact gen e
    | ref f => exact gen e
    | _ => cases e
end
theorem szL {n : Nat} (h : n ≤ 16777216) : n ≤ sizeLine := by rw [sizeLine_eq]; exact h

/-! ## ints -/
def opII (C : Int → Int → Bool) (f : Int → Int → D) : Op2
  | .val (.int i), .val (.int j), h => if C i j = true then some (.val (f i j), h) else none
  | _, _, _ => none
theorem inv_int {K : PySem.W.Frag} {m : List Addr} {H : Hp} {v : V} {i : Int} (r : RQ K m H v (.val (.int i))) : v = .int i := by
  cases r with
  | val r => cases r; rfl
theorem inv_str {K : PySem.W.Frag} {m : List Addr} {H : Hp} {v : V} {i : Str} (r : RQ K m H v (.val (.str i))) : v = .str i := by
  cases r with
  | val r => cases r; rfl
theorem inv_bl {K : PySem.W.Frag} {m : List Addr} {H : Hp} {v : V} {i : Bool} (r : RQ K m H v (.val (.bl i))) : v = .bl i := by
  cases r with
  | val r => cases r; rfl
theorem simII {K : PySem.W.Frag} {C : Int → Int → Bool} {P : Int → Int → Prop} {f : Int → Int → D} {g : Int → Int → V} (hC : ∀ i j, C i j = true → P i j) (hf : ∀ m H i j, RV K m H (g i j) (f i j)) : SimR K (rI P g) (opII C f) := by
  intro m h H x y dx dy d h' Q S rx ry e q
  unfold opII at e
  split at e
  · obtain ⟨c, e⟩ := ite_some' e
    cases e
    exact ⟨_, _, inv_int rx, inv_int ry, hC _ _ c, q m H _ (Le.refl _ _) S (.val (hf _ _ _ _)) (nwV _ _ _)⟩
  · cases e
theorem simII0 {K : PySem.W.Frag} {f : Int → Int → D} {g : Int → Int → V} (hf : ∀ m H i j, RV K m H (g i j) (f i j)) : SimR K (rI0 g) (opII (fun _ _ => true) f) := by
  intro m h H x y dx dy d h' Q S rx ry e q
  unfold opII at e
  split at e
  · obtain ⟨c, e⟩ := ite_some' e
    cases e
    exact ⟨_, _, inv_int rx, inv_int ry, q m H _ (Le.refl _ _) S (.val (hf _ _ _ _)) (nwV _ _ _)⟩
  · cases e
def mulC (i j : Int) : Bool := decide (i.natAbs < 18446744073709551616) || decide (j.natAbs < 18446744073709551616)
def oSub : Op2 := opII (fun _ _ => true) fun i j => .int (i - j)
def oMulI : Op2 := opII mulC fun i j => .int (i * j)
def oDiv : Op2 := opII (fun _ j => decide (j ≠ 0) && decide (j.natAbs < 1073741824)) fun i j => .int (i.fdiv j)
def oMod : Op2 := opII (fun _ j => decide (j ≠ 0)) fun i j => .int (i.fmod j)
def oPow : Op2 := opII (fun i j => decide (0 ≤ j) && decide (j ≤ 1000000) && decide (i.natAbs < 18446744073709551616)) fun i j => .int (i ^ j.toNat)
def oLt : Op2 := opII (fun _ _ => true) fun i j => .bl (decide (i < j))
def oLe : Op2 := opII (fun _ _ => true) fun i j => .bl (decide (i ≤ j))
def oGt : Op2 := opII (fun _ _ => true) fun i j => .bl (decide (j < i))
def oGe : Op2 := opII (fun _ _ => true) fun i j => .bl (decide (j ≤ i))
section
variable {X : Cx} {a b : Expr} {es : List Expr} {fa fb : SE} {fr : SA} {pos : Pos}
theorem je_sub (ha : JE X a fa) (hb : JE X b fb) : JE X (.BinOp a .Sub b pos) (mBin oSub fa fb) := je_bin op_sub (simII0 fun _ _ _ _ => .int _) ha hb
theorem two64 : (2 : Int) ^ 64 = 18446744073709551616 := by decide
theorem je_div (ha : JE X a fa) (hb : JE X b fb) : JE X (.BinOp a .FloorDiv b pos) (mBin oDiv fa fb) := je_bin op_fdivN (simII (fun i j c => by
  rw [Bool.and_eq_true] at c
  exact ⟨of_decide_eq_true c.1, of_decide_eq_true c.2⟩) fun _ _ _ _ => .int _) ha hb
theorem je_mod (ha : JE X a fa) (hb : JE X b fb) : JE X (.BinOp a .Mod b pos) (mBin oMod fa fb) := je_bin op_modN (simII (fun i j c => of_decide_eq_true c) fun _ _ _ _ => .int _) ha hb
theorem je_pow (ha : JE X a fa) (hb : JE X b fb) : JE X (.BinOp a .Pow b pos) (mBin oPow fa fb) := je_bin op_pow (simII (fun i j c => by
  rw [Bool.and_eq_true, Bool.and_eq_true] at c
  exact ⟨of_decide_eq_true c.1.1, of_decide_eq_true c.1.2, of_decide_eq_true c.2⟩) fun _ _ _ _ => .int _) ha hb
theorem je_lt (ha : JE X a fa) (hb : JE X b fb) : JE X (.Compare a [.Lt] [b] pos) (mBin oLt fa fb) := je_cmp op_lt (simII0 fun _ _ _ _ => .bl _) ha hb (nomark _)
theorem je_le (ha : JE X a fa) (hb : JE X b fb) : JE X (.Compare a [.LtE] [b] pos) (mBin oLe fa fb) := je_cmp op_le (simII0 fun _ _ _ _ => .bl _) ha hb (nomark _)
theorem je_gt (ha : JE X a fa) (hb : JE X b fb) : JE X (.Compare a [.Gt] [b] pos) (mBin oGt fa fb) := je_cmp op_gt (simII0 fun _ _ _ _ => .bl _) ha hb (nomark _)
theorem je_ge (ha : JE X a fa) (hb : JE X b fb) : JE X (.Compare a [.GtE] [b] pos) (mBin oGe fa fb) := je_cmp op_ge (simII0 fun _ _ _ _ => .bl _) ha hb (nomark _)
def oNeg : Op1
  | .val (.int i), h => some (.val (.int (-i)), h)
  | _, _ => none
theorem je_neg (ha : JE X a fa) : JE X (.UnaryOp .USub a pos) (mUn oNeg fa) := je_un un_neg (fun m h H x dx d h' Q S rx e q => by
  unfold oNeg at e
  split at e
  · cases e
    exact ⟨_, inv_int rx, q m H _ (Le.refl _ _) S (.val (.int _)) (nwV _ _ _)⟩
  · cases e) ha
end

/-! ## + -/
def rCatF (K : PySem.W.Frag) : R2 := fun x y H Q => ∃ a b xs ys, x = .ref a ∧ y = .ref b ∧ SqT K H a xs ∧ SqT K H b ys ∧ xs.length + ys.length ≤ sizeLine ∧
  (xs = [] → Q (.ref b) H) ∧ (xs ≠ [] → ys = [] → Q (.ref a) H) ∧ (xs ≠ [] → ys ≠ [] → FzN H (xs ++ ys) Q)
theorem op_catF {X : Cx} : OpR X (binaryOp .Add) (rCatF X.K) := by
  intro pins s σ H x y v u Q I rx ry h
  obtain ⟨a, b, xs, ys, rfl, rfl, ha, hb, hz, q0, q1, q2⟩ := h
  cases rx
  cases ry
  obtain ⟨us, r1, t1, _⟩ := I.tuple ha
  obtain ⟨ws, r2, t2, _⟩ := I.tuple hb
  by_cases hx : xs = []
  · subst hx
    cases r1
    exact cat_tup0 t1 t2 ⟨.ref b, H, I, rfl, q0 rfl⟩
  · have hx' : us ≠ [] := fun z => hx (r1.nil_iff.mp z)
    refine HT.cat_tup t1 t2 hx' (fun z => ⟨.ref a, H, I, rfl, q1 hx (r2.nil_iff.mp z)⟩) (fun z => ?_) (by rw [← r1.length, ← r2.length]; exact hz)
    exact inv_newT I (r1.append r2) (by rw [List.length_append]; exact hz) (q2 hx fun w => z (r2.nil_iff.mpr w)) rfl
def oAdd : Op2
  | .val (.int i), .val (.int j), h => some (.val (.int (i + j)), h)
  | .val (.str x), .val (.str y), h => if x.length + y.length ≤ 16777216 then some (.val (.str (x ++ y)), h) else none
  | .val (.tup xs), .val (.tup ys), h => if xs.length + ys.length ≤ 16777216 then some (.val (.tup (xs ++ ys)), h) else none
  | p, q, h => (asM p h).bind fun xs => (asM q h).bind fun ys => if xs.length + ys.length ≤ 16777216 then some (.new (xs ++ ys), h) else none
theorem sim_add {K : PySem.W.Frag} : SimR K (fun x y H Q => rI0 (fun i j => .int (i + j)) x y H Q ∨ ((∃ i j, x = .str i ∧ y = .str j ∧ i.length + j.length ≤ sizeLine ∧ Q (.str (i ++ j)) H) ∨ (rCatF K x y H Q ∨ rCat x y H Q))) oAdd := by
  intro m h H x y dx dy d h' Q S rx ry e q
  unfold oAdd at e
  split at e
  · cases e
    exact .inl ⟨_, _, inv_int rx, inv_int ry, q m H _ (Le.refl _ _) S (.val (.int _)) (nwV _ _ _)⟩
  · obtain ⟨z, e⟩ := ite_some' e
    cases e
    exact .inr (.inl ⟨_, _, inv_str rx, inv_str ry, szL z, q m H _ (Le.refl _ _) S (.val (.str _)) (nwV _ _ _)⟩)
  · obtain ⟨z, e⟩ := ite_some' e
    cases e
    cases rx with
    | val rx =>
      cases ry with
      | val ry =>
        cases rx with
        | tup f1 r1 =>
          cases ry with
          | tup f2 r2 =>
            refine .inr (.inr (.inl ⟨_, _, _, _, rfl, rfl, f1.sq, f2.sq, by rw [r1.length, r2.length]; exact szL z, fun w => ?_, fun w1 w2 => ?_, fun _ _ p o hp hc hd => ?_⟩))
            · subst w
              cases r1
              exact q m H _ (Le.refl _ _) S (.val (.tup f2 r2)) (nwV _ _ _)
            · subst w2
              cases r2
              rw [List.append_nil] at q
              exact q m H _ (Le.refl _ _) S (.val (.tup f1 r1)) (nwV _ _ _)
            · exact q m _ _ (Le.upd S.cl hp _) (S.upd hp _) (.val (RV.tupN S hp hc hd (r1.append r2))) (nwV _ _ _)
  · obtain ⟨xs, e1, e⟩ := bind_some' e
    obtain ⟨ys, e2, e⟩ := bind_some' e
    obtain ⟨z, e⟩ := ite_some' e
    cases e
    obtain ⟨p1, vs1, rfl, a1, r1⟩ := asM_ok S rx e1
    obtain ⟨p2, vs2, rfl, a2, r2⟩ := asM_ok S ry e2
    refine .inr (.inr (.inr ⟨_, _, _, _, rfl, rfl, a1, a2, by rw [r1.length, r2.length]; exact szL z, fun p hp => ?_⟩))
    exact q m _ _ (Le.upd S.cl hp _) (S.upd hp _) (RQ.newN S hp (r1.append r2) (by rw [List.length_append]; exact z)) hp
theorem je_add {X : Cx} {a b : Expr} {fa fb : SE} {pos : Pos} (ha : JE X a fa) (hb : JE X b fb) : JE X (.BinOp a .Add b pos) (mBin oAdd fa fb) :=
  je_bin (op_add.or (op_add_str.or (op_catF.or op_cat))) sim_add ha hb

/-! ## * : ints, a list by an int -/
def oMul : Op2
  | .val (.int i), .val (.int j), h => if mulC i j = true then some (.val (.int (i * j)), h) else none
  | p, .val (.int k), h => (asM p h).bind fun xs => if (decide (k.natAbs < 9223372036854775808) && decide (xs.length * k.toNat ≤ 16777216)) = true then some (.new (List.replicate k.toNat xs).flatten, h) else none
  | _, _, _ => none
theorem two63 : (2 : Int) ^ 63 = 9223372036854775808 := by decide
theorem mulC_ok {i j : Int} (c : mulC i j = true) : CMul i j := by
  unfold mulC at c
  unfold CMul
  rw [two64]
  rw [Bool.or_eq_true] at c
  rcases c with c1 | c1
  · have z := of_decide_eq_true c1
    exact .inl (by omega)
  · have z := of_decide_eq_true c1
    exact .inr (by omega)
theorem len_rep {α : Type} (xs : List α) (k : Nat) : (List.replicate k xs).flatten.length = xs.length * k := by
  induction k with
  | zero => simp
  | succ k ih => rw [List.replicate_succ, List.flatten_cons, List.length_append, ih, Nat.mul_succ, Nat.add_comm]
theorem sim_mul {K : PySem.W.Frag} : SimR K (fun x y H Q => rI CMul (fun i j => .int (i * j)) x y H Q ∨ rRep x y H Q) oMul := by
  intro m h H x y dx dy d h' Q S rx ry e q
  unfold oMul at e
  split at e
  · obtain ⟨c, e⟩ := ite_some' e
    cases e
    exact .inl ⟨_, _, inv_int rx, inv_int ry, mulC_ok c, q m H _ (Le.refl _ _) S (.val (.int _)) (nwV _ _ _)⟩
  · obtain ⟨xs, e1, e⟩ := bind_some' e
    obtain ⟨c, e⟩ := ite_some' e
    cases e
    rw [Bool.and_eq_true] at c
    obtain ⟨p1, vs1, rfl, a1, r1⟩ := asM_ok S rx e1
    have z := of_decide_eq_true c.2
    have z1 := of_decide_eq_true c.1
    refine .inr ⟨_, _, _, rfl, inv_int ry, a1, by rw [two63]; omega, by rw [two63]; omega, by rw [r1.length]; exact szL z, fun p hp => ?_⟩
    exact q m _ _ (Le.upd S.cl hp _) (S.upd hp _) (RQ.newN S hp (r1.replicate _) (by rw [len_rep]; exact z)) hp
  · cases e
theorem je_mul {X : Cx} {a b : Expr} {fa fb : SE} {pos : Pos} (ha : JE X a fa) (hb : JE X b fb) : JE X (.BinOp a .Mult b pos) (mBin oMul fa fb) :=
  je_bin (op_mul.or op_rep) sim_mul ha hb
end Sm
namespace Sm
open PySem PySem.Spec PyProof.Rows L2

/-! ## == and != -/
mutual
/-- data without truths, objects, classes; texts of true signs -/
def D.nb : D → Bool
  | .non => true
  | .int _ => true
  | .str x => PyData.strOk x
  | .tup ds => D.nbs ds
  | .fl ds => D.nbs ds
  | _ => false
def D.nbs : List D → Bool
  | [] => true
  | d :: r => D.nb d && D.nbs r
end
mutual
def D.dep : D → Nat
  | .tup ds => D.deps ds + 1
  | .fl ds => D.deps ds + 1
  | _ => 0
def D.deps : List D → Nat
  | [] => 0
  | d :: r => max (D.dep d) (D.deps r)
end
mutual
def D.toP : D → PyData
  | .int i => .int i
  | .str x => .str x
  | .tup ds => .tuple (D.toPs ds)
  | .fl ds => .list (D.toPs ds)
  | _ => .none
def D.toPs : List D → List PyData
  | [] => []
  | d :: r => D.toP d :: D.toPs r
end
mutual
theorem toP_lay : ∀ d : D, d.nb = true → d.toP.canLay0 = true
  | .non, _ => rfl
  | .int _, _ => rfl
  | .str x, h => by unfold D.nb at h; unfold D.toP PyData.canLay0; exact h
  | .tup ds, h => by unfold D.nb at h; unfold D.toP PyData.canLay0; exact toPs_lay ds h
  | .fl ds, h => by unfold D.nb at h; unfold D.toP PyData.canLay0; exact toPs_lay ds h
theorem toPs_lay : ∀ ds : List D, D.nbs ds = true → PyData.canLayAll0 (D.toPs ds) = true
  | [], _ => rfl
  | d :: r, h => by
    unfold D.nbs at h
    rw [Bool.and_eq_true] at h
    unfold D.toPs PyData.canLayAll0
    rw [toP_lay d h.1, toPs_lay r h.2]
    rfl
end
mutual
theorem toP_dep : ∀ d : D, d.toP.depth = d.dep
  | .non => rfl
  | .bl _ => rfl
  | .int _ => rfl
  | .str x => rfl
  | .tup ds => by unfold D.toP PyData.depth D.dep; rw [toPs_dep ds]
  | .zt ds => rfl
  | .fl ds => by unfold D.toP PyData.depth D.dep; rw [toPs_dep ds]
  | .ref _ => rfl
  | .ty _ => rfl
theorem toPs_dep : ∀ ds : List D, PyData.depthAll (D.toPs ds) = D.deps ds
  | [] => rfl
  | d :: r => by unfold D.toPs PyData.depthAll D.deps; rw [toP_dep d, toPs_dep r]
end
mutual
theorem toP_eqv : ∀ a b : D, a.nb = true → b.nb = true → PyData.eqv a.toP b.toP = decide (a = b)
  | .non, b, _, hb => by cases b <;> first | rfl | cases hb
  | .int i, b, _, hb => by
    cases b with
    | int j =>
      unfold D.toP PyData.eqv
      rw [Bool.eq_iff_iff]
      simp
    | _ => first | rfl | cases hb
  | .str x, b, _, hb => by
    cases b with
    | str y =>
      unfold D.toP PyData.eqv
      rw [Bool.eq_iff_iff]
      simp
    | _ => first | rfl | cases hb
  | .tup ds, b, ha, hb => by
    unfold D.nb at ha
    cases b with
    | tup es =>
      unfold D.nb at hb
      unfold D.toP PyData.eqv
      rw [toPs_eqv ds es ha hb, Bool.eq_iff_iff]
      simp
    | _ => first | rfl | cases hb
  | .fl ds, b, ha, hb => by
    unfold D.nb at ha
    cases b with
    | fl es =>
      unfold D.nb at hb
      unfold D.toP PyData.eqv
      rw [toPs_eqv ds es ha hb, Bool.eq_iff_iff]
      simp
    | _ => first | rfl | cases hb
theorem toPs_eqv : ∀ a b : List D, D.nbs a = true → D.nbs b = true → PyData.eqvAll (D.toPs a) (D.toPs b) = decide (a = b)
  | [], [], _, _ => by simp [D.toPs, PyData.eqvAll]
  | [], _ :: _, _, _ => by simp [D.toPs, PyData.eqvAll]
  | _ :: _, [], _, _ => by simp [D.toPs, PyData.eqvAll]
  | d :: r, e :: s, ha, hb => by
    unfold D.nbs at ha hb
    rw [Bool.and_eq_true] at ha hb
    unfold D.toPs PyData.eqvAll
    rw [toP_eqv d e ha.1 hb.1, toPs_eqv r s ha.2 hb.2, Bool.eq_iff_iff]
    simp
end
section
variable {K : PySem.W.Frag} {m : List Addr} {h : AH} {H : Hp}
mutual
theorem RV.dp : ∀ {v : V} {d : D}, RV K m H v d → d.nb = true → Dp K H v d.toP
  | _, _, .non, _ => .non
  | _, _, .int i, _ => .int i
  | _, _, .str x, _ => .str x
  | _, _, .tup f r, b => .tup f.sq (RVs.dp r (by unfold D.nb at b; exact b))
  | _, _, .fl f r, b => .lst f.sq (RVs.dp r (by unfold D.nb at b; exact b))
  | _, _, .bl _, b => by simp [D.nb] at b
  | _, _, .ty _, b => by simp [D.nb] at b
  | _, _, .zt _ _, b => by simp [D.nb] at b
  | _, _, .ref _, b => by simp [D.nb] at b
theorem RVs.dp : ∀ {vs : List V} {ds : List D}, RVs K m H vs ds → D.nbs ds = true → DpAll K H vs (D.toPs ds)
  | _, _, .nil, _ => .nil
  | _, _, .cons r t, b => by
    unfold D.nbs at b
    rw [Bool.and_eq_true] at b
    exact .cons (RV.dp r b.1) (RVs.dp t b.2)
end
/-- what == sees -/
def dat : LV → AH → D
  | .new ds, _ => .fl ds
  | .val (.ref a), h => match h[a]? with
    | some (.lst ds) => .fl ds
    | _ => .ref a
  | .val d, _ => d
theorem dat_dp (S : Sim K m h H) {v : V} {q : LV} (r : RQ K m H v q) (b : (dat q h).nb = true) : Dp K H v (dat q h).toP := by
  cases r with
  | new hn e r z => exact .lst (SqL.of e) (r.dp (by unfold dat D.nb at b; exact b))
  | val r =>
    cases r with
    | ref e =>
      unfold dat at b ⊢
      dsimp only at b ⊢
      split at b
      · rename_i ds hh
        obtain ⟨vs, e2, r2⟩ := S.lst e hh
        exact .lst (SqL.of e2) (r2.dp (by unfold D.nb at b; exact b))
      · cases b
    | non => exact .non
    | bl _ => cases b
    | ty _ => cases b
    | zt _ _ => cases b
    | int i => exact .int i
    | str x => exact .str x
    | tup f r => exact (RV.tup f r).dp b
    | fl f r => exact (RV.fl f r).dp b
end
def okEq (a b : D) : Bool := a.nb && b.nb && decide (a.dep ≤ 64) && decide (b.dep ≤ 64)
def eqC (neg : Bool) : Op2
  | .val (.str x), .val (.str y), h => some (.val (.bl (if neg then !decide (x = y) else decide (x = y))), h)
  | .val (.bl x), .val (.bl y), h => some (.val (.bl (if neg then !decide (x = y) else decide (x = y))), h)
  | p, q, h => if okEq (dat p h) (dat q h) = true then some (.val (.bl (if neg then !decide (dat p h = dat q h) else decide (dat p h = dat q h))), h) else none
def oEq : Op2 := eqC false
def oNe : Op2 := eqC true
theorem sim_eq {K : PySem.W.Frag} : SimR K (fun x y H Q => rEq x y H Q ∨ rEqD K x y H Q) oEq := by
  intro m h H x y dx dy d h' Q S rx ry e q
  unfold oEq eqC at e
  split at e
  · cases e
    refine .inl ?_
    rw [inv_str rx, inv_str ry]
    refine ⟨rfl, ?_⟩
    have w := q m H _ (Le.refl _ _) S (.val (.bl _)) (nwV _ _ _)
    rw [dec_str]
    exact w
  · cases e
    refine .inl ?_
    rw [inv_bl rx, inv_bl ry]
    refine ⟨rfl, ?_⟩
    have w := q m H _ (Le.refl _ _) S (.val (.bl _)) (nwV _ _ _)
    rw [dec_bl]
    exact w
  · obtain ⟨c, e⟩ := ite_some' e
    cases e
    unfold okEq at c
    rw [Bool.and_eq_true, Bool.and_eq_true, Bool.and_eq_true] at c
    obtain ⟨⟨⟨c1, c2⟩, c3⟩, c4⟩ := c
    refine .inr ⟨_, _, dat_dp S rx c1, dat_dp S ry c2, ?_, ?_, ?_⟩
    · unfold SeqAt.shaped; rw [toP_lay _ c1, toP_dep, c3]; rfl
    · unfold SeqAt.shaped; rw [toP_lay _ c2, toP_dep, c4]; rfl
    · rw [toP_eqv _ _ c1 c2]
      exact q m H _ (Le.refl _ _) S (.val (.bl _)) (nwV _ _ _)
theorem sim_ne {K : PySem.W.Frag} : SimR K (fun x y H Q => rNe x y H Q ∨ rNeD K x y H Q) oNe := by
  intro m h H x y dx dy d h' Q S rx ry e q
  unfold oNe eqC at e
  split at e
  · cases e
    refine .inl ?_
    rw [inv_str rx, inv_str ry]
    refine ⟨rfl, ?_⟩
    have w := q m H _ (Le.refl _ _) S (.val (.bl _)) (nwV _ _ _)
    rw [dec_str]
    exact w
  · cases e
    refine .inl ?_
    rw [inv_bl rx, inv_bl ry]
    refine ⟨rfl, ?_⟩
    have w := q m H _ (Le.refl _ _) S (.val (.bl _)) (nwV _ _ _)
    rw [dec_bl]
    exact w
  · obtain ⟨c, e⟩ := ite_some' e
    cases e
    unfold okEq at c
    rw [Bool.and_eq_true, Bool.and_eq_true, Bool.and_eq_true] at c
    obtain ⟨⟨⟨c1, c2⟩, c3⟩, c4⟩ := c
    refine .inr ⟨_, _, dat_dp S rx c1, dat_dp S ry c2, ?_, ?_, ?_⟩
    · unfold SeqAt.shaped; rw [toP_lay _ c1, toP_dep, c3]; rfl
    · unfold SeqAt.shaped; rw [toP_lay _ c2, toP_dep, c4]; rfl
    · rw [toP_eqv _ _ c1 c2]
      exact q m H _ (Le.refl _ _) S (.val (.bl _)) (nwV _ _ _)
section
variable {X : Cx} {a b : Expr} {es : List Expr} {fa fb : SE} {fr : SA} {pos : Pos} {k : Nat}
theorem je_eq (hr : Room k X.A) (ha : JE X a fa) (hb : JE X b fb) : JE X (.Compare a [.Eq] [b] pos) (mBin oEq fa fb) := je_cmp (op_eq.or (op_eqD hr.units)) sim_eq ha hb (nomark _)
theorem je_ne (hr : Room k X.A) (ha : JE X a fa) (hb : JE X b fb) : JE X (.Compare a [.NotEq] [b] pos) (mBin oNe fa fb) := je_cmp (op_ne.or (op_neD hr.units)) sim_ne ha hb (nomark _)

/-! ## is None -/
def isN : LV → Bool
  | .val .non => true
  | _ => false
def oIs : Op2
  | p, .val .non, h => some (.val (.bl (isN p)), h)
  | _, _, _ => none
def oIsNot : Op2
  | p, .val .non, h => some (.val (.bl (!isN p)), h)
  | _, _, _ => none
theorem isN_ok {K : PySem.W.Frag} {m : List Addr} {H : Hp} {v : V} {q : LV} (r : RQ K m H v q) : decide (v = .non) = isN q := by
  cases r with
  | new _ _ _ _ => rfl
  | val r => cases r <;> rfl
theorem inv_non {K : PySem.W.Frag} {m : List Addr} {H : Hp} {v : V} (r : RQ K m H v (.val .non)) : v = .non := by
  cases r with
  | val r => cases r; rfl
theorem je_is (ha : JE X a fa) (hb : JE X b fb) : JE X (.Compare a [.Is] [b] pos) (mBin oIs fa fb) := je_cmp op_isN (fun m h H x y dx dy d h' Q S rx ry e q => by
  unfold oIs at e
  split at e
  · cases e
    refine ⟨inv_non ry, ?_⟩
    rw [isN_ok rx]
    exact q m H _ (Le.refl _ _) S (.val (.bl _)) (nwV _ _ _)
  · cases e) ha hb (nomark _)
theorem je_isnot (ha : JE X a fa) (hb : JE X b fb) : JE X (.Compare a [.IsNot] [b] pos) (mBin oIsNot fa fb) := je_cmp op_notN (fun m h H x y dx dy d h' Q S rx ry e q => by
  unfold oIsNot at e
  split at e
  · cases e
    refine ⟨inv_non ry, ?_⟩
    rw [isN_ok rx]
    exact q m H _ (Le.refl _ _) S (.val (.bl _)) (nwV _ _ _)
  · cases e) ha hb (nomark _)

/-! ## in, over flat things -/
def D.flat : D → Bool
  | .non => true
  | .int _ => true
  | .str _ => true
  | _ => false
theorem RV.flat {K : PySem.W.Frag} {m : List Addr} {H : Hp} {v : V} {d : D} (r : RV K m H v d) (b : d.flat = true) : flatV v = true := by
  cases r <;> first | rfl | cases b
theorem RVs.flat {K : PySem.W.Frag} {m : List Addr} {H : Hp} : ∀ {vs : List V} {ds : List D}, RVs K m H vs ds → ds.all D.flat = true → vs.all flatV = true
  | _, _, .nil, _ => rfl
  | _, _, .cons r t, b => by
    rw [List.all_cons, Bool.and_eq_true] at b ⊢
    exact ⟨r.flat b.1, RVs.flat t b.2⟩
theorem RV.eqf {K : PySem.W.Frag} {m : List Addr} {H : Hp} {v w : V} {d e : D} (r : RV K m H v d) (s : RV K m H w e) (b : d.flat = true) (c : e.flat = true) : eqV v w = decide (d = e) := by
  cases r <;> (try cases b) <;> (cases s <;> (try cases c)) <;> first
    | rfl
    | (show (_ == _) = _
       rw [Bool.eq_iff_iff]
       simp)
theorem RVs.inf {K : PySem.W.Frag} {m : List Addr} {H : Hp} {w : V} {e : D} (s : RV K m H w e) (c : e.flat = true) : ∀ {vs : List V} {ds : List D}, RVs K m H vs ds → ds.all D.flat = true → inV w vs = ds.contains e
  | _, _, .nil, _ => rfl
  | _, _, .cons (v := v) (vs := vs) (d := d) (ds := ds) r t, b => by
    rw [List.all_cons, Bool.and_eq_true] at b
    unfold inV
    rw [List.any_cons, r.eqf s b.1 c, List.contains_cons]
    have := RVs.inf s c t b.2
    unfold inV at this
    rw [this]
    congr 1
    rw [Bool.eq_iff_iff]
    simp
    exact eq_comm
def inC (neg : Bool) : Op2
  | .val d, q, h => (asQ q h).bind fun ds => if (d.flat && ds.all D.flat) = true then some (.val (.bl (if neg then !ds.contains d else ds.contains d)), h) else none
  | _, _, _ => none
def oIn : Op2 := inC false
def oNotIn : Op2 := inC true
theorem sim_in {K : PySem.W.Frag} (neg : Bool) : SimR K (rIn K neg) (inC neg) := by
  intro m h H x y dx dy d h' Q S rx ry e q
  unfold inC at e
  split at e
  · obtain ⟨ds, e1, e⟩ := bind_some' e
    obtain ⟨c, e⟩ := ite_some' e
    cases e
    rw [Bool.and_eq_true] at c
    obtain ⟨p, vs, rfl, hq, rv⟩ := asQ_ok S ry e1
    cases rx with
    | val rx =>
      refine ⟨p, vs, rfl, hq, rx.flat c.1, rv.flat c.2, ?_⟩
      rw [RVs.inf rx c.1 rv c.2]
      exact q m H _ (Le.refl _ _) S (.val (.bl _)) (nwV _ _ _)
  · cases e
theorem je_in (ha : JE X a fa) (hb : JE X b fb) (hm : behindInMarks .In b = false := by rfl) : JE X (.Compare a [.In] [b] pos) (mBin oIn fa fb) := je_cmp op_in_seq (sim_in false) ha hb hm
theorem je_notin (ha : JE X a fa) (hb : JE X b fb) (hm : behindInMarks .NotIn b = false := by rfl) : JE X (.Compare a [.NotIn] [b] pos) (mBin oNotIn fa fb) := je_cmp op_notIn_seq (sim_in true) ha hb hm

/-! ## comparisons as values and as tests -/
def CmpOk (X : Cx) (o : CmpOp) (op : Op2) (b : Expr) : Prop := ∃ r : R2, OpR X (compareOp o) r ∧ SimR X.K r op ∧ behindInMarks o b = false
theorem je_c {o : CmpOp} {op : Op2} (c : CmpOk X o op b) (ha : JE X a fa) (hb : JE X b fb) : JE X (.Compare a [o] [b] pos) (mBin op fa fb) := by
  obtain ⟨r, h1, h2, h3⟩ := c
  exact je_cmp h1 h2 ha hb h3
theorem jt_c {o : CmpOp} {op : Op2} (c : CmpOk X o op b) (ha : JE X a fa) (hb : JE X b fb) : JT X (.Compare a [o] [b] pos) (mB (mBin op fa fb)) := by
  obtain ⟨r, h1, h2, h3⟩ := c
  refine pt_weak (pt_cmpR h1 ha hb h3) fun σ H Q ⟨m, τ, h, d, h', R, S, e, q⟩ => ?_
  obtain ⟨⟨x, h4⟩, e1, e⟩ := bind_some' e
  refine two h2 σ H _ ⟨m, τ, h, x, h4, R, S, e1, fun m1 H1 v L1 S1 r1 n1 => ?_⟩
  dsimp only at e
  split at e
  · cases e
    exact ⟨_, inv_bl r1, q m1 H1 L1 S1⟩
  · cases e
theorem c_eq (hr : Room k X.A) : CmpOk X .Eq oEq b := ⟨_, op_eq.or (op_eqD hr.units), sim_eq, nomark _⟩
theorem c_ne (hr : Room k X.A) : CmpOk X .NotEq oNe b := ⟨_, op_ne.or (op_neD hr.units), sim_ne, nomark _⟩
theorem c_lt : CmpOk X .Lt oLt b := ⟨_, op_lt, simII0 fun _ _ _ _ => .bl _, nomark _⟩
theorem c_le : CmpOk X .LtE oLe b := ⟨_, op_le, simII0 fun _ _ _ _ => .bl _, nomark _⟩
theorem c_gt : CmpOk X .Gt oGt b := ⟨_, op_gt, simII0 fun _ _ _ _ => .bl _, nomark _⟩
theorem c_ge : CmpOk X .GtE oGe b := ⟨_, op_ge, simII0 fun _ _ _ _ => .bl _, nomark _⟩
theorem sim_is {K : PySem.W.Frag} : SimR K (fun x y H Q => y = .non ∧ Q (.bl (decide (x = .non))) H) oIs := by
  intro m h H x y dx dy d h' Q S rx ry e q
  unfold oIs at e
  split at e
  · cases e
    refine ⟨inv_non ry, ?_⟩
    rw [isN_ok rx]
    exact q m H _ (Le.refl _ _) S (.val (.bl _)) (nwV _ _ _)
  · cases e
theorem sim_isnot {K : PySem.W.Frag} : SimR K (fun x y H Q => y = .non ∧ Q (.bl (!decide (x = .non))) H) oIsNot := by
  intro m h H x y dx dy d h' Q S rx ry e q
  unfold oIsNot at e
  split at e
  · cases e
    refine ⟨inv_non ry, ?_⟩
    rw [isN_ok rx]
    exact q m H _ (Le.refl _ _) S (.val (.bl _)) (nwV _ _ _)
  · cases e
theorem c_is : CmpOk X .Is oIs b := ⟨_, op_isN, sim_is, nomark _⟩
theorem c_isnot : CmpOk X .IsNot oIsNot b := ⟨_, op_notN, sim_isnot, nomark _⟩
theorem c_in (hm : behindInMarks .In b = false := by rfl) : CmpOk X .In oIn b := ⟨_, op_in_seq, sim_in false, hm⟩
theorem c_notin (hm : behindInMarks .NotIn b = false := by rfl) : CmpOk X .NotIn oNotIn b := ⟨_, op_notIn_seq, sim_in true, hm⟩

/-! ## x[i] -/
theorem RVs.atI {K : PySem.W.Frag} {m : List Addr} {H : Hp} {vs : List V} {ds : List D} (r : RVs K m H vs ds) {i : Int} {d : D} (e : L2.atI ds i = some d) : ∃ v, L2.atI vs i = some v ∧ RV K m H v d := by
  unfold L2.atI at e ⊢
  obtain ⟨j, e1, e⟩ := bind_some' e
  obtain ⟨v, e2, r2⟩ := r.get e
  rw [r.length, e1]
  exact ⟨v, e2, r2⟩
def oIx : Op2
  | .val (.str z), .val (.int i), h => if z.length ≤ 16777216 then (L2.atI z.cps.toList i).bind fun c => some (.val (.str ⟨#[c]⟩), h) else none
  | q, .val (.int i), h => (asQ q h).bind fun ds => (L2.atI ds i).bind fun d => some (.val d, h)
  | _, _, _ => none
theorem sim_ix {K : PySem.W.Frag} : SimR K (rIx K) oIx := by
  intro m h H x y dx dy d h' Q S rx ry e q
  unfold oIx at e
  split at e
  · obtain ⟨z, e⟩ := ite_some' e
    obtain ⟨c, e1, e⟩ := bind_some' e
    cases e
    exact .inr (.inr ⟨_, _, _, inv_str rx, inv_int ry, szL z, e1, q m H _ (Le.refl _ _) S (.val (.str _)) (nwV _ _ _)⟩)
  · obtain ⟨ds, e1, e⟩ := bind_some' e
    obtain ⟨d1, e2, e⟩ := bind_some' e
    cases e
    obtain ⟨p, vs, rfl, hq, rv⟩ := asQ_ok S rx e1
    obtain ⟨v, e3, r3⟩ := rv.atI e2
    rcases hq with hq | hq
    · exact .inl ⟨p, vs, _, v, rfl, inv_int ry, hq, e3, q m H _ (Le.refl _ _) S (.val r3) (nwV _ _ _)⟩
    · exact .inr (.inl ⟨p, vs, _, v, rfl, inv_int ry, hq, e3, q m H _ (Le.refl _ _) S (.val r3) (nwV _ _ _)⟩)
  · cases e
theorem je_at (ha : JE X a fa) (hb : JE X b fb) (hp : PlainIx b := by exact fun _ _ => rfl) : JE X (.Subscript a b pos) (mBin oIx fa fb) := je_ix ix_seq sim_ix ha hb hp
end
end Sm
namespace Sm
open PySem PySem.Spec PyProof.Rows L2

/-! ## slices -/
abbrev SO := AT → AH → Option (Option Int × AH)
def tO (K : PySem.W.Frag) (f : SO) : TO := fun σ H Q => ∃ m τ h i h', RSt K m H σ τ ∧ Sim K m h H ∧ f τ h = some (i, h') ∧ ∀ m' H', Le m H m' H' → Sim K m' h' H' → Q i H'
def JO (X : Cx) (e : Option Expr) (f : SO) : Prop := PO X e (tO X.K f)
theorem po_weak {X : Cx} {e : Option Expr} {t t' : TO} (h : PO X e t) (hw : ∀ σ H Q, t' σ H Q → t σ H Q) : PO X e t' := ⟨fun pins s σ H Q I q => h.run pins s σ H Q I (hw _ _ _ q)⟩
def mNoP : SO := fun _ h => some (none, h)
def mPart (fa : SE) : SO := fun τ h => (fa τ h).bind fun p => match p.1 with
  | .val (.int i) => some (some i, p.2)
  | _ => none
def cutA {α : Type} (xs : List α) (lo hi : Option Int) : List α := (xs.drop (HT.sIx xs.length 0 lo)).take (HT.sIx xs.length xs.length hi - HT.sIx xs.length 0 lo)
def oSl (q : LV) (lo hi : Option Int) (h : AH) : Option (LV × AH) := match q with
  | .val (.str z) => if z.length ≤ 16777216 then some (.val (.str (cutS z lo hi)), h) else none
  | .val (.tup ds) => some (.val (.tup (cutA ds lo hi)), h)
  | q => (asL q h).bind fun ds => if ds.length ≤ 16777216 then some (.new (cutA ds lo hi), h) else none
def mSl (fa : SE) (fl fu : SO) : SE := fun τ h => (fa τ h).bind fun p => (fl τ p.2).bind fun l => (fu τ l.2).bind fun u => oSl p.1 l.1 u.1 u.2
theorem cut_whole {α : Type} {xs : List α} {lo hi : Option Int} (h : HT.sIx xs.length 0 lo = 0 ∧ HT.sIx xs.length xs.length hi = xs.length) : cutA xs lo hi = xs := by
  unfold cutA
  rw [h.1, h.2]
  simp
theorem cut_len {α : Type} (xs : List α) (lo hi : Option Int) : (cutA xs lo hi).length ≤ xs.length := by
  unfold cutA
  rw [List.length_take, List.length_drop]
  omega
section
variable {X : Cx} {a b e : Expr} {es : List Expr} {fa fb fo : SE} {fr : SA} {lo hi : Option Expr} {fl fu : SO} {p p2 pos : Pos}
theorem jo_none : JO X none mNoP := po_weak po_none fun σ H Q ⟨m, τ, h, i, h', R, S, e, q⟩ => by
  cases e
  exact q m H (Le.refl m H) S
theorem jo_some (h : JE X e fa) : JO X (some e) (mPart fa) := by
  refine po_weak (po_some h) fun σ H Q ⟨m, τ, h, i, h', R, S, e, q⟩ => ?_
  obtain ⟨⟨x, h1⟩, e1, e⟩ := bind_some' e
  refine ⟨m, τ, h, x, h1, R, S, e1, fun m1 H1 v1 L1 S1 r1 _ => ?_⟩
  dsimp only at e
  split at e
  · cases e
    exact ⟨_, inv_int r1, q m1 H1 L1 S1⟩
  · cases e
def rSlF (K : PySem.W.Frag) : V → Option Int → Option Int → Hp → VK → Prop := fun x lo hi H Q => ∃ a xs, x = .ref a ∧ SqT K H a xs ∧
  ((HT.sIx xs.length 0 lo = 0 ∧ HT.sIx xs.length xs.length hi = xs.length) → Q (.ref a) H) ∧ (¬ (HT.sIx xs.length 0 lo = 0 ∧ HT.sIx xs.length xs.length hi = xs.length) → FzN H (cutV xs lo hi) Q)
theorem sl_tupF : SlR X (rSlF X.K) := by
  intro pins s σ H x v vl vu lo hi sl Q I rx hs pl pu h
  obtain ⟨a, xs, rfl, hx, q1, q2⟩ := h
  cases rx
  obtain ⟨us, r, ht, hz⟩ := I.tuple hx
  have hn : us.toArray.size = xs.length := by rw [List.size_toArray]; exact r.length.symm
  refine ⟨"tuple", _, PyProof.Rows.slot_tuple_getitem.lookup, ht.typeIs, ?_⟩
  by_cases hw : HT.sIx xs.length 0 lo = 0 ∧ HT.sIx xs.length xs.length hi = xs.length
  · exact getItem_tuple_whole ht hs pl pu (by rw [hn]; exact hw) ⟨.ref a, H, I, rfl, q1 hw⟩
  · refine HT.getItem_tuple_cut ht hs pl pu (by rw [hn]; exact hw) ?_ (by rw [hn]; exact hz)
    rw [hn]
    exact inv_newT I ((r.drop _).take _) (Nat.le_trans (cutV_length xs lo hi) hz) (q2 hw) rfl
theorem je_sl (ha : JE X a fa) (hl : JO X lo fl) (hu : JO X hi fu) : JE X (.Subscript a (.Slice lo hi none p2) pos) (mSl fa fl fu) := by
  refine pe_weak (pe_slice (sl_str.or (sl_tupF.or sl_list)) ha hl hu) fun σ H Q ⟨m, τ, h, d, h', R, S, e, q⟩ => ?_
  obtain ⟨⟨x, h1⟩, e1, e⟩ := bind_some' e
  obtain ⟨⟨l, h2⟩, e2, e⟩ := bind_some' e
  obtain ⟨⟨u, h3⟩, e3, e⟩ := bind_some' e
  refine ⟨m, τ, h, x, h1, R, S, e1, fun m1 H1 v1 L1 S1 r1 _ => ⟨m1, τ, h1, l, h2, R.mono S.cl L1.toLw, S1, e2, fun m2 H2 L2 S2 => ⟨m2, τ, h2, u, h3, (R.mono S.cl L1.toLw).mono S1.cl L2.toLw, S2, e3, fun m3 H3 L3 S3 => ?_⟩⟩⟩
  have r := (r1.mono S1.cl L2).mono S2.cl L3
  have L := L1.trans (L2.trans L3)
  dsimp only at e
  unfold oSl at e
  split at e
  · obtain ⟨z, e⟩ := ite_some' e
    cases e
    exact .inl ⟨_, inv_str r, szL z, q m3 H3 _ L S3 (.val (.str _)) (nwV _ _ _)⟩
  · cases e
    cases r with
    | val r =>
      cases r with
      | tup f r =>
        refine .inr (.inl ⟨_, _, rfl, f.sq, fun w => ?_, fun _ p o hp hc hd => ?_⟩)
        · rw [r.length] at w
          rw [cut_whole w] at q
          exact q m3 H3 _ L S3 (.val (.tup f r)) (nwV _ _ _)
        · refine q m3 _ _ (L.trans (Le.upd S3.cl hp _)) (S3.upd hp _) (.val (RV.tupN S3 hp hc hd ?_)) (nwV _ _ _)
          unfold cutA cutV
          rw [r.length]
          exact (r.drop _).take _
  · obtain ⟨ds, e4, e⟩ := bind_some' e
    obtain ⟨z, e⟩ := ite_some' e
    cases e
    obtain ⟨pp, vs, rfl, hq, rv⟩ := asL_ok S3 r e4
    refine .inr (.inr ⟨pp, vs, rfl, hq, fun p hp => ?_⟩)
    refine q m3 _ _ (L.trans (Le.upd S3.cl hp _)) (S3.upd hp _) (RQ.newN S3 hp ?_ (Nat.le_trans (cut_len _ _ _) z)) (fresh_back S3.cl L hp)
    unfold cutA cutV
    rw [rv.length]
    exact (rv.drop _).take _
/-- xs[::-1] -/
def oRev : Op1 := fun q h => (asL q h).bind fun ds => if ds.length ≤ 16777216 then some (.new ds.reverse, h) else none
theorem je_rev {k : Nat} {p1 p2 p3 : Pos} (ha : JE X a fa) : JE X (.Subscript a (.Slice none none (some (.UnaryOp .USub (.Constant (.int 1) k p1) p2)) p3) pos) (mUn oRev fa) := by
  refine pe_weak (pe_revL ha) fun σ H Q h => one (r := fun x H1 Q => ∃ a xs, x = .ref a ∧ SqL X.K H1 a xs ∧ ∀ p, H1 p = none → Q (.ref p) (upd H1 p (.lst xs.reverse))) (fun m h H x dx d h' Q S rx e q => ?_) σ H Q h
  unfold oRev at e
  obtain ⟨ds, e4, e⟩ := bind_some' e
  obtain ⟨z, e⟩ := ite_some' e
  cases e
  obtain ⟨pp, vs, rfl, hq, rv⟩ := asL_ok S rx e4
  exact ⟨pp, vs, rfl, hq, fun p hp => q m _ _ (Le.upd S.cl hp _) (S.upd hp _) (RQ.newN S hp rv.reverse (by rw [List.length_reverse]; exact z)) hp⟩

/-! ## built-in functions -/
def oLen : OpN
  | [.val (.str z)], h => if z.length ≤ 16777216 then some (.val (.int z.length), h) else none
  | [q], h => (asQ q h).bind fun ds => some (.val (.int ds.length), h)
  | _, _ => none
theorem inv1 {K : PySem.W.Frag} {m : List Addr} {H : Hp} {vs : List V} {q : LV} (r : RQs K m H vs [q]) : ∃ v, vs = [v] ∧ RQ K m H v q := by
  cases r with
  | cons r t => cases t; exact ⟨_, rfl, r⟩
theorem inv2 {K : PySem.W.Frag} {m : List Addr} {H : Hp} {vs : List V} {q q' : LV} (r : RQs K m H vs [q, q']) : ∃ v v', vs = [v, v'] ∧ RQ K m H v q ∧ RQ K m H v' q' := by
  cases r with
  | cons r t =>
    obtain ⟨v, rfl, r2⟩ := inv1 t
    exact ⟨_, _, rfl, r, r2⟩
theorem sim_len {K : PySem.W.Frag} : SimN K (fun xs H Q => ∃ x n, xs = [x] ∧ LenV K x H n ∧ Q (.int n) H) oLen := by
  intro m h H xs dxs d h' Q S r e q
  unfold oLen at e
  split at e
  · obtain ⟨z, e⟩ := ite_some' e
    cases e
    obtain ⟨v, rfl, r1⟩ := inv1 r
    rw [inv_str r1]
    exact ⟨_, _, rfl, ⟨szL z, rfl⟩, q m H _ (Le.refl _ _) S (.val (.int _)) (nwV _ _ _)⟩
  · obtain ⟨ds, e1, e⟩ := bind_some' e
    cases e
    obtain ⟨v, rfl, r1⟩ := inv1 r
    obtain ⟨p, vs, rfl, hq, rv⟩ := asQ_ok S r1 e1
    refine ⟨_, vs.length, rfl, ?_, by rw [rv.length]; exact q m H _ (Le.refl _ _) S (.val (.int _)) (nwV _ _ _)⟩
    rcases hq with hq | hq
    · exact .inl ⟨vs, hq, rfl⟩
    · exact .inr ⟨vs, hq, rfl⟩
  · cases e
theorem je_len (hg : Gl X "len") (hm : X.mg "len" = none) (ha : JA X (a :: es) fr) (he : starEach (a :: es) X.env = (false, eval a X.env) :: starEach es X.env := by rfl) (hpl : (backTo pos (starEach es X.env)).any (·.1) = false := by rfl) : JE X (.Call (.Name "len" p) (a :: es) [] pos) (mFn oLen fr) :=
  je_fnB call_len sim_len hg hm PySem.boot_len ha (by decide) (by decide) he hpl
def oInt : OpN
  | [.val (.int i)], h => some (.val (.int i), h)
  | [.val (.bl b)], h => some (.val (.int (if b then 1 else 0)), h)
  | _, _ => none
theorem sim_int {K : PySem.W.Frag} : SimN K (fun xs H Q => (∃ i, xs = [.int i] ∧ Q (.int i) H) ∨ ∃ k, xs = [.bl k] ∧ Q (.int (if k then 1 else 0)) H) oInt := by
  intro m h H xs dxs d h' Q S r e q
  unfold oInt at e
  split at e
  · cases e
    obtain ⟨v, rfl, r1⟩ := inv1 r
    rw [inv_int r1]
    exact .inl ⟨_, rfl, q m H _ (Le.refl _ _) S (.val (.int _)) (nwV _ _ _)⟩
  · cases e
    obtain ⟨v, rfl, r1⟩ := inv1 r
    rw [inv_bl r1]
    exact .inr ⟨_, rfl, q m H _ (Le.refl _ _) S (.val (.int _)) (nwV _ _ _)⟩
  · cases e
theorem je_intc (hg : Gl X "int") (hm : X.mg "int" = none) (ha : JA X (a :: es) fr) (he : starEach (a :: es) X.env = (false, eval a X.env) :: starEach es X.env := by rfl) (hpl : (backTo pos (starEach es X.env)).any (·.1) = false := by rfl) : JE X (.Call (.Name "int" p) (a :: es) [] pos) (mFn oInt fr) :=
  je_fnT call_int1 sim_int hg hm PyProof.Rows.boot_int ha (by decide) (by decide) he hpl
/-- tuple(x) -/
theorem call_tupF : CallR X (.type "tuple") (fun xs H Q => ∃ p ys, xs = [.ref p] ∧ ((SqL X.K H p ys ∧ FzN H ys Q) ∨ (SqT X.K H p ys ∧ Q (.ref p) H))) := by
  intro pins s σ H xs us Q I r h
  obtain ⟨p, ys, rfl, h⟩ := h
  obtain ⟨u, rfl, rx⟩ := vals1 r
  cases rx
  rcases h with ⟨hq, q⟩ | ⟨hq, q⟩
  · obtain ⟨ws, rw', pl, hz⟩ := I.list hq
    have hlen := rw'.length
    refine call_tuple_list pl.isList (fun h' kp => ?_) (by rw [List.size_toArray]; omega)
    exact inv_newT (I.kept (t' := s.toks) kp) rw' hz q rfl
  · obtain ⟨ws, rw', pl, hz⟩ := I.tuple hq
    exact call_tuple_same pl ⟨.ref p, H, I, rfl, q⟩
def oTuple : OpN
  | [.val (.tup ds)], h => some (.val (.tup ds), h)
  | [q], h => (asL q h).bind fun ds => some (.val (.tup ds), h)
  | _, _ => none
theorem sim_tuple {K : PySem.W.Frag} : SimN K (fun xs H Q => ∃ p ys, xs = [.ref p] ∧ ((SqL K H p ys ∧ FzN H ys Q) ∨ (SqT K H p ys ∧ Q (.ref p) H))) oTuple := by
  intro m h H xs dxs d h' Q S r e q
  unfold oTuple at e
  split at e
  · cases e
    obtain ⟨v, rfl, r1⟩ := inv1 r
    cases r1 with
    | val r2 =>
      cases r2 with
      | tup f r => exact ⟨_, _, rfl, .inr ⟨f.sq, q m H _ (Le.refl _ _) S (.val (.tup f r)) (nwV _ _ _)⟩⟩
  · obtain ⟨ds, e1, e⟩ := bind_some' e
    cases e
    obtain ⟨v, rfl, r1⟩ := inv1 r
    obtain ⟨p, vs, rfl, hq, rv⟩ := asL_ok S r1 e1
    exact ⟨_, _, rfl, .inl ⟨hq, fun p o hp hc hd => q m _ _ (Le.upd S.cl hp _) (S.upd hp _) (.val (RV.tupN S hp hc hd rv)) (nwV _ _ _)⟩⟩
  · cases e
theorem je_tuple (hg : Gl X "tuple") (hm : X.mg "tuple" = none) (ha : JA X (a :: es) fr) (he : starEach (a :: es) X.env = (false, eval a X.env) :: starEach es X.env := by rfl) (hpl : (backTo pos (starEach es X.env)).any (·.1) = false := by rfl) : JE X (.Call (.Name "tuple" p) (a :: es) [] pos) (mFn oTuple fr) :=
  je_fnT call_tupF sim_tuple hg hm PyProof.Rows.boot_tuple ha (by decide) (by decide) he hpl
/-- list(x) -/
def oList : OpN
  | [q], h => (asQ q h).bind fun ds => if ds.length ≤ 16777216 then some (.new ds, h) else none
  | _, _ => none
theorem sim_list {K : PySem.W.Frag} : SimN K (fun xs H Q => ∃ p ys, xs = [.ref p] ∧ (SqL K H p ys ∨ SqT K H p ys) ∧ ∀ l, H l = none → Q (.ref l) (upd H l (.lst ys))) oList := by
  intro m h H xs dxs d h' Q S r e q
  unfold oList at e
  split at e
  · obtain ⟨ds, e1, e⟩ := bind_some' e
    obtain ⟨z, e⟩ := ite_some' e
    cases e
    obtain ⟨v, rfl, r1⟩ := inv1 r
    obtain ⟨p, vs, rfl, hq, rv⟩ := asQ_ok S r1 e1
    exact ⟨_, _, rfl, hq, fun l hl => q m _ _ (Le.upd S.cl hl _) (S.upd hl _) (RQ.newN S hl rv z) hl⟩
  · cases e
theorem je_list (hg : Gl X "list") (hm : X.mg "list" = none) (ha : JA X (a :: es) fr) (he : starEach (a :: es) X.env = (false, eval a X.env) :: starEach es X.env := by rfl) (hpl : (backTo pos (starEach es X.env)).any (·.1) = false := by rfl) : JE X (.Call (.Name "list" p) (a :: es) [] pos) (mFn oList fr) :=
  je_fnT call_list_of sim_list hg hm PyProof.Rows.boot_list ha (by decide) (by decide) he hpl
/-! tuple(range(..)) -/
def rgA (f : SA) : AT → AH → Option (Int × Int × AH) := fun τ h => (f τ h).bind fun p => match p.1 with
  | [.val (.int n)] => some (0, n, p.2)
  | [.val (.int i), .val (.int j)] => some (i, j, p.2)
  | _ => none
def rgOkB (a b : Int) : Bool := decide (a.natAbs < 4611686018427387904) && decide (b.natAbs < 4611686018427387904) && decide ((b - a).toNat ≤ 16777216)
def mTupRg (f : SA) : SE := fun τ h => (rgA f τ h).bind fun p => if rgOkB p.1 p.2.1 = true then some (.val (.tup (rngD p.1 (p.2.1 - p.1).toNat)), p.2.2) else none
def mLstRg (f : SA) : SE := fun τ h => (rgA f τ h).bind fun p => if rgOkB p.1 p.2.1 = true then some (.new (rngD p.1 (p.2.1 - p.1).toNat), p.2.2) else none
theorem rgOk_of {a b : Int} (h : rgOkB a b = true) : RgOk a b := by
  unfold rgOkB at h
  rw [Bool.and_eq_true, Bool.and_eq_true] at h
  obtain ⟨⟨h1, h2⟩, h5⟩ := h
  have z := of_decide_eq_true h5
  have z1 := of_decide_eq_true h1
  have z2 := of_decide_eq_true h2
  exact ⟨by rw [two62]; omega, by rw [two62]; omega, by rw [two62]; omega, by rw [two62]; omega, by simpa using z⟩
theorem rv_rg {K : PySem.W.Frag} {m : List Addr} {H : Hp} (a b : Int) : RVs K m H (rgV a b) (rngD a (b - a).toNat) := by
  unfold rgV rngD
  generalize List.range (b - a).toNat = l
  induction l with
  | nil => exact .nil
  | cons x r ih => exact .cons (.int _) ih
theorem pe_tupRgF {te : L2.St → Hp → (Int → Int → Hp → Prop) → Prop} (hc : X.calm = true) (hg : Gl X "tuple") (hm : X.mg "tuple" = none) (he : PRg X e te) (na : starEach [e] X.env = (false, eval e X.env) :: starEach [] X.env) :
    PE X (.Call (.Name "tuple" p) [e] [] pos) (fun σ H Q => te σ H fun a b H1 => RgOk a b ∧ FzN H1 (rgV a b) Q) := by
  refine ⟨fun pins s σ H Q I h => ?_⟩
  refine Call_ (ld_blt I hg hm boot_tuple (PyProof.Rows.callWith_type1 (args_cons (thn (he pins s σ H _ I h) fun x s1 hx => args_nil ?_) na) na))
  obtain ⟨r, a, b, t, u, v, H1, rfl, hr, I1, ok, q⟩ := hx
  obtain ⟨b1, b2, b3, b4, b5⟩ := ok
  refine call_tuple_range (n := (b - a).toNat) (I1.ok.hd hc) hr (small_one b1 b2 b3 b4) (rangeSize_nat a b) b5 fun h' tk acc hk hi => ?_
  exact inv_newT (I1.kept (h' := h') (t' := tk) hk) (vals_rg hi) (by rw [rgV_length, sizeLine_eq]; simpa using b5) q (by simp)
theorem rg1_sem {K : PySem.W.Frag} {Q : Int → Int → Hp → Prop} {σ : L2.St} {H : Hp} (h : ∃ m τ h i j h', RSt K m H σ τ ∧ Sim K m h H ∧ rgA (mCons fa mNil) τ h = some (i, j, h') ∧ ∀ m' H', Le m H m' H' → Sim K m' h' H' → Q i j H') : tRg1 (tE K fa) σ H Q := by
  obtain ⟨m, τ, h, i, j, h', R, S, e, q⟩ := h
  obtain ⟨⟨xs, h1⟩, e1, e⟩ := bind_some' e
  obtain ⟨⟨x, h2⟩, e2, e1⟩ := bind_some' e1
  cases e1
  refine ⟨m, τ, h, x, _, R, S, e2, fun m1 H1 v1 L1 S1 r1 _ => ?_⟩
  dsimp only at e
  split at e
  · rename_i hh
    cases hh
    cases e
    exact ⟨_, inv_int r1, q m1 H1 L1 S1⟩
  · rename_i hh
    cases hh
  · cases e
theorem rg2_sem {K : PySem.W.Frag} {Q : Int → Int → Hp → Prop} {σ : L2.St} {H : Hp} (h : ∃ m τ h i j h', RSt K m H σ τ ∧ Sim K m h H ∧ rgA (mCons fa (mCons fb mNil)) τ h = some (i, j, h') ∧ ∀ m' H', Le m H m' H' → Sim K m' h' H' → Q i j H') : tRg2 (tE K fa) (tE K fb) σ H Q := by
  obtain ⟨m, τ, h, i, j, h', R, S, e, q⟩ := h
  obtain ⟨⟨xs, h1⟩, e1, e⟩ := bind_some' e
  obtain ⟨⟨x, h2⟩, e2, e1⟩ := bind_some' e1
  obtain ⟨⟨ys, h3⟩, e3, e1⟩ := bind_some' e1
  obtain ⟨⟨y, h4⟩, e4, e3⟩ := bind_some' e3
  cases e3
  cases e1
  refine ⟨m, τ, h, x, _, R, S, e2, fun m1 H1 v1 L1 S1 r1 _ => ⟨m1, τ, _, y, _, R.mono S.cl L1.toLw, S1, e4, fun m2 H2 v2 L2 S2 r2 _ => ?_⟩⟩
  dsimp only at e
  split at e
  · rename_i hh
    cases hh
  · rename_i hh
    cases hh
    cases e
    have w := r1.mono S1.cl L2
    exact ⟨_, _, inv_int w, inv_int r2, q m2 H2 (L1.trans L2) S2⟩
  · cases e
theorem je_tupRg1 {p1 q1 : Pos} (hc : X.calm = true) (hg : Gl X "tuple") (hm : X.mg "tuple" = none) (hg2 : Gl X "range") (hm2 : X.mg "range" = none) (ha : JE X a fa) (na : starEach [a] X.env = (false, eval a X.env) :: starEach [] X.env := by rfl)
    (nb : starEach [.Call (.Name "range" p1) [a] [] q1] X.env = (false, eval (.Call (.Name "range" p1) [a] [] q1) X.env) :: starEach [] X.env := by rfl) : JE X (.Call (.Name "tuple" p) [.Call (.Name "range" p1) [a] [] q1] [] pos) (mTupRg (mCons fa mNil)) := by
  refine pe_weak (pe_tupRgF hc hg hm (prg_1 hg2 hm2 ha na) nb) fun σ H Q ⟨m, τ, h, d, h', R, S, e, q⟩ => rg1_sem ?_
  obtain ⟨⟨i, j, h1⟩, e1, e⟩ := bind_some' e
  obtain ⟨c, e⟩ := ite_some' e
  cases e
  exact ⟨m, τ, h, i, j, h1, R, S, e1, fun m1 H1 L1 S1 => ⟨rgOk_of c, fun p o hp hc hd => q m1 _ _ (L1.trans (Le.upd S1.cl hp _)) (S1.upd hp _) (.val (RV.tupN S1 hp hc hd (rv_rg i j))) (nwV _ _ _)⟩⟩
theorem je_tupRg2 {p1 q1 : Pos} (hc : X.calm = true) (hg : Gl X "tuple") (hm : X.mg "tuple" = none) (hg2 : Gl X "range") (hm2 : X.mg "range" = none) (ha : JE X a fa) (hb : JE X b fb) (na : starEach [a, b] X.env = (false, eval a X.env) :: starEach [b] X.env := by rfl)
    (nb2 : starEach [b] X.env = (false, eval b X.env) :: starEach [] X.env := by rfl) (hp : (backTo q1 (starEach [b] X.env)).any (·.1) = false := by rfl)
    (nb : starEach [.Call (.Name "range" p1) [a, b] [] q1] X.env = (false, eval (.Call (.Name "range" p1) [a, b] [] q1) X.env) :: starEach [] X.env := by rfl) : JE X (.Call (.Name "tuple" p) [.Call (.Name "range" p1) [a, b] [] q1] [] pos) (mTupRg (mCons fa (mCons fb mNil))) := by
  refine pe_weak (pe_tupRgF hc hg hm (prg_2 hg2 hm2 ha hb na nb2 hp) nb) fun σ H Q ⟨m, τ, h, d, h', R, S, e, q⟩ => rg2_sem ?_
  obtain ⟨⟨i, j, h1⟩, e1, e⟩ := bind_some' e
  obtain ⟨c, e⟩ := ite_some' e
  cases e
  exact ⟨m, τ, h, i, j, h1, R, S, e1, fun m1 H1 L1 S1 => ⟨rgOk_of c, fun p o hp hc hd => q m1 _ _ (L1.trans (Le.upd S1.cl hp _)) (S1.upd hp _) (.val (RV.tupN S1 hp hc hd (rv_rg i j))) (nwV _ _ _)⟩⟩
end
end Sm
namespace Sm
open PySem PySem.Spec PyProof.Rows L2
section
variable {X : Cx} {a b e o : Expr} {es : List Expr} {fa fb fo : SE} {fr : SA} {p pos : Pos}
/-! ## isinstance(x, T), T a built-in class -/
theorem je_ty {x : Str} {n : String} (hg : Gl X x) (hm : X.mg x = none) (hv : bootBuiltins x = some (.type n)) (hn : x ≠ "__name__" := by decide) (hd : (x == ("__debug__" : Str)) = false := by decide) : JE X (.Name x pos) (mC (.ty n)) :=
  je_const (v := .ty n) (pe_bltn hg hm hv rfl hn hd) fun _ _ => .ty n
def isList (h : AH) (a : Nat) : Bool := match h[a]? with
  | some (.lst _) => true
  | _ => false
def tyN : LV → AH → Option String
  | .new _, _ => some "list"
  | .val .non, _ => some "NoneType"
  | .val (.bl _), _ => some "bool"
  | .val (.int _), _ => some "int"
  | .val (.str _), _ => some "str"
  | .val (.tup _), _ => some "tuple"
  | .val (.ref a), h => match h[a]? with
    | some (.lst _) => some "list"
    | some (.dic _) => some "dict"
    | none => none
  | _, _ => none
def tys : List String := ["list", "NoneType", "bool", "int", "str", "tuple", "dict"]
def isTyB (a b : String) : Bool := a == b || (a == "bool" && b == "int")
theorem kit_tab : (tys.all fun a => tys.all fun b => kitB a b == some (isTyB a b)) = true := by decide +kernel
theorem tyN_mem {q : LV} {h : AH} {n : String} (e : tyN q h = some n) : n ∈ tys := by
  unfold tyN at e
  split at e <;> first | (cases e; decide) | cases e | skip
  · split at e <;> first | (cases e; decide) | cases e
theorem tyN_ok {K : PySem.W.Frag} {m : List Addr} {h : AH} {H : Hp} {v : V} {q : LV} {n : String} (S : Sim K m h H) (r : RQ K m H v q) (e : tyN q h = some n) : TyX K H v (.type n) := by
  cases r with
  | new hn e1 r z => cases e; exact .base (.lst e1)
  | val r =>
    cases r with
    | non => cases e; exact .base .non
    | bl b => cases e; exact .base (.bl b)
    | int i => cases e; exact .base (.int i)
    | str x => cases e; exact .base (.str x)
    | tup f r =>
      cases e
      rcases f with ⟨ob, e1, _, _⟩ | ⟨ob, _, _, e1, e2, _⟩
      · exact .fTuple e1
      · exact .kTuple e1 e2
    | zt f r => cases e
    | fl f r => cases e
    | ty n => cases e
    | ref e1 =>
      unfold tyN at e
      dsimp only at e
      split at e
      · rename_i hh
        cases e
        obtain ⟨vs, e2, _⟩ := S.lst e1 hh
        exact .base (.lst e2)
      · rename_i hh
        cases e
        obtain ⟨vs, e2, _⟩ := S.ob _ _ _ e1 hh
        exact .base (.dK e2)
      · cases e
def oIsi : OpN
  | [q, .val (.ty T)], h => (tyN q h).bind fun n => if tys.contains T = true then some (.val (.bl (isTyB n T)), h) else none
  | _, _ => none
theorem sim_isi {K : PySem.W.Frag} : SimN K (rIsi K) oIsi := by
  intro m h H xs dxs d h' Q S r e q
  unfold oIsi at e
  split at e
  · obtain ⟨n, e1, e⟩ := bind_some' e
    obtain ⟨c, e⟩ := ite_some' e
    cases e
    obtain ⟨v, v', rfl, r1, r2⟩ := inv2 r
    cases r2 with
    | val r2 =>
      cases r2
      refine ⟨v, _, _, _, _, rfl, .ty _, tyN_ok S r1 e1, ?_, q m H _ (Le.refl _ _) S (.val (.bl _)) (nwV _ _ _)⟩
      have w := List.all_eq_true.mp (List.all_eq_true.mp kit_tab n (tyN_mem e1)) _ (List.contains_iff_mem.mp c)
      exact kit_ty (eq_of_beq w)
  · cases e
theorem je_isi (hg : Gl X "isinstance") (hm : X.mg "isinstance" = none) (ha : JA X (a :: es) fr) (he : starEach (a :: es) X.env = (false, eval a X.env) :: starEach es X.env := by rfl) (hpl : (backTo pos (starEach es X.env)).any (·.1) = false := by rfl) : JE X (.Call (.Name "isinstance" p) (a :: es) [] pos) (mFn oIsi fr) :=
  je_fnB call_isi sim_isi hg hm PyProof.Rows.boot_isinstance ha (by decide) (by decide) he hpl

/-! ## max, min, any, all, abs, sum -/
def intsD : List D → Option (List Int)
  | [] => some []
  | .int i :: r => (intsD r).bind fun s => some (i :: s)
  | _ => none
theorem intsD_map : ∀ {ds : List D} {ns : List Int}, intsD ds = some ns → ds = ns.map D.int
  | [], _, h => by cases h; rfl
  | .int i :: r, _, h => by
    obtain ⟨s, e, h⟩ := bind_some' h
    cases h
    rw [intsD_map e]
    rfl
def bls : List D → Option (List Bool)
  | [] => some []
  | .bl i :: r => (bls r).bind fun s => some (i :: s)
  | _ => none
theorem bls_map : ∀ {ds : List D} {ns : List Bool}, bls ds = some ns → ds = ns.map D.bl
  | [], _, h => by cases h; rfl
  | .bl i :: r, _, h => by
    obtain ⟨s, e, h⟩ := bind_some' h
    cases h
    rw [bls_map e]
    rfl
def imax (i j : Int) : Int := if j > i then j else i
def imin (i j : Int) : Int := if j < i then j else i
def maxL : List Int → Int
  | [] => 0
  | [x] => x
  | x :: r => imax x (maxL r)
def minL : List Int → Int
  | [] => 0
  | [x] => x
  | x :: r => imin x (minL r)
theorem maxL_mem : ∀ {ns : List Int}, 0 < ns.length → maxL ns ∈ ns ∧ ∀ y ∈ ns, y ≤ maxL ns
  | [], h => absurd h (by decide)
  | [x], _ => by simp [maxL]
  | x :: y :: r, _ => by
    obtain ⟨h1, h2⟩ := maxL_mem (ns := y :: r) (by simp)
    show imax x (maxL (y :: r)) ∈ _ ∧ ∀ z ∈ x :: y :: r, z ≤ imax x (maxL (y :: r))
    unfold imax
    split
    · exact ⟨List.mem_cons_of_mem _ h1, fun z hz => by
        rcases List.mem_cons.mp hz with e | e
        · omega
        · exact h2 z e⟩
    · exact ⟨List.mem_cons_self, fun z hz => by
        rcases List.mem_cons.mp hz with e | e
        · omega
        · have := h2 z e; omega⟩
theorem minL_mem : ∀ {ns : List Int}, 0 < ns.length → minL ns ∈ ns ∧ ∀ y ∈ ns, minL ns ≤ y
  | [], h => absurd h (by decide)
  | [x], _ => by simp [minL]
  | x :: y :: r, _ => by
    obtain ⟨h1, h2⟩ := minL_mem (ns := y :: r) (by simp)
    show imin x (minL (y :: r)) ∈ _ ∧ ∀ z ∈ x :: y :: r, imin x (minL (y :: r)) ≤ z
    unfold imin
    split
    · exact ⟨List.mem_cons_of_mem _ h1, fun z hz => by
        rcases List.mem_cons.mp hz with e | e
        · omega
        · exact h2 z e⟩
    · exact ⟨List.mem_cons_self, fun z hz => by
        rcases List.mem_cons.mp hz with e | e
        · omega
        · have := h2 z e; omega⟩
def oMax : OpN
  | [.val (.int i), .val (.int j)], h => some (.val (.int (imax i j)), h)
  | [q], h => (asL q h).bind fun ds => (intsD ds).bind fun ns => if 0 < ns.length then some (.val (.int (maxL ns)), h) else none
  | _, _ => none
def oMin : OpN
  | [.val (.int i), .val (.int j)], h => some (.val (.int (imin i j)), h)
  | [q], h => (asL q h).bind fun ds => (intsD ds).bind fun ns => if 0 < ns.length then some (.val (.int (minL ns)), h) else none
  | _, _ => none
theorem sim_max {K : PySem.W.Frag} : SimN K (fun xs H Q => (∃ i j, xs = [.int i, .int j] ∧ Q (.int (if j > i then j else i)) H) ∨ rMax K xs H Q) oMax := by
  intro m h H xs dxs d h' Q S r e q
  unfold oMax at e
  split at e
  · cases e
    obtain ⟨v, v', rfl, r1, r2⟩ := inv2 r
    rw [inv_int r1, inv_int r2]
    exact .inl ⟨_, _, rfl, q m H _ (Le.refl _ _) S (.val (.int _)) (nwV _ _ _)⟩
  · obtain ⟨ds, e1, e⟩ := bind_some' e
    obtain ⟨ns, e2, e⟩ := bind_some' e
    obtain ⟨c, e⟩ := ite_some' e
    cases e
    obtain ⟨v, rfl, r1⟩ := inv1 r
    obtain ⟨pp, vs, rfl, hq, rv⟩ := asL_ok S r1 e1
    rw [intsD_map e2] at rv
    have e3 := rv.ints
    subst e3
    refine .inr ⟨pp, ns, rfl, hq, c, fun mx h1 h2 => ?_⟩
    obtain ⟨g1, g2⟩ := maxL_mem c
    have : mx = maxL ns := by
      have := h2 _ g1
      have := g2 _ h1
      omega
    subst this
    exact q m H _ (Le.refl _ _) S (.val (.int _)) (nwV _ _ _)
  · cases e
theorem sim_min {K : PySem.W.Frag} : SimN K (fun xs H Q => (∃ i j, xs = [.int i, .int j] ∧ Q (.int (if j < i then j else i)) H) ∨ rMin K xs H Q) oMin := by
  intro m h H xs dxs d h' Q S r e q
  unfold oMin at e
  split at e
  · cases e
    obtain ⟨v, v', rfl, r1, r2⟩ := inv2 r
    rw [inv_int r1, inv_int r2]
    exact .inl ⟨_, _, rfl, q m H _ (Le.refl _ _) S (.val (.int _)) (nwV _ _ _)⟩
  · obtain ⟨ds, e1, e⟩ := bind_some' e
    obtain ⟨ns, e2, e⟩ := bind_some' e
    obtain ⟨c, e⟩ := ite_some' e
    cases e
    obtain ⟨v, rfl, r1⟩ := inv1 r
    obtain ⟨pp, vs, rfl, hq, rv⟩ := asL_ok S r1 e1
    rw [intsD_map e2] at rv
    have e3 := rv.ints
    subst e3
    refine .inr ⟨pp, ns, rfl, hq, c, fun mx h1 h2 => ?_⟩
    obtain ⟨g1, g2⟩ := minL_mem c
    have : mx = minL ns := by
      have := h2 _ g1
      have := g2 _ h1
      omega
    subst this
    exact q m H _ (Le.refl _ _) S (.val (.int _)) (nwV _ _ _)
  · cases e
theorem je_max (hc : X.calm = true) (hg : Gl X "max") (hm : X.mg "max" = none) (ha : JA X (a :: es) fr) (he : starEach (a :: es) X.env = (false, eval a X.env) :: starEach es X.env := by rfl) (hpl : (backTo pos (starEach es X.env)).any (·.1) = false := by rfl) : JE X (.Call (.Name "max" p) (a :: es) [] pos) (mFn oMax fr) :=
  je_fnB ((call_max2 hc).or (cr_max hc)) sim_max hg hm (by decide +kernel) ha (by decide) (by decide) he hpl
theorem je_min (hc : X.calm = true) (hg : Gl X "min") (hm : X.mg "min" = none) (ha : JA X (a :: es) fr) (he : starEach (a :: es) X.env = (false, eval a X.env) :: starEach es X.env := by rfl) (hpl : (backTo pos (starEach es X.env)).any (·.1) = false := by rfl) : JE X (.Call (.Name "min" p) (a :: es) [] pos) (mFn oMin fr) :=
  je_fnB ((call_min2 hc).or (cr_min hc)) sim_min hg hm (by decide +kernel) ha (by decide) (by decide) he hpl
def oAny : OpN
  | [q], h => (asL q h).bind fun ds => (bls ds).bind fun bs => some (.val (.bl (bs.any id)), h)
  | _, _ => none
def oAll : OpN
  | [q], h => (asL q h).bind fun ds => (bls ds).bind fun bs => some (.val (.bl (bs.all id)), h)
  | _, _ => none
theorem sim_any {K : PySem.W.Frag} : SimN K (rAny K) oAny := by
  intro m h H xs dxs d h' Q S r e q
  unfold oAny at e
  split at e
  · obtain ⟨ds, e1, e⟩ := bind_some' e
    obtain ⟨ns, e2, e⟩ := bind_some' e
    cases e
    obtain ⟨v, rfl, r1⟩ := inv1 r
    obtain ⟨pp, vs, rfl, hq, rv⟩ := asL_ok S r1 e1
    rw [bls_map e2] at rv
    have e3 := rv.bls
    subst e3
    exact ⟨pp, ns, rfl, hq, q m H _ (Le.refl _ _) S (.val (.bl _)) (nwV _ _ _)⟩
  · cases e
theorem sim_all {K : PySem.W.Frag} : SimN K (rAll K) oAll := by
  intro m h H xs dxs d h' Q S r e q
  unfold oAll at e
  split at e
  · obtain ⟨ds, e1, e⟩ := bind_some' e
    obtain ⟨ns, e2, e⟩ := bind_some' e
    cases e
    obtain ⟨v, rfl, r1⟩ := inv1 r
    obtain ⟨pp, vs, rfl, hq, rv⟩ := asL_ok S r1 e1
    rw [bls_map e2] at rv
    have e3 := rv.bls
    subst e3
    exact ⟨pp, ns, rfl, hq, q m H _ (Le.refl _ _) S (.val (.bl _)) (nwV _ _ _)⟩
  · cases e
theorem je_any (hc : X.calm = true) (hg : Gl X "any") (hm : X.mg "any" = none) (ha : JA X (a :: es) fr) (he : starEach (a :: es) X.env = (false, eval a X.env) :: starEach es X.env := by rfl) (hpl : (backTo pos (starEach es X.env)).any (·.1) = false := by rfl) : JE X (.Call (.Name "any" p) (a :: es) [] pos) (mFn oAny fr) :=
  je_fnB (cr_any hc) sim_any hg hm (by decide +kernel) ha (by decide) (by decide) he hpl
theorem je_all (hc : X.calm = true) (hg : Gl X "all") (hm : X.mg "all" = none) (ha : JA X (a :: es) fr) (he : starEach (a :: es) X.env = (false, eval a X.env) :: starEach es X.env := by rfl) (hpl : (backTo pos (starEach es X.env)).any (·.1) = false := by rfl) : JE X (.Call (.Name "all" p) (a :: es) [] pos) (mFn oAll fr) :=
  je_fnB (cr_all hc) sim_all hg hm (by decide +kernel) ha (by decide) (by decide) he hpl

/-! ## methods of lists and tuples -/
def mMeth (chk : LV → AH → Bool) (op : Op2) (fo fa : SE) : SE := fun τ h => (fo τ h).bind fun p => if chk p.1 p.2 = true then (fa τ p.2).bind fun q => op p.1 q.1 q.2 else none
def isLs (q : LV) (h : AH) : Bool := (asL q h).isSome
theorem meth_sem {K : PySem.W.Frag} {T : String} {chk : LV → AH → Bool} {op : Op2} {r : V → List V → Hp → VK → Prop}
    (hc : ∀ m h H v q, Sim K m h H → RQ K m H v q → chk q h = true → tyV K T v H)
    (hs : SimR K (fun x y H Q => r x [y] H Q) op) (σ : L2.St) (H : Hp) (Q : VK) (h : tE K (mMeth chk op fo fa) σ H Q) : tBM K T r (tE K fo) (tA K (mCons fa mNil)) σ H Q := by
  obtain ⟨m, τ, h, d, h', R, S, e, q⟩ := h
  obtain ⟨⟨x, h1⟩, e1, e⟩ := bind_some' e
  obtain ⟨c, e⟩ := ite_some' e
  obtain ⟨⟨y, h2⟩, e2, e⟩ := bind_some' e
  refine ⟨m, τ, h, x, h1, R, S, e1, fun m1 H1 v1 L1 S1 r1 _ => ⟨hc _ _ _ _ _ S1 r1 c, m1, τ, h1, [y], h2, R.mono S.cl L1.toLw, S1, ?_, fun m2 H2 v2 L2 S2 r2 => ?_⟩⟩
  · unfold mCons mNil
    dsimp only at e2 ⊢
    rw [e2]
    rfl
  · obtain ⟨w, rfl, r3⟩ := inv1 r2
    exact hs m2 h2 H2 v1 w x y d h' Q S2 (r1.mono S1.cl L2) r3 e fun m' H' v L' S' r' n' => q m' H' v (L1.trans (L2.trans L')) S' r' (n'.back S2.cl (L1.trans L2))
theorem isLs_ok {K : PySem.W.Frag} {m : List Addr} {h : AH} {H : Hp} {v : V} {q : LV} (S : Sim K m h H) (r : RQ K m H v q) (c : isLs q h = true) : tyV K "list" v H := by
  obtain ⟨ds, e⟩ := Option.isSome_iff_exists.mp c
  obtain ⟨pp, vs, rfl, hq, rv⟩ := asL_ok S r e
  exact .inl ⟨rfl, vs, hq⟩
def oApp : Op2
  | .val (.ref a), .val d, h => match h[a]? with
    | some (.lst ds) => if ds.length < 16777216 then some (.val .non, h.set a (.lst (ds ++ [d]))) else none
    | _ => none
  | _, _, _ => none
theorem sim_app {K : PySem.W.Frag} : SimR K (fun x y H Q => rAppend x [y] H Q) oApp := by
  intro m h H x y dx dy d h' Q S rx ry e q
  unfold oApp at e
  split at e
  · split at e
    · rename_i hh
      obtain ⟨z, e⟩ := ite_some' e
      cases e
      cases rx with
      | val rx =>
        cases ry with
        | val ry =>
          cases rx with
          | ref e1 =>
            obtain ⟨vs, e2, rv⟩ := S.lst e1 hh
            exact ⟨_, vs, y, rfl, rfl, e2, by rw [rv.length, sizeLine_eq]; exact z, q m _ _ (Le.put S e1 _) (S.putL e1 (rv.append (.one ry))) (.val .non) (nwV _ _ _)⟩
    · cases e
  · cases e
theorem je_append {apos : Pos} (ho : JE X o fo) (ha : JE X a fa)
    (hbase : attributeBase o "append" X.env (eval o X.env) = eval o X.env := by rfl)
    (hfew : ((backTo pos (starEach (a :: []) X.env)).all (fun x => !x.1) && (backToKw pos (keywordEach [] X.env)).all (fun x => x.1.isSome)
      && decide ((a :: []).length + ([] : List Keyword).length + (if ([] : List Keyword).isEmpty then 0 else 1) < 30)) = true := by rfl)
    (hline : (apos.endLine == pos.line) = true := by rfl) (hs : starEach (a :: []) X.env = (false, eval a X.env) :: starEach [] X.env := by rfl) (hplain : (backTo pos (starEach [] X.env)).any (·.1) = false := by rfl) :
    JE X (.Call (.Attribute o "append" apos) [a] [] pos) (mMeth isLs oApp fo fa) :=
  pe_weak (pe_bm PySem.F.plainAttrs_list PySem.F.slot_list_append PySem.F.type_list_append mt_append ho (ja_cons ha ja_nil hs) hbase hfew hline hs hplain) (meth_sem (fun _ _ _ _ _ => isLs_ok) sim_app)
/-! name += e -/
def oIAdd : Op2
  | .val (.int i), .val (.int j), h => some (.val (.int (i + j)), h)
  | .val (.str x), .val (.str y), h => if x.length + y.length ≤ 16777216 then some (.val (.str (x ++ y)), h) else none
  | .val (.ref a), q, h => match h[a]? with
    | some (.lst xs) => (asM q h).bind fun ys => if xs.length + ys.length ≤ 16777216 then some (.val (.ref a), h.set a (.lst (xs ++ ys))) else none
    | _ => none
  | _, _, _ => none
theorem sim_iadd {K : PySem.W.Frag} : SimR K (fun x y H Q => rI0 (fun i j => .int (i + j)) x y H Q ∨ ((∃ i j, x = .str i ∧ y = .str j ∧ i.length + j.length ≤ sizeLine ∧ Q (.str (i ++ j)) H) ∨ rExt2 x y H Q)) oIAdd := by
  intro m h H x y dx dy d h' Q S rx ry e q
  unfold oIAdd at e
  split at e
  · cases e
    exact .inl ⟨_, _, inv_int rx, inv_int ry, q m H _ (Le.refl _ _) S (.val (.int _)) (nwV _ _ _)⟩
  · obtain ⟨z, e⟩ := ite_some' e
    cases e
    exact .inr (.inl ⟨_, _, inv_str rx, inv_str ry, szL z, q m H _ (Le.refl _ _) S (.val (.str _)) (nwV _ _ _)⟩)
  · split at e
    · rename_i hh
      obtain ⟨ys, e2, e⟩ := bind_some' e
      obtain ⟨z, e⟩ := ite_some' e
      cases e
      cases rx with
      | val rx =>
        cases rx with
        | ref e1 =>
          obtain ⟨vs, e3, rv⟩ := S.lst e1 hh
          obtain ⟨p2, ws, rfl, e4, rw'⟩ := asM_ok S ry e2
          exact .inr (.inr ⟨_, _, vs, ws, rfl, rfl, e3, e4, by rw [rv.length, rw'.length]; exact szL z, q m _ _ (Le.put S e1 _) (S.putL e1 (rv.append rw')) (.val (.ref e1)) (nwV _ _ _)⟩)
    · cases e
  · cases e
def mAug (i : Nat) (op : Op2) (fa : SE) : SS := fun τ h => match τ[i]? with
  | some (some d) => (fa τ h).bind fun p => (op (.val d) p.1 p.2).bind fun q => some (.nx (τ.set i (some (lay q.1 q.2).1)) (lay q.1 q.2).2)
  | _ => none
theorem js_aug {i : Nat} {x : Str} {op : Operator} {pos' : Pos} {r : R2} {f : Op2} (hN : X.N.Nodup) (hi : X.N[i]? = some x) (hx : Loc X.env.scope x) (he : JE X e fa) (ho : OpR X (inplaceOp op) r) (hs : SimR X.K r f) (hf : X.fn x = true ∨ X.env.scope.names.lookup x = some .local := by first | exact .inl rfl | exact .inr rfl | assumption) :
    JS X (.AugAssign (.Name x pos') op e pos) (mAug i f fa) := by
  refine ps_weak (ps_aug hN hi hx he ho hf) fun D σ H ⟨m, τ, h, r, R, S, e, q⟩ => ?_
  unfold mAug at e
  split at e
  · rename_i d hd
    obtain ⟨⟨x, h1⟩, e1, e⟩ := bind_some' e
    obtain ⟨⟨y, h2⟩, e2, e⟩ := bind_some' e
    cases e
    obtain ⟨v, hv, rv⟩ := R.2 i d hd
    refine ⟨v, hv, m, τ, h, x, h1, R, S, e1, fun m1 H1 v1 L1 S1 r1 _ => ?_⟩
    refine hs m1 h1 H1 v v1 (.val d) x y h2 _ S1 (.val (rv.mono S.cl L1.toLw)) r1 e2 fun m2 H2 v2 L2 S2 r2 n2 => ?_
    obtain ⟨m3, L3, S3, r3⟩ := hold S2 (L1.trans L2) r2 (n2.back S1.cl L1)
    exact q m3 H2 _ L3 S3 ((R.mono S.cl L3.toLw).set r3 i)
  · cases e
theorem js_iadd {i : Nat} {x : Str} {pos' : Pos} (hN : X.N.Nodup) (hi : X.N[i]? = some x) (hx : Loc X.env.scope x) (he : JE X e fa) (hf : X.fn x = true ∨ X.env.scope.names.lookup x = some .local := by first | exact .inl rfl | exact .inr rfl | assumption) :
    JS X (.AugAssign (.Name x pos') .Add e pos) (mAug i oIAdd fa) := js_aug hN hi hx he (iop_add.or (iop_add_str.or iop_ext)) sim_iadd hf
end
end Sm
namespace Sm
open PySem PySem.Spec PyProof.Rows L2

/-! ## x.index(y) -/
theorem mt_tupIdx {X : Cx} : MtR X "tuple.index" (fun x xs H Q => ∃ (a : Addr) (ys : List V) (y : V) (j : Nat) (z : V), x = V.ref a ∧ xs = [y] ∧ SqT X.K H a ys ∧ flatV y = true ∧ ys.all flatV = true ∧ ys[j]? = some z ∧ eqV z y = true ∧
    (∀ (m : Nat) (z' : V), m < j → ys[m]? = some z' → eqV z' y = false) ∧ Q (.int (j : Nat)) H) := by
  intro pins s σ H x xs v us Q I rx rxs h
  obtain ⟨a, ys, y, j, z, rfl, rfl, hs, fy, fys, hz, hzj, hno, q⟩ := h
  cases rx
  obtain ⟨uy, rfl, ry⟩ := rxs.one
  obtain ⟨ws, rv, ⟨ob, ho, hc, n, hd⟩, hlen⟩ := I.tuple hs
  obtain ⟨cls, dd, dt, sl⟩ := ob
  dsimp only at hc hd
  cases hc
  cases hd
  obtain ⟨u, hu, ru⟩ := rv.get hz
  obtain ⟨hjl, hje⟩ := List.getElem?_eq_some_iff.mp hu
  have hvl := rv.length
  have hj : j < ws.toArray.size := by simpa using hjl
  refine call_meets PySem.F.slot_tuple_index ⟨_, ho, rfl⟩ PySem.F.entry_tuple_index (PySem.F.args_tuple_index_2 _ _) (TI.tuple_indexAt a ws.toArray n dd sl uy (eqU y) j hj ?_ fun k hk hkj => ?_)
    ⟨ho, fun u' hu' => mem_eqAt ry fy rv fys u' (by simpa using hu'), ⟨.int (j : Nat), H, I.tok _, ⟨_, rfl⟩, q⟩⟩
  · have e1 : ws.toArray[j] = u := by simpa using hje
    rw [e1, eqU_of ru (flat_at fys hz)]
    exact hzj
  · have hkl : k < ws.length := by simpa using hk
    have hky : k < ys.length := by omega
    have hy' : ys[k]? = some ys[k] := List.getElem?_eq_getElem hky
    obtain ⟨u2, hu2, ru2⟩ := rv.get hy'
    have e1 : ws.toArray[k] = u2 := by simpa using (List.getElem?_eq_some_iff.mp hu2).2
    rw [e1, eqU_of ru2 (flat_at fys hy')]
    exact hno k _ hkj hy'
/-- a method of a tuple that is known to have no dict -/
def tBT (K : PySem.W.Frag) (r : V → List V → Hp → VK → Prop) (to : TE) (t : TA) : TE := fun σ H Q => to σ H fun x H1 => (∃ p vs, x = .ref p ∧ FzT K H1 p vs) ∧ t σ H1 fun xs H2 => r x xs H2 Q
theorem pe_bmF {X : Cx} {o e : Expr} {es : List Expr} {to : TE} {t : TA} {name : Str} {apos cpos : Pos} {id : String} {r : V → List V → Hp → VK → Prop}
    (pa : PlainAttrs "tuple") (slot : Slot "tuple" name id) (hty : typeOf (.builtin id) = pure (.type "method_descriptor")) (hm : MtR X id r) (ho : PE X o to) (ha : PA X (e :: es) t)
    (hbase : attributeBase o name X.env (eval o X.env) = eval o X.env)
    (hfew : ((backTo cpos (starEach (e :: es) X.env)).all (fun x => !x.1) && (backToKw cpos (keywordEach [] X.env)).all (fun x => x.1.isSome)
      && decide ((e :: es).length + ([] : List Keyword).length + (if ([] : List Keyword).isEmpty then 0 else 1) < 30)) = true)
    (hline : (apos.endLine == cpos.line) = true) (hs : starEach (e :: es) X.env = (false, eval e X.env) :: starEach es X.env) (hplain : (backTo cpos (starEach es X.env)).any (·.1) = false) :
    PE X (.Call (.Attribute o name apos) (e :: es) [] cpos) (tBT X.K r to t) := by
  refine ⟨fun pins s σ H Q I h => ?_⟩
  refine wpAny_Call_method_late hbase hfew hline rfl ?_
  refine thn (ho.run pins s σ H _ I h) fun v s1 ⟨x, H1, I1, r1, ⟨p, vs, ex, hf⟩, q1⟩ => ?_
  subst ex
  cases r1
  have key : ∃ ob, s1.heap.get? p = some ob ∧ ob.cls = .type "tuple" ∧ ob.dict = none := by
    rcases hf with ⟨ob, e1, e2, e3⟩ | ⟨ob, its, n, e1, e2, e3, _⟩
    · exact ⟨ob, (I1.hok _ _ e1).1, e2, e3⟩
    · exact ⟨ob, I1.kIn _ _ e1, e2, e3⟩
  obtain ⟨ob, e1, e2, e3⟩ := key
  refine ⟨"tuple", id, pa, slot, hty, ⟨ob, e1, e2⟩, fun b eb => ?_, ?_⟩
  · cases eb
    exact ⟨ob, e1, e3⟩
  · have hA := ha.run cpos pins s1 σ H1 _ I1 q1
    rw [hs] at hA ⊢
    refine Calls.callWith_builtin (by show (false || (backTo cpos (starEach es X.env)).any (·.1)) = false; rw [hplain]; rfl) ?_
    refine Calls.evalArgs_plain (thn hA fun us s2 ⟨ws, H2, I2, r2, q2⟩ => ?_)
    exact hm pins s2 σ H2 (.ref p) ws (.ref p) us Q I2 rfl r2 q2
theorem pe_or {X : Cx} {e : Expr} {t t' : TE} (h : PE X e t) (h' : PE X e t') : PE X e (fun σ H Q => t σ H Q ∨ t' σ H Q) := ⟨fun pins s σ H Q I q => q.elim (h.run pins s σ H Q I) (h'.run pins s σ H Q I)⟩
/-- the first place -/
def idxD (d : D) : List D → Option Nat
  | [] => none
  | x :: r => if x = d then some 0 else (idxD d r).map (· + 1)
theorem idxD_ok {d : D} : ∀ {ds : List D} {j : Nat}, idxD d ds = some j → ds[j]? = some d ∧ ∀ k x, k < j → ds[k]? = some x → x ≠ d
  | [], _, h => by cases h
  | x :: r, j, h => by
    unfold idxD at h
    split at h
    · rename_i e
      cases h
      exact ⟨by rw [e]; rfl, fun k _ hk => absurd hk (Nat.not_lt_zero k)⟩
    · rename_i e
      cases q : idxD d r with
      | none => rw [q] at h; cases h
      | some i =>
        rw [q] at h
        cases h
        obtain ⟨h1, h2⟩ := idxD_ok q
        refine ⟨by simpa using h1, fun k y hk hy => ?_⟩
        cases k with
        | zero => simp at hy; rw [← hy]; exact e
        | succ k => exact h2 k y (Nat.lt_of_succ_lt_succ hk) (by simpa using hy)
def oIdx : Op2
  | q, .val d, h => (asQ q h).bind fun ds => if (d.flat && ds.all D.flat) = true then (idxD d ds).bind fun j => some (.val (.int (j : Nat)), h) else none
  | _, _, _ => none
def isTp (q : LV) (_ : AH) : Bool := match q with
  | .val (.tup _) => true
  | _ => false
theorem idx_ok {K : PySem.W.Frag} {m : List Addr} {H : Hp} {vs : List V} {ds : List D} {y : V} {d : D} {j : Nat} (r : RVs K m H vs ds) (ry : RV K m H y d) (c : (d.flat && ds.all D.flat) = true) (e : idxD d ds = some j) :
    ∃ z, flatV y = true ∧ vs.all flatV = true ∧ vs[j]? = some z ∧ eqV z y = true ∧ ∀ (k : Nat) (z' : V), k < j → vs[k]? = some z' → eqV z' y = false := by
  rw [Bool.and_eq_true] at c
  obtain ⟨h1, h2⟩ := idxD_ok e
  obtain ⟨z, hz, rz⟩ := r.get h1
  refine ⟨z, ry.flat c.1, r.flat c.2, hz, by rw [rz.eqf ry c.1 c.1]; simp, fun k z' hk hz' => ?_⟩
  have hl : k < ds.length := by rw [← r.length]; exact (List.getElem?_eq_some_iff.mp hz').1
  obtain ⟨z2, hz2, rz2⟩ := r.get (List.getElem?_eq_getElem hl)
  rw [hz'] at hz2
  cases hz2
  rw [rz2.eqf ry (List.all_eq_true.mp c.2 _ (List.getElem_mem hl)) c.1]
  exact decide_eq_false (h2 k _ hk (List.getElem?_eq_getElem hl))
section
variable {X : Cx} {a b e o : Expr} {es : List Expr} {fa fb fo : SE} {fr : SA} {p pos : Pos}
def mIdx (fo fa : SE) : SE := mMeth (fun q h => isTp q h || isLs q h) oIdx fo fa
theorem je_index {apos : Pos} (ho : JE X o fo) (ha : JE X a fa)
    (hbase : attributeBase o "index" X.env (eval o X.env) = eval o X.env := by rfl)
    (hfew : ((backTo pos (starEach (a :: []) X.env)).all (fun x => !x.1) && (backToKw pos (keywordEach [] X.env)).all (fun x => x.1.isSome)
      && decide ((a :: []).length + ([] : List Keyword).length + (if ([] : List Keyword).isEmpty then 0 else 1) < 30)) = true := by rfl)
    (hline : (apos.endLine == pos.line) = true := by rfl) (hs : starEach (a :: []) X.env = (false, eval a X.env) :: starEach [] X.env := by rfl) (hplain : (backTo pos (starEach [] X.env)).any (·.1) = false := by rfl) :
    JE X (.Call (.Attribute o "index" apos) [a] [] pos) (mIdx fo fa) := by
  refine pe_weak (pe_or (pe_bm PySem.F.plainAttrs_list PySem.F.slot_list_index PySem.F.type_list_index mt_index ho (ja_cons ha ja_nil hs) hbase hfew hline hs hplain)
    (pe_bmF PySem.F.plainAttrs_tuple PySem.F.slot_tuple_index PySem.F.type_tuple_index mt_tupIdx ho (ja_cons ha ja_nil hs) hbase hfew hline hs hplain)) fun σ H Q ⟨m, τ, h, d, h', R, S, e, q⟩ => ?_
  obtain ⟨⟨x, h1⟩, e1, e⟩ := bind_some' e
  obtain ⟨c, e⟩ := ite_some' e
  obtain ⟨⟨y, h2⟩, e2, e⟩ := bind_some' e
  dsimp only at e c e2
  have argR : mCons fa mNil τ h1 = some ([y], h2) := by
    unfold mCons mNil
    rw [e2]
    rfl
  unfold oIdx at e
  split at e
  · obtain ⟨ds, e3, e⟩ := bind_some' e
    obtain ⟨c2, e⟩ := ite_some' e
    obtain ⟨j, e4, e⟩ := bind_some' e
    cases e
    by_cases ht : isTp x h1 = true
    · refine .inr ⟨m, τ, h, x, h1, R, S, e1, fun m1 H1 v1 L1 S1 r1 _ => ⟨?_, m1, τ, h1, [.val _], h', R.mono S.cl L1.toLw, S1, argR, fun m2 H2 v2 L2 S2 r2 => ?_⟩⟩
      · unfold isTp at ht
        split at ht
        · cases r1 with
          | val r1 =>
            cases r1 with
            | tup f r => exact ⟨_, _, rfl, f⟩
        · cases ht
      · obtain ⟨w, rfl, r3⟩ := inv1 r2
        have r1' := r1.mono S1.cl L2
        unfold isTp at ht
        split at ht
        · cases e3
          cases r1' with
          | val r1' =>
            cases r1' with
            | tup f r =>
              cases r3 with
              | val r3 =>
                obtain ⟨z, k1, k2, k3, k4, k5⟩ := idx_ok r r3 c2 e4
                exact ⟨_, _, _, j, z, rfl, rfl, f.sq, k1, k2, k3, k4, k5, q m2 H2 _ (L1.trans L2) S2 (.val (.int _)) (nwV _ _ _)⟩
        · cases ht
    · have hl : isLs x h1 = true := by
        rw [Bool.or_eq_true] at c
        rcases c with c | c
        · exact absurd c ht
        · exact c
      refine .inl ⟨m, τ, h, x, h1, R, S, e1, fun m1 H1 v1 L1 S1 r1 _ => ⟨isLs_ok S1 r1 hl, m1, τ, h1, [.val _], h', R.mono S.cl L1.toLw, S1, argR, fun m2 H2 v2 L2 S2 r2 => ?_⟩⟩
      obtain ⟨w, rfl, r3⟩ := inv1 r2
      have r1' := r1.mono S1.cl L2
      have e5 : asL x h' = some ds := by
        unfold asQ at e3
        split at e3
        · exact absurd rfl ht
        · unfold isLs asL asM at hl
          cases hl
        · exact e3
      obtain ⟨pp, vs, rfl, hq, rv⟩ := asL_ok S2 r1' e5
      cases r3 with
      | val r3 =>
        obtain ⟨z, k1, k2, k3, k4, k5⟩ := idx_ok rv r3 c2 e4
        exact ⟨_, _, _, j, z, rfl, rfl, hq, k1, k2, k3, k4, k5, q m2 H2 _ (L1.trans L2) S2 (.val (.int _)) (nwV _ _ _)⟩
  · cases e
end
end Sm
namespace Sm
open PySem PySem.Spec PyProof.Rows L2

/-! ## zip of two, lists or tuples in any mix -/
def SqX (K : PySem.W.Frag) (H : Hp) (k : Bool) (a : Addr) (xs : List V) : Prop := match k with
  | true => SqL K H a xs
  | false => SqT K H a xs
def IterX (h : Heap) (k : Bool) (it a : Addr) (i : Nat) : Prop := match k with
  | true => h.IsListIter it a i
  | false => h.IsTupleIter it a i
def SeqX (h : Heap) (k : Bool) (a : Addr) (us : List Value) : Prop := match k with
  | true => h.IsList a us.toArray
  | false => h.IsTuple a us.toArray
theorem seqX {X : Cx} {pins : List (Addr × Obj)} {σ : L2.St} {H : Hp} {s : Shared} {k : Bool} {a : Addr} {xs : List V} (I : Inv X pins σ H s) (h : SqX X.K H k a xs) : ∃ us, Vals xs us ∧ SeqX s.heap k a us := by
  cases k with
  | true =>
    obtain ⟨us, r, pl, _⟩ := I.list h
    exact ⟨us, r, pl.isList⟩
  | false =>
    obtain ⟨us, r, pl, _⟩ := I.tuple h
    exact ⟨us, r, pl⟩
theorem seqX_inj {X : Cx} {pins : List (Addr × Obj)} {σ : L2.St} {H : Hp} {s : Shared} {k : Bool} {a : Addr} {xs ys : List V} (I : Inv X pins σ H s) (h : SqX X.K H k a xs) (h' : SqX X.K H k a ys) : xs = ys := by
  cases k with
  | true => exact I.list_inj h h'
  | false => exact I.tuple_inj h h'
theorem IterX.at {h h' : Heap} {k : Bool} {it a : Addr} {i : Nat} (x : IterX h k it a i) (e : ∀ o, h.get? it = some o → h'.get? it = some o) : IterX h' k it a i := by
  cases k with
  | true => exact Heap.IsListIter.at x e
  | false => exact Heap.IsTupleIter.at x e
theorem IterX.obj {h : Heap} {k : Bool} {it a : Addr} {i : Nat} (x : IterX h k it a i) : ∃ o, h.get? it = some o ∧ ∀ v, o.data ≠ .cell v := by
  cases k with
  | true =>
    obtain ⟨o, e, _, d⟩ := x
    exact ⟨o, e, fun v q => by rw [d] at q; cases q⟩
  | false =>
    obtain ⟨o, e, _, d⟩ := x
    exact ⟨o, e, fun v q => by rw [d] at q; cases q⟩
theorem SeqX.lt {h : Heap} {k : Bool} {a : Addr} {us : List Value} (x : SeqX h k a us) : a < h.objs.size := by
  cases k with
  | true =>
    obtain ⟨o, e, _⟩ := x
    exact Heap.lt_size e
  | false =>
    obtain ⟨o, e, _⟩ := x
    exact Heap.lt_size e
theorem drawsX {prog : Program} {w : World} {A : Around} (hh : A.handled = none) (k : Bool) (it a : Addr) (hne : a ≠ it) (us : List Value) :
    Draws prog w A it [it, a] us.length (fun i v => us[i]? = some v) (fun i h => IterX h k it a i ∧ SeqX h k a us) := by
  cases k with
  | true =>
    have q := Draws.list (prog := prog) (w := w) hh it a hne us.toArray
    simp only [List.size_toArray, List.getElem?_toArray] at q
    exact q
  | false =>
    have q := Draws.tuple (prog := prog) (w := w) hh it a hne us.toArray
    simp only [List.size_toArray, List.getElem?_toArray] at q
    exact q
def ItzM (K : PySem.W.Frag) (k1 k2 : Bool) (a b : Addr) : It :=
  ⟨fun i H => ∃ (xs ys : List V) (x y : V), SqX K H k1 a xs ∧ SqX K H k2 b ys ∧ xs[i]? = some x ∧ ys[i]? = some y,
    fun i H v H' => ∃ T x y, v = .ref T ∧ H T = none ∧ H' = upd H T (.tup [x, y]) ∧ (∀ xs, SqX K H k1 a xs → xs[i]? = some x) ∧ ∀ ys, SqX K H k2 b ys → ys[i]? = some y,
    fun i H => ∃ xs ys : List V, SqX K H k1 a xs ∧ SqX K H k2 b ys ∧ i ≤ xs.length ∧ i ≤ ys.length ∧ (i = xs.length ∨ i = ys.length)⟩
structure Ap (z TI TO i1 i2 a b : Addr) : Prop where
  sep : ZipSep2 z TI TO i1 i2 [i1, a] [i2, b]
  a1 : a ≠ i1
  b2 : b ≠ i2
  TIi1 : i1 ≠ TI
  z1 : i1 ≠ z
  z2 : i2 ≠ z
theorem turn_zipM {P : Program} {w : World} {K : PySem.W.Frag} {elts : List Expr} {kk : Nat} {tpos : Pos} {k1 k2 : Bool} {a b z TI TO i1 i2 : Addr} (D : Ap z TI TO i1 i2 a b) :
    Turn P w K (.Tuple elts kk tpos) (ItzM K k1 k2 a b) [z, TI, TO, i1, i2] z (fun i h => IsZip h z TI TO .none ∧ IsTupOf2 h TI (.ref i1) (.ref i2) ∧ (∃ x y, IsTupOf2 h TO x y) ∧ IterX h k1 i1 a i ∧ IterX h k2 i2 b i) where
  mem := List.mem_cons_self
  obj := fun i h st c hc => by
    obtain ⟨hz, hTI, ⟨x, y, hTO⟩, j1, j2⟩ := st
    have five : c = z ∨ c = TI ∨ c = TO ∨ c = i1 ∨ c = i2 := by simpa using hc
    rcases five with q | q | q | q | q
    · rw [q]
      exact ⟨_, hz, fun v q => nomatch q⟩
    · rw [q]
      exact ⟨_, hTI, fun v q => nomatch q⟩
    · rw [q]
      exact ⟨_, hTO, fun v q => nomatch q⟩
    · rw [q]
      exact j1.obj
    · rw [q]
      exact j2.obj
  keep := fun i h h' st k => by
    obtain ⟨hz, hTI, ⟨x, y, hTO⟩, j1, j2⟩ := st
    refine ⟨k z (by simp) _ hz, k TI (by simp) _ hTI, ⟨x, y, k TO (by simp) _ hTO⟩, ?_, ?_⟩
    · exact j1.at fun o q => k i1 (by simp) o q
    · exact j2.at fun o q => k i2 (by simp) o q
  item := by
    intro X hP hw hK hc i pins s σ H E I hf st hg
    subst hP hw hK
    obtain ⟨hz, hTI, ⟨x0, y0, hTO⟩, j1, j2⟩ := st
    obtain ⟨xs, ys, x, y, hqx, hqy, hx, hy⟩ := hg
    obtain ⟨us, rv, p1⟩ := seqX I hqx
    obtain ⟨ws, rv2, p2⟩ := seqX I hqy
    obtain ⟨u, hu, ru⟩ := rv.get hx
    obtain ⟨u2, hu2, ru2⟩ := rv2.get hy
    have hd : X.A.in1.handled = none := I.ok.hd hc
    refine wpAny_pyNext_zipD2_item D.sep (drawsX hd k1 i1 a D.a1 us) (drawsX hd k2 i2 b D.b2 ws) hz hTI hTO ⟨j1, p1⟩ ⟨j2, p2⟩ (List.getElem?_eq_some_iff.mp hu).1 (List.getElem?_eq_some_iff.mp hu2).1 fun x1 x2 h' tk e1 e2 z' TO' g1 g2 hT hsz hk => ?_
    rw [hu] at e1
    rw [hu2] at e2
    cases e1
    cases e2
    have hzl : z < s.heap.objs.size := Heap.lt_size hz
    refine ⟨_, rfl, wpAny_letOwnedTupleGo_zip (s := { s with heap := h', toks := tk }) z' fun h'' z'' sb => ?_⟩
    have all : ∀ (c : Addr) (o : Obj), c ∉ [z, TI, TO, i1, i2] → s.heap.get? c = some o → h''.get? c = some o := fun c o hb q => by
      have n1 : c ≠ z := fun q' => hb (by simp [q'])
      exact (sb.2 c n1).trans (hk c o n1 (fun q' => hb (by simp [q'])) (fun q' => hb (by simp [q'])) (fun q' => hb (by simp [q'])) q)
    have hT2 : h''.get? s.heap.objs.size = some { cls := .type "tuple", data := .seq #[u, u2] } := (sb.2 _ (Nat.ne_of_gt hzl)).trans hT
    have nw : ObjOk X.prog X.w (upd H s.heap.objs.size (.tup [x, y])) h'' s.heap.objs.size (.tup [x, y]) := by
      refine ⟨(show 2 ≤ sizeLine by decide), [u, u2], .cons ru (.cons ru2 .nil), ?_⟩
      exact ⟨_, hT2, rfl, _, rfl⟩
    have I1 : Inv X pins σ (upd H s.heap.objs.size (.tup [x, y])) { s with heap := h'', toks := tk } := I.turnedNew (t' := tk) (ch := [z, TI, TO, i1, i2]) all hf (Nat.le_refl _) nw
    refine ⟨.ref s.heap.objs.size, _, I1, rfl, ⟨_, x, y, rfl, I.hok.fresh (Nat.le_refl _), rfl, fun l hl => by rw [seqX_inj I hl hqx]; exact hx, fun l hl => by rw [seqX_inj I hl hqy]; exact hy⟩, ?_, fun c hcm => ?_⟩
    · refine ⟨z'', (sb.2 _ D.sep.TIz).trans (hk _ _ D.sep.TIz D.sep.TITO D.sep.TIi1 D.sep.TIi2 hTI), ⟨u, u2, (sb.2 _ D.sep.TOz).trans TO'⟩, ?_, ?_⟩
      · exact g1.1.at fun o q => (sb.2 _ D.z1).trans q
      · exact g2.1.at fun o q => (sb.2 _ D.z2).trans q
    · have hlt : c < s.heap.objs.size := by
        have five : c = z ∨ c = TI ∨ c = TO ∨ c = i1 ∨ c = i2 := by simpa using hcm
        rcases five with q | q | q | q | q
        · rw [q]; exact hzl
        · rw [q]; exact Heap.lt_size hTI
        · rw [q]; exact Heap.lt_size hTO
        · obtain ⟨_, e1, _⟩ := j1.obj
          rw [q]; exact Heap.lt_size e1
        · obtain ⟨_, e2, _⟩ := j2.obj
          rw [q]; exact Heap.lt_size e2
      rw [upd_ne (Nat.ne_of_lt hlt)]
      exact (hf c hcm).1
  done := by
    intro X hP hw hK hc i pins s σ H E I hf st hg
    subst hP hw hK
    obtain ⟨hz, hTI, ⟨x0, y0, hTO⟩, j1, j2⟩ := st
    obtain ⟨xs, ys, hqx, hqy, l1, l2, hend⟩ := hg
    obtain ⟨us, rv, p1⟩ := seqX I hqx
    obtain ⟨ws, rv2, p2⟩ := seqX I hqy
    have q1 := rv.length
    have q2 := rv2.length
    have hd : X.A.in1.handled = none := I.ok.hd hc
    refine wpAny_pyNext_zipD2_end D.sep (drawsX hd k1 i1 a D.a1 us) (drawsX hd k2 i2 b D.b2 ws) hz hTI hTO ⟨j1, p1⟩ ⟨j2, p2⟩ (by rw [← q1]; exact l1) (by rw [← q2]; exact l2) (by rw [← q1, ← q2]; exact hend) fun h' tk hk => ?_
    refine ⟨rfl, I.turnedL (t' := tk) (ch := [z, TI, TO, i1, i2]) (fun c o hb q => ?_) hf⟩
    exact hk c o (fun q' => hb (by simp [q'])) (fun q' => hb (by simp [q'])) (fun q' => hb (by simp [q'])) (fun q' => hb (by simp [q'])) q
  self := fun A i s Q E st h => wpAny_pyIter_zip st.1 h
def iZipM (K : PySem.W.Frag) (ta : TA) : TI := fun σ H R => ta σ H fun vs H1 => ∃ a b xs ys k1 k2, vs = [.ref a, .ref b] ∧ SqX K H1 k1 a xs ∧ SqX K H1 k2 b ys ∧ R (ItzM K k1 k2 a b) H1
theorem nin2 {x y a : Nat} (h1 : x ≠ y) (h2 : x ≠ a) : x ∉ [y, a] := fun h => by
  rcases List.mem_cons.mp h with z | z
  · exact h1 z
  · exact h2 (List.mem_singleton.mp z)
theorem ap_new (n a b : Nat) (ha : a < n) (hb : b < n) : Ap (n + 4) (n + 2) (n + 3) n (n + 1) a b := by
  have e1 : n + 2 ≠ n + 4 := by omega
  have e2 : n + 3 ≠ n + 4 := by omega
  have e3 : n + 2 ≠ n + 3 := by omega
  have e4 : n + 2 ≠ n := by omega
  have e5 : n + 4 ≠ n := by omega
  have e6 : n + 4 ≠ a := by omega
  have e7 : n + 3 ≠ n := by omega
  have e8 : n + 3 ≠ a := by omega
  have e9 : n + 2 ≠ n + 1 := by omega
  have f1 : n + 4 ≠ n + 1 := by omega
  have f2 : n + 4 ≠ b := by omega
  have f3 : n + 3 ≠ n + 1 := by omega
  have f4 : n + 3 ≠ b := by omega
  have f5 : n ≠ n + 1 := by omega
  have f6 : n ≠ b := by omega
  have f7 : n + 1 ≠ a := by omega
  have f8 : a ≠ n := by omega
  have f9 : b ≠ n + 1 := by omega
  exact ⟨⟨e1, e2, e3, e4, List.mem_cons_self, nin2 e5 e6, nin2 e7 e8, e9, List.mem_cons_self, nin2 f1 f2, nin2 f3 f4, nin2 f5 f6, nin2 f5.symm f7⟩, f8, f9, e4.symm, e5.symm, f1.symm⟩
/-- what zip begins with -/
def begX (k : Bool) (a : Addr) : Obj := match k with
  | true => { cls := .type "list_iterator", data := .fields #[.ref a, .int 0 0] }
  | false => { cls := .type "tuple_iterator", data := .fields #[.ref a, .int 0 0] }
theorem beginsX (k : Bool) (a : Addr) (us : List Value) : Begins (.ref a) (begX k a) fun h => SeqX h k a us := by
  cases k with
  | true => exact begins_list a us.toArray
  | false => exact begins_tuple a us.toArray
theorem iterX_new {h : Heap} {k : Bool} {it a : Addr} (e : h.get? it = some (begX k a)) : IterX h k it a 0 := by
  cases k with
  | true => exact ⟨_, e, rfl, rfl⟩
  | false => exact ⟨_, e, rfl, rfl⟩
theorem pi_zipM {X : Cx} {e e2 : Expr} {ta : TA} {p pos tpos : Pos} {elts : List Expr} {kk : Nat} (hg : Gl X "zip") (hm : X.mg "zip" = none) (ha : PA X [e, e2] ta)
    (hs : starEach [e, e2] X.env = (false, eval e X.env) :: starEach [e2] X.env) (hpl : (backTo pos (starEach [e2] X.env)).any (·.1) = false) :
    PI X (.Tuple elts kk tpos) (.Call (.Name "zip" p) [e, e2] [] pos) (iZipM X.K ta) := by
  refine ⟨fun pins s σ H R I h => ?_⟩
  refine Call_ (ld_blt I hg hm PyProof.Rows.boot_zip (PyProof.Rows.callWith_type1 (thn (ha.run pos pins s σ H _ I h) fun us s1 hq => ?_) hs hpl))
  obtain ⟨vs, H1, I1, r1, a, b, xs, ys, k1, k2, rfl, hqx, hqy, q⟩ := hq
  obtain ⟨u1, u2, rfl, w1, w2⟩ := r1.two
  cases w1
  cases w2
  obtain ⟨us, rv, p1⟩ := seqX I1 hqx
  obtain ⟨ws, rv2, p2⟩ := seqX I1 hqy
  refine zip_begins2 (beginsX k1 a us) (beginsX k2 b ws) p1 p2 fun h' hz hTI hTO o1 o2 hsz hk => wpAny_pyIter_zip hz ?_
  have I2 : Inv X pins σ H1 { s1 with heap := h' } := I1.kept (t' := s1.toks) hk
  refine ⟨s1.heap.objs.size + 4, [s1.heap.objs.size + 4, s1.heap.objs.size + 2, s1.heap.objs.size + 3, s1.heap.objs.size, s1.heap.objs.size + 1], _, _, H1, rfl, I2, turn_zipM (ap_new s1.heap.objs.size a b p1.lt p2.lt), ⟨hz, hTI, ⟨_, _, hTO⟩, iterX_new o1, iterX_new o2⟩, fun c hcm => ?_, q⟩
  have hle : s1.heap.objs.size ≤ c := by
    have five : c = s1.heap.objs.size + 4 ∨ c = s1.heap.objs.size + 2 ∨ c = s1.heap.objs.size + 3 ∨ c = s1.heap.objs.size ∨ c = s1.heap.objs.size + 1 := by simpa using hcm
    rcases five with z | z | z | z | z <;> rw [z] <;> first | exact Nat.le_refl _ | exact Nat.le_add_right _ _
  exact I1.fpOk hle (I1.hok.fresh hle)

/-- one of two that are walked -/
inductive SrcX (K : PySem.W.Frag) (m : List Addr) (H : Hp) (h : AH) (v : V) (q : LV) (it : ItD) : Prop
  | mk (k : Bool) (p : Addr) (us : List V) : v = .ref p → SqX K H k p us → RVs K m H us it.items →
      (∀ m' h' H', Le m H m' H' → Sim K m' h' H' → grdOk it.grd h' = true → ∃ us, SqX K H' k p us ∧ RVs K m' H' us it.items) → SrcX K m H h v q it
theorem srcX_of {K : PySem.W.Frag} {m : List Addr} {h : AH} {H : Hp} (S : Sim K m h H) {v : V} {q : LV} {it : ItD} (r : RQ K m H v q) (e : iterOf q h = some it) : SrcX K m H h v q it := by
  rcases srcL_of S r e with s | ⟨p, us, rfl, hq, rr, hg, _⟩
  · obtain ⟨p, rfl, ⟨us, hq, rr⟩, st⟩ := s.stays S
    exact .mk true p us rfl hq rr st
  · exact .mk false p us rfl hq rr fun m' h' H' L' S' _ => ⟨us, sqT_mono S.cl L'.toLw hq, rr.mono S.cl L'.toLw⟩
def zipD : List D → List D → List D
  | x :: xs, y :: ys => .zt [x, y] :: zipD xs ys
  | _, _ => []
theorem zipD_get : ∀ {xs ys : List D} {i : Nat} {d : D}, (zipD xs ys)[i]? = some d → ∃ x y, xs[i]? = some x ∧ ys[i]? = some y ∧ d = .zt [x, y]
  | x :: xs, y :: ys, 0, d, h => ⟨x, y, rfl, rfl, by simpa [zipD] using h.symm⟩
  | x :: xs, y :: ys, i + 1, d, h => by
    obtain ⟨a, b, h1, h2, h3⟩ := zipD_get (xs := xs) (ys := ys) (i := i) (d := d) (by simpa [zipD] using h)
    exact ⟨a, b, by simpa using h1, by simpa using h2, h3⟩
  | [], _, i, d, h => by simp [zipD] at h
  | _ :: _, [], i, d, h => by simp [zipD] at h
theorem zipD_len : ∀ (xs ys : List D), (zipD xs ys).length = min xs.length ys.length
  | x :: xs, y :: ys => by simp [zipD, zipD_len xs ys]
  | [], ys => by simp [zipD]
  | x :: xs, [] => by simp [zipD]
def zipOf : List LV → AH → Option ItD
  | [p, q], h => (iterOf p h).bind fun a => (iterOf q h).bind fun b => some ⟨zipD a.items b.items, a.grd ++ b.grd⟩
  | _, _ => none
def mZip (fr : SA) : SI := fun τ h => (fr τ h).bind fun p => (zipOf p.1 p.2).bind fun it => some (it, p.2)
theorem grd_app {g1 g2 : List (Nat × List D)} {h : AH} (G : grdOk (g1 ++ g2) h = true) : grdOk g1 h = true ∧ grdOk g2 h = true := by
  unfold grdOk at *
  rw [List.all_append, Bool.and_eq_true] at G
  exact G
theorem ji_zip {X : Cx} {e e2 : Expr} {fr : SA} {p pos tpos : Pos} {elts : List Expr} {kk : Nat} (hg : Gl X "zip") (hm : X.mg "zip" = none) (ha : JA X [e, e2] fr)
    (hs : starEach [e, e2] X.env = (false, eval e X.env) :: starEach [e2] X.env := by rfl) (hpl : (backTo pos (starEach [e2] X.env)).any (·.1) = false := by rfl) :
    JI X (.Tuple elts kk tpos) (.Call (.Name "zip" p) [e, e2] [] pos) (mZip fr) := by
  refine pi_weak (pi_zipM hg hm ha hs hpl) fun σ H R ⟨m, τ, h, it, h', Rs, S, e, q⟩ => ?_
  obtain ⟨⟨x, h1⟩, e1, e⟩ := bind_some' e
  obtain ⟨it', e2, e⟩ := bind_some' e
  cases e
  refine ⟨m, τ, h, x, h1, Rs, S, e1, fun m1 H1 v1 L1 S1 r1 => ?_⟩
  dsimp only at e2
  unfold zipOf at e2
  split at e2
  · obtain ⟨A, ea, e2⟩ := bind_some' e2
    obtain ⟨B, eb, e2⟩ := bind_some' e2
    cases e2
    obtain ⟨v, v', rfl, ra, rb⟩ := inv2 r1
    obtain ⟨k1, pa, us, rfl, qa, wa, sa⟩ := srcX_of S1 ra ea
    obtain ⟨k2, pb, ws, rfl, qb, wb, sb⟩ := srcX_of S1 rb eb
    refine ⟨pa, pb, us, ws, k1, k2, rfl, qa, qb, q m1 H1 _ L1 S1 fun i m2 h2 H2 L2 S2 G => ?_⟩
    obtain ⟨G1, G2⟩ := grd_app G
    obtain ⟨us2, qa2, wa2⟩ := sa m2 h2 H2 L2 S2 G1
    obtain ⟨ws2, qb2, wb2⟩ := sb m2 h2 H2 L2 S2 G2
    refine ⟨fun d hd => ?_, fun hi => ?_⟩
    · obtain ⟨x, y, hx, hy, rfl⟩ := zipD_get hd
      obtain ⟨vx, gx, rx⟩ := wa2.get hx
      obtain ⟨vy, gy, ry⟩ := wb2.get hy
      refine ⟨⟨us2, ws2, vx, vy, qa2, qb2, gx, gy⟩, fun v H3 hy3 => ?_⟩
      obtain ⟨T, x3, y3, rfl, hT, rfl, fx, fy⟩ := hy3
      have z1 := fx us2 qa2
      have z2 := fy ws2 qb2
      rw [gx] at z1
      rw [gy] at z2
      cases z1
      cases z2
      exact ⟨Le.upd S2.cl hT _, S2.upd hT _, RV.ztN S2 hT (.cons rx (.one ry))⟩
    · dsimp only at hi
      rw [zipD_len] at hi
      have z1 := wa2.length
      have z2 := wb2.length
      exact ⟨us2, ws2, qa2, qb2, by omega, by omega, by omega⟩
  · cases e2
end Sm
namespace Sm
open PySem PySem.Spec PyProof.Rows L2
def b_datum_cells : SS := (mSeq (mIfS (mB (mBin oEq (mBin oIx (mVar 0) (mC (.int 0))) (mC (.str ("number" : Str))))) (mRet (mLst (mCons (mTup (mCons (mBin oIx (mVar 0) (mC (.int 1))) (mCons (mC (.int 0)) (mCons (mTupRg (mCons (mBin oIx (mVar 0) (mC (.int 2))) (mCons (mBin oAdd (mBin oIx (mVar 0) (mC (.int 3))) (mC (.int 1))) mNil))) mNil)))) mNil))) mPass) (mSeq (mAsg (gN 1) (mBin oAdd (mTup (mCons (mC .non) mNil)) (mTupRg (mCons (mBin oIx (mVar 0) (mC (.int 3))) (mCons (mBin oAdd (mBin oIx (mVar 0) (mC (.int 4))) (mC (.int 1))) mNil))))) (mRet (mComp (mRng2 (mCons (mC (.int 1)) (mCons (mBin oAdd (mBin oIx (mVar 0) (mC (.int 2))) (mC (.int 1))) mNil))) (gN 2) mYes (mTup (mCons (mBin oIx (mVar 0) (mC (.int 1))) (mCons (mVar 2) (mCons (mVar 1) mNil)))) [2]))))
def F_datum_cells : SF := runDef 1 3 b_datum_cells
def l_cells_1 : SS := (mAug 1 oIAdd (mCall F_datum_cells (mCons (mVar 2) mNil)))
def b_cells : SS := (mSeq (mAsg (gN 1) (mComp (mIter (mBin oIx (mVar 0) (mC (.int 3)))) (gN 3) mYes (mTup (mCons (mBin oIx (mVar 3) (mC (.int 1))) (mCons (mC (.int 0)) (mCons (mBin oIx (mVar 3) (mC (.int 2))) mNil)))) [3])) (mSeq (mFor (mIter (mBin oIx (mVar 0) (mC (.int 2)))) (gN 2) l_cells_1) (mRet (mFn oTuple (mCons (mVar 1) mNil)))))
def F_cells : SF := runDef 1 4 b_cells
def l_cell_row_1 : SS := (mIfS (mB (mBin oEq (mBin oIx (mVar 3) (mC (.int 0))) (mC (.str ("number" : Str))))) (mExpr (mMeth isLs oApp (mVar 2) (mVar 4))) (mAug 2 oIAdd (mComp (mRng1 (mCons (mBin oIx (mVar 3) (mC (.int 2))) mNil)) (gN 5) mYes (mIf (mB (mBin oLt (mVar 5) (mFn oLen (mCons (mVar 4) mNil)))) (mBin oIx (mVar 4) (mVar 5)) (mC .non)) [5])))
def b_cell_row : SS := (mSeq (mAsg (gN 2) (mFn oList (mCons (mBin oIx (mVar 1) (mC (.int 0))) mNil))) (mSeq (mFor (mZip (mCons (mBin oIx (mVar 0) (mC (.int 2))) (mCons (mBin oIx (mVar 1) (mC (.int 1))) mNil))) (gT 2 (gsC (gN 3) (gsC (gN 4) gsN))) l_cell_row_1) (mRet (mFn oTuple (mCons (mComp (mZip (mCons (mCall F_cells (mCons (mVar 0) mNil)) (mCons (mVar 2) mNil))) (gT 2 (gsC (gN 6) (gsC (gN 7) gsN))) mYes (mIdx (mBin oIx (mVar 6) (mC (.int 2))) (mVar 7)) [6, 7]) mNil)))))
def F_cell_row : SF := runDef 2 8 b_cell_row
def l_state_of_1 : SS := (mIfS (mB (mBin oEq (mBin oIx (mVar 6) (mC (.int 0))) (mC (.str ("number" : Str))))) (mSeq (mExpr (mMeth isLs oApp (mVar 5) (mBin oIx (mVar 2) (mVar 3)))) (mAug 3 oIAdd (mC (.int 1)))) (mSeq (mAsg (gN 7) (mSl (mVar 2) (mPart (mVar 3)) (mPart (mBin oAdd (mVar 3) (mBin oIx (mVar 6) (mC (.int 2))))))) (mSeq (mAug 3 oIAdd (mBin oIx (mVar 6) (mC (.int 2)))) (mSeq (mAsg (gN 8) (mComp (mIter (mVar 7)) (gN 11) (mB (mBin oIsNot (mVar 11) (mC .non))) (mVar 11) [11])) (mSeq (mIfS (mB (mBin oNe (mSl (mVar 7) mNoP (mPart (mFn oLen (mCons (mVar 8) mNil)))) (mVar 8))) (mRet (mC .non)) mPass) (mExpr (mMeth isLs oApp (mVar 5) (mFn oTuple (mCons (mVar 8) mNil)))))))))
def b_state_of : SS := (mSeq (mAsg (gN 2) (mComp (mZip (mCons (mCall F_cells (mCons (mVar 0) mNil)) (mCons (mVar 1) mNil))) (gT 2 (gsC (gN 9) (gsC (gN 10) gsN))) mYes (mBin oIx (mBin oIx (mVar 9) (mC (.int 2))) (mVar 10)) [9, 10])) (mSeq (mAsg (gN 3) (mFn oLen (mCons (mBin oIx (mVar 0) (mC (.int 3))) mNil))) (mSeq (mAsg (gN 4) (mFn oTuple (mCons (mSl (mVar 2) mNoP (mPart (mVar 3))) mNil))) (mSeq (mAsg (gN 5) (mLst mNil)) (mSeq (mFor (mIter (mBin oIx (mVar 0) (mC (.int 2)))) (gN 6) l_state_of_1) (mRet (mTup (mCons (mVar 4) (mCons (mFn oTuple (mCons (mVar 5) mNil)) mNil)))))))))
def F_state_of : SF := runDef 2 12 b_state_of
def b_law_cell : SS := (mSeq (mIfS (mB (mBin oLt (mVar 1) (mFn oLen (mCons (mVar 0) mNil)))) (mRet (mBin oIx (mVar 0) (mVar 1))) mPass) (mRet (mC (.int 0))))
def F_law_cell : SF := runDef 2 2 b_law_cell
def l_law_digits_1 : SS := (mIfS (mB (mBin oGt (mVar 5) (mC (.int 0)))) (mSeq (mExpr (mMeth isLs oApp (mVar 3) (mBin oMod (mFn oInt (mCons (mVar 5) mNil)) (mC (.int 1009))))) (mAsg (gN 5) (mBin oDiv (mVar 5) (mC (.int 1009))))) mPass)
def l_law_digits_2 : SS := (mSeq (mAsg (gN 7) (mBin oMod (mFn oInt (mCons (mBin oAdd (mBin oAdd (mBin oMul (mVar 7) (mC (.int 16807))) (mBin oMul (mC (.int 7)) (mVar 6))) (mC (.int 1))) mNil)) (mC (.int 2147483647)))) (mExpr (mMeth isLs oApp (mVar 3) (mBin oMod (mFn oInt (mCons (mBin oDiv (mVar 7) (mC (.int 997))) mNil)) (mC (.int 1009))))))
def l_law_digits_3 : SS := (mSeq (mAsg (gN 5) (mCall F_law_cell (mCons (mVar 0) (mCons (mVar 4) mNil)))) (mSeq (mIfS (mB (mBin oLt (mVar 5) (mC (.int 0)))) (mAsg (gN 5) (mBin oSub (mC (.int 1)) (mBin oMul (mC (.int 2)) (mVar 5)))) mPass) (mIfS (mB (mBin oGe (mVar 5) (mBin oPow (mC (.int 10)) (mC (.int 18))))) (mFor (mRng1 (mCons (mC (.int 60)) mNil)) (gN 6) l_law_digits_1) (mSeq (mAsg (gN 7) (mBin oMod (mFn oInt (mCons (mBin oAdd (mBin oAdd (mBin oMul (mVar 5) (mC (.int 48271))) (mBin oMul (mVar 4) (mC (.int 69621)))) (mC (.int 11))) mNil)) (mC (.int 2147483647)))) (mFor (mRng1 (mCons (mC (.int 12)) mNil)) (gN 6) l_law_digits_2)))))
def b_law_digits : SS := (mSeq (mAsg (gN 3) (mLst mNil)) (mSeq (mFor (mRng2 (mCons (mVar 1) (mCons (mVar 2) mNil))) (gN 4) l_law_digits_3) (mRet (mVar 3))))
def F_law_digits : SF := runDef 3 8 b_law_digits
def b_law_draw : SS := (mSeq (mAsg (gN 2) (mBin oIx (mVar 0) (mC (.int 1)))) (mSeq (mAsg (gS (mVar 0) (mC (.int 1))) (mBin oAdd (mVar 2) (mC (.int 1)))) (mSeq (mIfS (mB (mBin oLt (mVar 2) (mFn oLen (mCons (mBin oIx (mVar 0) (mC (.int 0))) mNil)))) (mRet (mBin oMod (mFn oInt (mCons (mBin oIx (mBin oIx (mVar 0) (mC (.int 0))) (mVar 2)) mNil)) (mVar 1))) mPass) (mRet (mBin oMod (mFn oInt (mCons (mBin oAdd (mBin oAdd (mBin oAdd (mBin oMul (mBin oMul (mVar 2) (mVar 2)) (mC (.int 3))) (mBin oMul (mVar 2) (mC (.int 4)))) (mBin oDiv (mVar 2) (mC (.int 3)))) (mC (.int 1))) mNil)) (mVar 1))))))
def F_law_draw : SF := runDef 2 3 b_law_draw
def b_law_pick : SS := (mRet (mBin oIx (mVar 1) (mCall F_law_draw (mCons (mVar 0) (mCons (mFn oLen (mCons (mVar 1) mNil)) mNil)))))
def F_law_pick : SF := runDef 2 2 b_law_pick
def l_law_names_1 : SS := (mIfS (mB (mBin oIn (mVar 7) (mBin oAdd (mVar 3) (mVar 2)))) (mAsg (gN 7) (mBin oAdd (mVar 7) (mBin oIx (mC (.str ("qxzjkv" : Str))) (mVar 8)))) mPass)
def l_law_names_2 : SS := (mSeq (mAsg (gN 5) (mBin oIx (mC (.str ("bcghjklmprvwxyz" : Str))) (mVar 4))) (mSeq (mAsg (gN 6) (mBin oIx (mC (.str ("dfknqstbcghjlmp" : Str))) (mCall F_law_draw (mCons (mVar 0) (mCons (mC (.int 15)) mNil))))) (mSeq (mAsg (gN 7) (mBin oIx (mLst (mCons (mVar 5) (mCons (mAd (mBin oAdd (mVar 5) (mVar 6))) (mCons (mAd (mBin oAdd (mVar 6) (mVar 5))) (mCons (mAd (mBin oAdd (mBin oAdd (mVar 6) (mVar 5)) (mC (.str ("2" : Str))))) (mCons (mAd (mBin oAdd (mBin oAdd (mVar 6) (mC (.str ("0" : Str)))) (mVar 5))) mNil)))))) (mCall F_law_draw (mCons (mVar 0) (mCons (mC (.int 5)) mNil))))) (mSeq (mFor (mRng1 (mCons (mC (.int 6)) mNil)) (gN 8) l_law_names_1) (mExpr (mMeth isLs oApp (mVar 3) (mVar 7)))))))
def b_law_names : SS := (mSeq (mAsg (gN 3) (mLst mNil)) (mSeq (mFor (mRng1 (mCons (mVar 1) mNil)) (gN 4) l_law_names_2) (mRet (mVar 3))))
def F_law_names : SF := runDef 3 9 b_law_names
def b_law_number : SS := (mSeq (mAsg (gN 2) (mComp (mIter (mBin oIx (mVar 1) (mC (.int 2)))) (gN 5) (mB (mBin oEq (mBin oIx (mVar 5) (mC (.int 0))) (mC (.str ("number" : Str))))) (mTup (mCons (mC (.str ("name" : Str))) (mCons (mBin oIx (mVar 5) (mC (.int 1))) mNil))) [5])) (mSeq (mAsg (gN 2) (mBin oAdd (mVar 2) (mComp (mIter (mBin oIx (mVar 1) (mC (.int 2)))) (gN 5) (mB (mBin oEq (mBin oIx (mVar 5) (mC (.int 0))) (mC (.str ("queue" : Str))))) (mTup (mCons (mC (.str ("size" : Str))) (mCons (mBin oIx (mVar 5) (mC (.int 1))) mNil))) [5]))) (mSeq (mAsg (gN 3) (mCall F_law_pick (mCons (mVar 0) (mCons (mAd (mBin oAdd (mVar 2) (mLst (mCons (mTup (mCons (mC (.str ("int" : Str))) (mCons (mCall F_law_draw (mCons (mVar 0) (mCons (mC (.int 4)) mNil))) mNil))) mNil)))) mNil)))) (mSeq (mAsg (gN 4) (mCall F_law_draw (mCons (mVar 0) (mCons (mC (.int 8)) mNil)))) (mSeq (mIfS (mB (mBin oEq (mVar 4) (mC (.int 0)))) (mRet (mTup (mCons (mC (.str ("+" : Str))) (mCons (mVar 3) (mCons (mTup (mCons (mC (.str ("int" : Str))) (mCons (mAd (mBin oAdd (mC (.int 1)) (mCall F_law_draw (mCons (mVar 0) (mCons (mC (.int 2)) mNil))))) mNil))) mNil))))) mPass) (mSeq (mIfS (mB (mBin oEq (mVar 4) (mC (.int 1)))) (mRet (mTup (mCons (mC (.str ("-" : Str))) (mCons (mVar 3) (mCons (mCall F_law_pick (mCons (mVar 0) (mCons (mAd (mBin oAdd (mVar 2) (mLst (mCons (mTup (mCons (mC (.str ("int" : Str))) (mCons (mC (.int 1)) mNil))) mNil)))) mNil))) mNil))))) mPass) (mSeq (mIfS (mB (mBin oEq (mVar 4) (mC (.int 2)))) (mRet (mTup (mCons (mC (.str ("*" : Str))) (mCons (mVar 3) (mCons (mTup (mCons (mC (.str ("int" : Str))) (mCons (mCall F_law_draw (mCons (mVar 0) (mCons (mC (.int 3)) mNil))) mNil))) mNil))))) mPass) (mRet (mVar 3)))))))))
def F_law_number : SF := runDef 2 6 b_law_number
def b_law_truth (self : SF) : SS := (mSeq (mAsg (gN 3) (mCall F_law_draw (mCons (mVar 0) (mCons (mBin oIx (mLst (mCons (mC (.int 6)) (mCons (mC (.int 9)) mNil))) (mFn oInt (mCons (mBin oGt (mVar 2) (mC (.int 0))) mNil))) mNil)))) (mSeq (mIfS (mB (mBin oLt (mVar 3) (mC (.int 3)))) (mRet (mTup (mCons (mBin oIx (mLst (mCons (mC (.str ("=" : Str))) (mCons (mC (.str ("<" : Str))) (mCons (mC (.str ("<=" : Str))) mNil)))) (mVar 3)) (mCons (mCall F_law_number (mCons (mVar 0) (mCons (mVar 1) mNil))) (mCons (mCall F_law_number (mCons (mVar 0) (mCons (mVar 1) mNil))) mNil))))) mPass) (mSeq (mIfS (mB (mBin oLt (mVar 3) (mC (.int 6)))) (mSeq (mAsg (gN 4) (mCall F_law_pick (mCons (mVar 0) (mCons (mBin oIx (mVar 1) (mC (.int 3))) mNil)))) (mRet (mTup (mCons (mC (.str ("at" : Str))) (mCons (mBin oIx (mVar 4) (mC (.int 1))) (mCons (mCall F_law_pick (mCons (mVar 0) (mCons (mBin oIx (mVar 4) (mC (.int 2))) mNil))) mNil)))))) mPass) (mSeq (mIfS (mB (mBin oEq (mVar 3) (mC (.int 6)))) (mRet (mTup (mCons (mC (.str ("not" : Str))) (mCons (mCall self (mCons (mVar 0) (mCons (mVar 1) (mCons (mBin oSub (mVar 2) (mC (.int 1))) mNil)))) mNil)))) mPass) (mRet (mTup (mCons (mBin oIx (mLst (mCons (mC (.str ("and" : Str))) (mCons (mC (.str ("or" : Str))) mNil))) (mBin oSub (mVar 3) (mC (.int 7)))) (mCons (mCall self (mCons (mVar 0) (mCons (mVar 1) (mCons (mBin oSub (mVar 2) (mC (.int 1))) mNil)))) (mCons (mCall self (mCons (mVar 0) (mCons (mVar 1) (mCons (mBin oSub (mVar 2) (mC (.int 1))) mNil)))) mNil)))))))))
def F_law_truth : Nat → SF
  | 0 => fun _ _ => none
  | k + 1 => runDef 3 5 (b_law_truth (F_law_truth k))
def b_law_deed : SS := (mSeq (mAsg (gN 2) (mComp (mIter (mBin oIx (mVar 1) (mC (.int 2)))) (gN 5) (mB (mBin oEq (mBin oIx (mVar 5) (mC (.int 0))) (mC (.str ("queue" : Str))))) (mVar 5) [5])) (mSeq (mAsg (gN 3) (mComp (mIter (mBin oIx (mVar 1) (mC (.int 2)))) (gN 5) (mB (mBin oEq (mBin oIx (mVar 5) (mC (.int 0))) (mC (.str ("number" : Str))))) (mVar 5) [5])) (mSeq (mAsg (gN 4) (mCall F_law_draw (mCons (mVar 0) (mCons (mC (.int 8)) mNil)))) (mSeq (mIfS (mAnd (mB (mBin oLt (mVar 4) (mC (.int 2)))) (mB (mBin oGt (mFn oLen (mCons (mVar 2) mNil)) (mC (.int 0))))) (mSeq (mAsg (gN 6) (mCall F_law_pick (mCons (mVar 0) (mCons (mVar 2) mNil)))) (mSeq (mIfS (mB (mBin oEq (mVar 4) (mC (.int 0)))) (mRet (mTup (mCons (mC (.str ("put" : Str))) (mCons (mBin oIx (mVar 6) (mC (.int 1))) (mCons (mBin oIx (mLst (mCons (mCall F_law_number (mCons (mVar 0) (mCons (mVar 1) mNil))) (mCons (mTup (mCons (mC (.str ("int" : Str))) (mCons (mBin oIx (mVar 6) (mC (.int 3))) mNil))) mNil))) (mCall F_law_draw (mCons (mVar 0) (mCons (mC (.int 2)) mNil)))) mNil))))) mPass) (mRet (mTup (mCons (mC (.str ("take" : Str))) (mCons (mBin oIx (mVar 6) (mC (.int 1))) (mCons (mBin oIx (mCall F_law_pick (mCons (mVar 0) (mCons (mVar 3) mNil))) (mC (.int 1))) mNil))))))) mPass) (mSeq (mAsg (gN 5) (mCall F_law_pick (mCons (mVar 0) (mCons (mVar 3) mNil)))) (mSeq (mIfS (mB (mBin oLt (mVar 4) (mC (.int 6)))) (mRet (mTup (mCons (mC (.str ("set" : Str))) (mCons (mBin oIx (mVar 5) (mC (.int 1))) (mCons (mTup (mCons (mC (.str ("if" : Str))) (mCons (mTup (mCons (mC (.str ("<" : Str))) (mCons (mTup (mCons (mC (.str ("name" : Str))) (mCons (mBin oIx (mVar 5) (mC (.int 1))) mNil))) (mCons (mTup (mCons (mC (.str ("int" : Str))) (mCons (mBin oIx (mVar 5) (mC (.int 3))) mNil))) mNil)))) (mCons (mTup (mCons (mC (.str ("+" : Str))) (mCons (mTup (mCons (mC (.str ("name" : Str))) (mCons (mBin oIx (mVar 5) (mC (.int 1))) mNil))) (mCons (mTup (mCons (mC (.str ("int" : Str))) (mCons (mC (.int 1)) mNil))) mNil)))) (mCons (mTup (mCons (mC (.str ("int" : Str))) (mCons (mBin oIx (mVar 5) (mC (.int 2))) mNil))) mNil))))) mNil))))) mPass) (mRet (mTup (mCons (mC (.str ("set" : Str))) (mCons (mBin oIx (mVar 5) (mC (.int 1))) (mCons (mBin oIx (mLst (mCons (mCall F_law_number (mCons (mVar 0) (mCons (mVar 1) mNil))) (mCons (mTup (mCons (mC (.str ("int" : Str))) (mCons (mAd (mBin oAdd (mBin oIx (mVar 5) (mC (.int 2))) (mCall F_law_draw (mCons (mVar 0) (mCons (mAd (mBin oAdd (mBin oSub (mBin oIx (mVar 5) (mC (.int 3))) (mBin oIx (mVar 5) (mC (.int 2)))) (mC (.int 1)))) mNil))))) mNil))) mNil))) (mCall F_law_draw (mCons (mVar 0) (mCons (mC (.int 2)) mNil)))) mNil)))))))))))
def F_law_deed : SF := runDef 2 7 b_law_deed
def l_law_like_1 (self : SF) : SS := (mIfS (mNot (mB (mCall self (mCons (mBin oIx (mVar 0) (mVar 2)) (mCons (mBin oIx (mVar 1) (mVar 2)) mNil))))) (mRet (mC (.bl false))) mPass)
def b_law_like (self : SF) : SS := (mSeq (mIfS (mOr (mB (mFn oIsi (mCons (mVar 1) (mCons (mC (.ty "tuple")) mNil)))) (mB (mFn oIsi (mCons (mVar 1) (mCons (mC (.ty "list")) mNil))))) (mSeq (mIfS (mOr (mAnd (mB (mFn oIsi (mCons (mVar 1) (mCons (mC (.ty "tuple")) mNil)))) (mNot (mB (mFn oIsi (mCons (mVar 0) (mCons (mC (.ty "tuple")) mNil)))))) (mAnd (mB (mFn oIsi (mCons (mVar 1) (mCons (mC (.ty "list")) mNil)))) (mNot (mB (mFn oIsi (mCons (mVar 0) (mCons (mC (.ty "list")) mNil))))))) (mRet (mC (.bl false))) mPass) (mSeq (mIfS (mB (mBin oNe (mFn oLen (mCons (mVar 0) mNil)) (mFn oLen (mCons (mVar 1) mNil)))) (mRet (mC (.bl false))) mPass) (mSeq (mFor (mRng1 (mCons (mFn oLen (mCons (mVar 1) mNil)) mNil)) (gN 2) (l_law_like_1 self)) (mRet (mC (.bl true)))))) mPass) (mSeq (mIfS (mB (mBin oIs (mVar 1) (mC .non))) (mRet (mBin oIs (mVar 0) (mC .non))) mPass) (mSeq (mIfS (mB (mFn oIsi (mCons (mVar 1) (mCons (mC (.ty "bool")) mNil)))) (mRet (mAndV (mFn oIsi (mCons (mVar 0) (mCons (mC (.ty "bool")) mNil))) (mBin oEq (mVar 0) (mVar 1)))) mPass) (mSeq (mIfS (mB (mFn oIsi (mCons (mVar 1) (mCons (mC (.ty "int")) mNil)))) (mRet (mAndV (mFn oIsi (mCons (mVar 0) (mCons (mC (.ty "int")) mNil))) (mAndV (mNotV (mFn oIsi (mCons (mVar 0) (mCons (mC (.ty "bool")) mNil)))) (mBin oEq (mVar 0) (mVar 1))))) mPass) (mRet (mAndV (mFn oIsi (mCons (mVar 0) (mCons (mC (.ty "str")) mNil))) (mBin oEq (mVar 0) (mVar 1))))))))
def F_law_like : Nat → SF
  | 0 => fun _ _ => none
  | k + 1 => runDef 2 3 (b_law_like (F_law_like k))
def b_law_lively : SS := (mSeq (mAsg (gN 2) (mComp (mIter (mBin oIx (mVar 1) (mC (.int 2)))) (gN 5) (mB (mBin oEq (mBin oIx (mVar 5) (mC (.int 0))) (mC (.str ("queue" : Str))))) (mVar 5) [5])) (mSeq (mAsg (gN 3) (mComp (mIter (mBin oIx (mVar 1) (mC (.int 2)))) (gN 5) (mB (mBin oEq (mBin oIx (mVar 5) (mC (.int 0))) (mC (.str ("number" : Str))))) (mVar 5) [5])) (mSeq (mAsg (gN 4) (mCall F_law_draw (mCons (mVar 0) (mCons (mC (.int 9)) mNil)))) (mSeq (mIfS (mAnd (mB (mBin oLt (mVar 4) (mC (.int 2)))) (mB (mBin oGt (mFn oLen (mCons (mVar 2) mNil)) (mC (.int 0))))) (mSeq (mAsg (gN 7) (mBin oAdd (mBin oIx (mBin oIx (mVar 2) (mC (.int 0))) (mC (.int 3))) (mCall F_law_draw (mCons (mVar 0) (mCons (mAd (mBin oAdd (mBin oSub (mBin oIx (mBin oIx (mVar 2) (mC (.int 0))) (mC (.int 4))) (mBin oIx (mBin oIx (mVar 2) (mC (.int 0))) (mC (.int 3)))) (mC (.int 1)))) mNil))))) (mRet (mBin oIx (mLst (mCons (mTup (mCons (mC (.str ("put" : Str))) (mCons (mBin oIx (mBin oIx (mVar 2) (mC (.int 0))) (mC (.int 1))) (mCons (mTup (mCons (mC (.str ("int" : Str))) (mCons (mVar 7) mNil))) mNil)))) (mCons (mTup (mCons (mC (.str ("take" : Str))) (mCons (mBin oIx (mBin oIx (mVar 2) (mC (.int 0))) (mC (.int 1))) (mCons (mBin oIx (mCall F_law_pick (mCons (mVar 0) (mCons (mVar 3) mNil))) (mC (.int 1))) mNil)))) mNil))) (mVar 4)))) mPass) (mSeq (mIfS (mB (mBin oEq (mVar 4) (mC (.int 8)))) (mRet (mCall F_law_deed (mCons (mVar 0) (mCons (mVar 1) mNil)))) mPass) (mSeq (mAsg (gN 5) (mCall F_law_pick (mCons (mVar 0) (mCons (mVar 3) mNil)))) (mSeq (mAsg (gN 6) (mTup (mCons (mC (.str ("if" : Str))) (mCons (mTup (mCons (mC (.str ("<" : Str))) (mCons (mTup (mCons (mC (.str ("name" : Str))) (mCons (mBin oIx (mVar 5) (mC (.int 1))) mNil))) (mCons (mTup (mCons (mC (.str ("int" : Str))) (mCons (mBin oIx (mVar 5) (mC (.int 3))) mNil))) mNil)))) (mCons (mTup (mCons (mC (.str ("+" : Str))) (mCons (mTup (mCons (mC (.str ("name" : Str))) (mCons (mBin oIx (mVar 5) (mC (.int 1))) mNil))) (mCons (mTup (mCons (mC (.str ("int" : Str))) (mCons (mC (.int 1)) mNil))) mNil)))) (mCons (mTup (mCons (mC (.str ("int" : Str))) (mCons (mBin oIx (mVar 5) (mC (.int 2))) mNil))) mNil)))))) (mRet (mTup (mCons (mC (.str ("set" : Str))) (mCons (mBin oIx (mVar 5) (mC (.int 1))) (mCons (mBin oIx (mLst (mCons (mVar 6) (mCons (mVar 6) (mCons (mVar 6) (mCons (mTup (mCons (mC (.str ("int" : Str))) (mCons (mBin oIx (mVar 5) (mC (.int 2))) mNil))) (mCons (mTup (mCons (mC (.str ("-" : Str))) (mCons (mTup (mCons (mC (.str ("name" : Str))) (mCons (mBin oIx (mVar 5) (mC (.int 1))) mNil))) (mCons (mTup (mCons (mC (.str ("int" : Str))) (mCons (mC (.int 1)) mNil))) mNil)))) mNil)))))) (mCall F_law_draw (mCons (mVar 0) (mCons (mC (.int 5)) mNil)))) mNil))))))))))))
def F_law_lively : SF := runDef 2 8 b_law_lively
def l_law_tiny_1 : SS := (mSeq (mAsg (gN 9) (mBin oIx (mLst (mCons (mC (.int 0)) (mCons (mC (.int 0)) (mCons (mC (.int 1)) (mCons (mUn oNeg (mC (.int 1))) (mCons (mUn oNeg (mC (.int 9))) mNil)))))) (mCall F_law_draw (mCons (mVar 0) (mCons (mC (.int 5)) mNil))))) (mSeq (mAsg (gN 10) (mBin oAdd (mVar 9) (mBin oIx (mLst (mCons (mC (.int 2)) (mCons (mC (.int 2)) (mCons (mC (.int 1)) (mCons (mC (.int 2)) (mCons (mC (.int 0)) (mCons (mC (.int 2)) mNil))))))) (mCall F_law_draw (mCons (mVar 0) (mCons (mC (.int 6)) mNil)))))) (mSeq (mIfS (mB (mBin oEq (mVar 1) (mC (.int 3)))) (mAsg (gN 10) (mBin oAdd (mVar 9) (mC (.int 1)))) mPass) (mExpr (mMeth isLs oApp (mVar 3) (mTup (mCons (mC (.str ("number" : Str))) (mCons (mBin oIx (mVar 2) (mVar 4)) (mCons (mVar 9) (mCons (mVar 10) (mCons (mAd (mBin oAdd (mVar 9) (mCall F_law_draw (mCons (mVar 0) (mCons (mAd (mBin oAdd (mBin oSub (mVar 10) (mVar 9)) (mC (.int 1)))) mNil))))) mNil)))))))))))
def l_law_tiny_2 : SS := (mExpr (mMeth isLs oApp (mVar 5) (mTup (mCons (mC (.str ("process" : Str))) (mCons (mBin oIx (mVar 2) (mBin oAdd (mC (.int 4)) (mVar 4))) (mCons (mFn oTuple (mCons (mCall F_law_names (mCons (mVar 0) (mCons (mBin oIx (mLst (mCons (mC (.int 3)) (mCons (mC (.int 2)) (mCons (mC (.int 3)) (mCons (mC (.int 2)) (mCons (mC (.int 1)) mNil)))))) (mCall F_law_draw (mCons (mVar 0) (mCons (mC (.int 5)) mNil)))) (mCons (mVar 2) mNil)))) mNil)) (mCons (mTup mNil) mNil)))))))
def l_law_tiny_3 : SS := (mSeq (mAsg (gN 14) (mBin oIx (mLst (mCons (mTup (mCons (mC (.str ("true" : Str))) mNil)) (mCons (mCall (F_law_truth 4) (mCons (mVar 0) (mCons (mVar 6) (mCons (mC (.int 1)) mNil)))) mNil))) (mFn oInt (mCons (mOrV (mBin oEq (mCall F_law_draw (mCons (mVar 0) (mCons (mC (.int 6)) mNil))) (mC (.int 0))) (mBin oGt (mVar 4) (mFn oLen (mCons (mVar 12) mNil)))) mNil)))) (mSeq (mAsg (gN 15) (mFn oTuple (mCons (mComp (mRng1 (mCons (mBin oIx (mLst (mCons (mC (.int 1)) (mCons (mC (.int 1)) (mCons (mC (.int 0)) (mCons (mC (.int 2)) (mCons (mC (.int 1)) mNil)))))) (mCall F_law_draw (mCons (mVar 0) (mCons (mC (.int 5)) mNil)))) mNil)) (gN 16) mYes (mCall F_law_lively (mCons (mVar 0) (mCons (mVar 6) mNil))) [16]) mNil))) (mIfS (mB (mBin oLt (mVar 4) (mFn oLen (mCons (mVar 12) mNil)))) (mExpr (mMeth isLs oApp (mVar 11) (mTup (mCons (mBin oIx (mVar 13) (mVar 4)) (mCons (mBin oIx (mVar 12) (mVar 4)) (mCons (mBin oIx (mVar 12) (mBin oMod (mFn oInt (mCons (mBin oAdd (mVar 4) (mC (.int 1))) mNil)) (mFn oLen (mCons (mVar 12) mNil)))) (mCons (mVar 14) (mCons (mVar 15) mNil)))))))) (mExpr (mMeth isLs oApp (mVar 11) (mTup (mCons (mBin oIx (mVar 13) (mVar 4)) (mCons (mCall F_law_pick (mCons (mVar 0) (mCons (mVar 12) mNil))) (mCons (mCall F_law_pick (mCons (mVar 0) (mCons (mVar 12) mNil))) (mCons (mVar 14) (mCons (mVar 15) mNil)))))))))))
def l_law_tiny_4 : SS := (mSeq (mAsg (gN 11) (mLst mNil)) (mSeq (mAsg (gN 12) (mBin oIx (mVar 8) (mC (.int 2)))) (mSeq (mAsg (gN 13) (mCall F_law_names (mCons (mVar 0) (mCons (mAd (mBin oAdd (mFn oLen (mCons (mVar 12) mNil)) (mCall F_law_draw (mCons (mVar 0) (mCons (mC (.int 3)) mNil))))) (mCons (mAd (mLst mNil)) mNil))))) (mSeq (mFor (mRng1 (mCons (mFn oLen (mCons (mVar 13) mNil)) mNil)) (gN 4) l_law_tiny_3) (mExpr (mMeth isLs oApp (mVar 7) (mAd (mBin oAdd (mSl (mVar 8) mNoP (mPart (mC (.int 3)))) (mTup (mCons (mFn oTuple (mCons (mVar 11) mNil)) mNil))))))))))
def b_law_tiny : SS := (mSeq (mAsg (gN 1) (mCall F_law_draw (mCons (mVar 0) (mCons (mC (.int 4)) mNil)))) (mSeq (mAsg (gN 2) (mCall F_law_names (mCons (mVar 0) (mCons (mC (.int 9)) (mCons (mAd (mLst mNil)) mNil))))) (mSeq (mAsg (gN 3) (mLst mNil)) (mSeq (mFor (mRng1 (mCons (mBin oIx (mLst (mCons (mC (.int 2)) (mCons (mC (.int 1)) (mCons (mC (.int 1)) (mCons (mC (.int 1)) mNil))))) (mVar 1)) mNil)) (gN 4) l_law_tiny_1) (mSeq (mIfS (mB (mBin oGt (mVar 1) (mC (.int 1)))) (mSeq (mAsg (gN 9) (mCall F_law_draw (mCons (mVar 0) (mCons (mC (.int 2)) mNil)))) (mExpr (mMeth isLs oApp (mVar 3) (mTup (mCons (mC (.str ("queue" : Str))) (mCons (mBin oIx (mVar 2) (mC (.int 3))) (mCons (mAd (mBin oAdd (mC (.int 1)) (mCall F_law_draw (mCons (mVar 0) (mCons (mBin oSub (mC (.int 5)) (mVar 1)) mNil))))) (mCons (mVar 9) (mCons (mAd (mBin oAdd (mVar 9) (mCall F_law_draw (mCons (mVar 0) (mCons (mC (.int 2)) mNil))))) mNil))))))))) mPass) (mSeq (mIfS (mB (mBin oEq (mCall F_law_draw (mCons (mVar 0) (mCons (mC (.int 2)) mNil))) (mC (.int 0)))) (mAsg (gN 3) (mUn oRev (mVar 3))) mPass) (mSeq (mAsg (gN 5) (mLst mNil)) (mSeq (mFor (mRng1 (mCons (mBin oIx (mLst (mCons (mC (.int 2)) (mCons (mC (.int 2)) (mCons (mC (.int 1)) (mCons (mC (.int 2)) mNil))))) (mVar 1)) mNil)) (gN 4) l_law_tiny_2) (mSeq (mAsg (gN 6) (mTup (mCons (mC (.str ("system" : Str))) (mCons (mBin oIx (mVar 2) (mC (.int 8))) (mCons (mFn oTuple (mCons (mVar 3) mNil)) (mCons (mFn oTuple (mCons (mVar 5) mNil)) mNil)))))) (mSeq (mAsg (gN 7) (mLst mNil)) (mSeq (mFor (mIter (mBin oIx (mVar 6) (mC (.int 3)))) (gN 8) l_law_tiny_4) (mRet (mBin oAdd (mSl (mVar 6) mNoP (mPart (mC (.int 3)))) (mTup (mCons (mFn oTuple (mCons (mVar 7) mNil)) mNil)))))))))))))))
def F_law_tiny : SF := runDef 1 17 b_law_tiny
def l_law_cells_1 : SS := (mExpr (mMeth isLs oApp (mVar 1) (mTup (mCons (mBin oIx (mVar 2) (mC (.int 1))) (mCons (mAd (mBin oAdd (mVar 4) (mC (.int 1)))) (mCons (mAd (mBin oAdd (mTup (mCons (mC .non) mNil)) (mTupRg (mCons (mBin oIx (mVar 2) (mC (.int 3))) (mCons (mBin oAdd (mBin oIx (mVar 2) (mC (.int 4))) (mC (.int 1))) mNil))))) mNil))))))
def l_law_cells_2 : SS := (mIfS (mB (mBin oEq (mBin oIx (mVar 2) (mC (.int 0))) (mC (.str ("number" : Str))))) (mExpr (mMeth isLs oApp (mVar 1) (mTup (mCons (mBin oIx (mVar 2) (mC (.int 1))) (mCons (mC (.int 0)) (mCons (mTupRg (mCons (mBin oIx (mVar 2) (mC (.int 2))) (mCons (mBin oAdd (mBin oIx (mVar 2) (mC (.int 3))) (mC (.int 1))) mNil))) mNil)))))) (mFor (mRng1 (mCons (mBin oIx (mVar 2) (mC (.int 2))) mNil)) (gN 4) l_law_cells_1))
def b_law_cells : SS := (mSeq (mAsg (gN 1) (mComp (mIter (mBin oIx (mVar 0) (mC (.int 3)))) (gN 3) mYes (mTup (mCons (mBin oIx (mVar 3) (mC (.int 1))) (mCons (mC (.int 0)) (mCons (mBin oIx (mVar 3) (mC (.int 2))) mNil)))) [3])) (mSeq (mFor (mIter (mBin oIx (mVar 0) (mC (.int 2)))) (gN 2) l_law_cells_2) (mRet (mFn oTuple (mCons (mVar 1) mNil)))))
def F_law_cells : SF := runDef 1 5 b_law_cells
def l_law_row_1 : SS := (mExpr (mMeth isLs oApp (mVar 2) (mBin oIx (mComp (mRng1 (mCons (mFn oLen (mCons (mBin oIx (mBin oIx (mBin oIx (mVar 0) (mC (.int 3))) (mVar 3)) (mC (.int 2))) mNil)) mNil)) (gN 7) (mB (mBin oEq (mBin oIx (mBin oIx (mBin oIx (mBin oIx (mVar 0) (mC (.int 3))) (mVar 3)) (mC (.int 2))) (mVar 7)) (mBin oIx (mBin oIx (mVar 1) (mC (.int 0))) (mVar 3)))) (mVar 7) [7]) (mC (.int 0)))))
def l_law_row_2 : SS := (mSeq (mAsg (gN 4) (mBin oIx (mBin oIx (mVar 0) (mC (.int 2))) (mVar 3))) (mIfS (mB (mBin oEq (mBin oIx (mVar 4) (mC (.int 0))) (mC (.str ("number" : Str))))) (mExpr (mMeth isLs oApp (mVar 2) (mBin oSub (mBin oIx (mBin oIx (mVar 1) (mC (.int 1))) (mVar 3)) (mBin oIx (mVar 4) (mC (.int 2)))))) (mSeq (mAsg (gN 5) (mComp (mIter (mBin oIx (mBin oIx (mVar 1) (mC (.int 1))) (mVar 3))) (gN 6) mYes (mBin oAdd (mBin oSub (mVar 6) (mBin oIx (mVar 4) (mC (.int 3)))) (mC (.int 1))) [6])) (mAsg (gN 2) (mBin oAdd (mBin oAdd (mVar 2) (mVar 5)) (mBin oMul (mLst (mCons (mC (.int 0)) mNil)) (mBin oSub (mBin oIx (mVar 4) (mC (.int 2))) (mFn oLen (mCons (mVar 5) mNil)))))))))
def b_law_row : SS := (mSeq (mAsg (gN 2) (mLst mNil)) (mSeq (mFor (mRng1 (mCons (mFn oLen (mCons (mBin oIx (mVar 1) (mC (.int 0))) mNil)) mNil)) (gN 3) l_law_row_1) (mSeq (mFor (mRng1 (mCons (mFn oLen (mCons (mBin oIx (mVar 1) (mC (.int 1))) mNil)) mNil)) (gN 3) l_law_row_2) (mRet (mFn oTuple (mCons (mVar 2) mNil))))))
def F_law_row : SF := runDef 2 8 b_law_row
def l_law_unrow_1 : SS := (mIfS (mB (mBin oEq (mBin oIx (mVar 5) (mC (.int 0))) (mC (.str ("number" : Str))))) (mSeq (mExpr (mMeth isLs oApp (mVar 3) (mAd (mBin oAdd (mBin oIx (mVar 5) (mC (.int 2))) (mBin oIx (mVar 1) (mVar 4)))))) (mAsg (gN 4) (mBin oAdd (mVar 4) (mC (.int 1))))) (mSeq (mAsg (gN 6) (mFn oList (mCons (mSl (mVar 1) (mPart (mVar 4)) (mPart (mBin oAdd (mVar 4) (mBin oIx (mVar 5) (mC (.int 2)))))) mNil))) (mSeq (mAsg (gN 4) (mBin oAdd (mVar 4) (mBin oIx (mVar 5) (mC (.int 2))))) (mSeq (mAsg (gN 7) (mComp (mIter (mVar 6)) (gN 9) (mB (mBin oGt (mVar 9) (mC (.int 0)))) (mVar 9) [9])) (mSeq (mIfS (mB (mBin oNe (mSl (mVar 6) mNoP (mPart (mFn oLen (mCons (mVar 7) mNil)))) (mVar 7))) (mRet (mC .non)) mPass) (mExpr (mMeth isLs oApp (mVar 3) (mFn oTuple (mCons (mComp (mIter (mVar 7)) (gN 9) mYes (mBin oSub (mBin oAdd (mBin oIx (mVar 5) (mC (.int 3))) (mVar 9)) (mC (.int 1))) [9]) mNil)))))))))
def b_law_unrow : SS := (mSeq (mAsg (gN 2) (mFn oTuple (mCons (mComp (mRng1 (mCons (mFn oLen (mCons (mBin oIx (mVar 0) (mC (.int 3))) mNil)) mNil)) (gN 8) mYes (mBin oIx (mBin oIx (mBin oIx (mBin oIx (mVar 0) (mC (.int 3))) (mVar 8)) (mC (.int 2))) (mBin oIx (mVar 1) (mVar 8))) [8]) mNil))) (mSeq (mAsg (gN 3) (mLst mNil)) (mSeq (mAsg (gN 4) (mFn oLen (mCons (mVar 2) mNil))) (mSeq (mFor (mIter (mBin oIx (mVar 0) (mC (.int 2)))) (gN 5) l_law_unrow_1) (mRet (mTup (mCons (mVar 2) (mCons (mFn oTuple (mCons (mVar 3) mNil)) mNil))))))))
def F_law_unrow : SF := runDef 2 10 b_law_unrow
def l_law_all_1 : SS := (mAsg (gN 3) (mBin oAdd (mVar 3) (mComp (mRng1 (mCons (mFn oLen (mCons (mBin oIx (mVar 2) (mC (.int 2))) mNil)) mNil)) (gN 5) (mOr (mB (mBin oLt (mBin oIx (mVar 2) (mC (.int 1))) (mC (.int 2)))) (mOr (mB (mBin oEq (mVar 5) (mC (.int 0)))) (mB (mBin oGt (mBin oIx (mVar 4) (mUn oNeg (mC (.int 1)))) (mC (.int 0)))))) (mBin oAdd (mVar 4) (mTup (mCons (mVar 5) mNil))) [5])))
def l_law_all_2 : SS := (mSeq (mAsg (gN 3) (mLst mNil)) (mSeq (mFor (mIter (mVar 1)) (gN 4) l_law_all_1) (mAsg (gN 1) (mVar 3))))
def b_law_all : SS := (mSeq (mAsg (gN 1) (mLst (mCons (mTup mNil) mNil))) (mSeq (mFor (mIter (mCall F_law_cells (mCons (mVar 0) mNil))) (gN 2) l_law_all_2) (mRet (mComp (mIter (mVar 1)) (gN 4) mYes (mCall F_law_unrow (mCons (mVar 0) (mCons (mVar 4) mNil))) [4]))))
def F_law_all : SF := runDef 1 6 b_law_all
def l_law_wide_1 : SS := (mIfS (mB (mBin oEq (mCall F_law_draw (mCons (mVar 0) (mCons (mC (.int 3)) mNil))) (mC (.int 0)))) (mSeq (mAsg (gN 6) (mCall F_law_draw (mCons (mVar 0) (mCons (mC (.int 8)) mNil)))) (mExpr (mMeth isLs oApp (mVar 2) (mTup (mCons (mC (.str ("queue" : Str))) (mCons (mBin oIx (mVar 1) (mVar 3)) (mCons (mAd (mBin oAdd (mC (.int 1)) (mCall F_law_draw (mCons (mVar 0) (mCons (mC (.int 3)) mNil))))) (mCons (mVar 6) (mCons (mAd (mBin oAdd (mVar 6) (mCall F_law_draw (mCons (mVar 0) (mCons (mBin oSub (mC (.int 8)) (mVar 6)) mNil))))) mNil))))))))) (mSeq (mAsg (gN 6) (mBin oSub (mCall F_law_draw (mCons (mVar 0) (mCons (mC (.int 19)) mNil))) (mC (.int 9)))) (mSeq (mAsg (gN 7) (mBin oAdd (mVar 6) (mCall F_law_draw (mCons (mVar 0) (mCons (mC (.int 16)) mNil))))) (mExpr (mMeth isLs oApp (mVar 2) (mTup (mCons (mC (.str ("number" : Str))) (mCons (mBin oIx (mVar 1) (mVar 3)) (mCons (mVar 6) (mCons (mVar 7) (mCons (mAd (mBin oAdd (mVar 6) (mCall F_law_draw (mCons (mVar 0) (mCons (mAd (mBin oAdd (mBin oSub (mVar 7) (mVar 6)) (mC (.int 1)))) mNil))))) mNil)))))))))))
def l_law_wide_2 : SS := (mSeq (mAsg (gN 5) (mCall F_law_names (mCons (mVar 0) (mCons (mAd (mBin oAdd (mC (.int 1)) (mCall F_law_draw (mCons (mVar 0) (mCons (mC (.int 8)) mNil))))) (mCons (mVar 1) mNil))))) (mExpr (mMeth isLs oApp (mVar 4) (mTup (mCons (mC (.str ("process" : Str))) (mCons (mBin oIx (mVar 1) (mBin oAdd (mC (.int 8)) (mVar 3))) (mCons (mFn oTuple (mCons (mVar 5) mNil)) (mCons (mTup mNil) mNil))))))))
def b_law_wide : SS := (mSeq (mAsg (gN 1) (mCall F_law_names (mCons (mVar 0) (mCons (mC (.int 15)) (mCons (mAd (mLst mNil)) mNil))))) (mSeq (mAsg (gN 2) (mLst mNil)) (mSeq (mFor (mRng1 (mCons (mCall F_law_draw (mCons (mVar 0) (mCons (mC (.int 8)) mNil))) mNil)) (gN 3) l_law_wide_1) (mSeq (mAsg (gN 4) (mLst mNil)) (mSeq (mFor (mRng1 (mCons (mBin oAdd (mC (.int 1)) (mCall F_law_draw (mCons (mVar 0) (mCons (mC (.int 7)) mNil)))) mNil)) (gN 3) l_law_wide_2) (mRet (mTup (mCons (mC (.str ("system" : Str))) (mCons (mC (.str ("wide" : Str))) (mCons (mFn oTuple (mCons (mVar 2) mNil)) (mCons (mFn oTuple (mCons (mVar 4) mNil)) mNil)))))))))))
def F_law_wide : SF := runDef 1 8 b_law_wide
def l_law_rows_of_1 : SS := (mSeq (mAsg (gN 6) (mFn oLen (mCons (mBin oIx (mVar 5) (mC (.int 2))) mNil))) (mSeq (mAsg (gN 7) (mAndV (mBin oGt (mBin oIx (mVar 5) (mC (.int 1))) (mC (.int 1))) (mAndV (mBin oEq (mBin oIx (mVar 4) (mUn oNeg (mC (.int 1)))) (mC (.int 0))) (mBin oLt (mVar 3) (mC (.int 2)))))) (mExpr (mMeth isLs oApp (mVar 4) (mIf (mB (mVar 7)) (mC (.int 0)) (mCall F_law_draw (mCons (mVar 0) (mCons (mVar 6) mNil))))))))
def l_law_rows_of_2 : SS := (mSeq (mAsg (gN 4) (mLst mNil)) (mSeq (mFor (mIter (mCall F_law_cells (mCons (mVar 1) mNil))) (gN 5) l_law_rows_of_1) (mExpr (mMeth isLs oApp (mVar 2) (mFn oTuple (mCons (mVar 4) mNil))))))
def b_law_rows_of : SS := (mSeq (mAsg (gN 2) (mLst mNil)) (mSeq (mFor (mRng1 (mCons (mC (.int 4)) mNil)) (gN 3) l_law_rows_of_2) (mRet (mVar 2))))
def F_law_rows_of : SF := runDef 2 8 b_law_rows_of
def l_law_1 : SS := (mSeq (mAsg (gN 3) (mCall F_cell_row (mCons (mVar 4) (mCons (mVar 2) mNil)))) (mIfS (mOr (mNot (mB (mCall (F_law_like 8) (mCons (mVar 3) (mCons (mCall F_law_row (mCons (mVar 4) (mCons (mVar 2) mNil))) mNil))))) (mNot (mB (mCall (F_law_like 8) (mCons (mCall F_state_of (mCons (mVar 4) (mCons (mVar 3) mNil))) (mCons (mVar 2) mNil)))))) (mRet (mC (.bl false))) mPass))
def l_law_2 : SS := (mIfS (mNot (mB (mCall (F_law_like 8) (mCons (mCall F_state_of (mCons (mVar 4) (mCons (mVar 3) mNil))) (mCons (mCall F_law_unrow (mCons (mVar 4) (mCons (mVar 3) mNil))) mNil))))) (mRet (mC (.bl false))) mPass)
def b_law : SS := (mSeq (mAsg (gN 1) (mLst (mCons (mCall F_law_digits (mCons (mVar 0) (mCons (mC (.int 0)) (mCons (mC (.int 63)) mNil)))) (mCons (mC (.int 0)) mNil)))) (mSeq (mIfS (mB (mBin oGt (mCall F_law_draw (mCons (mVar 1) (mCons (mC (.int 3)) mNil))) (mC (.int 0)))) (mSeq (mAsg (gN 4) (mCall F_law_tiny (mCons (mVar 1) mNil))) (mAsg (gN 5) (mCall F_law_all (mCons (mVar 4) mNil)))) (mSeq (mAsg (gN 4) (mCall F_law_wide (mCons (mVar 1) mNil))) (mAsg (gN 5) (mComp (mIter (mSl (mCall F_law_rows_of (mCons (mVar 1) (mCons (mVar 4) mNil))) mNoP (mPart (mC (.int 2))))) (gN 3) mYes (mCall F_law_unrow (mCons (mVar 4) (mCons (mVar 3) mNil))) [3])))) (mSeq (mIfS (mNot (mB (mCall (F_law_like 8) (mCons (mCall F_cells (mCons (mVar 4) mNil)) (mCons (mCall F_law_cells (mCons (mVar 4) mNil)) mNil))))) (mRet (mC (.bl false))) mPass) (mSeq (mFor (mIter (mVar 5)) (gN 2) l_law_1) (mSeq (mFor (mIter (mCall F_law_rows_of (mCons (mVar 1) (mCons (mVar 4) mNil)))) (gN 3) l_law_2) (mRet (mC (.bl true))))))))
def F_law : SF := runDef 1 6 b_law
end Sm
namespace Sm
open PySem PySem.Spec PyProof.Rows L2
/-! ## the plain semantics as rewriting -/
section
variable {τ τ' : AT} {h h' h1 h2 : AH} {fa fb fe : SE} {fr : SA} {ft fu : ST} {f1 f2 f : SS} {op : Op2} {o1 : Op1} {oN : OpN} {x y q : LV} {d : D} {ds : List D} {qs : List LV} {b : Bool} {i j n nn : Nat} {g : SG} {gs : SGs} {F : SF} {vs : List Nat} {grd : List (Nat × List D)} {fi : SI} {r : Res}
def varK (o : Option (Option D)) (h : AH) : Option (LV × AH) := match o with
  | some (some d) => some (.val d, h)
  | _ => none
@[simp] theorem mVar_eq : mVar i τ h = varK τ[i]? h := rfl
@[simp] theorem varK_some : varK (some (some d)) h = some (.val d, h) := rfl
@[simp] theorem mC_eq : mC d τ h = some (.val d, h) := rfl
def binK (o : Option (LV × AH)) (op : Op2) (fb : SE) (τ : AT) : Option (LV × AH) := o.bind fun p => (fb τ p.2).bind fun q => op p.1 q.1 q.2
def binK2 (o : Option (LV × AH)) (op : Op2) (x : LV) : Option (LV × AH) := o.bind fun q => op x q.1 q.2
@[simp] theorem mBin_eq : mBin op fa fb τ h = binK (fa τ h) op fb τ := rfl
@[simp] theorem binK_some : binK (some (x, h1)) op fb τ = binK2 (fb τ h1) op x := rfl
@[simp] theorem binK2_some : binK2 (some (y, h2)) op x = op x y h2 := rfl
def unK (o : Option (LV × AH)) (op : Op1) : Option (LV × AH) := o.bind fun p => op p.1 p.2
@[simp] theorem mUn_eq : mUn o1 fa τ h = unK (fa τ h) o1 := rfl
@[simp] theorem unK_some : unK (some (x, h1)) o1 = o1 x h1 := rfl
@[simp] theorem mNil_eq : mNil τ h = some ([], h) := rfl
def consK (o : Option (LV × AH)) (fr : SA) (τ : AT) : Option (List LV × AH) := o.bind fun p => (fr τ p.2).bind fun q => some (p.1 :: q.1, q.2)
def consK2 (o : Option (List LV × AH)) (x : LV) : Option (List LV × AH) := o.bind fun q => some (x :: q.1, q.2)
@[simp] theorem mCons_eq : mCons fa fr τ h = consK (fa τ h) fr τ := rfl
@[simp] theorem consK_some : consK (some (x, h1)) fr τ = consK2 (fr τ h1) x := rfl
@[simp] theorem consK2_some : consK2 (some (qs, h1)) x = some (x :: qs, h1) := rfl
@[simp] theorem plain_nil : plain [] = some [] := rfl
def plainK (o : Option (List D)) (d : D) : Option (List D) := o.bind fun s => some (d :: s)
@[simp] theorem plain_cons : plain (.val d :: qs) = plainK (plain qs) d := rfl
@[simp] theorem plainK_some : plainK (some ds) d = some (d :: ds) := rfl
def tupK (o : Option (List LV × AH)) : Option (LV × AH) := o.bind fun p => (plain p.1).bind fun ds => if ds.length ≤ 16777216 then some (.val (.tup ds), p.2) else none
def tupK2 (o : Option (List D)) (h : AH) : Option (LV × AH) := o.bind fun ds => if ds.length ≤ 16777216 then some (.val (.tup ds), h) else none
@[simp] theorem mTup_eq : mTup fr τ h = tupK (fr τ h) := rfl
@[simp] theorem tupK_some : tupK (some (qs, h1)) = tupK2 (plain qs) h1 := rfl
@[simp] theorem tupK2_some : tupK2 (some ds) h1 = if ds.length ≤ 16777216 then some (.val (.tup ds), h1) else none := rfl
def lstK (o : Option (List LV × AH)) : Option (LV × AH) := o.bind fun p => (plain p.1).bind fun ds => if ds.length ≤ 16777216 then some (.new ds, p.2) else none
def lstK2 (o : Option (List D)) (h : AH) : Option (LV × AH) := o.bind fun ds => if ds.length ≤ 16777216 then some (.new ds, h) else none
@[simp] theorem mLst_eq : mLst fr τ h = lstK (fr τ h) := rfl
@[simp] theorem lstK_some : lstK (some (qs, h1)) = lstK2 (plain qs) h1 := rfl
@[simp] theorem lstK2_some : lstK2 (some ds) h1 = if ds.length ≤ 16777216 then some (.new ds, h1) else none := rfl
@[simp] theorem lay_val : lay (.val d) h = (d, h) := rfl
@[simp] theorem lay_new : lay (.new ds) h = (.ref h.length, h ++ [.lst ds]) := rfl
def adK (o : Option (LV × AH)) : Option (LV × AH) := o.bind fun p => some (.val (lay p.1 p.2).1, (lay p.1 p.2).2)
@[simp] theorem mAd_eq : mAd fa τ h = adK (fa τ h) := rfl
@[simp] theorem adK_some : adK (some (x, h1)) = some (.val (lay x h1).1, (lay x h1).2) := rfl
def ifK (o : Option (Bool × AH)) (fa fb : SE) (τ : AT) : Option (LV × AH) := o.bind fun p => if p.1 = true then fa τ p.2 else fb τ p.2
@[simp] theorem mIf_eq : mIf ft fa fb τ h = ifK (ft τ h) fa fb τ := rfl
@[simp] theorem ifK_some : ifK (some (b, h1)) fa fb τ = if b = true then fa τ h1 else fb τ h1 := rfl
def bK (o : Option (LV × AH)) : Option (Bool × AH) := o.bind fun p => match p.1 with
  | .val (.bl b) => some (b, p.2)
  | _ => none
@[simp] theorem mB_eq : mB fa τ h = bK (fa τ h) := rfl
@[simp] theorem bK_some : bK (some (.val (.bl b), h1)) = some (b, h1) := rfl
def andK (o : Option (Bool × AH)) (tb : ST) (τ : AT) : Option (Bool × AH) := o.bind fun p => if p.1 = true then tb τ p.2 else some (false, p.2)
def orK (o : Option (Bool × AH)) (tb : ST) (τ : AT) : Option (Bool × AH) := o.bind fun p => if p.1 = true then some (true, p.2) else tb τ p.2
def notK (o : Option (Bool × AH)) : Option (Bool × AH) := o.bind fun p => some (!p.1, p.2)
@[simp] theorem mAnd_eq : mAnd ft fu τ h = andK (ft τ h) fu τ := rfl
@[simp] theorem mOr_eq : mOr ft fu τ h = orK (ft τ h) fu τ := rfl
@[simp] theorem mNot_eq : mNot ft τ h = notK (ft τ h) := rfl
@[simp] theorem andK_some : andK (some (b, h1)) fu τ = if b = true then fu τ h1 else some (false, h1) := rfl
@[simp] theorem orK_some : orK (some (b, h1)) fu τ = if b = true then some (true, h1) else fu τ h1 := rfl
@[simp] theorem notK_some : notK (some (b, h1)) = some (!b, h1) := rfl
def andVK (o : Option (LV × AH)) (fb : SE) (τ : AT) : Option (LV × AH) := o.bind fun p => match p.1 with
  | .val (.bl true) => fb τ p.2
  | .val (.bl false) => some (.val (.bl false), p.2)
  | _ => none
def orVK (o : Option (LV × AH)) (fb : SE) (τ : AT) : Option (LV × AH) := o.bind fun p => match p.1 with
  | .val (.bl false) => fb τ p.2
  | .val (.bl true) => some (.val (.bl true), p.2)
  | _ => none
def notVK (o : Option (LV × AH)) : Option (LV × AH) := o.bind fun p => match p.1 with
  | .val (.bl b) => some (.val (.bl (!b)), p.2)
  | _ => none
@[simp] theorem mAndV_eq : mAndV fa fb τ h = andVK (fa τ h) fb τ := rfl
@[simp] theorem mOrV_eq : mOrV fa fb τ h = orVK (fa τ h) fb τ := rfl
@[simp] theorem mNotV_eq : mNotV fa τ h = notVK (fa τ h) := rfl
@[simp] theorem andVK_some : andVK (some (.val (.bl b), h1)) fb τ = if b = true then fb τ h1 else some (.val (.bl false), h1) := by cases b <;> rfl
@[simp] theorem orVK_some : orVK (some (.val (.bl b), h1)) fb τ = if b = true then some (.val (.bl true), h1) else fb τ h1 := by cases b <;> rfl
@[simp] theorem notVK_some : notVK (some (.val (.bl b), h1)) = some (.val (.bl (!b)), h1) := rfl
def callK (F : SF) (o : Option (List LV × AH)) : Option (LV × AH) := o.bind fun p => (plain p.1).bind fun ds => (F ds p.2).bind fun q => some (.val q.1, q.2)
def callK2 (F : SF) (o : Option (List D)) (h : AH) : Option (LV × AH) := o.bind fun ds => (F ds h).bind fun q => some (.val q.1, q.2)
def valK (o : Option (D × AH)) : Option (LV × AH) := o.bind fun q => some (.val q.1, q.2)
@[simp] theorem mCall_eq : mCall F fr τ h = callK F (fr τ h) := rfl
@[simp] theorem callK_some : callK F (some (qs, h1)) = callK2 F (plain qs) h1 := rfl
@[simp] theorem callK2_some : callK2 F (some ds) h1 = valK (F ds h1) := rfl
@[simp] theorem valK_some : valK (some (d, h1)) = some (.val d, h1) := rfl
def fnK (op : OpN) (o : Option (List LV × AH)) : Option (LV × AH) := o.bind fun p => op p.1 p.2
@[simp] theorem mFn_eq : mFn oN fr τ h = fnK oN (fr τ h) := rfl
@[simp] theorem fnK_some : fnK oN (some (qs, h1)) = oN qs h1 := rfl
/-! targets, statements -/
@[simp] theorem gN_eq : gN i d τ h = some (τ.set i (some d), h) := rfl
@[simp] theorem gT_tup : gT n gs (.tup ds) τ h = if ds.length = n then gs ds τ h else none := rfl
@[simp] theorem gT_zt : gT n gs (.zt ds) τ h = if ds.length = n then gs ds τ h else none := rfl
@[simp] theorem gsN_eq : gsN [] τ h = some (τ, h) := rfl
def gsK (o : Option (AT × AH)) (gs : SGs) (ds : List D) : Option (AT × AH) := o.bind fun p => gs ds p.1 p.2
@[simp] theorem gsC_eq : gsC g gs (d :: ds) τ h = gsK (g d τ h) gs ds := rfl
@[simp] theorem gsK_some : gsK (some (τ', h1)) gs ds = gs ds τ' h1 := rfl
def gSK (o : Option (LV × AH)) (fi : SE) (d : D) (τ : AT) : Option (AT × AH) := o.bind fun p => (fi τ p.2).bind fun q => (setD p.1 q.1 d q.2).bind fun h' => some (τ, h')
def gSK2 (o : Option (LV × AH)) (x : LV) (d : D) (τ : AT) : Option (AT × AH) := o.bind fun q => (setD x q.1 d q.2).bind fun h' => some (τ, h')
def gSK3 (o : Option AH) (τ : AT) : Option (AT × AH) := o.bind fun h' => some (τ, h')
@[simp] theorem gS_eq : gS fa fb d τ h = gSK (fa τ h) fb d τ := rfl
@[simp] theorem gSK_some : gSK (some (x, h1)) fb d τ = gSK2 (fb τ h1) x d τ := rfl
@[simp] theorem gSK2_some : gSK2 (some (y, h1)) x d τ = gSK3 (setD x y d h1) τ := rfl
@[simp] theorem gSK3_some : gSK3 (some h1) τ = some (τ, h1) := rfl
def asgK (g : SG) (o : Option (LV × AH)) (τ : AT) : Option Res := o.bind fun p => (g (lay p.1 p.2).1 τ (lay p.1 p.2).2).bind fun q => some (.nx q.1 q.2)
def asgK2 (o : Option (AT × AH)) : Option Res := o.bind fun q => some (.nx q.1 q.2)
@[simp] theorem mAsg_eq : mAsg g fa τ h = asgK g (fa τ h) τ := rfl
@[simp] theorem asgK_some : asgK g (some (x, h1)) τ = asgK2 (g (lay x h1).1 τ (lay x h1).2) := rfl
@[simp] theorem asgK2_some : asgK2 (some (τ', h1)) = some (.nx τ' h1) := rfl
def exprK (o : Option (LV × AH)) (τ : AT) : Option Res := o.bind fun p => some (.nx τ p.2)
@[simp] theorem mExpr_eq : mExpr fa τ h = exprK (fa τ h) τ := rfl
@[simp] theorem exprK_some : exprK (some (x, h1)) τ = some (.nx τ h1) := rfl
def retK (o : Option (LV × AH)) : Option Res := o.bind fun p => some (.rt (lay p.1 p.2).1 (lay p.1 p.2).2)
@[simp] theorem mRet_eq : mRet fa τ h = retK (fa τ h) := rfl
@[simp] theorem retK_some : retK (some (x, h1)) = some (.rt (lay x h1).1 (lay x h1).2) := rfl
@[simp] theorem mRetN_eq : mRetN τ h = some (.rt .non h) := rfl
@[simp] theorem mPass_eq : mPass τ h = some (.nx τ h) := rfl
@[simp] theorem mBrk_eq : mBrk τ h = some (.bk τ h) := rfl
@[simp] theorem mCnt_eq : mCnt τ h = some (.ct τ h) := rfl
def seqK (o : Option Res) (f2 : SS) : Option Res := o.bind fun r => match r with
  | .nx τ' h' => f2 τ' h'
  | r => some r
@[simp] theorem mSeq_eq : mSeq f1 f2 τ h = seqK (f1 τ h) f2 := rfl
@[simp] theorem seqK_nx : seqK (some (.nx τ' h1)) f2 = f2 τ' h1 := rfl
@[simp] theorem seqK_rt : seqK (some (.rt d h1)) f2 = some (.rt d h1) := rfl
@[simp] theorem seqK_bk : seqK (some (.bk τ h1)) f2 = some (.bk τ h1) := rfl
@[simp] theorem seqK_ct : seqK (some (.ct τ h1)) f2 = some (.ct τ h1) := rfl
def ifSK (o : Option (Bool × AH)) (f1 f2 : SS) (τ : AT) : Option Res := o.bind fun p => if p.1 = true then f1 τ p.2 else f2 τ p.2
@[simp] theorem mIfS_eq : mIfS ft f1 f2 τ h = ifSK (ft τ h) f1 f2 τ := rfl
@[simp] theorem ifSK_some : ifSK (some (b, h1)) f1 f2 τ = if b = true then f1 τ h1 else f2 τ h1 := rfl
theorem toNat_inj : ∀ {a b : List Char}, a.map Char.toNat = b.map Char.toNat → a = b
  | [], [], _ => rfl
  | [], _ :: _, h => by cases h
  | _ :: _, [], h => by cases h
  | x :: r, y :: t, h => by
    rw [List.map_cons, List.map_cons] at h
    injection h with h1 h2
    rw [toNat_inj h2, Char.toNat_inj.mp h1]
@[simp] theorem ofString_iff {a b : String} : Str.ofString a = Str.ofString b ↔ a = b := by
  refine ⟨fun h => ?_, fun h => by rw [h]⟩
  rw [Str.ofString_eq_toList, Str.ofString_eq_toList] at h
  injection h with h
  exact String.toList_inj.mp (toNat_inj (by simpa using congrArg Array.toList h))
/-! an if within -/
variable {c : Prop} [Decidable c]
@[simp] theorem seqK_ite {o p : Option Res} : seqK (if c then o else p) f2 = if c then seqK o f2 else seqK p f2 := by split <;> rfl
@[simp] theorem retK_ite {o p : Option (LV × AH)} : retK (if c then o else p) = if c then retK o else retK p := by split <;> rfl
@[simp] theorem asgK_ite {o p : Option (LV × AH)} : asgK g (if c then o else p) τ = if c then asgK g o τ else asgK g p τ := by split <;> rfl
@[simp] theorem binK_ite {o p : Option (LV × AH)} : binK (if c then o else p) op fb τ = if c then binK o op fb τ else binK p op fb τ := by split <;> rfl
@[simp] theorem binK2_ite {o p : Option (LV × AH)} : binK2 (if c then o else p) op x = if c then binK2 o op x else binK2 p op x := by split <;> rfl
@[simp] theorem ifSK_ite {o p : Option (Bool × AH)} : ifSK (if c then o else p) f1 f2 τ = if c then ifSK o f1 f2 τ else ifSK p f1 f2 τ := by split <;> rfl
@[simp] theorem ifK_ite {o p : Option (Bool × AH)} : ifK (if c then o else p) fa fb τ = if c then ifK o fa fb τ else ifK p fa fb τ := by split <;> rfl
@[simp] theorem notK_ite {o p : Option (Bool × AH)} : notK (if c then o else p) = if c then notK o else notK p := by split <;> rfl
@[simp] theorem andK_ite {o p : Option (Bool × AH)} : andK (if c then o else p) fu τ = if c then andK o fu τ else andK p fu τ := by split <;> rfl
@[simp] theorem orK_ite {o p : Option (Bool × AH)} : orK (if c then o else p) fu τ = if c then orK o fu τ else orK p fu τ := by split <;> rfl
@[simp] theorem consK_ite {o p : Option (LV × AH)} : consK (if c then o else p) fr τ = if c then consK o fr τ else consK p fr τ := by split <;> rfl
@[simp] theorem consK2_ite {o p : Option (List LV × AH)} : consK2 (if c then o else p) x = if c then consK2 o x else consK2 p x := by split <;> rfl
@[simp] theorem callK_ite {o p : Option (List LV × AH)} : callK F (if c then o else p) = if c then callK F o else callK F p := by split <;> rfl
@[simp] theorem fnK_ite {o p : Option (List LV × AH)} : fnK oN (if c then o else p) = if c then fnK oN o else fnK oN p := by split <;> rfl
@[simp] theorem tupK_ite {o p : Option (List LV × AH)} : tupK (if c then o else p) = if c then tupK o else tupK p := by split <;> rfl
@[simp] theorem lstK_ite {o p : Option (List LV × AH)} : lstK (if c then o else p) = if c then lstK o else lstK p := by split <;> rfl
@[simp] theorem exprK_ite {o p : Option (LV × AH)} : exprK (if c then o else p) τ = if c then exprK o τ else exprK p τ := by split <;> rfl
@[simp] theorem bK_ite {o p : Option (LV × AH)} : bK (if c then o else p) = if c then bK o else bK p := by split <;> rfl
@[simp] theorem valK_ite {o p : Option (D × AH)} : valK (if c then o else p) = if c then valK o else valK p := by split <;> rfl
/-! operators -/
variable {k l : Int} {s t : Str}
@[simp] theorem oAdd_int : oAdd (.val (.int k)) (.val (.int l)) h = some (.val (.int (k + l)), h) := rfl
@[simp] theorem oAdd_str : oAdd (.val (.str s)) (.val (.str t)) h = if s.length + t.length ≤ 16777216 then some (.val (.str (s ++ t)), h) else none := rfl
@[simp] theorem oAdd_tup {es : List D} : oAdd (.val (.tup ds)) (.val (.tup es)) h = if ds.length + es.length ≤ 16777216 then some (.val (.tup (ds ++ es)), h) else none := rfl
def catK (o p : Option (List D)) (h : AH) : Option (LV × AH) := o.bind fun xs => p.bind fun ys => if xs.length + ys.length ≤ 16777216 then some (.new (xs ++ ys), h) else none
@[simp] theorem catK_some {es : List D} : catK (some ds) (some es) h = if ds.length + es.length ≤ 16777216 then some (.new (ds ++ es), h) else none := rfl
@[simp] theorem oAdd_nn {es : List D} : oAdd (.new ds) (.new es) h = if ds.length + es.length ≤ 16777216 then some (.new (ds ++ es), h) else none := rfl
@[simp] theorem oAdd_nr {a : Nat} : oAdd (.new ds) (.val (.ref a)) h = catK (some ds) (asM (.val (.ref a)) h) h := rfl
@[simp] theorem oAdd_rn {a : Nat} {es : List D} : oAdd (.val (.ref a)) (.new es) h = catK (asM (.val (.ref a)) h) (some es) h := rfl
@[simp] theorem oAdd_rr {a a' : Nat} : oAdd (.val (.ref a)) (.val (.ref a')) h = catK (asM (.val (.ref a)) h) (asM (.val (.ref a')) h) h := rfl
def lsK (o : Option O) : Option (List D) := match o with
  | some (.lst ds) => some ds
  | _ => none
@[simp] theorem lsK_some : lsK (some (.lst ds)) = some ds := rfl
@[simp] theorem asM_new : asM (.new ds) h = some ds := rfl
@[simp] theorem asM_ref {a : Nat} : asM (.val (.ref a)) h = lsK h[a]? := rfl
@[simp] theorem asL_new : asL (.new ds) h = some ds := rfl
@[simp] theorem asL_ref {a : Nat} : asL (.val (.ref a)) h = lsK h[a]? := rfl
@[simp] theorem asL_fl : asL (.val (.fl ds)) h = some ds := rfl
@[simp] theorem asQ_new : asQ (.new ds) h = some ds := rfl
@[simp] theorem asQ_ref {a : Nat} : asQ (.val (.ref a)) h = lsK h[a]? := rfl
@[simp] theorem asQ_fl : asQ (.val (.fl ds)) h = some ds := rfl
@[simp] theorem asQ_tup : asQ (.val (.tup ds)) h = some ds := rfl
@[simp] theorem asQ_zt : asQ (.val (.zt ds)) h = some ds := rfl
@[simp] theorem oSub_int : oSub (.val (.int k)) (.val (.int l)) h = some (.val (.int (k - l)), h) := rfl
@[simp] theorem oLt_int : oLt (.val (.int k)) (.val (.int l)) h = some (.val (.bl (decide (k < l))), h) := rfl
@[simp] theorem oLe_int : oLe (.val (.int k)) (.val (.int l)) h = some (.val (.bl (decide (k ≤ l))), h) := rfl
@[simp] theorem oGt_int : oGt (.val (.int k)) (.val (.int l)) h = some (.val (.bl (decide (l < k))), h) := rfl
@[simp] theorem oGe_int : oGe (.val (.int k)) (.val (.int l)) h = some (.val (.bl (decide (l ≤ k))), h) := rfl
@[simp] theorem oNeg_int : oNeg (.val (.int k)) h = some (.val (.int (-k)), h) := rfl
theorem oMul_int : oMul (.val (.int k)) (.val (.int l)) h = if mulC k l = true then some (.val (.int (k * l)), h) else none := rfl
theorem oMul_ok (c : mulC k l = true) : oMul (.val (.int k)) (.val (.int l)) h = some (.val (.int (k * l)), h) := by rw [oMul_int, if_pos c]
theorem mulC_left (h1 : -18446744073709551616 < k) (h2 : k < 18446744073709551616) : mulC k l = true := by unfold mulC; rw [decide_eq_true (show k.natAbs < 18446744073709551616 by omega)]; rfl
theorem mulC_right (h1 : -18446744073709551616 < l) (h2 : l < 18446744073709551616) : mulC k l = true := by unfold mulC; rw [decide_eq_true (show l.natAbs < 18446744073709551616 by omega)]; simp
@[simp] theorem oMul_left (h1 : -18446744073709551616 < k) (h2 : k < 18446744073709551616) : oMul (.val (.int k)) (.val (.int l)) h = some (.val (.int (k * l)), h) := oMul_ok (mulC_left h1 h2)
@[simp] theorem oMul_right (h1 : -18446744073709551616 < l) (h2 : l < 18446744073709551616) : oMul (.val (.int k)) (.val (.int l)) h = some (.val (.int (k * l)), h) := oMul_ok (mulC_right h1 h2)
@[simp] theorem oPow_lit (c1 : 0 ≤ l) (c2 : l ≤ 1000000) (c3 : k.natAbs < 18446744073709551616) : oPow (.val (.int k)) (.val (.int l)) h = some (.val (.int (k ^ l.toNat)), h) := by
  show (if (decide (0 ≤ l) && decide (l ≤ 1000000) && decide (k.natAbs < 18446744073709551616)) = true then _ else _) = _
  rw [decide_eq_true c1, decide_eq_true c2, decide_eq_true c3]
  rfl
@[simp] theorem oDiv_int (h1 : l ≠ 0) (h2 : l.natAbs < 1073741824) : oDiv (.val (.int k)) (.val (.int l)) h = some (.val (.int (k.fdiv l)), h) := by
  show (if (decide (l ≠ 0) && decide (l.natAbs < 1073741824)) = true then _ else _) = _
  rw [decide_eq_true h1, decide_eq_true h2]
  rfl
@[simp] theorem oMod_int (h1 : l ≠ 0) : oMod (.val (.int k)) (.val (.int l)) h = some (.val (.int (k.fmod l)), h) := by
  show (if (decide (l ≠ 0)) = true then _ else _) = _
  rw [decide_eq_true h1]
  rfl
@[simp] theorem oEq_str : oEq (.val (.str s)) (.val (.str t)) h = some (.val (.bl (decide (s = t))), h) := rfl
@[simp] theorem oEq_bl {a b : Bool} : oEq (.val (.bl a)) (.val (.bl b)) h = some (.val (.bl (decide (a = b))), h) := rfl
@[simp] theorem oEq_int : oEq (.val (.int k)) (.val (.int l)) h = some (.val (.bl (decide (k = l))), h) := by
  show (if okEq (.int k) (.int l) = true then some (LV.val (.bl (decide (D.int k = .int l))), h) else none) = _
  rw [if_pos (by rfl)]
  have : decide (D.int k = .int l) = decide (k = l) := by rw [Bool.eq_iff_iff]; simp
  rw [this]
@[simp] theorem oNe_str : oNe (.val (.str s)) (.val (.str t)) h = some (.val (.bl (!decide (s = t))), h) := rfl
@[simp] theorem oNe_int : oNe (.val (.int k)) (.val (.int l)) h = some (.val (.bl (!decide (k = l))), h) := by
  show (if okEq (.int k) (.int l) = true then some (LV.val (.bl (!decide (D.int k = .int l))), h) else none) = _
  rw [if_pos (by rfl)]
  have : decide (D.int k = .int l) = decide (k = l) := by rw [Bool.eq_iff_iff]; simp
  rw [this]
theorem oEq_dat (c : okEq (dat x h) (dat y h) = true) (n1 : ∀ s t, x = .val (.str s) → y ≠ .val (.str t)) (n2 : ∀ a b, x = .val (.bl a) → y ≠ .val (.bl b)) : oEq x y h = some (.val (.bl (decide (dat x h = dat y h))), h) := by
  unfold oEq eqC
  split
  · exact absurd rfl (n1 _ _ rfl)
  · exact absurd rfl (n2 _ _ rfl)
  · rw [if_pos c]; rfl
theorem oNe_dat (c : okEq (dat x h) (dat y h) = true) (n1 : ∀ s t, x = .val (.str s) → y ≠ .val (.str t)) (n2 : ∀ a b, x = .val (.bl a) → y ≠ .val (.bl b)) : oNe x y h = some (.val (.bl (!decide (dat x h = dat y h))), h) := by
  unfold oNe eqC
  split
  · exact absurd rfl (n1 _ _ rfl)
  · exact absurd rfl (n2 _ _ rfl)
  · rw [if_pos c]; rfl
@[simp] theorem oIs_eq : oIs x (.val .non) h = some (.val (.bl (isN x)), h) := by cases x <;> rfl
@[simp] theorem oIsNot_eq : oIsNot x (.val .non) h = some (.val (.bl (!isN x)), h) := by cases x <;> rfl
@[simp] theorem isN_non : isN (.val .non) = true := rfl
@[simp] theorem isN_int : isN (.val (.int k)) = false := rfl
@[simp] theorem isN_str : isN (.val (.str s)) = false := rfl
@[simp] theorem isN_tup : isN (.val (.tup ds)) = false := rfl
@[simp] theorem isN_bl {a : Bool} : isN (.val (.bl a)) = false := rfl
@[simp] theorem isN_ref {a : Nat} : isN (.val (.ref a)) = false := rfl
@[simp] theorem isN_new : isN (.new ds) = false := rfl
def inK (neg : Bool) (d : D) (o : Option (List D)) (h : AH) : Option (LV × AH) := o.bind fun ds => if (d.flat && ds.all D.flat) = true then some (.val (.bl (if neg then !ds.contains d else ds.contains d)), h) else none
@[simp] theorem oIn_eq : oIn (.val d) q h = inK false d (asQ q h) h := rfl
@[simp] theorem oNotIn_eq : oNotIn (.val d) q h = inK true d (asQ q h) h := rfl
theorem inK_some {neg : Bool} (c : (d.flat && ds.all D.flat) = true) : inK neg d (some ds) h = some (.val (.bl (if neg then !ds.contains d else ds.contains d)), h) := if_pos c
def ixK (o : Option (List D)) (k : Int) (h : AH) : Option (LV × AH) := o.bind fun ds => (L2.atI ds k).bind fun d => some (.val d, h)
def ixK2 (o : Option D) (h : AH) : Option (LV × AH) := o.bind fun d => some (.val d, h)
@[simp] theorem oIx_tup : oIx (.val (.tup ds)) (.val (.int k)) h = ixK2 (L2.atI ds k) h := rfl
@[simp] theorem oIx_zt : oIx (.val (.zt ds)) (.val (.int k)) h = ixK2 (L2.atI ds k) h := rfl
@[simp] theorem oIx_fl : oIx (.val (.fl ds)) (.val (.int k)) h = ixK2 (L2.atI ds k) h := rfl
@[simp] theorem oIx_new : oIx (.new ds) (.val (.int k)) h = ixK2 (L2.atI ds k) h := rfl
@[simp] theorem oIx_ref {a : Nat} : oIx (.val (.ref a)) (.val (.int k)) h = ixK (lsK h[a]?) k h := rfl
@[simp] theorem ixK_some : ixK (some ds) k h = ixK2 (L2.atI ds k) h := rfl
@[simp] theorem ixK2_some : ixK2 (some d) h = some (.val d, h) := rfl
def strIxK (o : Option Nat) (h : AH) : Option (LV × AH) := o.bind fun c => some (.val (.str ⟨#[c]⟩), h)
@[simp] theorem oIx_str : oIx (.val (.str s)) (.val (.int k)) h = if s.length ≤ 16777216 then strIxK (L2.atI s.cps.toList k) h else none := rfl
@[simp] theorem strIxK_some {c : Nat} : strIxK (some c) h = some (.val (.str ⟨#[c]⟩), h) := rfl
@[simp] theorem atI_0 {α : Type} {a : α} {l : List α} : L2.atI (a :: l) 0 = some a := by
  unfold L2.atI L2.ixN
  simp
@[simp] theorem atI_pos {α : Type} {l : List α} {k : Int} (h0 : 0 ≤ k) : L2.atI l k = l[k.toNat]? := by
  unfold L2.atI L2.ixN
  rw [if_pos h0]
  by_cases hk : k < l.length
  · rw [if_pos hk]; rfl
  · rw [if_neg hk, List.getElem?_eq_none (by omega)]; rfl
theorem atI_cast {α : Type} {l : List α} (n : Nat) : L2.atI l (n : Int) = l[n]? := by
  rw [atI_pos (by omega)]
  rfl
theorem atI_m1 {α : Type} {l : List α} : L2.atI l (-1) = l.getLast? := by
  rw [List.getLast?_eq_getElem?]
  unfold L2.atI L2.ixN
  rw [if_neg (by decide)]
  cases l with
  | nil => rfl
  | cons a r =>
    rw [if_pos (by simp; omega)]
    show (a :: r)[(-1 + ((a :: r).length : Int)).toNat]? = _
    congr 1
    rw [List.length_cons]
    omega
def setK (o : Option O) (a : Nat) (k : Int) (d : D) (h : AH) : Option AH := match o with
  | some (.lst xs) => (ixN xs.length k).bind fun j => some (h.set a (.lst (xs.set j d)))
  | _ => none
@[simp] theorem setD_eq {a : Nat} : setD (.val (.ref a)) (.val (.int k)) d h = setK h[a]? a k d h := rfl
@[simp] theorem setK_some {a : Nat} (h0 : 0 ≤ k) (h1 : k < ds.length) : setK (some (.lst ds)) a k d h = some (h.set a (.lst (ds.set k.toNat d))) := by
  unfold setK ixN
  dsimp only
  rw [if_pos h0, if_pos h1]
  rfl
/-! functions -/
def lenK (o : Option (List D)) (h : AH) : Option (LV × AH) := o.bind fun ds => some (.val (.int ds.length), h)
@[simp] theorem lenK_some : lenK (some ds) h = some (.val (.int ds.length), h) := rfl
@[simp] theorem oLen_str : oLen [.val (.str s)] h = if s.length ≤ 16777216 then some (.val (.int s.length), h) else none := rfl
@[simp] theorem oLen_tup : oLen [.val (.tup ds)] h = some (.val (.int ds.length), h) := rfl
@[simp] theorem oLen_fl : oLen [.val (.fl ds)] h = some (.val (.int ds.length), h) := rfl
@[simp] theorem oLen_new : oLen [.new ds] h = some (.val (.int ds.length), h) := rfl
@[simp] theorem oLen_ref {a : Nat} : oLen [.val (.ref a)] h = lenK (lsK h[a]?) h := rfl
@[simp] theorem oInt_int : oInt [.val (.int k)] h = some (.val (.int k), h) := rfl
@[simp] theorem oInt_bl {a : Bool} : oInt [.val (.bl a)] h = some (.val (.int (if a then 1 else 0)), h) := rfl
def toTupK (o : Option (List D)) (h : AH) : Option (LV × AH) := o.bind fun ds => some (.val (.tup ds), h)
@[simp] theorem toTupK_some : toTupK (some ds) h = some (.val (.tup ds), h) := rfl
@[simp] theorem oTuple_tup : oTuple [.val (.tup ds)] h = some (.val (.tup ds), h) := rfl
@[simp] theorem oTuple_new : oTuple [.new ds] h = some (.val (.tup ds), h) := rfl
@[simp] theorem oTuple_fl : oTuple [.val (.fl ds)] h = some (.val (.tup ds), h) := rfl
@[simp] theorem oTuple_ref {a : Nat} : oTuple [.val (.ref a)] h = toTupK (lsK h[a]?) h := rfl
def toLstK (o : Option (List D)) (h : AH) : Option (LV × AH) := o.bind fun ds => if ds.length ≤ 16777216 then some (.new ds, h) else none
@[simp] theorem toLstK_some : toLstK (some ds) h = if ds.length ≤ 16777216 then some (.new ds, h) else none := rfl
@[simp] theorem oList_eq : oList [q] h = toLstK (asQ q h) h := rfl
def appK (o : Option O) (a : Nat) (d : D) (h : AH) : Option (LV × AH) := match o with
  | some (.lst ds) => if ds.length < 16777216 then some (.val .non, h.set a (.lst (ds ++ [d]))) else none
  | _ => none
@[simp] theorem oApp_eq {a : Nat} : oApp (.val (.ref a)) (.val d) h = appK h[a]? a d h := rfl
@[simp] theorem appK_some {a : Nat} : appK (some (.lst ds)) a d h = if ds.length < 16777216 then some (.val .non, h.set a (.lst (ds ++ [d]))) else none := rfl
def methK (chk : LV → AH → Bool) (op : Op2) (o : Option (LV × AH)) (fa : SE) (τ : AT) : Option (LV × AH) := o.bind fun p => if chk p.1 p.2 = true then (fa τ p.2).bind fun q => op p.1 q.1 q.2 else none
@[simp] theorem mMeth_eq {chk : LV → AH → Bool} : mMeth chk op fa fb τ h = methK chk op (fa τ h) fb τ := rfl
@[simp] theorem methK_some {chk : LV → AH → Bool} : methK chk op (some (x, h1)) fb τ = if chk x h1 = true then binK2 (fb τ h1) op x else none := rfl
@[simp] theorem isLs_eq : isLs q h = (asL q h).isSome := rfl
@[simp] theorem mIdx_eq : mIdx fa fb τ h = methK (fun q h => isTp q h || isLs q h) oIdx (fa τ h) fb τ := rfl
@[simp] theorem isTp_tup : isTp (.val (.tup ds)) h = true := rfl
@[simp] theorem isTp_ref {a : Nat} : isTp (.val (.ref a)) h = false := rfl
def idxK (o : Option (List D)) (d : D) (h : AH) : Option (LV × AH) := o.bind fun ds => if (d.flat && ds.all D.flat) = true then (idxD d ds).bind fun j => some (.val (.int (j : Nat)), h) else none
@[simp] theorem oIdx_eq : oIdx q (.val d) h = idxK (asQ q h) d h := rfl
theorem idxK_some {j : Nat} (c : (d.flat && ds.all D.flat) = true) (e : idxD d ds = some j) : idxK (some ds) d h = some (.val (.int (j : Nat)), h) := by
  show (if (d.flat && ds.all D.flat) = true then _ else _) = _
  rw [if_pos c, e]
  rfl
def augK (o : Option (Option D)) (i : Nat) (op : Op2) (fa : SE) (τ : AT) (h : AH) : Option Res := match o with
  | some (some d) => (fa τ h).bind fun p => (op (.val d) p.1 p.2).bind fun q => some (.nx (τ.set i (some (lay q.1 q.2).1)) (lay q.1 q.2).2)
  | _ => none
def augK2 (o : Option (LV × AH)) (d : D) (i : Nat) (op : Op2) (τ : AT) : Option Res := o.bind fun p => (op (.val d) p.1 p.2).bind fun q => some (.nx (τ.set i (some (lay q.1 q.2).1)) (lay q.1 q.2).2)
def augK3 (o : Option (LV × AH)) (i : Nat) (τ : AT) : Option Res := o.bind fun q => some (.nx (τ.set i (some (lay q.1 q.2).1)) (lay q.1 q.2).2)
@[simp] theorem mAug_eq : mAug i op fa τ h = augK τ[i]? i op fa τ h := rfl
@[simp] theorem augK_some : augK (some (some d)) i op fa τ h = augK2 (fa τ h) d i op τ := rfl
@[simp] theorem augK2_some : augK2 (some (x, h1)) d i op τ = augK3 (op (.val d) x h1) i τ := rfl
@[simp] theorem augK3_some : augK3 (some (x, h1)) i τ = some (.nx (τ.set i (some (lay x h1).1)) (lay x h1).2) := rfl
@[simp] theorem oIAdd_int : oIAdd (.val (.int k)) (.val (.int l)) h = some (.val (.int (k + l)), h) := rfl
def iaddK (o : Option O) (p : Option (List D)) (a : Nat) (h : AH) : Option (LV × AH) := match o with
  | some (.lst xs) => p.bind fun ys => if xs.length + ys.length ≤ 16777216 then some (.val (.ref a), h.set a (.lst (xs ++ ys))) else none
  | _ => none
@[simp] theorem oIAdd_ref {a : Nat} : oIAdd (.val (.ref a)) q h = iaddK h[a]? (asM q h) a h := by cases q <;> rfl
@[simp] theorem iaddK_some {a : Nat} {es : List D} : iaddK (some (.lst ds)) (some es) a h = if ds.length + es.length ≤ 16777216 then some (.val (.ref a), h.set a (.lst (ds ++ es))) else none := rfl
/-! what is walked -/
def iterK (o : Option (LV × AH)) : Option (ItD × AH) := o.bind fun p => (iterOf p.1 p.2).bind fun it => some (it, p.2)
def iterK2 (o : Option ItD) (h : AH) : Option (ItD × AH) := o.bind fun it => some (it, h)
@[simp] theorem mIter_eq : mIter fa τ h = iterK (fa τ h) := rfl
@[simp] theorem iterK_some : iterK (some (x, h1)) = iterK2 (iterOf x h1) h1 := rfl
@[simp] theorem iterK2_some {it : ItD} : iterK2 (some it) h1 = some (it, h1) := id rfl
@[simp] theorem iterOf_new : iterOf (.new ds) h = some ⟨ds, []⟩ := rfl
@[simp] theorem iterOf_tup : iterOf (.val (.tup ds)) h = some ⟨ds, []⟩ := rfl
@[simp] theorem iterOf_fl : iterOf (.val (.fl ds)) h = some ⟨ds, []⟩ := rfl
def iterRK (o : Option O) (a : Nat) : Option ItD := match o with
  | some (.lst ds) => some ⟨ds, [(a, ds)]⟩
  | _ => none
@[simp] theorem iterOf_ref {a : Nat} : iterOf (.val (.ref a)) h = iterRK h[a]? a := rfl
@[simp] theorem iterRK_some {a : Nat} : iterRK (some (.lst ds)) a = some ⟨ds, [(a, ds)]⟩ := rfl
def rng1K (o : Option (List LV × AH)) : Option (ItD × AH) := o.bind fun p => (rng1 p.1).bind fun it => some (it, p.2)
def rng2K (o : Option (List LV × AH)) : Option (ItD × AH) := o.bind fun p => (rng2 p.1).bind fun it => some (it, p.2)
@[simp] theorem mRng1_eq : mRng1 fr τ h = rng1K (fr τ h) := id rfl
@[simp] theorem mRng2_eq : mRng2 fr τ h = rng2K (fr τ h) := id rfl
@[simp] theorem rng1K_some : rng1K (some (qs, h1)) = iterK2 (rng1 qs) h1 := id rfl
@[simp] theorem rng2K_some : rng2K (some (qs, h1)) = iterK2 (rng2 qs) h1 := id rfl
@[simp] theorem rng1_int (c1 : -4611686018427387904 < k) (c2 : k < 4611686018427387904) : rng1 [.val (.int k)] = some ⟨rngD 0 k.toNat, []⟩ := if_pos (by omega)
@[simp] theorem rng2_int (c1 : -4611686018427387904 < k) (c2 : k < 4611686018427387904) (c3 : -4611686018427387904 < l) (c4 : l < 4611686018427387904) : rng2 [.val (.int k), .val (.int l)] = some ⟨rngD k (l - k).toNat, []⟩ := if_pos (by omega)
def zipK (o : Option (List LV × AH)) : Option (ItD × AH) := o.bind fun p => (zipOf p.1 p.2).bind fun it => some (it, p.2)
@[simp] theorem mZip_eq : mZip fr τ h = zipK (fr τ h) := rfl
@[simp] theorem zipK_some : zipK (some (qs, h1)) = iterK2 (zipOf qs h1) h1 := rfl
def zip2K (o p : Option ItD) : Option ItD := o.bind fun a => p.bind fun b => some ⟨zipD a.items b.items, a.grd ++ b.grd⟩
@[simp] theorem zipOf_eq : zipOf [x, y] h = zip2K (iterOf x h) (iterOf y h) := rfl
@[simp] theorem zip2K_some {a b : ItD} : zip2K (some a) (some b) = some ⟨zipD a.items b.items, a.grd ++ b.grd⟩ := rfl
def forK (o : Option (ItD × AH)) (g : SG) (f : SS) (τ : AT) : Option Res := o.bind fun p => forL p.1.grd g f p.1.items τ p.2
@[simp] theorem mFor_eq : mFor fi g f τ h = forK (fi τ h) g f τ := rfl
@[simp] theorem forK_some {it : ItD} : forK (some (it, h1)) g f τ = forL it.grd g f it.items τ h1 := rfl
def compK (o : Option (ItD × AH)) (g : SG) (ft : ST) (fe : SE) (vs : List Nat) (τ : AT) : Option (LV × AH) := o.bind fun p => (compL p.1.grd g ft fe (wipeA τ vs) p.1.items p.2).bind fun z =>
  if z.1.length ≤ 16777216 then some (.new z.1, z.2) else none
def compK2 (o : Option (List D × AH)) : Option (LV × AH) := o.bind fun z => if z.1.length ≤ 16777216 then some (.new z.1, z.2) else none
@[simp] theorem mComp_eq : mComp fi g ft fe vs τ h = compK (fi τ h) g ft fe vs τ := rfl
@[simp] theorem compK_some {it : ItD} : compK (some (it, h1)) g ft fe vs τ = compK2 (compL it.grd g ft fe (wipeA τ vs) it.items h1) := rfl
@[simp] theorem compK2_some : compK2 (some (ds, h1)) = if ds.length ≤ 16777216 then some (.new ds, h1) else none := rfl
@[simp] theorem mYes_eq : mYes τ h = some (true, h) := rfl
@[simp] theorem wipeA_nil : wipeA τ [] = τ := rfl
@[simp] theorem wipeA_cons : wipeA τ (i :: vs) = (wipeA τ vs).set i none := rfl
@[simp] theorem grdOk_nil : grdOk [] h = true := rfl
@[simp] theorem grdOk_cons {a : Nat} : grdOk ((a, ds) :: grd) h = (decide (h[a]? = some (.lst ds)) && grdOk grd h) := rfl
def tupRgK (o : Option (Int × Int × AH)) : Option (LV × AH) := o.bind fun p => if rgOkB p.1 p.2.1 = true then some (.val (.tup (rngD p.1 (p.2.1 - p.1).toNat)), p.2.2) else none
def rgK (o : Option (List LV × AH)) : Option (Int × Int × AH) := o.bind fun p => match p.1 with
  | [.val (.int n)] => some (0, n, p.2)
  | [.val (.int i), .val (.int j)] => some (i, j, p.2)
  | _ => none
@[simp] theorem mTupRg_eq : mTupRg fr τ h = tupRgK (rgK (fr τ h)) := rfl
@[simp] theorem rgK_1 : rgK (some ([.val (.int k)], h1)) = some (0, k, h1) := rfl
@[simp] theorem rgK_2 : rgK (some ([.val (.int k), .val (.int l)], h1)) = some (k, l, h1) := rfl
@[simp] theorem tupRgK_some (c : rgOkB k l = true) : tupRgK (some (k, l, h1)) = some (.val (.tup (rngD k (l - k).toNat)), h1) := if_pos c
/-! slices -/
def slK (o : Option (LV × AH)) (fl fu : SO) (τ : AT) : Option (LV × AH) := o.bind fun p => (fl τ p.2).bind fun l => (fu τ l.2).bind fun u => oSl p.1 l.1 u.1 u.2
def slK2 (o : Option (Option Int × AH)) (x : LV) (fu : SO) (τ : AT) : Option (LV × AH) := o.bind fun l => (fu τ l.2).bind fun u => oSl x l.1 u.1 u.2
def slK3 (o : Option (Option Int × AH)) (x : LV) (lo : Option Int) : Option (LV × AH) := o.bind fun u => oSl x lo u.1 u.2
@[simp] theorem mSl_eq {fl fu : SO} : mSl fa fl fu τ h = slK (fa τ h) fl fu τ := rfl
@[simp] theorem slK_some {fl fu : SO} : slK (some (x, h1)) fl fu τ = slK2 (fl τ h1) x fu τ := rfl
@[simp] theorem slK2_some {fu : SO} {lo : Option Int} : slK2 (some (lo, h1)) x fu τ = slK3 (fu τ h1) x lo := rfl
@[simp] theorem slK3_some {lo hi : Option Int} : slK3 (some (hi, h1)) x lo = oSl x lo hi h1 := rfl
@[simp] theorem mNoP_eq : mNoP τ h = some (none, h) := rfl
def partK (o : Option (LV × AH)) : Option (Option Int × AH) := o.bind fun p => match p.1 with
  | .val (.int i) => some (some i, p.2)
  | _ => none
@[simp] theorem mPart_eq : mPart fa τ h = partK (fa τ h) := rfl
@[simp] theorem partK_some : partK (some (.val (.int k), h1)) = some (some k, h1) := rfl
@[simp] theorem oSl_tup {lo hi : Option Int} : oSl (.val (.tup ds)) lo hi h = some (.val (.tup (cutA ds lo hi)), h) := rfl
def slLK (o : Option (List D)) (lo hi : Option Int) (h : AH) : Option (LV × AH) := o.bind fun ds => if ds.length ≤ 16777216 then some (.new (cutA ds lo hi), h) else none
@[simp] theorem oSl_new {lo hi : Option Int} : oSl (.new ds) lo hi h = slLK (some ds) lo hi h := rfl
@[simp] theorem oSl_fl {lo hi : Option Int} : oSl (.val (.fl ds)) lo hi h = slLK (some ds) lo hi h := rfl
@[simp] theorem oSl_ref {lo hi : Option Int} {a : Nat} : oSl (.val (.ref a)) lo hi h = slLK (lsK h[a]?) lo hi h := rfl
@[simp] theorem slLK_some {lo hi : Option Int} : slLK (some ds) lo hi h = if ds.length ≤ 16777216 then some (.new (cutA ds lo hi), h) else none := rfl
/-! defs -/
def defK (o : Option Res) (h : AH) : Option (D × AH) := o.bind fun r => match r with
  | .nx _ h' => some (gc h .non h')
  | .rt d h' => some (gc h d h')
  | _ => none
theorem runDef_eq {ds : List D} (e : ds.length = n) : runDef n nn f ds h = defK (f (ds.map some ++ List.replicate (nn - n) none) h) h := by
  unfold runDef defK
  rw [if_pos e]
  all_goals (cases f (ds.map some ++ List.replicate (nn - n) none) h with
    | none => rfl
    | some r => cases r <;> rfl)
theorem runDef_if {ds : List D} : runDef n nn f ds h = if ds.length = n then defK (f (ds.map some ++ List.replicate (nn - n) none) h) h else none := by
  by_cases e : ds.length = n
  · rw [if_pos e, runDef_eq e]
  · rw [if_neg e]
    unfold runDef
    rw [if_neg e]
@[simp] theorem defK_nx : defK (some (.nx τ h1)) h = some (gc h .non h1) := rfl
@[simp] theorem defK_rt : defK (some (.rt d h1)) h = some (gc h d h1) := rfl
@[simp] theorem defK_ite {o p : Option Res} : defK (if c then o else p) h = if c then defK o h else defK p h := by split <;> rfl
end
end Sm
namespace Sm
open PySem PySem.Spec PyProof.Rows L2
/-! ## the draws -/
def bset (h : AH) (b dg : Nat) (p : Int) : AH := h.set b (.lst [.ref dg, .int p])
/-- the box of the draws stands at b, its digits at dg, p is the next place -/
structure Bx (h : AH) (b dg : Nat) (ds : List Int) (p : Int) : Prop where
  hb : h[b]? = some (.lst [.ref dg, .int p])
  hd : h[dg]? = some (.lst (ds.map D.int))
  ne : b ≠ dg
  p0 : 0 ≤ p
theorem Bx.lt {h : AH} {b dg : Nat} {ds : List Int} {p : Int} (B : Bx h b dg ds p) : b < h.length := (List.getElem?_eq_some_iff.mp B.hb).1
theorem Bx.ltd {h : AH} {b dg : Nat} {ds : List Int} {p : Int} (B : Bx h b dg ds p) : dg < h.length := (List.getElem?_eq_some_iff.mp B.hd).1
theorem Bx.set {h : AH} {b dg : Nat} {ds : List Int} {p q : Int} (B : Bx h b dg ds p) (hq : 0 ≤ q) : Bx (bset h b dg q) b dg ds q :=
  ⟨List.getElem?_set_self B.lt, by unfold bset; rw [List.getElem?_set_ne B.ne]; exact B.hd, B.ne, hq⟩
theorem Bx.app {h : AH} {b dg : Nat} {ds : List Int} {p : Int} (B : Bx h b dg ds p) (j : AH) : Bx (h ++ j) b dg ds p :=
  ⟨by rw [List.getElem?_append_left B.lt]; exact B.hb, by rw [List.getElem?_append_left B.ltd]; exact B.hd, B.ne, B.p0⟩
@[simp] theorem bset_bset {h : AH} {b dg : Nat} {p q : Int} : bset (bset h b dg p) b dg q = bset h b dg q := by unfold bset; rw [List.set_set]
@[simp] theorem bset_len {h : AH} {b dg : Nat} {p : Int} : (bset h b dg p).length = h.length := by unfold bset; rw [List.length_set]
theorem bset_app {h j : AH} {b dg : Nat} {p : Int} (hb : b < h.length) : bset (h ++ j) b dg p = bset h b dg p ++ j := by unfold bset; rw [List.set_append_left _ _ hb]
theorem Bx.same {h : AH} {b dg : Nat} {ds : List Int} {p : Int} (B : Bx h b dg ds p) : bset h b dg p = h := by
  unfold bset
  have e := B.hb
  rw [List.getElem?_eq_getElem B.lt] at e
  have := Option.some.inj e
  rw [← this, List.set_getElem_self]
/-- what a draw gives -/
def dr (ds : List Int) (p m : Int) : Int := if p < ds.length then (ds.getD p.toNat 0).fmod m else (p * p * 3 + p * 4 + p.fdiv 3 + 1).fmod m
theorem dr_lo {ds : List Int} {p m : Int} (hm : 0 < m) : 0 ≤ dr ds p m := by
  unfold dr
  split <;> exact Int.fmod_nonneg_of_pos _ hm
theorem dr_hi {ds : List Int} {p m : Int} (hm : 0 < m) : dr ds p m < m := by
  unfold dr
  split <;> exact Int.fmod_lt_of_pos _ hm
/-! ## what a call forgets -/
theorem oldOk_self (n : Nat) : ∀ (h j : AH), oldOk n h (h ++ j) = true
  | [], _ => rfl
  | o :: r, j => by
    show ((decide (o = o) || o.low n) && oldOk n r (r ++ j)) = true
    rw [oldOk_self n r j, decide_eq_true rfl]
    rfl
theorem oldOk_set {n : Nat} {o : O} (ho : o.low n = true) : ∀ {h h' : AH} (i : Nat), oldOk n h h' = true → oldOk n h (h'.set i o) = true
  | [], _, _, _ => rfl
  | _ :: _, [], _, b => by cases b
  | a :: r, a' :: r', 0, b => by
    unfold oldOk at b
    rw [Bool.and_eq_true] at b
    show ((decide (a = o) || o.low n) && oldOk n r r') = true
    rw [b.2, ho]
    simp
  | a :: r, a' :: r', i + 1, b => by
    unfold oldOk at b
    rw [Bool.and_eq_true] at b
    show ((decide (a = a') || a'.low n) && oldOk n r (r'.set i o)) = true
    rw [b.1, oldOk_set ho i b.2]
    rfl
theorem box_low {dg n : Nat} {p : Int} (hd : dg < n) : O.low n (.lst [.ref dg, .int p]) = true := by
  simp [O.low, D.lows, D.low, hd]
/-- a call that only made new things, and hands back data -/
theorem gc_pure {h j : AH} {d : D} (hd : d.low h.length = true) : gc h d (h ++ j) = (d, h) := by
  unfold gc
  rw [if_pos (oldOk_self _ h j), if_pos hd]
  simp
theorem gc_pure0 {h : AH} {d : D} (hd : d.low h.length = true) : gc h d h = (d, h) := by
  have := gc_pure (h := h) (j := []) hd
  simpa using this
theorem gc_box {h j : AH} {b dg : Nat} {ds : List Int} {p q : Int} {d : D} (B : Bx h b dg ds p) (hd : d.low h.length = true) : gc h d (bset h b dg q ++ j) = (d, bset h b dg q) := by
  have e : oldOk h.length h (bset h b dg q ++ j) = true := by
    rw [← bset_app B.lt]
    exact oldOk_set (box_low B.ltd) b (oldOk_self _ h j)
  unfold gc
  rw [if_pos e, if_pos hd]
  rw [List.take_append_of_le_length (by rw [bset_len]; exact Nat.le_refl _), List.take_of_length_le (by rw [bset_len]; exact Nat.le_refl _)]
theorem gc_box0 {h : AH} {b dg : Nat} {ds : List Int} {p q : Int} {d : D} (B : Bx h b dg ds p) (hd : d.low h.length = true) : gc h d (bset h b dg q) = (d, bset h b dg q) := by
  have := gc_box (j := []) (q := q) B hd
  simpa using this
/-- a call that hands back a list that it made, of data -/
theorem gc_list {h j : AH} {k : Nat} {ds : List D} (hk : h.length ≤ k) (hj : (h ++ j)[k]? = some (.lst ds)) (hd : D.lows h.length ds = true) : gc h (.ref k) (h ++ j) = (.ref h.length, h ++ [.lst ds]) := by
  unfold gc
  have hn : ¬ D.low h.length (.ref k) = true := by
    unfold D.low
    simp
    exact hk
  rw [if_pos (oldOk_self _ h j), if_neg hn]
  dsimp only
  rw [hj]
  dsimp only
  rw [if_pos hd, List.take_left']
  rfl
@[simp] theorem low_int {n : Nat} {i : Int} : D.low n (.int i) = true := rfl
@[simp] theorem low_str {n : Nat} {i : Str} : D.low n (.str i) = true := rfl
@[simp] theorem low_non {n : Nat} : D.low n .non = true := rfl
@[simp] theorem low_bl {n : Nat} {b : Bool} : D.low n (.bl b) = true := rfl
@[simp] theorem low_tup {n : Nat} {ds : List D} : D.low n (.tup ds) = D.lows n ds := by rw [D.low]
@[simp] theorem lows_nil {n : Nat} : D.lows n [] = true := rfl
@[simp] theorem lows_cons {n : Nat} {d : D} {ds : List D} : D.lows n (d :: ds) = (d.low n && D.lows n ds) := by rw [D.lows]
theorem draw_ok {h : AH} {b dg : Nat} {ds : List Int} {p m : Int} (B : Bx h b dg ds p) (hp : p < 1000000) (hm : 0 < m) : F_law_draw [.ref b, .int m] h = some (.int (dr ds p m), bset h b dg (p + 1)) := by
  have hm' : m ≠ 0 := by omega
  have h1 := B.p0
  have h2 := B.lt
  have h3 : bset h b dg (p + 1) = h.set b (.lst [.ref dg, .int (p + 1)]) := rfl
  have h4 := (B.set (q := p + 1) (by omega)).hb
  have h5 := (B.set (q := p + 1) (by omega)).hd
  have h6 : ∀ q, gc h (.int q) (bset h b dg (p + 1)) = (.int q, bset h b dg (p + 1)) := fun q => gc_box0 B rfl
  have h7 : -18446744073709551616 < p := by omega
  have h8 : p < 18446744073709551616 := by omega
  unfold F_law_draw b_law_draw
  simp only [runDef_if]
  simp [B.hb, hm', h1, ← h3, h4, h5, h7, h8]
  unfold dr
  by_cases hc : p < ds.length
  · have hi : p.toNat < ds.length := by omega
    simp [hc, hi, hm', h6]
  · simp [hc, hm', h6]
end Sm
namespace Sm
open PySem PySem.Spec PyProof.Rows L2
/-! ## loops and comprehensions, told by what holds between turns -/
theorem forL_inv {grd : List (Nat × List D)} {g : SG} {body : SS} (P : List D → AT → AH → Prop) (hg : ∀ rest τ h, P rest τ h → grdOk grd h = true)
    (hs : ∀ x rest τ h, P (x :: rest) τ h → ∃ τ1 h1 τ2 h2, g x τ h = some (τ1, h1) ∧ (body τ1 h1 = some (.nx τ2 h2) ∨ body τ1 h1 = some (.ct τ2 h2)) ∧ P rest τ2 h2) :
    ∀ (items : List D) (τ : AT) (h : AH), P items τ h → ∃ τ' h', forL grd g body items τ h = some (.nx τ' h') ∧ P [] τ' h'
  | [], τ, h, p => ⟨τ, h, by unfold forL; rw [if_pos (hg _ _ _ p)], p⟩
  | x :: xs, τ, h, p => by
    obtain ⟨τ1, h1, τ2, h2, e1, e2, p2⟩ := hs x xs τ h p
    obtain ⟨τ', h', e3, p3⟩ := forL_inv P hg hs xs τ2 h2 p2
    refine ⟨τ', h', ?_, p3⟩
    unfold forL
    rw [if_pos (hg _ _ _ p), e1]
    show (body τ1 h1).bind _ = _
    rcases e2 with e2 | e2 <;> rw [e2] <;> exact e3
/-- a comprehension that changes nothing -/
theorem compL_map {grd : List (Nat × List D)} {g : SG} {fe : SE} {τ : AT} {h : AH} (f : D → D) (hg : grdOk grd h = true) :
    ∀ (xs : List D), (∀ x ∈ xs, ∃ τ1, g x τ h = some (τ1, h) ∧ fe τ1 h = some (.val (f x), h)) → compL grd g mYes fe τ xs h = some (xs.map f, h)
  | [], _ => by unfold compL; rw [if_pos hg]; rfl
  | x :: xs, hs => by
    obtain ⟨τ1, e1, e2⟩ := hs x List.mem_cons_self
    unfold compL
    rw [if_pos hg, e1]
    show ((fe τ1 h).bind fun y => _) = _
    rw [e2]
    show ((compL grd g mYes fe τ xs h).bind fun z => some (f x :: z.1, z.2)) = _
    rw [compL_map f hg xs fun y hy => hs y (List.mem_cons_of_mem _ hy)]
    rfl
theorem compL_mapT {α : Type} {grd : List (Nat × List D)} {g : SG} {fe : SE} {τ : AT} {h : AH} {t : α → D} (f : α → D) (hg : grdOk grd h = true) :
    ∀ (xs : List α), (∀ x ∈ xs, ∃ τ1, g (t x) τ h = some (τ1, h) ∧ fe τ1 h = some (.val (f x), h)) → compL grd g mYes fe τ (xs.map t) h = some (xs.map f, h)
  | [], _ => by
    show compL grd g mYes fe τ [] h = _
    unfold compL
    rw [if_pos hg]
    rfl
  | x :: xs, hs => by
    obtain ⟨τ1, e1, e2⟩ := hs x List.mem_cons_self
    show compL grd g mYes fe τ (t x :: xs.map t) h = _
    unfold compL
    rw [if_pos hg, e1]
    show ((fe τ1 h).bind fun y => _) = _
    rw [e2]
    show ((compL grd g mYes fe τ (xs.map t) h).bind fun z => some (f x :: z.1, z.2)) = _
    rw [compL_mapT f hg xs fun y hy => hs y (List.mem_cons_of_mem _ hy)]
    rfl
theorem compL_filter {grd : List (Nat × List D)} {g : SG} {ft : ST} {fe : SE} {τ : AT} {h : AH} (t : D → Bool) (f : D → D) (hg : grdOk grd h = true) :
    ∀ (xs : List D), (∀ x ∈ xs, ∃ τ1, g x τ h = some (τ1, h) ∧ ft τ1 h = some (t x, h) ∧ (t x = true → fe τ1 h = some (.val (f x), h))) → compL grd g ft fe τ xs h = some ((xs.filter t).map f, h)
  | [], _ => by unfold compL; rw [if_pos hg]; rfl
  | x :: xs, hs => by
    obtain ⟨τ1, e1, e2, e3⟩ := hs x List.mem_cons_self
    have ih := compL_filter t f hg xs fun y hy => hs y (List.mem_cons_of_mem _ hy)
    unfold compL
    rw [if_pos hg, e1]
    show ((ft τ1 h).bind fun b => _) = _
    rw [e2]
    show (if t x = true then (fe τ1 h).bind fun y => _ else compL grd g ft fe τ xs h) = _
    by_cases ht : t x = true
    · rw [if_pos ht, e3 ht]
      show ((compL grd g ft fe τ xs h).bind fun z => some (f x :: z.1, z.2)) = _
      rw [ih, List.filter_cons_of_pos ht]
      rfl
    · rw [if_neg ht, ih, List.filter_cons_of_neg ht]
/-- a comprehension whose turns change the heap -/
theorem compL_inv {grd : List (Nat × List D)} {g : SG} {fe : SE} {τ : AT} (P : List D → List D → AH → Prop) (hg : ∀ rest ys h, P rest ys h → grdOk grd h = true)
    (hs : ∀ x rest ys h, P (x :: rest) ys h → ∃ τ1 h1 y h2, g x τ h = some (τ1, h1) ∧ fe τ1 h1 = some (.val y, h2) ∧ P rest (ys ++ [y]) h2) :
    ∀ (xs ys : List D) (h : AH), P xs ys h → ∃ zs h', compL grd g mYes fe τ xs h = some (zs, h') ∧ P [] (ys ++ zs) h'
  | [], ys, h, p => ⟨[], h, by unfold compL; rw [if_pos (hg _ _ _ p)], by rw [List.append_nil]; exact p⟩
  | x :: xs, ys, h, p => by
    obtain ⟨τ1, h1, y, h2, e1, e2, p2⟩ := hs x xs ys h p
    obtain ⟨zs, h', e3, p3⟩ := compL_inv P hg hs xs (ys ++ [y]) h2 p2
    refine ⟨y :: zs, h', ?_, by rw [List.append_assoc] at p3; exact p3⟩
    unfold compL
    rw [if_pos (hg _ _ _ p), e1]
    show ((fe τ1 h1).bind fun y => _) = _
    rw [e2]
    show ((compL grd g mYes fe τ xs h2).bind fun z => some (y :: z.1, z.2)) = _
    rw [e3]
    rfl
/-! ## the heap's end -/
@[simp] theorem get_mid {h j : AH} {o : O} : (h ++ o :: j)[h.length]? = some o := by rw [List.getElem?_append_right (Nat.le_refl _), Nat.sub_self]; rfl
@[simp] theorem set_mid {h j : AH} {o p : O} : (h ++ o :: j).set h.length p = h ++ p :: j := by rw [List.set_append_right _ _ (Nat.le_refl _), Nat.sub_self]; rfl
@[simp] theorem get_mid2 {h j : AH} {o p : O} : (h ++ o :: (j ++ [p]))[h.length + (j.length + 1)]? = some p := by
  rw [show h ++ o :: (j ++ [p]) = (h ++ o :: j) ++ [p] by simp, List.getElem?_append_right (by simp), show h.length + (j.length + 1) - (h ++ o :: j).length = 0 by simp]; rfl
@[simp] theorem get_end {h : AH} {o : O} : (h ++ [o])[h.length]? = some o := by rw [List.getElem?_append_right (Nat.le_refl _), Nat.sub_self]; rfl
/-! ## systems -/
inductive Dat where
  | num (nm : Str) (lo hi fi : Int) | que (nm : Str) (room lo hi : Int)
structure Prc where
  nm : Str
  places : List Str
  mv : D
structure Sys where
  nm : Str
  dats : List Dat
  prcs : List Prc
def Dat.d : Dat → D
  | .num nm lo hi fi => .tup [.str "number", .str nm, .int lo, .int hi, .int fi]
  | .que nm room lo hi => .tup [.str "queue", .str nm, .int room, .int lo, .int hi]
def Prc.d (p : Prc) : D := .tup [.str "process", .str p.nm, .tup (p.places.map D.str), p.mv]
def Sys.d (S : Sys) : D := .tup [.str "system", .str S.nm, .tup (S.dats.map Dat.d), .tup (S.prcs.map Prc.d)]
def Dat.Ok : Dat → Prop
  | .num _ lo hi _ => -1000 ≤ lo ∧ lo ≤ hi ∧ hi ≤ 1000
  | .que _ room lo hi => 0 ≤ room ∧ room ≤ 100 ∧ 0 ≤ lo ∧ lo ≤ hi ∧ hi ≤ 1000
structure Sys.Ok (S : Sys) : Prop where
  dat : ∀ d ∈ S.dats, d.Ok
  nd : S.dats.length ≤ 100
  np : S.prcs.length ≤ 100
  pl : ∀ p ∈ S.prcs, p.places.length ≤ 100
def Dat.cells : Dat → List D
  | .num nm lo hi _ => [.tup [.str nm, .int 0, .tup (rngD lo (hi + 1 - lo).toNat)]]
  | .que nm room lo hi => (rngD 1 room.toNat).map fun i => .tup [.str nm, i, .tup (.non :: rngD lo (hi + 1 - lo).toNat)]
theorem rngD_len {lo : Int} {n : Nat} : (rngD lo n).length = n := by simp [rngD]
theorem lows_rng (n : Nat) (lo : Int) (k : Nat) : D.lows n (rngD lo k) = true := by
  unfold rngD
  induction List.range k with
  | nil => rfl
  | cons x r ih => simpa using ih
theorem rgOk_ok {lo hi : Int} (a : -1000 ≤ lo) (b : lo ≤ hi) (c : hi ≤ 1000) : rgOkB lo (hi + 1) = true := by
  unfold rgOkB
  simp
  omega
theorem lows_map {α : Type} {n : Nat} {f : α → D} (hf : ∀ x, (f x).low n = true) (xs : List α) : D.lows n (xs.map f) = true := by
  induction xs with
  | nil => rfl
  | cons x r ih => rw [List.map_cons, lows_cons, hf, ih]; rfl
theorem lows_app {n : Nat} {xs ys : List D} : D.lows n (xs ++ ys) = (D.lows n xs && D.lows n ys) := by
  induction xs with
  | nil => simp
  | cons x r ih => rw [List.cons_append, lows_cons, lows_cons, ih, Bool.and_assoc]
theorem lows_of {n : Nat} {xs : List D} (h : ∀ x ∈ xs, x.low n = true) : D.lows n xs = true := by
  induction xs with
  | nil => rfl
  | cons x r ih => rw [lows_cons, h x List.mem_cons_self, ih fun y hy => h y (List.mem_cons_of_mem _ hy)]; rfl
theorem cells_low {n : Nat} (d : Dat) : D.lows n d.cells = true := by
  cases d with
  | num nm lo hi fi => simp [Dat.cells, lows_rng]
  | que nm room lo hi =>
    show D.lows n ((rngD 1 room.toNat).map fun i => .tup [.str nm, i, .tup (.non :: rngD lo (hi + 1 - lo).toNat)]) = true
    unfold rngD
    rw [List.map_map]
    exact lows_map (fun x => by simp; exact lows_rng _ _ _) _
theorem datum_cells_ok {h : AH} {d : Dat} (ok : d.Ok) : F_datum_cells [d.d] h = some (.ref h.length, h ++ [.lst d.cells]) := by
  have gl : gc h (.ref h.length) (h ++ [.lst d.cells]) = (.ref h.length, h ++ [.lst d.cells]) := gc_list (Nat.le_refl _) get_mid (cells_low d)
  cases d with
  | num nm lo hi fi =>
    obtain ⟨a, b, c⟩ := ok
    have q := rgOk_ok a b c
    unfold F_datum_cells b_datum_cells Dat.d
    simp (disch := first | assumption | omega | (simp only [List.length_cons, List.length_nil, List.length_map]; omega)) [runDef_if]
    exact gl
  | que nm room lo hi =>
    obtain ⟨r0, r1, a, b, c⟩ := ok
    have z : 1 + (hi + 1 - lo).toNat ≤ 16777216 := by omega
    have z2 : (room + 1 - 1).toNat = room.toNat := by omega
    have q := rgOk_ok (show -1000 ≤ lo by omega) b c
    unfold F_datum_cells b_datum_cells Dat.d
    simp (disch := first | assumption | omega | (simp only [List.length_cons, List.length_nil, List.length_map]; omega)) [runDef_if, rngD_len, z, z2]
    rw [compL_map (fun i => .tup [.str nm, i, .tup (.non :: rngD lo (hi + 1 - lo).toNat)]) rfl _ (fun x hx => by
      refine ⟨_, rfl, ?_⟩
      simp (disch := first | assumption | omega | (simp only [List.length_cons, List.length_nil, List.length_map]; omega)) [])]
    have z3 : room ≤ 16777216 := by omega
    simp (disch := first | assumption | omega | (simp only [List.length_cons, List.length_nil, List.length_map]; omega)) [rngD_len, z3]
    exact gl
/-! cells -/
def Sys.cells (S : Sys) : List D := S.prcs.map (fun p => .tup [.str p.nm, .int 0, .tup (p.places.map D.str)]) ++ S.dats.flatMap Dat.cells
theorem dat_cells_len {d : Dat} (ok : d.Ok) : d.cells.length ≤ 100 := by
  cases d with
  | num nm lo hi fi => simp [Dat.cells]
  | que nm room lo hi =>
    obtain ⟨r0, r1, a, b, c⟩ := ok
    simp [Dat.cells, rngD_len]
    omega
theorem flat_len {α β : Type} {f : α → List β} {n : Nat} : ∀ {xs : List α}, (∀ x ∈ xs, (f x).length ≤ n) → (xs.flatMap f).length ≤ n * xs.length
  | [], _ => by simp
  | x :: r, h => by
    rw [List.flatMap_cons, List.length_append, List.length_cons, Nat.mul_succ]
    have := h x List.mem_cons_self
    have := flat_len (xs := r) fun y hy => h y (List.mem_cons_of_mem _ hy)
    omega
theorem cells_len {S : Sys} (ok : S.Ok) : S.cells.length ≤ 10100 := by
  unfold Sys.cells
  have := flat_len (f := Dat.cells) (n := 100) (xs := S.dats) fun d hd => dat_cells_len (ok.dat d hd)
  have := ok.np
  have := ok.nd
  rw [List.length_append, List.length_map]
  omega
theorem sys_cells_low {n : Nat} (S : Sys) : D.lows n S.cells = true := by
  unfold Sys.cells
  rw [lows_app, lows_map (fun p => by simp; exact lows_map (fun _ => rfl) _)]
  rw [Bool.true_and]
  exact lows_of fun x hx => by
    obtain ⟨d, _, hx⟩ := List.mem_flatMap.mp hx
    have := cells_low (n := n) d
    revert hx this
    generalize d.cells = l
    intro hx this
    induction l with
    | nil => cases hx
    | cons y r ih =>
      rw [lows_cons, Bool.and_eq_true] at this
      rcases List.mem_cons.mp hx with e | e
      · rw [e]; exact this.1
      · exact ih e this.2
theorem le_big {n : Nat} (h : n ≤ 20000) : n ≤ 16777216 := Nat.le_trans h (by decide)
theorem cells_ok {h : AH} {S : Sys} (ok : S.Ok) : F_cells [S.d] h = some (.tup S.cells, h) := by
  have z1 : S.prcs.length ≤ 16777216 := le_big (Nat.le_trans ok.np (by decide))
  have z2 := cells_len ok
  unfold F_cells b_cells
  simp (disch := first | assumption | omega | (simp only [List.length_cons, List.length_nil, List.length_map]; omega)) [runDef_if, Sys.d]
  rw [compL_mapT (fun p : Prc => .tup [.str p.nm, .int 0, .tup (p.places.map D.str)]) rfl _ (fun p hp => by
      refine ⟨_, rfl, ?_⟩
      unfold Prc.d
      simp (disch := first | assumption | omega | (simp only [List.length_cons, List.length_nil, List.length_map]; omega)) [])]
  simp (disch := first | assumption | omega | (simp only [List.length_cons, List.length_nil, List.length_map]; omega)) [z1]
  obtain ⟨τ', h', e, P⟩ := forL_inv (grd := []) (g := gN 2) (body := l_cells_1)
    (fun rest τ hh => ∃ done rest' acc j x y, rest = rest'.map Dat.d ∧ S.dats = done ++ rest' ∧ τ = [some y, some (.ref h.length), x, none] ∧ hh = h ++ .lst acc :: j ∧ acc = S.prcs.map (fun p : Prc => .tup [.str p.nm, .int 0, .tup (p.places.map D.str)]) ++ done.flatMap Dat.cells)
    (fun _ _ _ _ => rfl)
    (fun x rest τ hh ⟨done, rest', acc, j, x0, y, h1, h2, h3, h4, h5⟩ => by
      cases rest' with
      | nil => cases h1
      | cons d rest' =>
        obtain ⟨rfl, rfl⟩ := List.cons.inj h1
        subst h3 h4
        have okd := ok.dat d (by rw [h2]; simp)
        have la : acc.length + d.cells.length ≤ 16777216 := by
          have : (acc ++ d.cells).length ≤ S.cells.length := by
            unfold Sys.cells
            rw [h5, h2]
            simp
          rw [List.length_append] at this
          omega
        have e1 := datum_cells_ok (h := h ++ O.lst acc :: j) okd
        refine ⟨_, _, _, _, rfl, .inl ?_, done ++ [d], rest', acc ++ d.cells, j ++ [.lst d.cells], some d.d, y, rfl, by rw [h2]; simp, rfl, rfl, by rw [h5]; simp⟩
        unfold l_cells_1
        simp (disch := first | assumption | omega | (simp only [List.length_cons, List.length_nil, List.length_map]; omega)) [e1, la])
    (S.dats.map Dat.d) _ _ ⟨[], S.dats, _, [], none, _, rfl, rfl, rfl, rfl, (List.append_nil _).symm⟩
  rw [e]
  obtain ⟨done, rest', acc, j, x0, y, h1, h2, h3, h4, h5⟩ := P
  subst h3 h4
  have h6 : rest' = [] := List.map_eq_nil_iff.mp h1.symm
  subst h6
  rw [List.append_nil] at h2
  have h7 : acc = S.cells := by rw [h5, ← h2]; rfl
  subst h7
  simp (disch := first | assumption | omega | (simp only [List.length_cons, List.length_nil, List.length_map]; omega)) []
  rw [gc_pure (by simp; exact sys_cells_low S)]
end Sm
namespace Sm
open PySem PySem.Spec PyProof.Rows L2
/-! ## like: data is like itself -/
mutual
def D.lk : D → Bool
  | .non => true
  | .bl _ => true
  | .int _ => true
  | .str _ => true
  | .tup ds => decide (ds.length ≤ 16777216) && D.lks ds
  | _ => false
def D.lks : List D → Bool
  | [] => true
  | d :: r => D.lk d && D.lks r
end
mutual
def D.ld : D → Nat
  | .tup ds => D.lds ds + 1
  | _ => 0
def D.lds : List D → Nat
  | [] => 0
  | d :: r => max (D.ld d) (D.lds r)
end
theorem lks_mem {d : D} : ∀ {ds : List D}, D.lks ds = true → d ∈ ds → d.lk = true
  | x :: r, h, hm => by
    rw [D.lks, Bool.and_eq_true] at h
    rcases List.mem_cons.mp hm with e | e
    · rw [e]; exact h.1
    · exact lks_mem h.2 e
theorem lds_mem {d : D} : ∀ {ds : List D}, d ∈ ds → d.ld ≤ D.lds ds
  | x :: r, hm => by
    rw [D.lds]
    rcases List.mem_cons.mp hm with e | e
    · rw [e]; exact Nat.le_max_left _ _
    · exact Nat.le_trans (lds_mem e) (Nat.le_max_right _ _)
@[simp] theorem tyN_tup {h : AH} {ds : List D} : tyN (.val (.tup ds)) h = some "tuple" := rfl
@[simp] theorem tyN_int {h : AH} {i : Int} : tyN (.val (.int i)) h = some "int" := rfl
@[simp] theorem tyN_str {h : AH} {i : Str} : tyN (.val (.str i)) h = some "str" := rfl
@[simp] theorem tyN_bl {h : AH} {i : Bool} : tyN (.val (.bl i)) h = some "bool" := rfl
@[simp] theorem tyN_non {h : AH} : tyN (.val .non) h = some "NoneType" := rfl
def isiK (o : Option String) (T : String) (h : AH) : Option (LV × AH) := o.bind fun n => if tys.contains T = true then some (.val (.bl (isTyB n T)), h) else none
@[simp] theorem oIsi_eq {h : AH} {q : LV} {T : String} : oIsi [q, .val (.ty T)] h = isiK (tyN q h) T h := rfl
theorem isiK_some {h : AH} {n T : String} (c : tys.contains T = true) : isiK (some n) T h = some (.val (.bl (isTyB n T)), h) := if_pos c
@[simp] theorem ity_list_list : isTyB "list" "list" = true := by decide +kernel
@[simp] theorem ity_list_bool : isTyB "list" "bool" = false := by decide +kernel
@[simp] theorem ity_list_int : isTyB "list" "int" = false := by decide +kernel
@[simp] theorem ity_list_str : isTyB "list" "str" = false := by decide +kernel
@[simp] theorem ity_list_tuple : isTyB "list" "tuple" = false := by decide +kernel
@[simp] theorem ity_list_dict : isTyB "list" "dict" = false := by decide +kernel
@[simp] theorem ity_NoneType_list : isTyB "NoneType" "list" = false := by decide +kernel
@[simp] theorem ity_NoneType_bool : isTyB "NoneType" "bool" = false := by decide +kernel
@[simp] theorem ity_NoneType_int : isTyB "NoneType" "int" = false := by decide +kernel
@[simp] theorem ity_NoneType_str : isTyB "NoneType" "str" = false := by decide +kernel
@[simp] theorem ity_NoneType_tuple : isTyB "NoneType" "tuple" = false := by decide +kernel
@[simp] theorem ity_NoneType_dict : isTyB "NoneType" "dict" = false := by decide +kernel
@[simp] theorem ity_bool_list : isTyB "bool" "list" = false := by decide +kernel
@[simp] theorem ity_bool_bool : isTyB "bool" "bool" = true := by decide +kernel
@[simp] theorem ity_bool_int : isTyB "bool" "int" = true := by decide +kernel
@[simp] theorem ity_bool_str : isTyB "bool" "str" = false := by decide +kernel
@[simp] theorem ity_bool_tuple : isTyB "bool" "tuple" = false := by decide +kernel
@[simp] theorem ity_bool_dict : isTyB "bool" "dict" = false := by decide +kernel
@[simp] theorem ity_int_list : isTyB "int" "list" = false := by decide +kernel
@[simp] theorem ity_int_bool : isTyB "int" "bool" = false := by decide +kernel
@[simp] theorem ity_int_int : isTyB "int" "int" = true := by decide +kernel
@[simp] theorem ity_int_str : isTyB "int" "str" = false := by decide +kernel
@[simp] theorem ity_int_tuple : isTyB "int" "tuple" = false := by decide +kernel
@[simp] theorem ity_int_dict : isTyB "int" "dict" = false := by decide +kernel
@[simp] theorem ity_str_list : isTyB "str" "list" = false := by decide +kernel
@[simp] theorem ity_str_bool : isTyB "str" "bool" = false := by decide +kernel
@[simp] theorem ity_str_int : isTyB "str" "int" = false := by decide +kernel
@[simp] theorem ity_str_str : isTyB "str" "str" = true := by decide +kernel
@[simp] theorem ity_str_tuple : isTyB "str" "tuple" = false := by decide +kernel
@[simp] theorem ity_str_dict : isTyB "str" "dict" = false := by decide +kernel
@[simp] theorem ity_tuple_list : isTyB "tuple" "list" = false := by decide +kernel
@[simp] theorem ity_tuple_bool : isTyB "tuple" "bool" = false := by decide +kernel
@[simp] theorem ity_tuple_int : isTyB "tuple" "int" = false := by decide +kernel
@[simp] theorem ity_tuple_str : isTyB "tuple" "str" = false := by decide +kernel
@[simp] theorem ity_tuple_tuple : isTyB "tuple" "tuple" = true := by decide +kernel
@[simp] theorem ity_tuple_dict : isTyB "tuple" "dict" = false := by decide +kernel
@[simp] theorem ity_dict_list : isTyB "dict" "list" = false := by decide +kernel
@[simp] theorem ity_dict_bool : isTyB "dict" "bool" = false := by decide +kernel
@[simp] theorem ity_dict_int : isTyB "dict" "int" = false := by decide +kernel
@[simp] theorem ity_dict_str : isTyB "dict" "str" = false := by decide +kernel
@[simp] theorem ity_dict_tuple : isTyB "dict" "tuple" = false := by decide +kernel
@[simp] theorem ity_dict_dict : isTyB "dict" "dict" = true := by decide +kernel
@[simp] theorem rng1_nat {n : Nat} (c : n ≤ 4000000000) : rng1 [.val (.int (n : Int))] = some ⟨rngD 0 n, []⟩ := by
  have := rng1_int (k := (n : Int)) (by omega) (by omega)
  simpa using this
theorem tc_tuple : tys.contains "tuple" = true := by decide
theorem tc_list : tys.contains "list" = true := by decide
theorem tc_bool : tys.contains "bool" = true := by decide
theorem tc_int : tys.contains "int" = true := by decide
theorem tc_str : tys.contains "str" = true := by decide
@[simp] theorem isiK_tuple {h : AH} {n : String} : isiK (some n) "tuple" h = some (.val (.bl (isTyB n "tuple")), h) := isiK_some tc_tuple
@[simp] theorem isiK_list {h : AH} {n : String} : isiK (some n) "list" h = some (.val (.bl (isTyB n "list")), h) := isiK_some tc_list
@[simp] theorem isiK_bool {h : AH} {n : String} : isiK (some n) "bool" h = some (.val (.bl (isTyB n "bool")), h) := isiK_some tc_bool
@[simp] theorem isiK_int {h : AH} {n : String} : isiK (some n) "int" h = some (.val (.bl (isTyB n "int")), h) := isiK_some tc_int
@[simp] theorem isiK_str {h : AH} {n : String} : isiK (some n) "str" h = some (.val (.bl (isTyB n "str")), h) := isiK_some tc_str
theorem like_ok (k : Nat) : ∀ (d : D) (h : AH), d.lk = true → d.ld < k → F_law_like k [d, d] h = some (.bl true, h) := by
  induction k with
  | zero => exact fun _ _ _ hk => absurd hk (Nat.not_lt_zero _)
  | succ k ih =>
    intro d h hl hk
    have g := gc_pure0 (h := h) (d := .bl true) rfl
    cases d with
    | non =>
      unfold F_law_like b_law_like
      simp (disch := first | assumption | omega | (simp only [List.length_cons, List.length_nil, List.length_map]; omega)) [runDef_if, g]
    | bl b =>
      unfold F_law_like b_law_like
      simp (disch := first | assumption | omega | (simp only [List.length_cons, List.length_nil, List.length_map]; omega)) [runDef_if, g]
    | int i =>
      unfold F_law_like b_law_like
      simp (disch := first | assumption | omega | (simp only [List.length_cons, List.length_nil, List.length_map]; omega)) [runDef_if, g]
    | str x =>
      unfold F_law_like b_law_like
      simp (disch := first | assumption | omega | (simp only [List.length_cons, List.length_nil, List.length_map]; omega)) [runDef_if, g]
    | tup ds =>
      rw [D.lk, Bool.and_eq_true] at hl
      have hn := of_decide_eq_true hl.1
      have hn2 : ds.length ≤ 4000000000 := Nat.le_trans hn (by decide)
      unfold F_law_like b_law_like
      simp (disch := first | assumption | omega | (simp only [List.length_cons, List.length_nil, List.length_map]; omega)) [runDef_if]
      obtain ⟨τ', h', e, P⟩ := forL_inv (grd := []) (g := gN 2) (body := l_law_like_1 (F_law_like k))
        (fun rest τ hh => ∃ x, (∀ y ∈ rest, ∃ i : Nat, i < ds.length ∧ y = .int (i : Int)) ∧ τ = [some (.tup ds), some (.tup ds), x] ∧ hh = h)
        (fun _ _ _ _ => rfl)
        (fun y rest τ hh ⟨x, h1, h2, h3⟩ => by
          subst h2 h3
          obtain ⟨i, hi, rfl⟩ := h1 _ List.mem_cons_self
          have e1 : L2.atI ds (i : Int) = some ds[i] := by rw [atI_cast, List.getElem?_eq_getElem hi]
          have e2 := ih ds[i] hh (lks_mem hl.2 (List.getElem_mem hi)) (by
            have := lds_mem (List.getElem_mem hi)
            rw [D.ld] at hk
            omega)
          refine ⟨[some (.tup ds), some (.tup ds), some (.int (i : Int))], hh, [some (.tup ds), some (.tup ds), some (.int (i : Int))], hh, rfl, .inl ?_, _, fun z hz => h1 z (List.mem_cons_of_mem _ hz), rfl, rfl⟩
          unfold l_law_like_1
          simp [atI_cast, List.getElem?_eq_getElem hi, e2])
        (rngD 0 ds.length) _ _ ⟨none, fun y hy => by
          obtain ⟨i, hi, e⟩ := List.mem_map.mp hy
          exact ⟨i, List.mem_range.mp hi, by rw [← e]; simp⟩, rfl, rfl⟩
      rw [e]
      obtain ⟨x, h1, h2, h3⟩ := P
      subst h2 h3
      simp (disch := first | assumption | omega | (simp only [List.length_cons, List.length_nil, List.length_map]; omega)) [g]
    | zt _ => simp [D.lk] at hl
    | fl _ => simp [D.lk] at hl
    | ref _ => simp [D.lk] at hl
    | ty _ => simp [D.lk] at hl
end Sm
namespace Sm
open PySem PySem.Spec PyProof.Rows L2
/-- a loop over a list, told by the number of turns done -/
theorem forIx {grd : List (Nat × List D)} {g : SG} {body : SS} {xs : List D} (P : Nat → AT → AH → Prop) (hg : ∀ i τ h, P i τ h → grdOk grd h = true)
    (hs : ∀ (i : Nat) (hi : i < xs.length) τ h, P i τ h → ∃ τ1 h1 τ2 h2, g xs[i] τ h = some (τ1, h1) ∧ (body τ1 h1 = some (.nx τ2 h2) ∨ body τ1 h1 = some (.ct τ2 h2)) ∧ P (i + 1) τ2 h2)
    (τ : AT) (h : AH) (p : P 0 τ h) : ∃ τ' h', forL grd g body xs τ h = some (.nx τ' h') ∧ P xs.length τ' h' := by
  obtain ⟨τ', h', e, i, h1, h2, h3⟩ := forL_inv (grd := grd) (g := g) (body := body) (fun rest τ h => ∃ i, i ≤ xs.length ∧ rest = xs.drop i ∧ P i τ h) (fun rest τ h ⟨i, _, _, c⟩ => hg i τ h c)
    (fun x rest τ h ⟨i, a, b, c⟩ => by
      have hi : i < xs.length := by
        rcases Nat.lt_or_ge i xs.length with z | z
        · exact z
        · rw [List.drop_eq_nil_of_le z] at b
          cases b
      rw [List.drop_eq_getElem_cons hi] at b
      obtain ⟨rfl, rfl⟩ := List.cons.inj b
      obtain ⟨τ1, h1, τ2, h2, e1, e2, e3⟩ := hs i hi τ h c
      exact ⟨τ1, h1, τ2, h2, e1, e2, i + 1, hi, rfl, e3⟩)
    xs τ h ⟨0, Nat.zero_le _, rfl, p⟩
  have : i = xs.length := by
    have := congrArg List.length h2
    rw [List.length_nil, List.length_drop] at this
    omega
  exact ⟨τ', h', e, this ▸ h3⟩
theorem forRg {g : SG} {body : SS} {lo : Int} {n : Nat} (P : Nat → AT → AH → Prop)
    (hs : ∀ (i : Nat), i < n → ∀ τ h, P i τ h → ∃ τ1 h1 τ2 h2, g (.int (lo + i)) τ h = some (τ1, h1) ∧ (body τ1 h1 = some (.nx τ2 h2) ∨ body τ1 h1 = some (.ct τ2 h2)) ∧ P (i + 1) τ2 h2)
    (τ : AT) (h : AH) (p : P 0 τ h) : ∃ τ' h', forL [] g body (rngD lo n) τ h = some (.nx τ' h') ∧ P n τ' h' := by
  obtain ⟨τ', h', e, p'⟩ := forIx (grd := []) (g := g) (body := body) (xs := rngD lo n) P (fun _ _ _ _ => rfl) (fun i hi τ h p => by
    rw [rngD_len] at hi
    have : (rngD lo n)[i]'(by rw [rngD_len]; exact hi) = .int (lo + i) := by simp [rngD]
    rw [this]
    exact hs i hi τ h p) τ h p
  rw [rngD_len] at p'
  exact ⟨τ', h', e, p'⟩
theorem forRg0 {g : SG} {body : SS} {n : Nat} (P : Nat → AT → AH → Prop)
    (hs : ∀ (i : Nat), i < n → ∀ τ h, P i τ h → ∃ τ1 h1 τ2 h2, g (.int (i : Int)) τ h = some (τ1, h1) ∧ (body τ1 h1 = some (.nx τ2 h2) ∨ body τ1 h1 = some (.ct τ2 h2)) ∧ P (i + 1) τ2 h2)
    (τ : AT) (h : AH) (p : P 0 τ h) : ∃ τ' h', forL [] g body (rngD 0 n) τ h = some (.nx τ' h') ∧ P n τ' h' :=
  forRg P (fun i hi τ h p => by rw [Int.zero_add]; exact hs i hi τ h p) τ h p
/-! ## a heap told as: the entry's heap with the box moved on, and what was made since -/
section
variable {h j : AH} {b dg : Nat} {q q' : Int} {k : Nat} {o : O}
@[simp] theorem lenA : (bset h b dg q ++ j).length = h.length + j.length := by rw [List.length_append, bset_len]
@[simp] theorem getA : (bset h b dg q ++ j)[h.length + k]? = j[k]? := by
  rw [List.getElem?_append_right (by rw [bset_len]; omega), bset_len, Nat.add_sub_cancel_left]
@[simp] theorem getA0 : (bset h b dg q ++ j)[h.length]? = j[0]? := getA (k := 0)
@[simp] theorem setA : (bset h b dg q ++ j).set (h.length + k) o = bset h b dg q ++ j.set k o := by
  rw [List.set_append_right _ _ (by rw [bset_len]; omega), bset_len, Nat.add_sub_cancel_left]
@[simp] theorem setA0 : (bset h b dg q ++ j).set h.length o = bset h b dg q ++ j.set 0 o := setA (k := 0)
@[simp] theorem getB {α : Type} {j l : List α} {k : Nat} : (j ++ l)[j.length + k]? = l[k]? := by
  rw [List.getElem?_append_right (by omega), Nat.add_sub_cancel_left]
@[simp] theorem getB0 {α : Type} {j l : List α} : (j ++ l)[j.length]? = l[0]? := getB (k := 0)
@[simp] theorem setB {α : Type} {j l : List α} {k : Nat} {o : α} : (j ++ l).set (j.length + k) o = j ++ l.set k o := by
  rw [List.set_append_right _ _ (by omega), Nat.add_sub_cancel_left]
@[simp] theorem setB0 {α : Type} {j l : List α} {o : α} : (j ++ l).set j.length o = j ++ l.set 0 o := setB (k := 0)
theorem getOld {u : Nat} (hu : u < h.length) (hb : u ≠ b) : (bset h b dg q ++ j)[u]? = h[u]? := by
  rw [List.getElem?_append_left (by rw [bset_len]; exact hu)]
  unfold bset
  exact List.getElem?_set_ne (Ne.symm hb)
theorem locA (hb : b < h.length) : bset (bset h b dg q ++ j) b dg q' = bset h b dg q' ++ j := by
  rw [bset_app (by rw [bset_len]; exact hb), bset_bset]
theorem gc_boxL {ds : List Int} {p : Int} {xs : List D} (B : Bx h b dg ds p) (hj : j[k]? = some (.lst xs)) (hd : D.lows h.length xs = true) : gc h (.ref (h.length + k)) (bset h b dg q ++ j) = (.ref h.length, bset h b dg q ++ [.lst xs]) := by
  have e : oldOk h.length h (bset h b dg q ++ j) = true := by
    rw [← bset_app B.lt]
    exact oldOk_set (box_low B.ltd) b (oldOk_self _ h j)
  have hn : ¬ D.low h.length (.ref (h.length + k)) = true := by
    unfold D.low
    simp
  unfold gc
  rw [if_pos e, if_neg hn]
  dsimp only
  rw [getA, hj]
  dsimp only
  rw [if_pos hd, List.take_left' (by rw [bset_len])]
theorem Bx.loc {ds : List Int} {p : Int} (B : Bx h b dg ds p) (hq : 0 ≤ q) : Bx (bset h b dg q ++ j) b dg ds q := (B.set hq).app j
theorem draw_loc {ds : List Int} {p m : Int} (B : Bx h b dg ds p) (hq : 0 ≤ q) (hp : q < 1000000) (hm : 0 < m) : F_law_draw [.ref b, .int m] (bset h b dg q ++ j) = some (.int (dr ds q m), bset h b dg (q + 1) ++ j) := by
  rw [draw_ok (B.loc hq) hp hm, locA B.lt]
end
mutual
theorem low_mono {m n : Nat} (h : m ≤ n) : ∀ {d : D}, d.low m = true → d.low n = true
  | .non, _ => rfl
  | .bl _, _ => rfl
  | .int _, _ => rfl
  | .str _, _ => rfl
  | .ty _, _ => rfl
  | .tup ds, e => by rw [D.low] at e ⊢; exact lows_mono h e
  | .zt ds, e => by rw [D.low] at e ⊢; exact lows_mono h e
  | .fl ds, e => by rw [D.low] at e ⊢; exact lows_mono h e
  | .ref a, e => by
    unfold D.low at e ⊢
    exact decide_eq_true (Nat.lt_of_lt_of_le (of_decide_eq_true e) h)
theorem lows_mono {m n : Nat} (h : m ≤ n) : ∀ {ds : List D}, D.lows m ds = true → D.lows n ds = true
  | [], _ => rfl
  | d :: r, e => by
    rw [lows_cons, Bool.and_eq_true] at e ⊢
    exact ⟨low_mono h e.1, lows_mono h e.2⟩
end
theorem low0 {n : Nat} {d : D} (h : d.low 0 = true) : d.low n = true := low_mono (Nat.zero_le _) h
theorem lows0 {n : Nat} {d : List D} (h : D.lows 0 d = true) : D.lows n d = true := lows_mono (Nat.zero_le _) h
theorem lows_get {n : Nat} {xs : List D} (h : D.lows n xs = true) {d : D} (m : d ∈ xs) : d.low n = true := by
  induction xs with
  | nil => cases m
  | cons x r ih =>
    rw [lows_cons, Bool.and_eq_true] at h
    rcases List.mem_cons.mp m with e | e
    · rw [e]; exact h.1
    · exact ih h.2 e
theorem ixv {α : Type} {xs : List α} {k : Int} (h0 : 0 ≤ k) (h1 : k < xs.length) : ∃ v, xs[k.toNat]? = some v ∧ v ∈ xs ∧ ∀ hh, xs[k.toNat]'hh = v := by
  have : k.toNat < xs.length := by omega
  exact ⟨xs[k.toNat], List.getElem?_eq_getElem this, List.getElem_mem this, fun _ => rfl⟩
theorem gc_loc {h j j' : AH} {b dg : Nat} {ds : List Int} {p q q' : Int} {d : D} (B : Bx h b dg ds p) (hq : 0 ≤ q) (hd : d.low 0 = true) : gc (bset h b dg q ++ j) d (bset h b dg q' ++ (j ++ j')) = (d, bset h b dg q' ++ j) := by
  have := gc_box (q := q') (j := j') (B.loc (q := q) (j := j) hq) (low0 hd)
  rwa [locA B.lt, List.append_assoc] at this
theorem gc_loc0 {h j : AH} {b dg : Nat} {ds : List Int} {p q q' : Int} {d : D} (B : Bx h b dg ds p) (hq : 0 ≤ q) (hd : d.low 0 = true) : gc (bset h b dg q ++ j) d (bset h b dg q' ++ j) = (d, bset h b dg q' ++ j) := by
  have := gc_loc (j := j) (j' := []) (q' := q') B hq hd
  simpa using this
theorem gc_locL {h j j' : AH} {b dg : Nat} {ds : List Int} {p q q' : Int} {k : Nat} {xs : List D} (B : Bx h b dg ds p) (hq : 0 ≤ q) (hj : j'[k]? = some (.lst xs)) (hd : D.lows 0 xs = true) : gc (bset h b dg q ++ j) (.ref (h.length + (j.length + k))) (bset h b dg q' ++ (j ++ j')) = (.ref (h.length + j.length), bset h b dg q' ++ (j ++ [.lst xs])) := by
  have := gc_boxL (q := q') (j := j') (B.loc (q := q) (j := j) hq) hj (lows0 hd)
  rwa [locA B.lt, List.append_assoc, List.append_assoc, lenA, Nat.add_assoc] at this
/-- a draw of a row -/
theorem pickT_loc {h j : AH} {b dg : Nat} {ds : List Int} {p q : Int} {xs : List D} (B : Bx h b dg ds p) (hq : 0 ≤ q) (hp : q < 1000000) (h0 : 0 < xs.length) (hl : D.lows 0 xs = true) : ∃ d ∈ xs, F_law_pick [.ref b, .tup xs] (bset h b dg q ++ j) = some (d, bset h b dg (q + 1) ++ j) := by
  obtain ⟨v, h1, h2, h3⟩ := ixv (xs := xs) (dr_lo (ds := ds) (p := q) (m := xs.length) (by omega)) (dr_hi (by omega))
  have e := draw_loc (m := xs.length) (j := j) B hq hp (by omega)
  have e0 := dr_lo (ds := ds) (p := q) (m := xs.length) (by omega)
  have g := gc_loc0 (j := j) (q' := q + 1) B hq (lows_get hl h2)
  refine ⟨v, h2, ?_⟩
  unfold F_law_pick b_law_pick
  simp (disch := first | assumption | omega | (simp only [List.length_cons, List.length_nil, List.length_map]; omega)) [runDef_if, e, h1, h3, g]
theorem pickL_loc {h j : AH} {b dg k : Nat} {ds : List Int} {p q : Int} {xs : List D} (B : Bx h b dg ds p) (hq : 0 ≤ q) (hp : q < 1000000) (hk : j[k]? = some (.lst xs)) (h0 : 0 < xs.length) (hl : D.lows 0 xs = true) : ∃ d ∈ xs, F_law_pick [.ref b, .ref (h.length + k)] (bset h b dg q ++ j) = some (d, bset h b dg (q + 1) ++ j) := by
  obtain ⟨v, h1, h2, h3⟩ := ixv (xs := xs) (dr_lo (ds := ds) (p := q) (m := xs.length) (by omega)) (dr_hi (by omega))
  have e := draw_loc (m := xs.length) (j := j) B hq hp (by omega)
  have e0 := dr_lo (ds := ds) (p := q) (m := xs.length) (by omega)
  have g := gc_loc0 (j := j) (q' := q + 1) B hq (lows_get hl h2)
  refine ⟨v, h2, ?_⟩
  unfold F_law_pick b_law_pick
  simp (disch := first | assumption | omega | (simp only [List.length_cons, List.length_nil, List.length_map]; omega)) [runDef_if, e, h1, h3, hk, g]
end Sm
namespace Sm
open PySem PySem.Spec PyProof.Rows L2
/-! ## names -/
theorem strIx_ok {s : Str} {k : Int} (h0 : s.length ≤ 16777216) (h1 : (L2.atI s.cps.toList k).isSome = true) : ∃ c, ∀ h, oIx (.val (.str s)) (.val (.int k)) h = some (.val (.str ⟨#[c]⟩), h) := by
  obtain ⟨c, e⟩ := Option.isSome_iff_exists.mp h1
  exact ⟨c, fun h => by rw [oIx_str, if_pos h0, e, strIxK_some]⟩
theorem nm_tail : ∀ i : Fin 6, (L2.atI ("qxzjkv" : Str).cps.toList ((i.val : Nat) : Int)).isSome = true := by decide +kernel
theorem nm_sign : ∀ i : Fin 15, (L2.atI ("bcghjklmprvwxyz" : Str).cps.toList ((i.val : Nat) : Int)).isSome = true := by decide +kernel
theorem nm_other : ∀ i : Fin 15, (L2.atI ("dfknqstbcghjlmp" : Str).cps.toList ((i.val : Nat) : Int)).isSome = true := by decide +kernel
theorem nm_len1 : ("qxzjkv" : Str).length ≤ 16777216 := by decide +kernel
theorem nm_len2 : ("bcghjklmprvwxyz" : Str).length ≤ 16777216 := by decide +kernel
theorem nm_len3 : ("dfknqstbcghjlmp" : Str).length ≤ 16777216 := by decide +kernel
theorem len_2 : ("2" : Str).length = 1 := by decide +kernel
theorem len_0 : ("0" : Str).length = 1 := by decide +kernel
theorem len_c {c : Nat} : (⟨#[c]⟩ : Str).length = 1 := rfl
theorem flat_strs (xs : List Str) : (xs.map D.str).all D.flat = true := by
  induction xs with
  | nil => rfl
  | cons x r ih => rw [List.map_cons, List.all_cons, ih]; rfl
theorem names_in {h j : AH} {b dg u : Nat} {q m k : Int} {us ns : List Str} {xb : D} (sg ot : D)
    (hn : ns.length ≤ 100) (hu : us.length ≤ 100)
    (U : (bset h b dg q ++ (j ++ [.lst (ns.map D.str)]))[u]? = some (.lst (us.map D.str))) (nm : Str) (hl : nm.length ≤ 3) (x8 : Option D) :
    ∃ nm' : Str, ∃ x8', nm'.length ≤ 9 ∧ mFor (mRng1 (mCons (mC (.int 6)) mNil)) (gN 8) l_law_names_1 [some xb, some (.int m), some (.ref u), some (.ref (h.length + j.length)), some (.int k), some sg, some ot, some (.str nm), x8] (bset h b dg q ++ (j ++ [.lst (ns.map D.str)]))
      = some (.nx [some xb, some (.int m), some (.ref u), some (.ref (h.length + j.length)), some (.int k), some sg, some ot, some (.str nm'), x8'] (bset h b dg q ++ (j ++ [.lst (ns.map D.str)]))) := by
  simp (disch := first | assumption | omega | (simp only [List.length_cons, List.length_nil, List.length_map]; omega)) []
  obtain ⟨τ', h', e, P⟩ := forL_inv (grd := []) (g := gN 8) (body := l_law_names_1)
    (fun rest τ hh => ∃ x8 : Option D, ∃ nm : Str, (∀ y ∈ rest, ∃ i : Nat, i < 6 ∧ y = .int (i : Int)) ∧ nm.length + rest.length ≤ 9 ∧ τ = [some xb, some (.int m), some (.ref u), some (.ref (h.length + j.length)), some (.int k), some sg, some ot, some (.str nm), x8] ∧ hh = bset h b dg q ++ (j ++ [.lst (ns.map D.str)]))
    (fun _ _ _ _ => rfl)
    (fun y rest τ hh ⟨x8, nm, h1, h2, h3, h4⟩ => by
      subst h3 h4
      obtain ⟨i, hi, rfl⟩ := h1 _ List.mem_cons_self
      rw [List.length_cons] at h2
      obtain ⟨c, ec⟩ := strIx_ok nm_len1 (nm_tail ⟨i, hi⟩)
      have ln : nm.length + (⟨#[c]⟩ : Str).length ≤ 16777216 := by rw [len_c]; omega
      have l2 : ns.length + us.length ≤ 16777216 := by omega
      have fl : ((D.str nm).flat && (ns.map D.str ++ us.map D.str).all D.flat) = true := by
        rw [List.all_append, flat_strs, flat_strs]; rfl
      have inn := fun hh : AH => inK_some (neg := false) (h := hh) fl
      by_cases hc : ((ns.map D.str ++ us.map D.str).contains (D.str nm)) = true
      · refine ⟨_, _, _, _, rfl, .inl ?_, some (.int i), nm ++ ⟨#[c]⟩, fun z hz => h1 z (List.mem_cons_of_mem _ hz), by rw [Str.length_append, len_c]; omega, rfl, rfl⟩
        unfold l_law_names_1
        simp only [Bool.false_eq_true, if_false, hc] at inn
        simp (disch := first | assumption | omega | (simp only [List.length_cons, List.length_nil, List.length_map]; omega)) [U, l2, ec, ln, inn]
      · refine ⟨_, _, _, _, rfl, .inl ?_, some (.int i), nm, fun z hz => h1 z (List.mem_cons_of_mem _ hz), by omega, rfl, rfl⟩
        unfold l_law_names_1
        simp only [Bool.false_eq_true, if_false, hc] at inn
        simp (disch := first | assumption | omega | (simp only [List.length_cons, List.length_nil, List.length_map]; omega)) [U, l2, ec, ln, inn])
    (rngD 0 6) _ _ ⟨x8, nm, fun y hy => by
          obtain ⟨i, hi, e⟩ := List.mem_map.mp hy
          exact ⟨i, List.mem_range.mp hi, by rw [← e]; simp⟩, by rw [rngD_len]; omega, rfl, rfl⟩
  obtain ⟨x8', nm', h1, h2, h3, h4⟩ := P
  subst h3 h4
  exact ⟨nm', by simpa using h2, x8', e⟩
theorem names_loc {h j : AH} {b dg u : Nat} {ds : List Int} {p q : Int} {m : Nat} {us : List Str} (B : Bx h b dg ds p) (hq : 0 ≤ q) (hp : q < 900000) (hm : m ≤ 15) (hu : us.length ≤ 100)
    (U : ∀ q j', (bset h b dg q ++ (j ++ j'))[u]? = some (.lst (us.map D.str))) :
    ∃ ns : List Str, ns.length = m ∧ F_law_names [.ref b, .int m, .ref u] (bset h b dg q ++ j) = some (.ref (h.length + j.length), bset h b dg (q + 2 * m) ++ (j ++ [.lst (ns.map D.str)])) := by
  unfold F_law_names b_law_names
  simp (disch := first | assumption | omega | (simp only [List.length_cons, List.length_nil, List.length_map]; omega)) [runDef_if]
  obtain ⟨τ', h', e, P⟩ := forRg0 (g := gN 4) (body := l_law_names_2) (n := m)
    (fun i τ hh => ∃ ns : List Str, ∃ x4 x5 x6 x7 x8 : Option D, ns.length = i ∧ τ = [some (.ref b), some (.int m), some (.ref u), some (.ref (h.length + j.length)), x4, x5, x6, x7, x8] ∧ hh = bset h b dg (q + 2 * i) ++ (j ++ [.lst (ns.map D.str)]))
    (fun i him τ hh ⟨ns, x4, x5, x6, x7, x8, h3, h4, h5⟩ => by
      subst h4 h5
      obtain ⟨c1, e1⟩ := strIx_ok nm_len2 (nm_sign ⟨i, by omega⟩)
      have d0 := dr_lo (ds := ds) (p := q + 2 * i) (m := 15) (by omega)
      have d1 := dr_hi (ds := ds) (p := q + 2 * i) (m := 15) (by omega)
      have d2 := dr_lo (ds := ds) (p := q + 2 * i + 1) (m := 5) (by omega)
      have d3 := dr_hi (ds := ds) (p := q + 2 * i + 1) (m := 5) (by omega)
      have D1 := draw_loc (q := q + 2 * i) (m := 15) (j := j ++ [.lst (ns.map D.str)]) B (by omega) (by omega) (by omega)
      have D2 := draw_loc (q := q + 2 * i + 1) (m := 5) (j := j ++ [.lst (ns.map D.str)]) B (by omega) (by omega) (by omega)
      obtain ⟨n, hn⟩ := Int.eq_ofNat_of_zero_le d0
      obtain ⟨c2, e2⟩ := strIx_ok nm_len3 (nm_other ⟨n, by omega⟩)
      have e2 : ∀ h, oIx (.val (.str "dfknqstbcghjlmp")) (.val (.int (dr ds (q + 2 * i) 15))) h = some (.val (.str ⟨#[c2]⟩), h) := by rw [hn]; exact e2
      obtain ⟨v, hv, hv2, hv3⟩ := ixv (xs := [D.str ⟨#[c1]⟩, .str (⟨#[c1]⟩ ++ ⟨#[c2]⟩), .str (⟨#[c2]⟩ ++ ⟨#[c1]⟩), .str (⟨#[c2]⟩ ++ ⟨#[c1]⟩ ++ ("2" : Str)), .str (⟨#[c2]⟩ ++ ("0" : Str) ++ ⟨#[c1]⟩)]) d2 d3
      have hs : ∃ s : Str, v = .str s ∧ s.length ≤ 3 := by
        simp only [List.mem_cons, List.not_mem_nil, or_false] at hv2
        rcases hv2 with e | e | e | e | e <;> exact ⟨_, e, by simp only [Str.length_append, len_c, len_2, len_0]; decide⟩
      obtain ⟨s, rfl, ls⟩ := hs
      obtain ⟨nm', x8', l', ee⟩ := names_in (ns := ns) (us := us) (xb := .ref b) (m := m) (k := i) (.str ⟨#[c1]⟩) (.str ⟨#[c2]⟩) (h := h) (j := j) (b := b) (dg := dg) (q := q + 2 * i + 1 + 1) (by omega) hu (U _ _) s ls x8
      refine ⟨_, _, _, _, rfl, .inl ?_, ns ++ [nm'], some (.int i), some (.str ⟨#[c1]⟩), some (.str ⟨#[c2]⟩), some (.str nm'), x8', by rw [List.length_append, h3]; rfl, rfl, rfl⟩
      have nl : ns.length < 16777216 := by omega
      unfold l_law_names_2
      simp (disch := first | assumption | omega | (simp only [List.length_cons, List.length_nil, List.length_map]; omega)) [e1, e2, D1, D2, len_c, len_2, len_0, Str.length_append, hv, ee, nl, -mFor_eq, -mRng1_eq, hv3]
      congr 1
      omega)
    _ (bset h b dg q ++ (j ++ [.lst []])) ⟨[], none, none, none, none, none, rfl, rfl, by simp⟩
  obtain ⟨ns, x4, x5, x6, x7, x8, h1, h2, h3⟩ := P
  subst h2 h3
  refine ⟨ns, h1, ?_⟩
  rw [e]
  have g := gc_locL (j := j) (j' := [.lst (ns.map D.str)]) (k := 0) (q' := q + 2 * m) B hq rfl (lows_map (fun _ => rfl) _)
  simp (disch := first | assumption | omega | (simp only [List.length_cons, List.length_nil, List.length_map]; omega)) []
  simpa using g
end Sm
namespace Sm
open PySem PySem.Spec PyProof.Rows L2
theorem compL_filterT {α : Type} {grd : List (Nat × List D)} {g : SG} {ft : ST} {fe : SE} {τ : AT} {h : AH} {t : α → D} (c : α → Bool) (f : α → D) (hg : grdOk grd h = true) :
    ∀ (xs : List α), (∀ x ∈ xs, ∃ τ1, g (t x) τ h = some (τ1, h) ∧ ft τ1 h = some (c x, h) ∧ (c x = true → fe τ1 h = some (.val (f x), h))) → compL grd g ft fe τ (xs.map t) h = some ((xs.filter c).map f, h)
  | [], _ => by
    show compL grd g ft fe τ [] h = _
    unfold compL
    rw [if_pos hg]
    rfl
  | x :: xs, hs => by
    obtain ⟨τ1, e1, e2, e3⟩ := hs x List.mem_cons_self
    have ih := compL_filterT c f hg xs fun y hy => hs y (List.mem_cons_of_mem _ hy)
    show compL grd g ft fe τ (t x :: xs.map t) h = _
    unfold compL
    rw [if_pos hg, e1]
    show ((ft τ1 h).bind fun b => _) = _
    rw [e2]
    show (if c x = true then (fe τ1 h).bind fun y => _ else compL grd g ft fe τ (xs.map t) h) = _
    by_cases ht : c x = true
    · rw [if_pos ht, e3 ht]
      show ((compL grd g ft fe τ (xs.map t) h).bind fun z => some (f x :: z.1, z.2)) = _
      rw [ih, List.filter_cons_of_pos ht]
      rfl
    · rw [if_neg ht, ih, List.filter_cons_of_neg ht]
def Dat.isNum : Dat → Bool
  | .num .. => true
  | _ => false
def Dat.isQue : Dat → Bool
  | .que .. => true
  | _ => false
def Dat.nm : Dat → Str
  | .num nm .. => nm
  | .que nm .. => nm
def Sys.nums (S : Sys) : List Dat := S.dats.filter Dat.isNum
def Sys.ques (S : Sys) : List Dat := S.dats.filter Dat.isQue
theorem Sys.Ok.nums {S : Sys} (ok : S.Ok) : S.nums.length ≤ 100 := Nat.le_trans (List.length_filter_le _ _) ok.nd
theorem Sys.Ok.ques {S : Sys} (ok : S.Ok) : S.ques.length ≤ 100 := Nat.le_trans (List.length_filter_le _ _) ok.nd
def nameD (d : Dat) : D := .tup [.str "name", .str d.nm]
def sizeD (d : Dat) : D := .tup [.str "size", .str d.nm]
theorem number_loc {h j : AH} {b dg : Nat} {ds : List Int} {p q : Int} {S : Sys} (B : Bx h b dg ds p) (ok : S.Ok) (hq : 0 ≤ q) (hp : q < 900000) :
    ∃ d q', d.low 0 = true ∧ q < q' ∧ q' ≤ q + 10 ∧ F_law_number [.ref b, S.d] (bset h b dg q ++ j) = some (d, bset h b dg q' ++ j) := by
  have n1 := ok.nums
  have n2 := ok.ques
  have l1 : S.nums.length + S.ques.length ≤ 16777216 := by omega
  have l2 : S.nums.length + S.ques.length + 1 ≤ 16777216 := by omega
  have x1 : S.nums.length ≤ 16777216 := by omega
  have x2 : S.ques.length ≤ 16777216 := by omega
  unfold F_law_number b_law_number
  simp (disch := first | assumption | omega | (simp only [List.length_cons, List.length_nil, List.length_map]; omega)) [runDef_if, Sys.d]
  rw [compL_filterT Dat.isNum nameD rfl _ (fun d hd => by
    cases d with
    | num nm lo hi fi => exact ⟨_, rfl, by unfold Dat.d; simp (disch := first | assumption | omega | (simp only [List.length_cons, List.length_nil, List.length_map]; omega)) [Dat.isNum], fun _ => by unfold Dat.d nameD; simp (disch := first | assumption | omega | (simp only [List.length_cons, List.length_nil, List.length_map]; omega)) [Dat.nm]⟩
    | que nm room lo hi => exact ⟨_, rfl, by unfold Dat.d; simp (disch := first | assumption | omega | (simp only [List.length_cons, List.length_nil, List.length_map]; omega)) [Dat.isNum], fun z => by cases z⟩)]
  have x1' : (List.filter Dat.isNum S.dats).length ≤ 16777216 := x1
  have x2' : (List.filter Dat.isQue S.dats).length ≤ 16777216 := x2
  simp (disch := first | assumption | omega | (simp only [List.length_cons, List.length_nil, List.length_map]; omega)) [x1']
  rw [compL_filterT Dat.isQue sizeD rfl _ (fun d hd => by
    cases d with
    | num nm lo hi fi => exact ⟨_, rfl, by unfold Dat.d; simp (disch := first | assumption | omega | (simp only [List.length_cons, List.length_nil, List.length_map]; omega)) [Dat.isQue], fun z => by cases z⟩
    | que nm room lo hi => exact ⟨_, rfl, by unfold Dat.d; simp (disch := first | assumption | omega | (simp only [List.length_cons, List.length_nil, List.length_map]; omega)) [Dat.isQue], fun _ => by unfold Dat.d sizeD; simp (disch := first | assumption | omega | (simp only [List.length_cons, List.length_nil, List.length_map]; omega)) [Dat.nm]⟩)]
  rw [← Sys.nums, ← Sys.ques]
  simp (disch := first | assumption | omega | (simp only [List.length_cons, List.length_nil, List.length_map]; omega)) [l1, x2]
  have DR := fun (q : Int) (j : AH) (m : Int) (a1 : 0 ≤ q) (a2 : q < 1000000) (a3 : 0 < m) => draw_loc (j := j) B a1 a2 a3
  have lw : D.lows 0 (S.nums.map nameD ++ S.ques.map sizeD) = true := by
    rw [lows_app, lows_map (fun d => by simp [nameD]), lows_map (fun d => by simp [sizeD])]; rfl
  obtain ⟨v1, m1, e1⟩ := pickL_loc (j := j ++ [.lst (S.nums.map nameD), .lst (S.nums.map nameD ++ S.ques.map sizeD), .lst (S.nums.map nameD ++ (S.ques.map sizeD ++ [.tup [.str "int", .int (dr ds q 4)]]))]) (k := j.length + 2) (xs := S.nums.map nameD ++ (S.ques.map sizeD ++ [.tup [.str "int", .int (dr ds q 4)]])) (q := q + 1) B (by omega) (by omega) (by simp) (by simp; omega) (by rw [← List.append_assoc, lows_app, lw]; simp)
  have w1 : v1.low 0 = true := lows_get (by rw [← List.append_assoc, lows_app, lw]; simp) m1
  simp (disch := first | assumption | omega | (simp only [List.length_cons, List.length_nil, List.length_map]; omega)) [DR, e1, l2]
  by_cases c0 : dr ds (q + 1 + 1) 8 = 0
  · refine ⟨.tup [.str "+", v1, .tup [.str "int", .int (1 + dr ds (q + 1 + 1 + 1) 2)]], by simp [w1], q + 1 + 1 + 1 + 1, by omega, by omega, ?_⟩
    simp (disch := first | assumption | omega | (simp only [List.length_cons, List.length_nil, List.length_map]; omega)) [c0, DR]
    rw [gc_loc B hq (by simp [w1])]
  by_cases c1 : dr ds (q + 1 + 1) 8 = 1
  · obtain ⟨v2, m2, e2⟩ := pickL_loc (j := j ++ [.lst (S.nums.map nameD), .lst (S.nums.map nameD ++ S.ques.map sizeD), .lst (S.nums.map nameD ++ (S.ques.map sizeD ++ [.tup [.str "int", .int (dr ds q 4)]])), .lst (S.nums.map nameD ++ (S.ques.map sizeD ++ [.tup [.str "int", .int 1]]))]) (k := j.length + 3) (xs := S.nums.map nameD ++ (S.ques.map sizeD ++ [.tup [.str "int", .int 1]])) (q := q + 1 + 1 + 1) B (by omega) (by omega) (by simp) (by simp; omega) (by rw [← List.append_assoc, lows_app, lw]; simp)
    have w2 : v2.low 0 = true := lows_get (by rw [← List.append_assoc, lows_app, lw]; simp) m2
    refine ⟨.tup [.str "-", v1, v2], by simp [w1, w2], q + 1 + 1 + 1 + 1, by omega, by omega, ?_⟩
    simp (disch := first | assumption | omega | (simp only [List.length_cons, List.length_nil, List.length_map]; omega)) [c1, DR, e2, l2]
    rw [gc_loc B hq (by simp [w1, w2])]
  by_cases c2 : dr ds (q + 1 + 1) 8 = 2
  · refine ⟨.tup [.str "*", v1, .tup [.str "int", .int (dr ds (q + 1 + 1 + 1) 3)]], by simp [w1], q + 1 + 1 + 1 + 1, by omega, by omega, ?_⟩
    simp (disch := first | assumption | omega | (simp only [List.length_cons, List.length_nil, List.length_map]; omega)) [c2, DR]
    rw [gc_loc B hq (by simp [w1])]
  · refine ⟨v1, w1, q + 1 + 1 + 1, by omega, by omega, ?_⟩
    simp (disch := first | assumption | omega | (simp only [List.length_cons, List.length_nil, List.length_map]; omega)) [c0, c1, c2]
    rw [gc_loc B hq w1]
end Sm
namespace Sm
open PySem PySem.Spec PyProof.Rows L2
/-- a system that the tiny draws may be made of -/
structure Sys.Gd (S : Sys) : Prop where
  ok : S.Ok
  pr : 0 < S.prcs.length
  pl : ∀ p ∈ S.prcs, 0 < p.places.length
  mv : ∀ p ∈ S.prcs, p.mv.low 0 = true
  nu : 0 < S.nums.length
theorem prc_low {p : Prc} (h : p.mv.low 0 = true) : p.d.low 0 = true := by
  unfold Prc.d
  simp [h]
  exact lows_map (fun _ => rfl) _
theorem prcs_low {S : Sys} (G : S.Gd) : D.lows 0 (S.prcs.map Prc.d) = true := lows_of fun x hx => by
  obtain ⟨p, hp, rfl⟩ := List.mem_map.mp hx
  exact prc_low (G.mv p hp)
theorem low_ofmem {xs : List D} {n : Nat} {v : D} (h : ∀ x ∈ xs, x.low n = true) (m : v ∈ xs) : v.low n = true := h v m
theorem truth0_loc {h j : AH} {b dg : Nat} {ds : List Int} {p q : Int} {S : Sys} (k : Nat) (B : Bx h b dg ds p) (G : S.Gd) (hq : 0 ≤ q) (hp : q < 800000) :
    ∃ d q', d.low 0 = true ∧ q < q' ∧ q' ≤ q + 30 ∧ F_law_truth (k + 1) [.ref b, S.d, .int 0] (bset h b dg q ++ j) = some (d, bset h b dg q' ++ j) := by
  have DR := fun (q : Int) (j : AH) (m : Int) (a1 : 0 ≤ q) (a2 : q < 1000000) (a3 : 0 < m) => draw_loc (j := j) B a1 a2 a3
  have k0 := dr_lo (ds := ds) (p := q) (m := 6) (by omega)
  have k1 := dr_hi (ds := ds) (p := q) (m := 6) (by omega)
  unfold F_law_truth b_law_truth
  by_cases c0 : dr ds q 6 < 3
  · obtain ⟨v, hv, hv2, hv3⟩ := ixv (xs := [D.str "=", .str "<", .str "<="]) k0 (by simpa using c0)
    have wv : v.low 0 = true := by
      simp only [List.mem_cons, List.not_mem_nil, or_false] at hv2
      rcases hv2 with e | e | e <;> rw [e] <;> rfl
    obtain ⟨d1, q1, w1, a1, b1, e1⟩ := number_loc (j := j) (q := q + 1) B G.ok (by omega) (by omega)
    obtain ⟨d2, q2, w2, a2, b2, e2⟩ := number_loc (j := j) (q := q1) B G.ok (by omega) (by omega)
    refine ⟨.tup [v, d1, d2], q2, by simp [wv, w1, w2], by omega, by omega, ?_⟩
    simp (disch := first | assumption | omega | (simp only [List.length_cons, List.length_nil, List.length_map]; omega)) [runDef_if, DR, c0, hv, hv3, e1, e2]
    rw [gc_loc0 B hq (by simp [wv, w1, w2])]
  · obtain ⟨v1, m1, e1⟩ := pickT_loc (j := j) (xs := S.prcs.map Prc.d) (q := q + 1) B (by omega) (by omega) (by simpa using G.pr) (prcs_low G)
    obtain ⟨P, hP, rfl⟩ := List.mem_map.mp m1
    obtain ⟨v2, m2, e2⟩ := pickT_loc (j := j) (xs := P.places.map D.str) (q := q + 1 + 1) B (by omega) (by omega) (by simpa using G.pl P hP) (lows_map (fun _ => rfl) _)
    have w2 : v2.low 0 = true := lows_get (lows_map (fun _ => rfl) _) m2
    have c1 : dr ds q 6 < 6 := k1
    refine ⟨.tup [.str "at", .str P.nm, v2], q + 1 + 1 + 1, by simp [w2], by omega, by omega, ?_⟩
    unfold Sys.d
    simp (disch := first | assumption | omega | (simp only [List.length_cons, List.length_nil, List.length_map]; omega)) [runDef_if, DR, c0, c1, e1]
    unfold Prc.d
    simp (disch := first | assumption | omega | (simp only [List.length_cons, List.length_nil, List.length_map]; omega)) [e2]
    rw [gc_loc0 B hq (by simp [w2])]
theorem truth1_loc {h j : AH} {b dg : Nat} {ds : List Int} {p q : Int} {S : Sys} (k : Nat) (B : Bx h b dg ds p) (G : S.Gd) (hq : 0 ≤ q) (hp : q < 700000) :
    ∃ d q', d.low 0 = true ∧ q < q' ∧ q' ≤ q + 100 ∧ F_law_truth (k + 2) [.ref b, S.d, .int 1] (bset h b dg q ++ j) = some (d, bset h b dg q' ++ j) := by
  have DR := fun (q : Int) (j : AH) (m : Int) (a1 : 0 ≤ q) (a2 : q < 1000000) (a3 : 0 < m) => draw_loc (j := j) B a1 a2 a3
  have k0 := dr_lo (ds := ds) (p := q) (m := 9) (by omega)
  have k1 := dr_hi (ds := ds) (p := q) (m := 9) (by omega)
  unfold F_law_truth b_law_truth
  by_cases c0 : dr ds q 9 < 3
  · obtain ⟨v, hv, hv2, hv3⟩ := ixv (xs := [D.str "=", .str "<", .str "<="]) k0 (by simpa using c0)
    have wv : v.low 0 = true := by
      simp only [List.mem_cons, List.not_mem_nil, or_false] at hv2
      rcases hv2 with e | e | e <;> rw [e] <;> rfl
    obtain ⟨d1, q1, w1, a1, b1, e1⟩ := number_loc (j := j) (q := q + 1) B G.ok (by omega) (by omega)
    obtain ⟨d2, q2, w2, a2, b2, e2⟩ := number_loc (j := j) (q := q1) B G.ok (by omega) (by omega)
    refine ⟨.tup [v, d1, d2], q2, by simp [wv, w1, w2], by omega, by omega, ?_⟩
    simp (disch := first | assumption | omega | (simp only [List.length_cons, List.length_nil, List.length_map]; omega)) [runDef_if, DR, c0, hv, hv3, e1, e2]
    rw [gc_loc0 B hq (by simp [wv, w1, w2])]
  by_cases c1 : dr ds q 9 < 6
  · obtain ⟨v1, m1, e1⟩ := pickT_loc (j := j) (xs := S.prcs.map Prc.d) (q := q + 1) B (by omega) (by omega) (by simpa using G.pr) (prcs_low G)
    obtain ⟨P, hP, rfl⟩ := List.mem_map.mp m1
    obtain ⟨v2, m2, e2⟩ := pickT_loc (j := j) (xs := P.places.map D.str) (q := q + 1 + 1) B (by omega) (by omega) (by simpa using G.pl P hP) (lows_map (fun _ => rfl) _)
    have w2 : v2.low 0 = true := lows_get (lows_map (fun _ => rfl) _) m2
    refine ⟨.tup [.str "at", .str P.nm, v2], q + 1 + 1 + 1, by simp [w2], by omega, by omega, ?_⟩
    unfold Sys.d
    simp (disch := first | assumption | omega | (simp only [List.length_cons, List.length_nil, List.length_map]; omega)) [runDef_if, DR, c0, c1, e1]
    unfold Prc.d
    simp (disch := first | assumption | omega | (simp only [List.length_cons, List.length_nil, List.length_map]; omega)) [e2]
    rw [gc_loc0 B hq (by simp [w2])]
  obtain ⟨d1, q1, w1, a1, b1, e1⟩ := truth0_loc (j := j) (q := q + 1) k B G (by omega) (by omega)
  by_cases c2 : dr ds q 9 = 6
  · refine ⟨.tup [.str "not", d1], q1, by simp [w1], by omega, by omega, ?_⟩
    simp (disch := first | assumption | omega | (simp only [List.length_cons, List.length_nil, List.length_map]; omega)) [runDef_if, DR, c2, e1]
    rw [gc_loc0 B hq (by simp [w1])]
  · obtain ⟨v, hv, hv2, hv3⟩ := ixv (xs := [D.str "and", .str "or"]) (k := dr ds q 9 - 7) (by omega) (by simp; omega)
    have wv : v.low 0 = true := by
      simp only [List.mem_cons, List.not_mem_nil, or_false] at hv2
      rcases hv2 with e | e <;> rw [e] <;> rfl
    obtain ⟨d2, q2, w2, a2, b2, e2⟩ := truth0_loc (j := j) (q := q1) k B G (by omega) (by omega)
    refine ⟨.tup [v, d1, d2], q2, by simp [wv, w1, w2], by omega, by omega, ?_⟩
    simp (disch := first | assumption | omega | (simp only [List.length_cons, List.length_nil, List.length_map]; omega)) [runDef_if, DR, c0, c1, c2, hv, hv3, e1, e2]
    rw [gc_loc0 B hq (by simp [wv, w1, w2])]
end Sm
namespace Sm
open PySem PySem.Spec PyProof.Rows L2
theorem dat_low (d : Dat) : d.d.low 0 = true := by cases d <;> simp [Dat.d]
theorem dats_low (xs : List Dat) : D.lows 0 (xs.map Dat.d) = true := lows_map dat_low xs
theorem que_of {S : Sys} (ok : S.Ok) {v : D} (m : v ∈ S.ques.map Dat.d) : ∃ nm room lo hi, v = Dat.d (.que nm room lo hi) ∧ Dat.Ok (.que nm room lo hi) := by
  obtain ⟨d, hd, rfl⟩ := List.mem_map.mp m
  obtain ⟨h1, h2⟩ := List.mem_filter.mp hd
  cases d with
  | num nm lo hi fi => cases h2
  | que nm room lo hi => exact ⟨nm, room, lo, hi, rfl, ok.dat _ h1⟩
theorem num_of {S : Sys} (ok : S.Ok) {v : D} (m : v ∈ S.nums.map Dat.d) : ∃ nm lo hi fi, v = Dat.d (.num nm lo hi fi) ∧ Dat.Ok (.num nm lo hi fi) := by
  obtain ⟨d, hd, rfl⟩ := List.mem_map.mp m
  obtain ⟨h1, h2⟩ := List.mem_filter.mp hd
  cases d with
  | num nm lo hi fi => exact ⟨nm, lo, hi, fi, rfl, ok.dat _ h1⟩
  | que nm room lo hi => cases h2
theorem deed_loc {h j : AH} {b dg : Nat} {ds : List Int} {p q : Int} {S : Sys} (B : Bx h b dg ds p) (G : S.Gd) (hq : 0 ≤ q) (hp : q < 800000) :
    ∃ d q', d.low 0 = true ∧ q < q' ∧ q' ≤ q + 30 ∧ F_law_deed [.ref b, S.d] (bset h b dg q ++ j) = some (d, bset h b dg q' ++ j) := by
  have DR := fun (q : Int) (j : AH) (m : Int) (a1 : 0 ≤ q) (a2 : q < 1000000) (a3 : 0 < m) => draw_loc (j := j) B a1 a2 a3
  have k0 := dr_lo (ds := ds) (p := q) (m := 8) (by omega)
  have k1 := dr_hi (ds := ds) (p := q) (m := 8) (by omega)
  have n1 := G.ok.nums
  have n2 := G.ok.ques
  have n3 := G.nu
  have x1 : S.nums.length ≤ 16777216 := by omega
  have x2 : S.ques.length ≤ 16777216 := by omega
  unfold F_law_deed b_law_deed
  simp (disch := first | assumption | omega | (simp only [List.length_cons, List.length_nil, List.length_map]; omega)) [runDef_if, Sys.d]
  rw [compL_filterT Dat.isQue Dat.d rfl _ (fun d hd => by
    cases d with
    | num nm lo hi fi => exact ⟨_, rfl, by unfold Dat.d; simp (disch := first | assumption | omega | (simp only [List.length_cons, List.length_nil, List.length_map]; omega)) [Dat.isQue], fun z => by cases z⟩
    | que nm room lo hi => exact ⟨_, rfl, by unfold Dat.d; simp (disch := first | assumption | omega | (simp only [List.length_cons, List.length_nil, List.length_map]; omega)) [Dat.isQue], fun _ => by unfold Dat.d; simp (disch := first | assumption | omega | (simp only [List.length_cons, List.length_nil, List.length_map]; omega)) []⟩)]
  have x1' : (List.filter Dat.isNum S.dats).length ≤ 16777216 := x1
  have x2' : (List.filter Dat.isQue S.dats).length ≤ 16777216 := x2
  simp (disch := first | assumption | omega | (simp only [List.length_cons, List.length_nil, List.length_map]; omega)) [x2']
  rw [compL_filterT Dat.isNum Dat.d rfl _ (fun d hd => by
    cases d with
    | num nm lo hi fi => exact ⟨_, rfl, by unfold Dat.d; simp (disch := first | assumption | omega | (simp only [List.length_cons, List.length_nil, List.length_map]; omega)) [Dat.isNum], fun _ => by unfold Dat.d; simp (disch := first | assumption | omega | (simp only [List.length_cons, List.length_nil, List.length_map]; omega)) []⟩
    | que nm room lo hi => exact ⟨_, rfl, by unfold Dat.d; simp (disch := first | assumption | omega | (simp only [List.length_cons, List.length_nil, List.length_map]; omega)) [Dat.isNum], fun z => by cases z⟩)]
  rw [← Sys.nums, ← Sys.ques]
  simp (disch := first | assumption | omega | (simp only [List.length_cons, List.length_nil, List.length_map]; omega)) [x1, DR]
  have E : (D.tup [.str "system", .str S.nm, .tup (S.dats.map Dat.d), .tup (S.prcs.map Prc.d)]) = S.d := rfl
  by_cases c : dr ds q 8 < 2 ∧ 0 < S.ques.length
  · obtain ⟨c1, c2⟩ := c
    obtain ⟨v1, m1, e1⟩ := pickL_loc (j := j ++ [.lst (S.ques.map Dat.d), .lst (S.nums.map Dat.d)]) (k := j.length) (xs := S.ques.map Dat.d) (q := q + 1) B (by omega) (by omega) (by simp) (by simpa using c2) (dats_low _)
    obtain ⟨nm, room, lo, hi, rfl, ok1⟩ := que_of G.ok m1
    by_cases c3 : dr ds q 8 = 0
    · obtain ⟨d1, q1, w1, a1, b1, e2⟩ := number_loc (j := j ++ [.lst (S.ques.map Dat.d), .lst (S.nums.map Dat.d)]) (q := q + 1 + 1) B G.ok (by omega) (by omega)
      have r0 := dr_lo (ds := ds) (p := q1) (m := 2) (by omega)
      have r1 := dr_hi (ds := ds) (p := q1) (m := 2) (by omega)
      obtain ⟨v, hv, hv2, hv3⟩ := ixv (xs := [d1, D.tup [.str "int", .int lo]]) r0 r1
      have wv : v.low 0 = true := by
        simp only [List.mem_cons, List.not_mem_nil, or_false] at hv2
        rcases hv2 with e | e <;> rw [e]
        · exact w1
        · rfl
      refine ⟨.tup [.str "put", .str nm, v], by simp [wv], q1 + 1, by omega, by omega, ?_⟩
      simp (disch := first | assumption | omega | (simp only [List.length_cons, List.length_nil, List.length_map]; omega)) [c1, c2, e1, c3]
      unfold Dat.d at *
      simp (disch := first | assumption | omega | (simp only [List.length_cons, List.length_nil, List.length_map]; omega)) [c1, c2, e1, c3, E, e2, DR, hv, hv3]
      rw [gc_loc B hq (by simp [wv])]
    · obtain ⟨v2, m2, e2⟩ := pickL_loc (j := j ++ [.lst (S.ques.map Dat.d), .lst (S.nums.map Dat.d)]) (k := j.length + 1) (xs := S.nums.map Dat.d) (q := q + 1 + 1) B (by omega) (by omega) (by simp) (by simpa using n3) (dats_low _)
      obtain ⟨nm2, lo2, hi2, fi2, rfl, ok2⟩ := num_of G.ok m2
      refine ⟨.tup [.str "take", .str nm, .str nm2], by simp, q + 1 + 1 + 1, by omega, by omega, ?_⟩
      simp (disch := first | assumption | omega | (simp only [List.length_cons, List.length_nil, List.length_map]; omega)) [c1, c2, e1, c3, e2]
      unfold Dat.d at *
      simp (disch := first | assumption | omega | (simp only [List.length_cons, List.length_nil, List.length_map]; omega)) [c1, c2, e1, c3, E, e2]
      rw [gc_loc B hq (by simp)]
  · obtain ⟨v2, m2, e2⟩ := pickL_loc (j := j ++ [.lst (S.ques.map Dat.d), .lst (S.nums.map Dat.d)]) (k := j.length + 1) (xs := S.nums.map Dat.d) (q := q + 1) B (by omega) (by omega) (by simp) (by simpa using n3) (dats_low _)
    obtain ⟨nm2, lo2, hi2, fi2, rfl, ok2⟩ := num_of G.ok m2
    by_cases c6 : dr ds q 8 < 6
    · refine ⟨.tup [.str "set", .str nm2, .tup [.str "if", .tup [.str "<", .tup [.str "name", .str nm2], .tup [.str "int", .int hi2]], .tup [.str "+", .tup [.str "name", .str nm2], .tup [.str "int", .int 1]], .tup [.str "int", .int lo2]]], by simp, q + 1 + 1, by omega, by omega, ?_⟩
      by_cases c1 : dr ds q 8 < 2
      · have c2 : S.ques.length = 0 := by omega
        simp (disch := first | assumption | omega | (simp only [List.length_cons, List.length_nil, List.length_map]; omega)) [c1, c2, e2, c6]
        unfold Dat.d at *
        simp (disch := first | assumption | omega | (simp only [List.length_cons, List.length_nil, List.length_map]; omega)) [c1, c2, e2, c6]
        rw [gc_loc B hq (by simp)]
      · simp (disch := first | assumption | omega | (simp only [List.length_cons, List.length_nil, List.length_map]; omega)) [c1, e2, c6]
        unfold Dat.d at *
        simp (disch := first | assumption | omega | (simp only [List.length_cons, List.length_nil, List.length_map]; omega)) [c1, e2, c6]
        rw [gc_loc B hq (by simp)]
    · have c1 : ¬ dr ds q 8 < 2 := by omega
      obtain ⟨d1, q1, w1, a1, b1, e3⟩ := number_loc (j := j ++ [.lst (S.ques.map Dat.d), .lst (S.nums.map Dat.d)]) (q := q + 1 + 1) B G.ok (by omega) (by omega)
      obtain ⟨o1, o2, o3⟩ := ok2
      have r0 := dr_lo (ds := ds) (p := q1 + 1) (m := 2) (by omega)
      have r1 := dr_hi (ds := ds) (p := q1 + 1) (m := 2) (by omega)
      have y1 : 0 < hi2 - lo2 + 1 := by omega
      obtain ⟨v, hv, hv2, hv3⟩ := ixv (xs := [d1, D.tup [.str "int", .int (lo2 + dr ds q1 (hi2 - lo2 + 1))]]) r0 r1
      have wv : v.low 0 = true := by
        simp only [List.mem_cons, List.not_mem_nil, or_false] at hv2
        rcases hv2 with e | e <;> rw [e]
        · exact w1
        · rfl
      refine ⟨.tup [.str "set", .str nm2, v], by simp [wv], q1 + 1 + 1, by omega, by omega, ?_⟩
      simp (disch := first | assumption | omega | (simp only [List.length_cons, List.length_nil, List.length_map]; omega)) [c1, e2, c6]
      unfold Dat.d at *
      simp (disch := first | assumption | omega | (simp only [List.length_cons, List.length_nil, List.length_map]; omega)) [c1, e2, c6, E, e3, DR, hv, hv3]
      rw [gc_loc B hq (by simp [wv])]
end Sm
namespace Sm
open PySem PySem.Spec PyProof.Rows L2
theorem lively_loc {h j : AH} {b dg : Nat} {ds : List Int} {p q : Int} {S : Sys} (B : Bx h b dg ds p) (G : S.Gd) (hq : 0 ≤ q) (hp : q < 700000) :
    ∃ d q', d.low 0 = true ∧ q < q' ∧ q' ≤ q + 40 ∧ F_law_lively [.ref b, S.d] (bset h b dg q ++ j) = some (d, bset h b dg q' ++ j) := by
  have DR := fun (q : Int) (j : AH) (m : Int) (a1 : 0 ≤ q) (a2 : q < 1000000) (a3 : 0 < m) => draw_loc (j := j) B a1 a2 a3
  have k0 := dr_lo (ds := ds) (p := q) (m := 9) (by omega)
  have k1 := dr_hi (ds := ds) (p := q) (m := 9) (by omega)
  have n1 := G.ok.nums
  have n2 := G.ok.ques
  have n3 := G.nu
  have x1 : S.nums.length ≤ 16777216 := by omega
  have x2 : S.ques.length ≤ 16777216 := by omega
  unfold F_law_lively b_law_lively
  simp (disch := first | assumption | omega | (simp only [List.length_cons, List.length_nil, List.length_map]; omega)) [runDef_if, Sys.d]
  rw [compL_filterT Dat.isQue Dat.d rfl _ (fun d hd => by
    cases d with
    | num nm lo hi fi => exact ⟨_, rfl, by unfold Dat.d; simp (disch := first | assumption | omega | (simp only [List.length_cons, List.length_nil, List.length_map]; omega)) [Dat.isQue], fun z => by cases z⟩
    | que nm room lo hi => exact ⟨_, rfl, by unfold Dat.d; simp (disch := first | assumption | omega | (simp only [List.length_cons, List.length_nil, List.length_map]; omega)) [Dat.isQue], fun _ => by unfold Dat.d; simp (disch := first | assumption | omega | (simp only [List.length_cons, List.length_nil, List.length_map]; omega)) []⟩)]
  have x1' : (List.filter Dat.isNum S.dats).length ≤ 16777216 := x1
  have x2' : (List.filter Dat.isQue S.dats).length ≤ 16777216 := x2
  simp (disch := first | assumption | omega | (simp only [List.length_cons, List.length_nil, List.length_map]; omega)) [x2']
  rw [compL_filterT Dat.isNum Dat.d rfl _ (fun d hd => by
    cases d with
    | num nm lo hi fi => exact ⟨_, rfl, by unfold Dat.d; simp (disch := first | assumption | omega | (simp only [List.length_cons, List.length_nil, List.length_map]; omega)) [Dat.isNum], fun _ => by unfold Dat.d; simp (disch := first | assumption | omega | (simp only [List.length_cons, List.length_nil, List.length_map]; omega)) []⟩
    | que nm room lo hi => exact ⟨_, rfl, by unfold Dat.d; simp (disch := first | assumption | omega | (simp only [List.length_cons, List.length_nil, List.length_map]; omega)) [Dat.isNum], fun z => by cases z⟩)]
  rw [← Sys.nums, ← Sys.ques]
  simp (disch := first | assumption | omega | (simp only [List.length_cons, List.length_nil, List.length_map]; omega)) [x1, DR]
  have E : (D.tup [.str "system", .str S.nm, .tup (S.dats.map Dat.d), .tup (S.prcs.map Prc.d)]) = S.d := rfl
  by_cases c : dr ds q 9 < 2 ∧ 0 < S.ques.length
  · obtain ⟨c1, c2⟩ := c
    obtain ⟨dq, rest, hS⟩ : ∃ d r, S.ques = d :: r := by
      cases hz : S.ques with
      | nil => rw [hz] at c2; cases c2
      | cons d r => exact ⟨d, r, rfl⟩
    obtain ⟨nm, room, lo, hi, rfl, ok1⟩ : ∃ nm room lo hi, dq = .que nm room lo hi ∧ Dat.Ok (.que nm room lo hi) := by
      obtain ⟨h1, h2⟩ := List.mem_filter.mp (show dq ∈ S.ques by rw [hS]; exact List.mem_cons_self)
      cases dq with
      | num nm lo hi fi => cases h2
      | que nm room lo hi => exact ⟨nm, room, lo, hi, rfl, G.ok.dat _ h1⟩
    have hget : ∀ hh, S.ques[0]'hh = .que nm room lo hi := by rw [hS]; exact fun _ => rfl
    obtain ⟨o1, o2, o3, o4, o5⟩ := ok1
    have y1 : 0 < hi - lo + 1 := by omega
    obtain ⟨v2, m2, e2⟩ := pickL_loc (j := j ++ [.lst (S.ques.map Dat.d), .lst (S.nums.map Dat.d)]) (k := j.length + 1) (xs := S.nums.map Dat.d) (q := q + 1 + 1) B (by omega) (by omega) (by simp) (by simpa using n3) (dats_low _)
    obtain ⟨nm2, lo2, hi2, fi2, rfl, ok2⟩ := num_of G.ok m2
    obtain ⟨v, hv, hv2, hv3⟩ := ixv (xs := [D.tup [.str "put", .str nm, .tup [.str "int", .int (lo + dr ds (q + 1) (hi - lo + 1))]], D.tup [.str "take", .str nm, .str nm2]]) k0 (by simpa using c1)
    have wv : v.low 0 = true := by
      simp only [List.mem_cons, List.not_mem_nil, or_false] at hv2
      rcases hv2 with e | e <;> rw [e] <;> simp
    refine ⟨v, wv, q + 1 + 1 + 1, by omega, by omega, ?_⟩
    simp (disch := first | assumption | omega | (simp only [List.length_cons, List.length_nil, List.length_map]; omega)) [c1, c2, hget, DR]
    simp (disch := first | assumption | omega | (simp only [List.length_cons, List.length_nil, List.length_map]; omega)) [Dat.d] at e2
    simp (disch := first | assumption | omega | (simp only [List.length_cons, List.length_nil, List.length_map]; omega)) [c1, c2, hget, DR, e2, hv, hv3, Dat.d]

    rw [gc_loc B hq wv]
  by_cases c8 : dr ds q 9 = 8
  · obtain ⟨d1, q1, w1, a1, b1, e1⟩ := deed_loc (j := j ++ [.lst (S.ques.map Dat.d), .lst (S.nums.map Dat.d)]) (q := q + 1) B G (by omega) (by omega)
    refine ⟨d1, w1, q1, by omega, by omega, ?_⟩
    simp (disch := first | assumption | omega | (simp only [List.length_cons, List.length_nil, List.length_map]; omega)) [c8, E, e1]
    rw [gc_loc B hq w1]
  · obtain ⟨v2, m2, e2⟩ := pickL_loc (j := j ++ [.lst (S.ques.map Dat.d), .lst (S.nums.map Dat.d)]) (k := j.length + 1) (xs := S.nums.map Dat.d) (q := q + 1) B (by omega) (by omega) (by simp) (by simpa using n3) (dats_low _)
    obtain ⟨nm2, lo2, hi2, fi2, rfl, ok2⟩ := num_of G.ok m2
    have r0 := dr_lo (ds := ds) (p := q + 1 + 1) (m := 5) (by omega)
    have r1 := dr_hi (ds := ds) (p := q + 1 + 1) (m := 5) (by omega)
    obtain ⟨v, hv, hv2, hv3⟩ := ixv (xs := [D.tup [.str "if", .tup [.str "<", .tup [.str "name", .str nm2], .tup [.str "int", .int hi2]], .tup [.str "+", .tup [.str "name", .str nm2], .tup [.str "int", .int 1]], .tup [.str "int", .int lo2]], D.tup [.str "if", .tup [.str "<", .tup [.str "name", .str nm2], .tup [.str "int", .int hi2]], .tup [.str "+", .tup [.str "name", .str nm2], .tup [.str "int", .int 1]], .tup [.str "int", .int lo2]], D.tup [.str "if", .tup [.str "<", .tup [.str "name", .str nm2], .tup [.str "int", .int hi2]], .tup [.str "+", .tup [.str "name", .str nm2], .tup [.str "int", .int 1]], .tup [.str "int", .int lo2]], .tup [.str "int", .int lo2], .tup [.str "-", .tup [.str "name", .str nm2], .tup [.str "int", .int 1]]]) r0 r1
    have wv : v.low 0 = true := by
      simp only [List.mem_cons, List.not_mem_nil, or_false] at hv2
      rcases hv2 with e | e | e | e | e <;> rw [e] <;> simp
    refine ⟨.tup [.str "set", .str nm2, v], by simp [wv], q + 1 + 1 + 1, by omega, by omega, ?_⟩
    by_cases c1 : dr ds q 9 < 2
    · have c2 : S.ques.length = 0 := by omega
      simp (disch := first | assumption | omega | (simp only [List.length_cons, List.length_nil, List.length_map]; omega)) [c1, c2, e2, c8]
      unfold Dat.d at *
      simp (disch := first | assumption | omega | (simp only [List.length_cons, List.length_nil, List.length_map]; omega)) [c1, c2, e2, c8, DR, hv, hv3]
      rw [gc_loc B hq (by simp [wv])]
    · simp (disch := first | assumption | omega | (simp only [List.length_cons, List.length_nil, List.length_map]; omega)) [c1, e2, c8]
      unfold Dat.d at *
      simp (disch := first | assumption | omega | (simp only [List.length_cons, List.length_nil, List.length_map]; omega)) [c1, e2, c8, DR, hv, hv3]
      rw [gc_loc B hq (by simp [wv])]
end Sm
namespace Sm
open PySem PySem.Spec PyProof.Rows L2
def s_law_tiny_3_0 : SS := (mAsg (gN 14) (mBin oIx (mLst (mCons (mTup (mCons (mC (.str ("true" : Str))) mNil)) (mCons (mCall (F_law_truth 4) (mCons (mVar 0) (mCons (mVar 6) (mCons (mC (.int 1)) mNil)))) mNil))) (mFn oInt (mCons (mOrV (mBin oEq (mCall F_law_draw (mCons (mVar 0) (mCons (mC (.int 6)) mNil))) (mC (.int 0))) (mBin oGt (mVar 4) (mFn oLen (mCons (mVar 12) mNil)))) mNil))))
def s_law_tiny_3_1 : SS := (mAsg (gN 15) (mFn oTuple (mCons (mComp (mRng1 (mCons (mBin oIx (mLst (mCons (mC (.int 1)) (mCons (mC (.int 1)) (mCons (mC (.int 0)) (mCons (mC (.int 2)) (mCons (mC (.int 1)) mNil)))))) (mCall F_law_draw (mCons (mVar 0) (mCons (mC (.int 5)) mNil)))) mNil)) (gN 16) mYes (mCall F_law_lively (mCons (mVar 0) (mCons (mVar 6) mNil))) [16]) mNil)))
def s_law_tiny_3_2 : SS := (mIfS (mB (mBin oLt (mVar 4) (mFn oLen (mCons (mVar 12) mNil)))) (mExpr (mMeth isLs oApp (mVar 11) (mTup (mCons (mBin oIx (mVar 13) (mVar 4)) (mCons (mBin oIx (mVar 12) (mVar 4)) (mCons (mBin oIx (mVar 12) (mBin oMod (mFn oInt (mCons (mBin oAdd (mVar 4) (mC (.int 1))) mNil)) (mFn oLen (mCons (mVar 12) mNil)))) (mCons (mVar 14) (mCons (mVar 15) mNil)))))))) (mExpr (mMeth isLs oApp (mVar 11) (mTup (mCons (mBin oIx (mVar 13) (mVar 4)) (mCons (mCall F_law_pick (mCons (mVar 0) (mCons (mVar 12) mNil))) (mCons (mCall F_law_pick (mCons (mVar 0) (mCons (mVar 12) mNil))) (mCons (mVar 14) (mCons (mVar 15) mNil)))))))))
theorem l_law_tiny_3_cut : l_law_tiny_3 = (mSeq s_law_tiny_3_0 (mSeq s_law_tiny_3_1 s_law_tiny_3_2)) := rfl
def s_law_tiny_4_2 : SS := (mAsg (gN 13) (mCall F_law_names (mCons (mVar 0) (mCons (mAd (mBin oAdd (mFn oLen (mCons (mVar 12) mNil)) (mCall F_law_draw (mCons (mVar 0) (mCons (mC (.int 3)) mNil))))) (mCons (mAd (mLst mNil)) mNil)))))
def s_law_tiny_4_3 : SS := (mFor (mRng1 (mCons (mFn oLen (mCons (mVar 13) mNil)) mNil)) (gN 4) l_law_tiny_3)
def s_law_tiny_4_4 : SS := (mExpr (mMeth isLs oApp (mVar 7) (mAd (mBin oAdd (mSl (mVar 8) mNoP (mPart (mC (.int 3)))) (mTup (mCons (mFn oTuple (mCons (mVar 11) mNil)) mNil))))))
theorem l_law_tiny_4_cut : l_law_tiny_4 = (mSeq (mAsg (gN 11) (mLst mNil)) (mSeq (mAsg (gN 12) (mBin oIx (mVar 8) (mC (.int 2)))) (mSeq s_law_tiny_4_2 (mSeq s_law_tiny_4_3 s_law_tiny_4_4)))) := rfl
section
variable {h j : AH} {b dg : Nat} {ds : List Int} {p q : Int} {S : Sys} {x1 x2 x3 x4 x5 x6 x7 x8 x9 x10 x11 x12 x13 x14 x15 x16 : Option D} {k : Int} {pl : List Str} {v1 v2 : D}
theorem tiny3_0 (B : Bx h b dg ds p) (G : S.Gd) (hq : 0 ≤ q) (hp : q < 600000) : ∃ v q', v.low 0 = true ∧ q < q' ∧ q' ≤ q + 101 ∧
    s_law_tiny_3_0 [some (.ref b), x1, x2, x3, some (.int k), x5, some S.d, x7, x8, x9, x10, x11, some (.tup (pl.map D.str)), x13, x14, x15, x16] (bset h b dg q ++ j)
      = some (.nx [some (.ref b), x1, x2, x3, some (.int k), x5, some S.d, x7, x8, x9, x10, x11, some (.tup (pl.map D.str)), x13, some v, x15, x16] (bset h b dg q' ++ j)) := by
  have DR := fun (q : Int) (j : AH) (m : Int) (a1 : 0 ≤ q) (a2 : q < 1000000) (a3 : 0 < m) => draw_loc (j := j) B a1 a2 a3
  obtain ⟨d1, q1, w1, a1, b1, e1⟩ := truth1_loc (j := j) (q := q) 2 B G (by omega) (by omega)
  by_cases c : dr ds q1 6 = 0 ∨ (pl.length : Int) < k
  · refine ⟨d1, q1 + 1, w1, by omega, by omega, ?_⟩
    unfold s_law_tiny_3_0
    by_cases c0 : dr ds q1 6 = 0
    · simp (disch := first | assumption | omega | (simp only [List.length_cons, List.length_nil, List.length_map]; omega)) [e1, DR, c0]
    · have c1 : (pl.length : Int) < k := by omega
      simp (disch := first | assumption | omega | (simp only [List.length_cons, List.length_nil, List.length_map]; omega)) [e1, DR, c0, c1]
  · refine ⟨.tup [.str "true"], q1 + 1, by simp, by omega, by omega, ?_⟩
    have c0 : ¬ dr ds q1 6 = 0 := fun z => c (.inl z)
    have c1 : ¬ (pl.length : Int) < k := fun z => c (.inr z)
    unfold s_law_tiny_3_0
    simp (disch := first | assumption | omega | (simp only [List.length_cons, List.length_nil, List.length_map]; omega)) [e1, DR, c0, c1]
theorem tiny3_1 (B : Bx h b dg ds p) (G : S.Gd) (hq : 0 ≤ q) (hp : q < 600000) : ∃ v q', v.low 0 = true ∧ q < q' ∧ q' ≤ q + 81 ∧
    s_law_tiny_3_1 [some (.ref b), x1, x2, x3, x4, x5, some S.d, x7, x8, x9, x10, x11, x12, x13, x14, x15, x16] (bset h b dg q ++ j)
      = some (.nx [some (.ref b), x1, x2, x3, x4, x5, some S.d, x7, x8, x9, x10, x11, x12, x13, x14, some v, x16] (bset h b dg q' ++ j)) := by
  have DR := fun (q : Int) (j : AH) (m : Int) (a1 : 0 ≤ q) (a2 : q < 1000000) (a3 : 0 < m) => draw_loc (j := j) B a1 a2 a3
  have k0 := dr_lo (ds := ds) (p := q) (m := 5) (by omega)
  have k1 := dr_hi (ds := ds) (p := q) (m := 5) (by omega)
  obtain ⟨v, hv, hv2, hv3⟩ := ixv (xs := [D.int 1, .int 1, .int 0, .int 2, .int 1]) k0 k1
  have hn : ∃ n : Nat, n ≤ 2 ∧ v = .int (n : Int) := by
    simp only [List.mem_cons, List.not_mem_nil, or_false] at hv2
    rcases hv2 with e | e | e | e | e
    · exact ⟨1, by omega, e⟩
    · exact ⟨1, by omega, e⟩
    · exact ⟨0, by omega, e⟩
    · exact ⟨2, by omega, e⟩
    · exact ⟨1, by omega, e⟩
  obtain ⟨n, hn, rfl⟩ := hn
  have nl : n ≤ 16777216 := by omega
  unfold s_law_tiny_3_1
  simp (disch := first | assumption | omega | (simp only [List.length_cons, List.length_nil, List.length_map]; omega)) [DR, hv, hv3]
  obtain ⟨zs, h', e, r, q', P1, P2, P3, P4, P5, P6⟩ := compL_inv (grd := []) (g := gN 16) (fe := mCall F_law_lively (mCons (mVar 0) (mCons (mVar 6) mNil))) (τ := [some (.ref b), x1, x2, x3, x4, x5, some S.d, x7, x8, x9, x10, x11, x12, x13, x14, x15, none])
    (fun rest ys hh => ∃ r q' : Int, (rest.length : Int) = r ∧ D.lows 0 ys = true ∧ (ys.length : Int) + r = n ∧ q < q' ∧ q' ≤ q + 1 + 40 * (n - r) ∧ hh = bset h b dg q' ++ j)
    (fun _ _ _ _ => rfl)
    (fun x rest ys hh ⟨r, q', h1, h2, h3, h4, h5, h6⟩ => by
      subst h6
      rw [List.length_cons] at h1
      obtain ⟨d1, q1, w1, a1, b1, e1⟩ := lively_loc (j := j) (q := q') B G (by omega) (by omega)
      refine ⟨_, _, d1, _, rfl, ?_, r - 1, q1, by omega, by rw [lows_app, h2]; simp [w1], by rw [List.length_append]; simp; omega, by omega, by omega, rfl⟩
      simp (disch := first | assumption | omega | (simp only [List.length_cons, List.length_nil, List.length_map]; omega)) [e1])
    (rngD 0 n) [] (bset h b dg (q + 1) ++ j) ⟨n, q + 1, by rw [rngD_len], rfl, by simp, by omega, by omega, rfl⟩
  rw [e]
  subst P6
  have zl : zs.length ≤ 16777216 := by
    rw [List.nil_append] at P3
    omega
  have r0 : 0 ≤ r := by rw [← P1]; exact Int.natCast_nonneg _
  refine ⟨.tup zs, by simpa using P2, q', by omega, by omega, ?_⟩
  simp (disch := first | assumption | omega | (simp only [List.length_cons, List.length_nil, List.length_map]; omega)) [zl]
theorem tiny3_2 {ms : List D} {ts : List Str} {am at' : Nat} {kk : Nat} (B : Bx h b dg ds p) (hq : 0 ≤ q) (hp : q < 600000) (hk : kk < ts.length) (hpl : 0 < pl.length) (hm : j[am]? = some (.lst ms)) (ht : j[at']? = some (.lst (ts.map D.str))) (ml : ms.length < 16777216) (w1 : v1.low 0 = true) (w2 : v2.low 0 = true) : ∃ v q', v.low 0 = true ∧ q ≤ q' ∧ q' ≤ q + 2 ∧
    s_law_tiny_3_2 [some (.ref b), x1, x2, x3, some (.int (kk : Int)), x5, x6, x7, x8, x9, x10, some (.ref (h.length + am)), some (.tup (pl.map D.str)), some (.ref (h.length + at')), some v1, some v2, x16] (bset h b dg q ++ j)
      = some (.nx [some (.ref b), x1, x2, x3, some (.int (kk : Int)), x5, x6, x7, x8, x9, x10, some (.ref (h.length + am)), some (.tup (pl.map D.str)), some (.ref (h.length + at')), some v1, some v2, x16] (bset h b dg q' ++ j.set am (.lst (ms ++ [v])))) := by
  unfold s_law_tiny_3_2
  by_cases c : kk < pl.length
  · have f0 : 0 ≤ ((kk : Int) + 1).fmod (pl.length : Int) := Int.fmod_nonneg_of_pos _ (by omega)
    have f1 : ((kk : Int) + 1).fmod (pl.length : Int) < pl.length := Int.fmod_lt_of_pos _ (by omega)
    have f2 : (((kk : Int) + 1).fmod (pl.length : Int)).toNat < pl.length := by omega
    have f3 : (pl.length : Int) ≠ 0 := by omega
    refine ⟨.tup [.str ts[kk], .str pl[kk], .str (pl[(((kk : Int) + 1).fmod (pl.length : Int)).toNat]), v1, v2], q, by simp [w1, w2], by omega, by omega, ?_⟩
    simp (disch := first | assumption | omega | (simp only [List.length_cons, List.length_nil, List.length_map]; omega)) [c, hm, ht, ml, atI_cast]
  · obtain ⟨d1, m1, e1⟩ := pickT_loc (j := j) (xs := pl.map D.str) (q := q) B (by omega) (by omega) (by simpa using hpl) (lows_map (fun _ => rfl) _)
    obtain ⟨d2, m2, e2⟩ := pickT_loc (j := j) (xs := pl.map D.str) (q := q + 1) B (by omega) (by omega) (by simpa using hpl) (lows_map (fun _ => rfl) _)
    have y1 : d1.low 0 = true := lows_get (lows_map (fun _ => rfl) _) m1
    have y2 : d2.low 0 = true := lows_get (lows_map (fun _ => rfl) _) m2
    refine ⟨.tup [.str ts[kk], d1, d2, v1, v2], q + 1 + 1, by simp [w1, w2, y1, y2], by omega, by omega, ?_⟩
    simp (disch := first | assumption | omega | (simp only [List.length_cons, List.length_nil, List.length_map]; omega)) [c, hm, ht, ml, atI_cast, e1, e2]
end
end Sm
namespace Sm
open PySem PySem.Spec PyProof.Rows L2
theorem set_of_get {α : Type} {j : List α} {k : Nat} {o : α} (h : j[k]? = some o) : j.set k o = j := by
  obtain ⟨hk, e⟩ := List.getElem?_eq_some_iff.mp h
  rw [← e, List.set_getElem_self]
section
variable {h j : AH} {b dg : Nat} {ds : List Int} {p q : Int} {S : Sys} {x1 x2 x3 x4 x5 x6 x7 x8 x9 x10 x11 x12 x13 x14 x15 x16 : Option D} {k : Int} {pl : List Str} {v1 v2 : D}
theorem tiny4_3 {ts : List Str} {am at' : Nat} (B : Bx h b dg ds p) (G : S.Gd) (hq : 0 ≤ q) (hp : q < 500000) (hpl : 0 < pl.length) (hm : j[am]? = some (.lst [])) (ht : j[at']? = some (.lst (ts.map D.str))) (ne : am ≠ at') (tl : ts.length ≤ 10) : ∃ ms q' y4 y14 y15, D.lows 0 ms = true ∧ q ≤ q' ∧ q' ≤ q + 200 * ts.length ∧ ms.length = ts.length ∧
    s_law_tiny_4_3 [some (.ref b), x1, x2, x3, x4, x5, some S.d, x7, x8, x9, x10, some (.ref (h.length + am)), some (.tup (pl.map D.str)), some (.ref (h.length + at')), x14, x15, x16] (bset h b dg q ++ j)
      = some (.nx [some (.ref b), x1, x2, x3, y4, x5, some S.d, x7, x8, x9, x10, some (.ref (h.length + am)), some (.tup (pl.map D.str)), some (.ref (h.length + at')), y14, y15, x16] (bset h b dg q' ++ j.set am (.lst ms))) := by
  have al := (List.getElem?_eq_some_iff.mp hm).1
  unfold s_law_tiny_4_3
  have tl' : (ts.length : Int) < 4611686018427387904 := by omega
  simp (disch := first | assumption | omega | (simp only [List.length_cons, List.length_nil, List.length_map]; omega)) [ht, tl']
  obtain ⟨τ', h', e, P⟩ := forRg0 (g := gN 4) (body := l_law_tiny_3) (n := ts.length)
    (fun i τ hh => ∃ ms : List D, ∃ q' : Int, ∃ y4 y14 y15 : Option D, D.lows 0 ms = true ∧ q ≤ q' ∧ q' ≤ q + 200 * i ∧ ms.length = i ∧ τ = [some (.ref b), x1, x2, x3, y4, x5, some S.d, x7, x8, x9, x10, some (.ref (h.length + am)), some (.tup (pl.map D.str)), some (.ref (h.length + at')), y14, y15, x16] ∧ hh = bset h b dg q' ++ j.set am (.lst ms))
    (fun i hi τ hh ⟨ms, q', y4, y14, y15, h1, h2, h3, h4, h5, h6⟩ => by
      subst h5 h6
      have hm' : (j.set am (.lst ms))[am]? = some (.lst ms) := List.getElem?_set_self al
      have ht' : (j.set am (.lst ms))[at']? = some (.lst (ts.map D.str)) := by rw [List.getElem?_set_ne ne]; exact ht
      obtain ⟨v1, q1, w1, a1, b1, e1⟩ := tiny3_0 (j := j.set am (.lst ms)) (q := q') (k := i) (pl := pl) (x1 := x1) (x2 := x2) (x3 := x3) (x5 := x5) (x7 := x7) (x8 := x8) (x9 := x9) (x10 := x10) (x11 := some (.ref (h.length + am))) (x13 := some (.ref (h.length + at'))) (x14 := y14) (x15 := y15) (x16 := x16) B G (by omega) (by omega)
      obtain ⟨v2, q2, w2, a2, b2, e2⟩ := tiny3_1 (j := j.set am (.lst ms)) (q := q1) (x1 := x1) (x2 := x2) (x3 := x3) (x4 := some (.int i)) (x5 := x5) (x7 := x7) (x8 := x8) (x9 := x9) (x10 := x10) (x11 := some (.ref (h.length + am))) (x12 := some (.tup (pl.map D.str))) (x13 := some (.ref (h.length + at'))) (x14 := some v1) (x15 := y15) (x16 := x16) B G (by omega) (by omega)
      obtain ⟨v3, q3, w3, a3, b3, e3⟩ := tiny3_2 (j := j.set am (.lst ms)) (q := q2) (x1 := x1) (x2 := x2) (x3 := x3) (x5 := x5) (x6 := some S.d) (x7 := x7) (x8 := x8) (x9 := x9) (x10 := x10) (x16 := x16) (pl := pl) B (by omega) (by omega) hi hpl hm' ht' (by omega) w1 w2
      rw [List.set_set] at e3
      refine ⟨_, _, _, _, rfl, .inl ?_, ms ++ [v3], q3, some (.int i), some v1, some v2, by rw [lows_app, h1]; simp [w3], by omega, by omega, by simp [h4], rfl, rfl⟩
      rw [l_law_tiny_3_cut]
      simp (disch := first | assumption | omega | (simp only [List.length_cons, List.length_nil, List.length_map]; omega)) [e1, e2, e3])
    _ (bset h b dg q ++ j) ⟨[], q, x4, x14, x15, rfl, by omega, by omega, rfl, rfl, by rw [set_of_get hm]⟩
  obtain ⟨ms, q', y4, y14, y15, h1, h2, h3, h4, h5, h6⟩ := P
  subst h5 h6
  exact ⟨ms, h1, q', h2, h3, h4, y4, y14, y15, e⟩
end
end Sm
namespace Sm
open PySem PySem.Spec PyProof.Rows L2
def t_law_tiny_8 : SS := (mSeq (mAsg (gN 6) (mTup (mCons (mC (.str ("system" : Str))) (mCons (mBin oIx (mVar 2) (mC (.int 8))) (mCons (mFn oTuple (mCons (mVar 3) mNil)) (mCons (mFn oTuple (mCons (mVar 5) mNil)) mNil)))))) (mSeq (mAsg (gN 7) (mLst mNil)) (mSeq (mFor (mIter (mBin oIx (mVar 6) (mC (.int 3)))) (gN 8) l_law_tiny_4) (mRet (mBin oAdd (mSl (mVar 6) mNoP (mPart (mC (.int 3)))) (mTup (mCons (mFn oTuple (mCons (mVar 7) mNil)) mNil)))))))
def t_law_tiny_6 : SS := (mSeq (mAsg (gN 5) (mLst mNil)) (mSeq (mFor (mRng1 (mCons (mBin oIx (mLst (mCons (mC (.int 2)) (mCons (mC (.int 2)) (mCons (mC (.int 1)) (mCons (mC (.int 2)) mNil))))) (mVar 1)) mNil)) (gN 4) l_law_tiny_2) t_law_tiny_8))
def t_law_tiny_5 : SS := (mSeq (mIfS (mB (mBin oEq (mCall F_law_draw (mCons (mVar 0) (mCons (mC (.int 2)) mNil))) (mC (.int 0)))) (mAsg (gN 3) (mUn oRev (mVar 3))) mPass) t_law_tiny_6)
def t_law_tiny_4 : SS := (mSeq (mIfS (mB (mBin oGt (mVar 1) (mC (.int 1)))) (mSeq (mAsg (gN 9) (mCall F_law_draw (mCons (mVar 0) (mCons (mC (.int 2)) mNil)))) (mExpr (mMeth isLs oApp (mVar 3) (mTup (mCons (mC (.str ("queue" : Str))) (mCons (mBin oIx (mVar 2) (mC (.int 3))) (mCons (mAd (mBin oAdd (mC (.int 1)) (mCall F_law_draw (mCons (mVar 0) (mCons (mBin oSub (mC (.int 5)) (mVar 1)) mNil))))) (mCons (mVar 9) (mCons (mAd (mBin oAdd (mVar 9) (mCall F_law_draw (mCons (mVar 0) (mCons (mC (.int 2)) mNil))))) mNil))))))))) mPass) t_law_tiny_5)
theorem b_law_tiny_cut : b_law_tiny = (mSeq (mAsg (gN 1) (mCall F_law_draw (mCons (mVar 0) (mCons (mC (.int 4)) mNil)))) (mSeq (mAsg (gN 2) (mCall F_law_names (mCons (mVar 0) (mCons (mC (.int 9)) (mCons (mAd (mLst mNil)) mNil))))) (mSeq (mAsg (gN 3) (mLst mNil)) (mSeq (mFor (mRng1 (mCons (mBin oIx (mLst (mCons (mC (.int 2)) (mCons (mC (.int 1)) (mCons (mC (.int 1)) (mCons (mC (.int 1)) mNil))))) (mVar 1)) mNil)) (gN 4) l_law_tiny_1) t_law_tiny_4)))) := rfl
@[simp] theorem cut3 {a b c d : D} : cutA [a, b, c, d] none (some 3) = [a, b, c] := rfl
section
variable {h j : AH} {b dg : Nat} {ds : List Int} {p q : Int} {S : Sys} {x1 x2 x3 x4 x5 x6 x7 x8 x9 x10 x11 x12 x13 x14 x15 x16 : Option D} {k : Int} {pl : List Str} {v1 v2 : D}
theorem tiny4_2 (B : Bx h b dg ds p) (hq : 0 ≤ q) (hp : q < 800000) (hpl : pl.length ≤ 10) : ∃ ts : List Str, ∃ q', pl.length ≤ ts.length ∧ ts.length ≤ pl.length + 2 ∧ q < q' ∧ q' ≤ q + 40 ∧
    s_law_tiny_4_2 [some (.ref b), x1, x2, x3, x4, x5, x6, x7, x8, x9, x10, x11, some (.tup (pl.map D.str)), x13, x14, x15, x16] (bset h b dg q ++ j)
      = some (.nx [some (.ref b), x1, x2, x3, x4, x5, x6, x7, x8, x9, x10, x11, some (.tup (pl.map D.str)), some (.ref (h.length + (j.length + 1))), x14, x15, x16] (bset h b dg q' ++ (j ++ [.lst [], .lst (ts.map D.str)]))) := by
  have DR := fun (q : Int) (j : AH) (m : Int) (a1 : 0 ≤ q) (a2 : q < 1000000) (a3 : 0 < m) => draw_loc (j := j) B a1 a2 a3
  have k0 := dr_lo (ds := ds) (p := q) (m := 3) (by omega)
  have k1 := dr_hi (ds := ds) (p := q) (m := 3) (by omega)
  obtain ⟨n, hn⟩ := Int.eq_ofNat_of_zero_le k0
  obtain ⟨ts, tl, e⟩ := names_loc (j := j ++ [.lst []]) (u := h.length + j.length) (m := pl.length + n) (us := []) (q := q + 1) B (by omega) (by omega) (by omega) (by simp) (by simp)
  rw [Int.natCast_add] at e
  refine ⟨ts, q + 1 + 2 * (pl.length + n : Nat), by omega, by omega, by omega, by omega, ?_⟩
  unfold s_law_tiny_4_2
  simp (disch := first | assumption | omega | (simp only [List.length_cons, List.length_nil, List.length_map]; omega)) [DR, hn]
  simp (disch := first | assumption | omega | (simp only [List.length_cons, List.length_nil, List.length_map]; omega)) [] at e
  simp (disch := first | assumption | omega | (simp only [List.length_cons, List.length_nil, List.length_map]; omega)) [e]
theorem tiny4_turn {P : Prc} {fnd : List D} {g : AH} (B : Bx h b dg ds p) (G : S.Gd) (hq : 0 ≤ q) (hp : q < 400000) (p0 : 0 < P.places.length) (p1 : P.places.length ≤ 8) (fl : fnd.length < 16777216) : ∃ mv q' g' y4 y11 y12 y13 y14 y15, mv.low 0 = true ∧ q < q' ∧ q' ≤ q + 3000 ∧
    l_law_tiny_4 [some (.ref b), x1, x2, x3, x4, x5, some S.d, some (.ref (h.length + j.length)), some P.d, x9, x10, x11, x12, x13, x14, x15, x16] (bset h b dg q ++ (j ++ .lst fnd :: g))
      = some (.nx [some (.ref b), x1, x2, x3, y4, x5, some S.d, some (.ref (h.length + j.length)), some P.d, x9, x10, y11, y12, y13, y14, y15, x16] (bset h b dg q' ++ (j ++ .lst (fnd ++ [Prc.d { P with mv := mv }]) :: g'))) := by
  obtain ⟨ts, q1, t1, t2, a1, b1, e1⟩ := tiny4_2 (j := j ++ .lst fnd :: (g ++ [.lst []])) (q := q) (pl := P.places) (x1 := x1) (x2 := x2) (x3 := x3) (x4 := x4) (x5 := x5) (x6 := some S.d) (x7 := some (.ref (h.length + j.length))) (x8 := some P.d) (x9 := x9) (x10 := x10) (x11 := some (.ref (h.length + (j.length + (g.length + 1))))) (x13 := x13) (x14 := x14) (x15 := x15) (x16 := x16) B hq (by omega) (by omega)
  obtain ⟨ms, q2, y4, y14, y15, m1, a2, b2, ml, e2⟩ := tiny4_3 (j := j ++ .lst fnd :: (g ++ [.lst [], .lst [], .lst (ts.map D.str)])) (am := j.length + (g.length + 1)) (at' := j.length + (g.length + 3)) (q := q1) (pl := P.places) (ts := ts) (x1 := x1) (x2 := x2) (x3 := x3) (x4 := x4) (x5 := x5) (x7 := some (.ref (h.length + j.length))) (x8 := some P.d) (x9 := x9) (x10 := x10) (x14 := x14) (x15 := x15) (x16 := x16) B G (by omega) (by omega) p0 (by simp) (by simp) (by omega) (by omega)
  refine ⟨.tup ms, q2, g ++ [.lst ms, .lst [], .lst (ts.map D.str)], y4, some (.ref (h.length + (j.length + (g.length + 1)))), some (.tup (P.places.map D.str)), some (.ref (h.length + (j.length + (g.length + 3)))), y14, y15, by simpa using m1, by omega, by omega, ?_⟩
  rw [l_law_tiny_4_cut]
  simp (disch := first | assumption | omega | (simp only [List.length_cons, List.length_nil, List.length_map]; omega)) [Nat.add_assoc] at e1
  simp (disch := first | assumption | omega | (simp only [List.length_cons, List.length_nil, List.length_map]; omega)) [Nat.add_assoc] at e2
  unfold Prc.d at *
  simp (disch := first | assumption | omega | (simp only [List.length_cons, List.length_nil, List.length_map]; omega)) [e1, e2, Nat.add_assoc]
  unfold s_law_tiny_4_4
  simp (disch := first | assumption | omega | (simp only [List.length_cons, List.length_nil, List.length_map]; omega)) [fl, ml]
end
end Sm
namespace Sm
open PySem PySem.Spec PyProof.Rows L2
section
variable {h j : AH} {b dg : Nat} {ds : List Int} {p q : Int} {S : Sys} {x1 x2 x3 x4 x5 x6 x7 x8 x9 x10 x11 x12 x13 x14 x15 x16 : Option D} {k : Int} {pl : List Str} {v1 v2 : D}
/-- the places of the one are the places of the other -/
def PlOf (ps ps' : List Prc) : Prop := ps'.length = ps.length ∧ ∀ p' ∈ ps', p'.mv.low 0 = true ∧ ∃ p ∈ ps, p'.places = p.places
theorem tiny_t8 {ns : List Str} {dl : List Dat} {ps : List Prc} {an ad ap : Nat} (B : Bx h b dg ds p) (nl : ns.length = 9) (hn : j[an]? = some (.lst (ns.map D.str))) (hd : j[ad]? = some (.lst (dl.map Dat.d))) (hp2 : j[ap]? = some (.lst (ps.map Prc.d)))
    (G : Sys.Gd ⟨ns[8], dl, ps⟩) (pl8 : ∀ p ∈ ps, p.places.length ≤ 8) (pn : ps.length ≤ 8) (hq : 0 ≤ q) (hp : q < 300000) : ∃ ps' q' j', PlOf ps ps' ∧ q ≤ q' ∧ q' ≤ q + 30000 ∧
    t_law_tiny_8 [some (.ref b), x1, some (.ref (h.length + an)), some (.ref (h.length + ad)), x4, some (.ref (h.length + ap)), x6, x7, x8, x9, x10, x11, x12, x13, x14, x15, x16] (bset h b dg q ++ j)
      = some (.rt (Sys.d ⟨ns[8], dl, ps'⟩) (bset h b dg q' ++ (j ++ j'))) := by
  unfold t_law_tiny_8
  simp (disch := first | assumption | omega | (simp only [List.length_cons, List.length_nil, List.length_map]; omega)) [hn, hd, hp2]
  obtain ⟨τ', h', e, P⟩ := forIx (grd := []) (g := gN 8) (body := l_law_tiny_4) (xs := ps.map Prc.d)
    (fun i τ hh => ∃ (fps : List Prc) (q' : Int) (g : AH) (y4 y8 y11 y12 y13 y14 y15 : Option D), fps.length = i ∧ (∀ p' ∈ fps, p'.mv.low 0 = true ∧ ∃ p ∈ ps, p'.places = p.places) ∧ q ≤ q' ∧ q' ≤ q + 3000 * i ∧ τ = [some (.ref b), x1, some (.ref (h.length + an)), some (.ref (h.length + ad)), y4, some (.ref (h.length + ap)), some (Sys.d ⟨ns[8], dl, ps⟩), some (.ref (h.length + j.length)), y8, x9, x10, y11, y12, y13, y14, y15, x16] ∧ hh = bset h b dg q' ++ (j ++ .lst (fps.map Prc.d) :: g))
    (fun _ _ _ _ => rfl)
    (fun i hi τ hh ⟨fps, q', g, y4, y8, y11, y12, y13, y14, y15, h1, h2, h3, h4, h5, h6⟩ => by
      subst h5 h6
      rw [List.length_map] at hi
      have hm := List.getElem_mem hi
      obtain ⟨mv, q1, g1, z4, z11, z12, z13, z14, z15, w1, a1, b1, e1⟩ := tiny4_turn (P := ps[i]) (fnd := fps.map Prc.d) (g := g) (q := q') (j := j) (x1 := x1) (x2 := some (.ref (h.length + an))) (x3 := some (.ref (h.length + ad))) (x4 := y4) (x5 := some (.ref (h.length + ap))) (x9 := x9) (x10 := x10) (x11 := y11) (x12 := y12) (x13 := y13) (x14 := y14) (x15 := y15) (x16 := x16) B G (by omega) (by omega) (G.pl _ hm) (pl8 _ hm) (by simp; omega)
      refine ⟨_, _, _, _, by rw [List.getElem_map]; rfl, .inl e1, fps ++ [{ ps[i] with mv := mv }], q1, g1, z4, some (Prc.d ps[i]), z11, z12, z13, z14, z15, by simp [h1], ?_, by omega, by omega, rfl, by simp⟩
      intro p' hp'
      rcases List.mem_append.mp hp' with z | z
      · exact h2 _ z
      · rw [List.mem_singleton] at z
        subst z
        exact ⟨w1, _, hm, rfl⟩)
    [some (.ref b), x1, some (.ref (h.length + an)), some (.ref (h.length + ad)), x4, some (.ref (h.length + ap)), some (Sys.d ⟨ns[8], dl, ps⟩), some (.ref (h.length + j.length)), x8, x9, x10, x11, x12, x13, x14, x15, x16] (bset h b dg q ++ (j ++ [.lst []])) ⟨[], q, [], x4, x8, x11, x12, x13, x14, x15, rfl, fun _ h => by (cases h), by omega, by omega, rfl, rfl⟩
  unfold Sys.d at e
  rw [e]
  obtain ⟨fps, q', g, y4, y8, y11, y12, y13, y14, y15, h1, h2, h3, h4, h5, h6⟩ := P
  subst h5 h6
  rw [List.length_map] at h1 h4
  refine ⟨fps, ⟨h1, h2⟩, q', by omega, by omega, .lst (fps.map Prc.d) :: g, ?_⟩
  unfold Sys.d
  simp (disch := first | assumption | omega | (simp only [List.length_cons, List.length_nil, List.length_map]; omega)) []
end
end Sm
namespace Sm
open PySem PySem.Spec PyProof.Rows L2
section
variable {h j : AH} {b dg : Nat} {ds : List Int} {p q : Int} {S : Sys} {x1 x2 x3 x4 x5 x6 x7 x8 x9 x10 x11 x12 x13 x14 x15 x16 : Option D} {k : Int} {pl : List Str} {v1 v2 : D}
/-- what the processes are, as the tiny system draws them -/
def PrOk (ps : List Prc) : Prop := ∀ p ∈ ps, 0 < p.places.length ∧ p.places.length ≤ 3 ∧ p.mv.low 0 = true
theorem tiny2_turn {ns : List Str} {an i : Nat} {ps : List Prc} {g : AH} (B : Bx h b dg ds p) (nl : ns.length = 9) (hn : j[an]? = some (.lst (ns.map D.str))) (hi : i < 2) (fl : ps.length < 16777216) (hq : 0 ≤ q) (hp : q < 300000) : ∃ P : Prc, ∃ q' g', PrOk [P] ∧ q < q' ∧ q' ≤ q + 40 ∧
    l_law_tiny_2 [some (.ref b), x1, some (.ref (h.length + an)), x3, some (.int (i : Int)), some (.ref (h.length + j.length)), x6, x7, x8, x9, x10, x11, x12, x13, x14, x15, x16] (bset h b dg q ++ (j ++ .lst (ps.map Prc.d) :: g))
      = some (.nx [some (.ref b), x1, some (.ref (h.length + an)), x3, some (.int (i : Int)), some (.ref (h.length + j.length)), x6, x7, x8, x9, x10, x11, x12, x13, x14, x15, x16] (bset h b dg q' ++ (j ++ .lst ((ps ++ [P]).map Prc.d) :: g'))) := by
  have DR := fun (q : Int) (j : AH) (m : Int) (a1 : 0 ≤ q) (a2 : q < 1000000) (a3 : 0 < m) => draw_loc (j := j) B a1 a2 a3
  have al := (List.getElem?_eq_some_iff.mp hn).1
  have k0 := dr_lo (ds := ds) (p := q) (m := 5) (by omega)
  have k1 := dr_hi (ds := ds) (p := q) (m := 5) (by omega)
  obtain ⟨v, hv, hv2, hv3⟩ := ixv (xs := [D.int 3, .int 2, .int 3, .int 2, .int 1]) k0 k1
  have hn' : ∃ n : Nat, 0 < n ∧ n ≤ 3 ∧ v = .int (n : Int) := by
    simp only [List.mem_cons, List.not_mem_nil, or_false] at hv2
    rcases hv2 with e | e | e | e | e
    · exact ⟨3, by omega, by omega, e⟩
    · exact ⟨2, by omega, by omega, e⟩
    · exact ⟨3, by omega, by omega, e⟩
    · exact ⟨2, by omega, by omega, e⟩
    · exact ⟨1, by omega, by omega, e⟩
  obtain ⟨n, n0, n3, rfl⟩ := hn'
  obtain ⟨ts, tl, e⟩ := names_loc (j := j ++ .lst (ps.map Prc.d) :: g) (u := h.length + an) (m := n) (us := ns) (q := q + 1) B (by omega) (by omega) (by omega) (by omega) (fun q j' => by rw [getA, List.append_assoc, List.getElem?_append_left al]; exact hn)
  have y0 : (0 : Int) ≤ 4 + i := by omega
  have y1 : (4 + (i : Int)).toNat = 4 + i := by omega
  have y2 : 4 + i < ns.length := by omega
  refine ⟨⟨ns[4 + i], ts, .tup []⟩, q + 1 + 2 * n, g ++ [.lst (ts.map D.str)], fun p hp => ?_, by omega, by omega, ?_⟩
  · rw [List.mem_singleton] at hp
    subst hp
    exact ⟨by simp [tl, n0], by simp [tl, n3], by simp⟩
  · unfold l_law_tiny_2
    simp (disch := first | assumption | omega | (simp only [List.length_cons, List.length_nil, List.length_map]; omega)) [] at e
    have al2 : (j ++ .lst (ps.map Prc.d) :: g)[an]? = some (.lst (ns.map D.str)) := by rw [List.getElem?_append_left al]; exact hn
    have al3 : ∀ o : O, (j ++ .lst (ps.map Prc.d) :: (g ++ [o]))[an]? = some (.lst (ns.map D.str)) := fun o => by rw [List.getElem?_append_left al]; exact hn
    simp (disch := first | assumption | omega | (simp only [List.length_cons, List.length_nil, List.length_map]; omega)) [DR, hv, hv3, e, al2, al3, y1, y2, fl]
    rfl
def Dat.Tn : Dat → Prop
  | .num _ lo hi _ => hi + 1 - lo ≤ 3
  | .que _ room lo hi => room ≤ 3 ∧ hi + 1 - lo ≤ 2
structure DOk (dl : List Dat) : Prop where
  ok : ∀ d ∈ dl, d.Ok
  tn : ∀ d ∈ dl, d.Tn
  len : dl.length ≤ 3
  nu : 0 < (dl.filter Dat.isNum).length
theorem gd_of {nm : Str} {dl : List Dat} {ps : List Prc} (D : DOk dl) (P : PrOk ps) (p0 : 0 < ps.length) (p2 : ps.length ≤ 2) : Sys.Gd ⟨nm, dl, ps⟩ where
  ok := ⟨D.ok, Nat.le_trans D.len (by decide), Nat.le_trans p2 (by decide), fun p hp => Nat.le_trans (P p hp).2.1 (by decide)⟩
  pr := p0
  pl := fun p hp => (P p hp).1
  mv := fun p hp => (P p hp).2.2
  nu := D.nu
theorem tiny_t6 {ns : List Str} {dl : List Dat} {an ad : Nat} {kd : Int} (B : Bx h b dg ds p) (nl : ns.length = 9) (hn : j[an]? = some (.lst (ns.map D.str))) (hd : j[ad]? = some (.lst (dl.map Dat.d)))
    (DO : DOk dl) (k0 : 0 ≤ kd) (k1 : kd < 4) (hq : 0 ≤ q) (hp : q < 200000) : ∃ S q' j', S.dats = dl ∧ 0 < S.prcs.length ∧ S.prcs.length ≤ 2 ∧ PrOk S.prcs ∧ q ≤ q' ∧ q' ≤ q + 40000 ∧
    t_law_tiny_6 [some (.ref b), some (.int kd), some (.ref (h.length + an)), some (.ref (h.length + ad)), x4, x5, x6, x7, x8, x9, x10, x11, x12, x13, x14, x15, x16] (bset h b dg q ++ j)
      = some (.rt (Sys.d S) (bset h b dg q' ++ (j ++ j'))) := by
  have an' := (List.getElem?_eq_some_iff.mp hn).1
  have ad' := (List.getElem?_eq_some_iff.mp hd).1
  obtain ⟨v, hv, hv2, hv3⟩ := ixv (xs := [D.int 2, .int 2, .int 1, .int 2]) k0 k1
  have hn' : ∃ n : Nat, 0 < n ∧ n ≤ 2 ∧ v = .int (n : Int) := by
    simp only [List.mem_cons, List.not_mem_nil, or_false] at hv2
    rcases hv2 with e | e | e | e
    · exact ⟨2, by omega, by omega, e⟩
    · exact ⟨2, by omega, by omega, e⟩
    · exact ⟨1, by omega, by omega, e⟩
    · exact ⟨2, by omega, by omega, e⟩
  obtain ⟨n, n0, n3, rfl⟩ := hn'
  have n4 : (n : Int) < 4611686018427387904 := by omega
  unfold t_law_tiny_6
  simp (disch := first | assumption | omega | (simp only [List.length_cons, List.length_nil, List.length_map]; omega)) [hv, hv3, n4]
  obtain ⟨τ', h', e, P⟩ := forRg0 (g := gN 4) (body := l_law_tiny_2) (n := n)
    (fun i τ hh => ∃ (ps : List Prc) (q' : Int) (g : AH) (y4 : Option D), ps.length = i ∧ PrOk ps ∧ q ≤ q' ∧ q' ≤ q + 40 * i ∧ τ = [some (.ref b), some (.int kd), some (.ref (h.length + an)), some (.ref (h.length + ad)), y4, some (.ref (h.length + j.length)), x6, x7, x8, x9, x10, x11, x12, x13, x14, x15, x16] ∧ hh = bset h b dg q' ++ (j ++ .lst (ps.map Prc.d) :: g))
    (fun i hi τ hh ⟨ps, q', g, y4, h1, h2, h3, h4, h5, h6⟩ => by
      subst h5 h6
      obtain ⟨P, q1, g1, w1, a1, b1, e1⟩ := tiny2_turn (ns := ns) (an := an) (i := i) (ps := ps) (g := g) (q := q') (j := j) (x1 := some (.int kd)) (x3 := some (.ref (h.length + ad))) (x6 := x6) (x7 := x7) (x8 := x8) (x9 := x9) (x10 := x10) (x11 := x11) (x12 := x12) (x13 := x13) (x14 := x14) (x15 := x15) (x16 := x16) B nl hn (by omega) (by omega) (by omega) (by omega)
      refine ⟨_, _, _, _, rfl, .inl e1, ps ++ [P], q1, g1, some (.int i), by simp [h1], fun p' hp' => ?_, by omega, by omega, rfl, rfl⟩
      rcases List.mem_append.mp hp' with z | z
      · exact h2 _ z
      · exact w1 _ z)
    [some (.ref b), some (.int kd), some (.ref (h.length + an)), some (.ref (h.length + ad)), x4, some (.ref (h.length + j.length)), x6, x7, x8, x9, x10, x11, x12, x13, x14, x15, x16] (bset h b dg q ++ (j ++ [.lst []])) ⟨[], q, [], x4, rfl, fun _ h => by (cases h), by omega, by omega, rfl, rfl⟩
  rw [e]
  obtain ⟨ps, q', g, y4, h1, h2, h3, h4, h5, h6⟩ := P
  subst h5 h6
  obtain ⟨ps', q2, j2, r1, a2, b2, e2⟩ := tiny_t8 (ns := ns) (dl := dl) (ps := ps) (an := an) (ad := ad) (ap := j.length) (j := j ++ .lst (ps.map Prc.d) :: g) (q := q') (x1 := some (.int kd)) (x4 := y4) (x6 := x6) (x7 := x7) (x8 := x8) (x9 := x9) (x10 := x10) (x11 := x11) (x12 := x12) (x13 := x13) (x14 := x14) (x15 := x15) (x16 := x16) B nl (by rw [List.getElem?_append_left an']; exact hn) (by rw [List.getElem?_append_left ad']; exact hd) (by simp)
    (gd_of DO h2 (by omega) (by omega)) (fun p hp => Nat.le_trans (h2 p hp).2.1 (by decide)) (by omega) (by omega) (by omega)
  refine ⟨⟨ns[8], dl, ps'⟩, rfl, by simp [r1.1]; omega, by simp [r1.1]; omega, ?_, q2, by omega, by omega, .lst (ps.map Prc.d) :: (g ++ j2), ?_⟩
  · intro p' hp'
    obtain ⟨w, pp, hpp, he⟩ := r1.2 p' hp'
    rw [he]
    exact ⟨(h2 pp hpp).1, (h2 pp hpp).2.1, w⟩
  · simp (disch := first | assumption | omega | (simp only [List.length_cons, List.length_nil, List.length_map]; omega)) []
    rw [e2]
    simp (disch := first | assumption | omega | (simp only [List.length_cons, List.length_nil, List.length_map]; omega)) []
end
end Sm
namespace Sm
open PySem PySem.Spec PyProof.Rows L2
def revK (o : Option (List D)) (h : AH) : Option (LV × AH) := o.bind fun ds => if ds.length ≤ 16777216 then some (.new ds.reverse, h) else none
@[simp] theorem revK_some {xs : List D} {h : AH} : revK (some xs) h = if xs.length ≤ 16777216 then some (.new xs.reverse, h) else none := rfl
@[simp] theorem oRev_ref {a : Nat} {h : AH} : oRev (.val (.ref a)) h = revK (lsK h[a]?) h := rfl
section
variable {h j : AH} {b dg : Nat} {ds : List Int} {p q : Int} {S : Sys} {x1 x2 x3 x4 x5 x6 x7 x8 x9 x10 x11 x12 x13 x14 x15 x16 : Option D} {k : Int} {pl : List Str} {v1 v2 : D}
theorem DOk.rev {dl : List Dat} (H : DOk dl) : DOk dl.reverse :=
  ⟨fun d hd => H.ok d (List.mem_reverse.mp hd), fun d hd => H.tn d (List.mem_reverse.mp hd), by rw [List.length_reverse]; exact H.len, by rw [List.filter_reverse, List.length_reverse]; exact H.nu⟩
theorem tiny_t5 {ns : List Str} {dl : List Dat} {an ad : Nat} {kd : Int} (B : Bx h b dg ds p) (nl : ns.length = 9) (hn : j[an]? = some (.lst (ns.map D.str))) (hd : j[ad]? = some (.lst (dl.map Dat.d)))
    (DO : DOk dl) (k0 : 0 ≤ kd) (k1 : kd < 4) (hq : 0 ≤ q) (hp : q < 100000) : ∃ S q' j', DOk S.dats ∧ 0 < S.prcs.length ∧ S.prcs.length ≤ 2 ∧ PrOk S.prcs ∧ q ≤ q' ∧ q' ≤ q + 40001 ∧
    t_law_tiny_5 [some (.ref b), some (.int kd), some (.ref (h.length + an)), some (.ref (h.length + ad)), x4, x5, x6, x7, x8, x9, x10, x11, x12, x13, x14, x15, x16] (bset h b dg q ++ j)
      = some (.rt (Sys.d S) (bset h b dg q' ++ (j ++ j'))) := by
  have DR := fun (q : Int) (j : AH) (m : Int) (a1 : 0 ≤ q) (a2 : q < 1000000) (a3 : 0 < m) => draw_loc (j := j) B a1 a2 a3
  have an' := (List.getElem?_eq_some_iff.mp hn).1
  have dlen := DO.len
  have d16 : dl.length ≤ 16777216 := by omega
  by_cases c : dr ds q 2 = 0
  · obtain ⟨S, q1, j1, s1, s2, s3, s4, a, b1, e⟩ := tiny_t6 (ns := ns) (dl := dl.reverse) (an := an) (ad := j.length) (kd := kd) (j := j ++ [.lst (dl.reverse.map Dat.d)]) (q := q + 1) (x4 := x4) (x5 := x5) (x6 := x6) (x7 := x7) (x8 := x8) (x9 := x9) (x10 := x10) (x11 := x11) (x12 := x12) (x13 := x13) (x14 := x14) (x15 := x15) (x16 := x16) B nl (by rw [List.getElem?_append_left an']; exact hn) (by simp) DO.rev k0 k1 (by omega) (by omega)
    refine ⟨S, q1, .lst (dl.reverse.map Dat.d) :: j1, by rw [s1]; exact DO.rev, s2, s3, s4, by omega, by omega, ?_⟩
    simp (disch := first | assumption | omega | (simp only [List.length_cons, List.length_nil, List.length_map]; omega)) [] at e
    unfold t_law_tiny_5
    simp (disch := first | assumption | omega | (simp only [List.length_cons, List.length_nil, List.length_map]; omega)) [DR, c, hd, d16, e]
  · obtain ⟨S, q1, j1, s1, s2, s3, s4, a, b1, e⟩ := tiny_t6 (ns := ns) (dl := dl) (an := an) (ad := ad) (kd := kd) (j := j) (q := q + 1) (x4 := x4) (x5 := x5) (x6 := x6) (x7 := x7) (x8 := x8) (x9 := x9) (x10 := x10) (x11 := x11) (x12 := x12) (x13 := x13) (x14 := x14) (x15 := x15) (x16 := x16) B nl hn hd DO k0 k1 (by omega) (by omega)
    refine ⟨S, q1, j1, by rw [s1]; exact DO, s2, s3, s4, by omega, by omega, ?_⟩
    unfold t_law_tiny_5
    simp (disch := first | assumption | omega | (simp only [List.length_cons, List.length_nil, List.length_map]; omega)) [DR, c, e]
theorem set_old {j : AH} {k n : Nat} {o v : O} (h : j[k]? = some v) (ne : n ≠ k) : (j.set n o)[k]? = some v := by rw [List.getElem?_set_ne ne]; exact h
theorem tiny_t4 {ns : List Str} {dl : List Dat} {an ad : Nat} {kd : Int} (B : Bx h b dg ds p) (nl : ns.length = 9) (hn : j[an]? = some (.lst (ns.map D.str))) (hd : j[ad]? = some (.lst (dl.map Dat.d))) (ne : ad ≠ an)
    (DO : DOk dl) (dl2 : dl.length ≤ 2) (k0 : 0 ≤ kd) (k1 : kd < 4) (hq : 0 ≤ q) (hp : q < 90000) : ∃ S q' j', DOk S.dats ∧ 0 < S.prcs.length ∧ S.prcs.length ≤ 2 ∧ PrOk S.prcs ∧ q ≤ q' ∧ q' ≤ q + 40010 ∧
    t_law_tiny_4 [some (.ref b), some (.int kd), some (.ref (h.length + an)), some (.ref (h.length + ad)), x4, x5, x6, x7, x8, x9, x10, x11, x12, x13, x14, x15, x16] (bset h b dg q ++ j)
      = some (.rt (Sys.d S) (bset h b dg q' ++ j')) ∧ (∀ n, n ≤ ad → j'.take n = j.take n) := by
  have DR := fun (q : Int) (j : AH) (m : Int) (a1 : 0 ≤ q) (a2 : q < 1000000) (a3 : 0 < m) => draw_loc (j := j) B a1 a2 a3
  have al := (List.getElem?_eq_some_iff.mp hd).1
  by_cases c : 1 < kd
  · have l0 := dr_lo (ds := ds) (p := q) (m := 2) (by omega)
    have l1 := dr_hi (ds := ds) (p := q) (m := 2) (by omega)
    have r0 := dr_lo (ds := ds) (p := q + 1) (m := 5 - kd) (by omega)
    have r1 := dr_hi (ds := ds) (p := q + 1) (m := 5 - kd) (by omega)
    have h0 := dr_lo (ds := ds) (p := q + 1 + 1) (m := 2) (by omega)
    have h1 := dr_hi (ds := ds) (p := q + 1 + 1) (m := 2) (by omega)
    have y1 : 3 < ns.length := by omega
    have y2 : 0 < 5 - kd := by omega
    have d16 : dl.length < 16777216 := by omega
    have DO' : DOk (dl ++ [.que ns[3] (1 + dr ds (q + 1) (5 - kd)) (dr ds q 2) (dr ds q 2 + dr ds (q + 1 + 1) 2)]) := by
      refine ⟨fun d hd => ?_, fun d hd => ?_, by simp; omega, by rw [List.filter_append, List.length_append]; have := DO.nu; omega⟩
      · rcases List.mem_append.mp hd with z | z
        · exact DO.ok d z
        · rw [List.mem_singleton] at z
          subst z
          exact ⟨by omega, by omega, by omega, by omega, by omega⟩
      · rcases List.mem_append.mp hd with z | z
        · exact DO.tn d z
        · rw [List.mem_singleton] at z
          subst z
          exact ⟨by omega, by omega⟩
    obtain ⟨S, q1, j1, s1, s2, s3, s4, a, b1, e⟩ := tiny_t5 (ns := ns) (dl := dl ++ [.que ns[3] (1 + dr ds (q + 1) (5 - kd)) (dr ds q 2) (dr ds q 2 + dr ds (q + 1 + 1) 2)]) (an := an) (ad := ad) (kd := kd) (j := j.set ad (.lst (dl.map Dat.d ++ [Dat.d (.que ns[3] (1 + dr ds (q + 1) (5 - kd)) (dr ds q 2) (dr ds q 2 + dr ds (q + 1 + 1) 2))]))) (q := q + 1 + 1 + 1) (x4 := x4) (x5 := x5) (x6 := x6) (x7 := x7) (x8 := x8) (x9 := some (.int (dr ds q 2))) (x10 := x10) (x11 := x11) (x12 := x12) (x13 := x13) (x14 := x14) (x15 := x15) (x16 := x16) B nl (set_old hn ne) (by rw [List.getElem?_set_self al]; simp) DO' k0 k1 (by omega) (by omega)
    refine ⟨S, q1, j.set ad (.lst (dl.map Dat.d ++ [Dat.d (.que ns[3] (1 + dr ds (q + 1) (5 - kd)) (dr ds q 2) (dr ds q 2 + dr ds (q + 1 + 1) 2))])) ++ j1, s1, s2, s3, s4, by omega, by omega, ?_, fun n hn' => by
      rw [List.take_append_of_le_length (by rw [List.length_set]; omega), List.take_set_of_le hn']⟩
    clear al
    unfold t_law_tiny_4
    simp (disch := first | assumption | omega | (simp only [List.length_cons, List.length_nil, List.length_map]; omega)) [Dat.d] at e
    simp (disch := first | assumption | omega | (simp only [List.length_cons, List.length_nil, List.length_map]; omega)) [DR, c, hd, hn, d16, e, y1, Dat.d]
  · obtain ⟨S, q1, j1, s1, s2, s3, s4, a, b1, e⟩ := tiny_t5 (ns := ns) (dl := dl) (an := an) (ad := ad) (kd := kd) (j := j) (q := q) (x4 := x4) (x5 := x5) (x6 := x6) (x7 := x7) (x8 := x8) (x9 := x9) (x10 := x10) (x11 := x11) (x12 := x12) (x13 := x13) (x14 := x14) (x15 := x15) (x16 := x16) B nl hn hd DO k0 k1 (by omega) (by omega)
    refine ⟨S, q1, j ++ j1, s1, s2, s3, s4, by omega, by omega, ?_, fun n hn' => by rw [List.take_append_of_le_length (by omega)]⟩
    clear al
    unfold t_law_tiny_4
    simp (disch := first | assumption | omega | (simp only [List.length_cons, List.length_nil, List.length_map]; omega)) [c, e]
end
end Sm
namespace Sm
open PySem PySem.Spec PyProof.Rows L2
section
variable {h j : AH} {b dg : Nat} {ds : List Int} {p q : Int} {S : Sys} {x1 x2 x3 x4 x5 x6 x7 x8 x9 x10 x11 x12 x13 x14 x15 x16 : Option D} {k : Int} {pl : List Str} {v1 v2 : D}
theorem tiny1_turn {ns : List Str} {dl : List Dat} {an ad i : Nat} {kd : Int} (B : Bx h b dg ds p) (nl : ns.length = 9) (hn : j[an]? = some (.lst (ns.map D.str))) (hd : j[ad]? = some (.lst (dl.map Dat.d))) (hi : i < 2) (dl2 : dl.length ≤ 10) (hq : 0 ≤ q) (hp : q < 90000) :
    ∃ lo hi fi y9 y10, Dat.Ok (.num ns[i] lo hi fi) ∧ Dat.Tn (.num ns[i] lo hi fi) ∧
    l_law_tiny_1 [some (.ref b), some (.int kd), some (.ref (h.length + an)), some (.ref (h.length + ad)), some (.int (i : Int)), x5, x6, x7, x8, x9, x10, x11, x12, x13, x14, x15, x16] (bset h b dg q ++ j)
      = some (.nx [some (.ref b), some (.int kd), some (.ref (h.length + an)), some (.ref (h.length + ad)), some (.int (i : Int)), x5, x6, x7, x8, y9, y10, x11, x12, x13, x14, x15, x16] (bset h b dg (q + 3) ++ j.set ad (.lst ((dl ++ [Dat.num ns[i] lo hi fi]).map Dat.d)))) := by
  have DR := fun (q : Int) (j : AH) (m : Int) (a1 : 0 ≤ q) (a2 : q < 1000000) (a3 : 0 < m) => draw_loc (j := j) B a1 a2 a3
  obtain ⟨v, hv, hv2, hv3⟩ := ixv (xs := [D.int 0, .int 0, .int 1, .int (-1), .int (-9)]) (dr_lo (ds := ds) (p := q) (m := 5) (by omega)) (dr_hi (ds := ds) (p := q) (m := 5) (by omega))
  have l1 : ∃ lo : Int, -9 ≤ lo ∧ lo ≤ 1 ∧ v = .int lo := by
    simp only [List.mem_cons, List.not_mem_nil, or_false] at hv2
    rcases hv2 with e | e | e | e | e <;> exact ⟨_, by decide, by decide, e⟩
  obtain ⟨lo, l1, l2, rfl⟩ := l1
  obtain ⟨w, hw, hw2, hw3⟩ := ixv (xs := [D.int 2, .int 2, .int 1, .int 2, .int 0, .int 2]) (dr_lo (ds := ds) (p := q + 1) (m := 6) (by omega)) (dr_hi (ds := ds) (p := q + 1) (m := 6) (by omega))
  have l3 : ∃ d : Int, 0 ≤ d ∧ d ≤ 2 ∧ w = .int d := by
    simp only [List.mem_cons, List.not_mem_nil, or_false] at hw2
    rcases hw2 with e | e | e | e | e | e <;> exact ⟨_, by decide, by decide, e⟩
  obtain ⟨d, l3, l4, rfl⟩ := l3
  have k0 := dr_lo (ds := ds) (p := q) (m := 5) (by omega)
  have k1 := dr_hi (ds := ds) (p := q) (m := 5) (by omega)
  have k2 := dr_lo (ds := ds) (p := q + 1) (m := 6) (by omega)
  have k3 := dr_hi (ds := ds) (p := q + 1) (m := 6) (by omega)
  have y1 : i < ns.length := by omega
  have d16 : dl.length < 16777216 := by omega
  have q3 : q + 1 + 1 + 1 = q + 3 := by omega
  unfold l_law_tiny_1
  by_cases c : kd = 3
  · have y2 : 0 < lo + 1 - lo + 1 := by omega
    refine ⟨lo, lo + 1, lo + dr ds (q + 1 + 1) (lo + 1 - lo + 1), some (.int lo), some (.int (lo + 1)), ⟨by omega, by omega, by omega⟩, ?_, ?_⟩
    · show lo + 1 + 1 - lo ≤ 3
      omega
    · simp (disch := first | assumption | omega | (simp only [List.length_cons, List.length_nil, List.length_map]; omega)) [DR, hv, hv3, hw, hw3, c, hn, hd, y1, d16, Dat.d, q3, atI_cast]
  · have y2 : 0 < lo + d - lo + 1 := by omega
    refine ⟨lo, lo + d, lo + dr ds (q + 1 + 1) (lo + d - lo + 1), some (.int lo), some (.int (lo + d)), ⟨by omega, by omega, by omega⟩, ?_, ?_⟩
    · show lo + d + 1 - lo ≤ 3
      omega
    · simp (disch := first | assumption | omega | (simp only [List.length_cons, List.length_nil, List.length_map]; omega)) [DR, hv, hv3, hw, hw3, c, hn, hd, y1, d16, Dat.d, q3, atI_cast]
/-- a system that the tiny draws made -/
structure Sys.Ty (S : Sys) : Prop where
  d : DOk S.dats
  p0 : 0 < S.prcs.length
  p2 : S.prcs.length ≤ 2
  pr : PrOk S.prcs
theorem Sys.Ty.gd {S : Sys} (T : S.Ty) : S.Gd := gd_of T.d T.pr T.p0 T.p2
theorem sys_low {S : Sys} (mv : ∀ p ∈ S.prcs, p.mv.low 0 = true) : S.d.low 0 = true := by
  unfold Sys.d
  simp
  exact ⟨dats_low _, lows_of fun x hx => by
    obtain ⟨p, hp, rfl⟩ := List.mem_map.mp hx
    exact prc_low (mv p hp)⟩
theorem tiny_loc (B : Bx h b dg ds p) (hq : 0 ≤ q) (hp : q < 80000) :
    ∃ S : Sys, ∃ q', S.Ty ∧ q ≤ q' ∧ q' ≤ q + 41000 ∧ F_law_tiny [.ref b] (bset h b dg q ++ j) = some (S.d, bset h b dg q' ++ j) := by
  have DR := fun (q : Int) (j : AH) (m : Int) (a1 : 0 ≤ q) (a2 : q < 1000000) (a3 : 0 < m) => draw_loc (j := j) B a1 a2 a3
  have k0 := dr_lo (ds := ds) (p := q) (m := 4) (by omega)
  have k1 := dr_hi (ds := ds) (p := q) (m := 4) (by omega)
  obtain ⟨ns, nl, en⟩ := names_loc (j := j ++ [.lst []]) (u := h.length + j.length) (m := 9) (us := []) (q := q + 1) B (by omega) (by omega) (by omega) (by simp) (by simp)
  obtain ⟨v, hv, hv2, hv3⟩ := ixv (xs := [D.int 2, .int 1, .int 1, .int 1]) k0 k1
  have hn' : ∃ n : Nat, 0 < n ∧ n ≤ 2 ∧ v = .int (n : Int) := by
    simp only [List.mem_cons, List.not_mem_nil, or_false] at hv2
    rcases hv2 with e | e | e | e
    · exact ⟨2, by omega, by omega, e⟩
    · exact ⟨1, by omega, by omega, e⟩
    · exact ⟨1, by omega, by omega, e⟩
    · exact ⟨1, by omega, by omega, e⟩
  obtain ⟨n, n0, n3, rfl⟩ := hn'
  have n4 : (n : Int) < 4611686018427387904 := by omega
  have q19 : q + 1 + 18 = q + 19 := by omega
  obtain ⟨τ', h', e, P⟩ := forRg0 (g := gN 4) (body := l_law_tiny_1) (n := n)
    (fun i τ hh => ∃ (dl : List Dat) (y4 y9 y10 : Option D), dl.length = i ∧ (∀ d ∈ dl, d.Ok ∧ d.Tn ∧ d.isNum = true) ∧ τ = [some (.ref b), some (.int (dr ds q 4)), some (.ref (h.length + (j.length + 1))), some (.ref (h.length + (j.length + 2))), y4, none, none, none, none, y9, y10, none, none, none, none, none, none] ∧ hh = bset h b dg (q + 19 + 3 * i) ++ (j ++ [.lst [], .lst (ns.map D.str), .lst (dl.map Dat.d)]))
    (fun i hi τ hh ⟨dl, y4, y9, y10, h1, h2, h5, h6⟩ => by
      subst h5 h6
      obtain ⟨lo, hi', fi, z9, z10, o1, o2, e1⟩ := tiny1_turn (ns := ns) (dl := dl) (an := j.length + 1) (ad := j.length + 2) (i := i) (kd := dr ds q 4) (j := j ++ [.lst [], .lst (ns.map D.str), .lst (dl.map Dat.d)]) (q := q + 19 + 3 * i) (x5 := none) (x6 := none) (x7 := none) (x8 := none) (x9 := y9) (x10 := y10) (x11 := none) (x12 := none) (x13 := none) (x14 := none) (x15 := none) (x16 := none) B nl (by simp) (by simp) (by omega) (by omega) (by omega) (by omega)
      refine ⟨_, _, _, _, rfl, .inl e1, dl ++ [Dat.num ns[i] lo hi' fi], some (.int i), z9, z10, by simp [h1], fun d hd => ?_, rfl, ?_⟩
      · rcases List.mem_append.mp hd with z | z
        · exact h2 d z
        · rw [List.mem_singleton] at z
          subst z
          exact ⟨o1, o2, rfl⟩
      · simp
        congr 1
        omega)
    [some (.ref b), some (.int (dr ds q 4)), some (.ref (h.length + (j.length + 1))), some (.ref (h.length + (j.length + 2))), none, none, none, none, none, none, none, none, none, none, none, none, none] (bset h b dg (q + 19) ++ (j ++ [.lst [], .lst (ns.map D.str), .lst []])) ⟨[], none, none, none, rfl, fun _ h => by (cases h), rfl, by simp⟩
  obtain ⟨dl, y4, y9, y10, h1, h2, h5, h6⟩ := P
  subst h5 h6
  have DO : DOk dl := ⟨fun d hd => (h2 d hd).1, fun d hd => (h2 d hd).2.1, by omega, by
    rw [List.filter_eq_self.mpr fun d hd => (h2 d hd).2.2]
    omega⟩
  obtain ⟨S, q2, j2, s1, s2, s3, s4, a2, b2, e2, jl⟩ := tiny_t4 (ns := ns) (dl := dl) (an := j.length + 1) (ad := j.length + 2) (kd := dr ds q 4) (j := j ++ [.lst [], .lst (ns.map D.str), .lst (dl.map Dat.d)]) (q := q + 19 + 3 * n) (x4 := y4) (x5 := none) (x6 := none) (x7 := none) (x8 := none) (x9 := y9) (x10 := y10) (x11 := none) (x12 := none) (x13 := none) (x14 := none) (x15 := none) (x16 := none) B nl (by simp) (by simp) (by omega) DO (by omega) k0 k1 (by omega) (by omega)
  refine ⟨S, q2, ⟨s1, s2, s3, s4⟩, by omega, by omega, ?_⟩
  unfold F_law_tiny
  rw [b_law_tiny_cut]
  simp (disch := first | assumption | omega | (simp only [List.length_cons, List.length_nil, List.length_map]; omega)) [] at en
  simp (disch := first | assumption | omega | (simp only [List.length_cons, List.length_nil, List.length_map]; omega)) [runDef_if, DR, en, hv, hv3, n4, q19, Nat.add_assoc]
  rw [e]
  have jj : j2 = j ++ j2.drop j.length := by
    have := jl j.length (by omega)
    rw [List.take_append_of_le_length (Nat.le_refl _), List.take_length] at this
    conv => lhs; rw [← List.take_append_drop j.length j2]
    rw [this]
  rw [jj] at e2
  simp (disch := first | assumption | omega | (simp only [List.length_cons, List.length_nil, List.length_map]; omega)) [e2]
  rw [gc_loc B hq (sys_low fun p hp => (s4 p hp).2.2)]
end
end Sm
namespace Sm
open PySem PySem.Spec PyProof.Rows L2
section
variable {h j : AH} {b dg : Nat} {ds : List Int} {p q : Int} {S : Sys} {x1 x2 x3 x4 x5 x6 x7 x8 x9 x10 x11 x12 x13 x14 x15 x16 : Option D} {k : Int} {pl : List Str} {v1 v2 : D}
theorem wide1_turn {ns : List Str} {dl : List Dat} {an ad i : Nat} (B : Bx h b dg ds p) (nl : ns.length = 15) (hn : j[an]? = some (.lst (ns.map D.str))) (hd : j[ad]? = some (.lst (dl.map Dat.d))) (hi : i < 15) (dl2 : dl.length ≤ 20) (hq : 0 ≤ q) (hp : q < 900000) :
    ∃ d q' y6 y7, d.Ok ∧ q < q' ∧ q' ≤ q + 4 ∧
    l_law_wide_1 [some (.ref b), some (.ref (h.length + an)), some (.ref (h.length + ad)), some (.int (i : Int)), x4, x5, x6, x7] (bset h b dg q ++ j)
      = some (.nx [some (.ref b), some (.ref (h.length + an)), some (.ref (h.length + ad)), some (.int (i : Int)), x4, x5, y6, y7] (bset h b dg q' ++ j.set ad (.lst ((dl ++ [d]).map Dat.d)))) := by
  have DR := fun (q : Int) (j : AH) (m : Int) (a1 : 0 ≤ q) (a2 : q < 1000000) (a3 : 0 < m) => draw_loc (j := j) B a1 a2 a3
  have y1 : i < ns.length := by omega
  have d16 : dl.length < 16777216 := by omega
  unfold l_law_wide_1
  by_cases c : dr ds q 3 = 0
  · have k0 := dr_lo (ds := ds) (p := q + 1) (m := 8) (by omega)
    have k1 := dr_hi (ds := ds) (p := q + 1) (m := 8) (by omega)
    have k2 := dr_lo (ds := ds) (p := q + 1 + 1) (m := 3) (by omega)
    have k3 := dr_hi (ds := ds) (p := q + 1 + 1) (m := 3) (by omega)
    have y2 : 0 < 8 - dr ds (q + 1) 8 := by omega
    have k4 := dr_lo (ds := ds) (p := q + 1 + 1 + 1) (m := 8 - dr ds (q + 1) 8) (by omega)
    have k5 := dr_hi (ds := ds) (p := q + 1 + 1 + 1) (m := 8 - dr ds (q + 1) 8) (by omega)
    refine ⟨.que ns[i] (1 + dr ds (q + 1 + 1) 3) (dr ds (q + 1) 8) (dr ds (q + 1) 8 + dr ds (q + 1 + 1 + 1) (8 - dr ds (q + 1) 8)), q + 1 + 1 + 1 + 1, some (.int (dr ds (q + 1) 8)), x7, ⟨by omega, by omega, by omega, by omega, by omega⟩, by omega, by omega, ?_⟩
    simp (disch := first | assumption | omega | (simp only [List.length_cons, List.length_nil, List.length_map]; omega)) [DR, c, hn, hd, y1, d16, Dat.d, atI_cast]
  · have k0 := dr_lo (ds := ds) (p := q + 1) (m := 19) (by omega)
    have k1 := dr_hi (ds := ds) (p := q + 1) (m := 19) (by omega)
    have k2 := dr_lo (ds := ds) (p := q + 1 + 1) (m := 16) (by omega)
    have k3 := dr_hi (ds := ds) (p := q + 1 + 1) (m := 16) (by omega)
    have y2 : 0 < dr ds (q + 1) 19 - 9 + dr ds (q + 1 + 1) 16 - (dr ds (q + 1) 19 - 9) + 1 := by omega
    refine ⟨.num ns[i] (dr ds (q + 1) 19 - 9) (dr ds (q + 1) 19 - 9 + dr ds (q + 1 + 1) 16) (dr ds (q + 1) 19 - 9 + dr ds (q + 1 + 1 + 1) (dr ds (q + 1) 19 - 9 + dr ds (q + 1 + 1) 16 - (dr ds (q + 1) 19 - 9) + 1)), q + 1 + 1 + 1 + 1, some (.int (dr ds (q + 1) 19 - 9)), some (.int (dr ds (q + 1) 19 - 9 + dr ds (q + 1 + 1) 16)), ⟨by omega, by omega, by omega⟩, by omega, by omega, ?_⟩
    simp (disch := first | assumption | omega | (simp only [List.length_cons, List.length_nil, List.length_map]; omega)) [DR, c, hn, hd, y1, d16, Dat.d, atI_cast]
theorem wide2_turn {ns : List Str} {an i : Nat} {ps : List Prc} {g : AH} (B : Bx h b dg ds p) (nl : ns.length = 15) (hn : j[an]? = some (.lst (ns.map D.str))) (hi : i < 7) (fl : ps.length < 16777216) (hq : 0 ≤ q) (hp : q < 300000) : ∃ P : Prc, ∃ q' g', (0 < P.places.length ∧ P.places.length ≤ 8 ∧ P.mv.low 0 = true) ∧ q < q' ∧ q' ≤ q + 40 ∧ ∃ y5,
    l_law_wide_2 [some (.ref b), some (.ref (h.length + an)), x2, some (.int (i : Int)), some (.ref (h.length + j.length)), x5, x6, x7] (bset h b dg q ++ (j ++ .lst (ps.map Prc.d) :: g))
      = some (.nx [some (.ref b), some (.ref (h.length + an)), x2, some (.int (i : Int)), some (.ref (h.length + j.length)), y5, x6, x7] (bset h b dg q' ++ (j ++ .lst ((ps ++ [P]).map Prc.d) :: g'))) := by
  have DR := fun (q : Int) (j : AH) (m : Int) (a1 : 0 ≤ q) (a2 : q < 1000000) (a3 : 0 < m) => draw_loc (j := j) B a1 a2 a3
  have al := (List.getElem?_eq_some_iff.mp hn).1
  have k0 := dr_lo (ds := ds) (p := q) (m := 8) (by omega)
  have k1 := dr_hi (ds := ds) (p := q) (m := 8) (by omega)
  obtain ⟨n, hn2⟩ := Int.eq_ofNat_of_zero_le k0
  obtain ⟨ts, tl, e⟩ := names_loc (j := j ++ .lst (ps.map Prc.d) :: g) (u := h.length + an) (m := 1 + n) (us := ns) (q := q + 1) B (by omega) (by omega) (by omega) (by omega) (fun q j' => by rw [getA, List.append_assoc, List.getElem?_append_left al]; exact hn)
  have y0 : (0 : Int) ≤ 8 + i := by omega
  have y1 : (8 + (i : Int)).toNat = 8 + i := by omega
  have y2 : 8 + i < ns.length := by omega
  refine ⟨⟨ns[8 + i], ts, .tup []⟩, q + 1 + 2 * (1 + n), g ++ [.lst (ts.map D.str)], ⟨by simp [tl]; omega, by simp [tl]; omega, by simp⟩, by omega, by omega, some (.ref (h.length + (j.length + (g.length + 1)))), ?_⟩
  unfold l_law_wide_2
  rw [Int.natCast_add] at e
  simp (disch := first | assumption | omega | (simp only [List.length_cons, List.length_nil, List.length_map]; omega)) [] at e
  have al2 : (j ++ .lst (ps.map Prc.d) :: g)[an]? = some (.lst (ns.map D.str)) := by rw [List.getElem?_append_left al]; exact hn
  have al3 : ∀ o : O, (j ++ .lst (ps.map Prc.d) :: (g ++ [o]))[an]? = some (.lst (ns.map D.str)) := fun o => by rw [List.getElem?_append_left al]; exact hn
  simp (disch := first | assumption | omega | (simp only [List.length_cons, List.length_nil, List.length_map]; omega)) [DR, hn2, e, al2, al3, y1, y2, fl]
  rfl
structure Sys.Fi (S : Sys) : Prop where
  ok : S.Ok
  pl : ∀ p ∈ S.prcs, 0 < p.places.length
  mv : ∀ p ∈ S.prcs, p.mv.low 0 = true
theorem wide_loc (B : Bx h b dg ds p) (hq : 0 ≤ q) (hp : q < 80000) :
    ∃ S : Sys, ∃ q', S.Fi ∧ q ≤ q' ∧ q' ≤ q + 1000 ∧ F_law_wide [.ref b] (bset h b dg q ++ j) = some (S.d, bset h b dg q' ++ j) := by
  have DR := fun (q : Int) (j : AH) (m : Int) (a1 : 0 ≤ q) (a2 : q < 1000000) (a3 : 0 < m) => draw_loc (j := j) B a1 a2 a3
  obtain ⟨ns, nl, en⟩ := names_loc (j := j ++ [.lst []]) (u := h.length + j.length) (m := 15) (us := []) (q := q) B (by omega) (by omega) (by omega) (by simp) (by simp)
  have k0 := dr_lo (ds := ds) (p := q + 30) (m := 8) (by omega)
  have k1 := dr_hi (ds := ds) (p := q + 30) (m := 8) (by omega)
  obtain ⟨n, hn⟩ := Int.eq_ofNat_of_zero_le k0
  have n4 : (n : Int) < 4611686018427387904 := by omega
  obtain ⟨τ', h', e, P⟩ := forRg0 (g := gN 3) (body := l_law_wide_1) (n := n)
    (fun i τ hh => ∃ (dl : List Dat) (q' : Int) (y3 y6 y7 : Option D), dl.length = i ∧ (∀ d ∈ dl, d.Ok) ∧ q + 31 ≤ q' ∧ q' ≤ q + 31 + 4 * i ∧ τ = [some (.ref b), some (.ref (h.length + (j.length + 1))), some (.ref (h.length + (j.length + 2))), y3, none, none, y6, y7] ∧ hh = bset h b dg q' ++ (j ++ [.lst [], .lst (ns.map D.str), .lst (dl.map Dat.d)]))
    (fun i hi τ hh ⟨dl, q', y3, y6, y7, h1, h2, h3, h4, h5, h6⟩ => by
      subst h5 h6
      obtain ⟨d, q1, z6, z7, o1, a1, b1, e1⟩ := wide1_turn (ns := ns) (dl := dl) (an := j.length + 1) (ad := j.length + 2) (i := i) (j := j ++ [.lst [], .lst (ns.map D.str), .lst (dl.map Dat.d)]) (q := q') (x4 := none) (x5 := none) (x6 := y6) (x7 := y7) B nl (by simp) (by simp) (by omega) (by omega) (by omega) (by omega)
      refine ⟨_, _, _, _, rfl, .inl e1, dl ++ [d], q1, some (.int i), z6, z7, by simp [h1], fun d hd => ?_, by omega, by omega, rfl, by simp⟩
      rcases List.mem_append.mp hd with z | z
      · exact h2 d z
      · rw [List.mem_singleton] at z
        subst z
        exact o1)
    [some (.ref b), some (.ref (h.length + (j.length + 1))), some (.ref (h.length + (j.length + 2))), none, none, none, none, none] (bset h b dg (q + 30 + 1) ++ (j ++ [.lst [], .lst (ns.map D.str), .lst []])) ⟨[], q + 30 + 1, none, none, none, rfl, fun _ h => by (cases h), by omega, by omega, rfl, by simp⟩
  obtain ⟨dl, q2, y3, y6, y7, h1, h2, h3, h4, h5, h6⟩ := P
  subst h5 h6
  have m0 := dr_lo (ds := ds) (p := q2) (m := 7) (by omega)
  have m1 := dr_hi (ds := ds) (p := q2) (m := 7) (by omega)
  obtain ⟨m, hm⟩ := Int.eq_ofNat_of_zero_le m0
  have m4 : (1 + m : Int) < 4611686018427387904 := by omega
  obtain ⟨τ2, h2', e2, P2⟩ := forRg0 (g := gN 3) (body := l_law_wide_2) (n := 1 + m)
    (fun i τ hh => ∃ (ps : List Prc) (q' : Int) (g : AH) (y3 y5 : Option D), ps.length = i ∧ (∀ p ∈ ps, 0 < p.places.length ∧ p.places.length ≤ 8 ∧ p.mv.low 0 = true) ∧ q2 + 1 ≤ q' ∧ q' ≤ q2 + 1 + 40 * i ∧ τ = [some (.ref b), some (.ref (h.length + (j.length + 1))), some (.ref (h.length + (j.length + 2))), y3, some (.ref (h.length + (j.length + 3))), y5, y6, y7] ∧ hh = bset h b dg q' ++ (j ++ (.lst [] :: .lst (ns.map D.str) :: .lst (dl.map Dat.d) :: .lst (ps.map Prc.d) :: g)))
    (fun i hi τ hh ⟨ps, q', g, y3, y5, h1, h2, h3, h4, h5, h6⟩ => by
      subst h5 h6
      obtain ⟨P, q1, g1, w1, a1, b1, z5, e1⟩ := wide2_turn (ns := ns) (an := j.length + 1) (i := i) (ps := ps) (g := g) (q := q') (j := j ++ [.lst [], .lst (ns.map D.str), .lst (dl.map Dat.d)]) (x2 := some (.ref (h.length + (j.length + 2)))) (x5 := y5) (x6 := y6) (x7 := y7) B nl (by simp) (by omega) (by omega) (by omega) (by omega)
      refine ⟨_, _, _, _, rfl, .inl (by simpa using e1), ps ++ [P], q1, g1, some (.int i), z5, by simp [h1], fun p' hp' => ?_, by omega, by omega, rfl, by simp⟩
      rcases List.mem_append.mp hp' with z | z
      · exact h2 _ z
      · rw [List.mem_singleton] at z
        subst z
        exact w1)
    [some (.ref b), some (.ref (h.length + (j.length + 1))), some (.ref (h.length + (j.length + 2))), y3, some (.ref (h.length + (j.length + 3))), none, y6, y7] (bset h b dg (q2 + 1) ++ (j ++ [.lst [], .lst (ns.map D.str), .lst (dl.map Dat.d), .lst []])) ⟨[], q2 + 1, [], y3, none, rfl, fun _ h => by (cases h), by omega, by omega, rfl, by simp⟩
  obtain ⟨ps, q3, g, z3, z5, i1, i2, i3, i4, i5, i6⟩ := P2
  subst i5 i6
  refine ⟨⟨"wide", dl, ps⟩, q3, ⟨⟨h2, by simp; omega, by simp; omega, fun p hp => Nat.le_trans (i2 p hp).2.1 (by decide)⟩, fun p hp => (i2 p hp).1, fun p hp => (i2 p hp).2.2⟩, by omega, by omega, ?_⟩
  unfold F_law_wide b_law_wide
  simp (disch := first | assumption | omega | (simp only [List.length_cons, List.length_nil, List.length_map]; omega)) [] at en
  simp (disch := first | assumption | omega | (simp only [List.length_cons, List.length_nil, List.length_map]; omega)) [runDef_if, DR, en, hn, n4, Nat.add_assoc]
  rw [e]
  have tn : (1 + (m : Int)).toNat = 1 + m := by omega
  simp (disch := first | assumption | omega | (simp only [List.length_cons, List.length_nil, List.length_map]; omega)) [DR, hm, m4, Nat.add_assoc, tn]
  rw [e2]
  simp (disch := first | assumption | omega | (simp only [List.length_cons, List.length_nil, List.length_map]; omega)) []
  have low := sys_low (S := ⟨"wide", dl, ps⟩) fun p hp => (i2 p hp).2.2
  unfold Sys.d at *
  rw [gc_loc B hq low]
end
end Sm
namespace Sm
open PySem PySem.Spec PyProof.Rows L2
theorem rngD_succ {lo : Int} {n : Nat} : rngD lo (n + 1) = rngD lo n ++ [.int (lo + n)] := by
  unfold rngD
  rw [List.range_succ, List.map_append]
  rfl
theorem lcells_turn {h : AH} {sys : D} {acc : List D} {d : Dat} {x3 x4 : Option D} (ok : d.Ok) (la : acc.length + d.cells.length ≤ 16777216) : ∃ y4,
    l_law_cells_2 [some sys, some (.ref h.length), some d.d, x3, x4] (h ++ [.lst acc]) = some (.nx [some sys, some (.ref h.length), some d.d, x3, y4] (h ++ [.lst (acc ++ d.cells)])) := by
  cases d with
  | num nm lo hi fi =>
    obtain ⟨a, b, c⟩ := ok
    have q := rgOk_ok a b c
    have la' : acc.length < 16777216 := by
      simp [Dat.cells] at la
      omega
    refine ⟨x4, ?_⟩
    unfold l_law_cells_2 Dat.d Dat.cells
    simp (disch := first | assumption | omega | (simp only [List.length_cons, List.length_nil, List.length_map]; omega)) [la']
  | que nm room lo hi =>
    obtain ⟨r0, r1, a, b, c⟩ := ok
    have q := rgOk_ok (show -1000 ≤ lo by omega) b c
    have z : (hi + 1 - lo).toNat + 1 ≤ 16777216 := by omega
    have z1 : 1 + (hi + 1 - lo).toNat ≤ 16777216 := by omega
    have lc : (Dat.cells (.que nm room lo hi)).length = room.toNat := by simp [Dat.cells, rngD_len]
    rw [lc] at la
    unfold l_law_cells_2 Dat.d
    simp (disch := first | assumption | omega | (simp only [List.length_cons, List.length_nil, List.length_map]; omega)) []
    obtain ⟨τ', h', e, P⟩ := forRg0 (g := gN 4) (body := l_law_cells_1) (n := room.toNat)
      (fun i τ hh => ∃ y4, τ = [some sys, some (.ref h.length), some (.tup [.str "queue", .str nm, .int room, .int lo, .int hi]), x3, y4] ∧ hh = h ++ [.lst (acc ++ (rngD 1 i).map fun i => .tup [.str nm, i, .tup (.non :: rngD lo (hi + 1 - lo).toNat)])])
      (fun i hi τ hh ⟨y4, h1, h2⟩ => by
        subst h1 h2
        have la' : acc.length + i < 16777216 := by omega
        have cm : (i : Int) + 1 = 1 + i := Int.add_comm _ _
        refine ⟨_, _, _, _, rfl, .inl ?_, some (.int i), rfl, rfl⟩
        unfold l_law_cells_1
        simp (disch := first | assumption | omega | (simp only [List.length_cons, List.length_nil, List.length_map]; omega)) [z, z1, rngD_len, la', rngD_succ, cm])
      _ (h ++ [.lst acc]) ⟨x4, rfl, by simp [rngD]⟩
    obtain ⟨y4, h1, h2⟩ := P
    subst h1 h2
    exact ⟨y4, e⟩
theorem law_cells_ok {h : AH} {S : Sys} (ok : S.Ok) : F_law_cells [S.d] h = some (.tup S.cells, h) := by
  have z1 : S.prcs.length ≤ 16777216 := le_big (Nat.le_trans ok.np (by decide))
  have z2 := cells_len ok
  unfold F_law_cells b_law_cells
  simp (disch := first | assumption | omega | (simp only [List.length_cons, List.length_nil, List.length_map]; omega)) [runDef_if, Sys.d]
  rw [compL_mapT (fun p : Prc => .tup [.str p.nm, .int 0, .tup (p.places.map D.str)]) rfl _ (fun p hp => by
      refine ⟨_, rfl, ?_⟩
      unfold Prc.d
      simp (disch := first | assumption | omega | (simp only [List.length_cons, List.length_nil, List.length_map]; omega)) [])]
  simp (disch := first | assumption | omega | (simp only [List.length_cons, List.length_nil, List.length_map]; omega)) [z1]
  obtain ⟨τ', h', e, P⟩ := forIx (grd := []) (g := gN 2) (body := l_law_cells_2) (xs := S.dats.map Dat.d)
    (fun i τ hh => ∃ y2 y4, τ = [some S.d, some (.ref h.length), y2, none, y4] ∧ hh = h ++ [.lst (S.prcs.map (fun p : Prc => .tup [.str p.nm, .int 0, .tup (p.places.map D.str)]) ++ (S.dats.take i).flatMap Dat.cells)])
    (fun _ _ _ _ => rfl)
    (fun i hi τ hh ⟨y2, y4, h1, h2⟩ => by
      subst h1 h2
      rw [List.length_map] at hi
      have tk : S.dats.take (i + 1) = S.dats.take i ++ [S.dats[i]] := by rw [List.take_add_one, List.getElem?_eq_getElem hi]; rfl
      have la : (S.prcs.map (fun p : Prc => D.tup [.str p.nm, .int 0, .tup (p.places.map D.str)]) ++ (S.dats.take i).flatMap Dat.cells).length + (S.dats[i]).cells.length ≤ 16777216 := by
        have : (S.prcs.map (fun p : Prc => D.tup [.str p.nm, .int 0, .tup (p.places.map D.str)]) ++ (S.dats.take (i + 1)).flatMap Dat.cells).length ≤ S.cells.length := by
          unfold Sys.cells
          conv => rhs; rw [← List.take_append_drop (i + 1) S.dats]
          rw [List.flatMap_append]
          simp
        rw [tk] at this
        rw [List.flatMap_append, List.length_append, List.length_append] at this
        rw [List.length_append]
        simp only [List.flatMap_cons, List.flatMap_nil, List.append_nil] at this
        omega
      obtain ⟨z4, e1⟩ := lcells_turn (h := h) (sys := S.d) (x3 := none) (x4 := y4) (ok.dat _ (List.getElem_mem hi)) la
      refine ⟨_, _, _, _, by rw [List.getElem_map]; rfl, .inl e1, some (S.dats[i]).d, z4, rfl, ?_⟩
      rw [tk, List.flatMap_append, List.flatMap_cons, List.flatMap_nil, List.append_nil, List.append_assoc])
    [some S.d, some (.ref h.length), none, none, none] (h ++ [.lst (S.prcs.map (fun p : Prc => .tup [.str p.nm, .int 0, .tup (p.places.map D.str)]))]) ⟨none, none, rfl, by simp⟩
  unfold Sys.d at e
  rw [e]
  obtain ⟨y2, y4, h1, h2⟩ := P
  subst h1 h2
  rw [List.length_map, List.take_length]
  rw [← Sys.cells]
  simp (disch := first | assumption | omega | (simp only [List.length_cons, List.length_nil, List.length_map]; omega)) []
  rw [gc_pure (by simp; exact sys_cells_low S)]
end Sm
namespace Sm
open PySem PySem.Spec PyProof.Rows L2
/-! ## rows and states -/
def D.isIN : D → Bool
  | .non => true
  | .int _ => true
  | _ => false
theorem nbs_in : ∀ {xs : List D}, xs.all D.isIN = true → D.nbs xs = true ∧ D.deps xs = 0
  | [], _ => ⟨rfl, rfl⟩
  | x :: r, h => by
    rw [List.all_cons, Bool.and_eq_true] at h
    obtain ⟨h1, h2⟩ := nbs_in h.2
    have := h.1
    cases x <;> first | (cases this; done) | (unfold D.nbs D.deps; rw [h1, h2]; exact ⟨rfl, rfl⟩)
theorem okEq_in {xs ys : List D} (hx : xs.all D.isIN = true) (hy : ys.all D.isIN = true) : okEq (.fl xs) (.fl ys) = true := by
  obtain ⟨h1, h2⟩ := nbs_in hx
  obtain ⟨h3, h4⟩ := nbs_in hy
  unfold okEq
  rw [D.nb, D.nb, D.dep, D.dep, h1, h2, h3, h4]
  rfl
def neK (o : Option O) (xs : List D) (a : Nat) (h : AH) : Option (LV × AH) := match o with
  | some (.lst ys) => if okEq (.fl xs) (.fl ys) = true then some (.val (.bl (!decide (xs = ys))), h) else none
  | _ => oNe (.new xs) (.val (.ref a)) h
@[simp] theorem oNe_nr {xs : List D} {a : Nat} {h : AH} : oNe (.new xs) (.val (.ref a)) h = neK h[a]? xs a h := by
  unfold neK
  split
  · rename_i ys e
    have d1 : dat (.val (.ref a)) h = .fl ys := by
      unfold dat
      dsimp only
      rw [e]
    show (if okEq (.fl xs) (dat (.val (.ref a)) h) = true then some (LV.val (.bl (!decide (D.fl xs = dat (.val (.ref a)) h))), h) else none) = _
    rw [d1]
    have : decide (D.fl xs = .fl ys) = decide (xs = ys) := by rw [Bool.eq_iff_iff]; simp
    rw [this]
  · rfl
theorem neK_some {xs ys : List D} {a : Nat} {h : AH} (hx : xs.all D.isIN = true) (hy : ys.all D.isIN = true) : neK (some (.lst ys)) xs a h = some (.val (.bl (!decide (xs = ys))), h) := if_pos (okEq_in hx hy)
theorem cut_nat {α : Type} {xs : List α} {a b : Nat} : cutA xs (some (a : Int)) (some (b : Int)) = (xs.take b).drop a := by
  unfold cutA
  rw [HT.sIx_nat, HT.sIx_nat, List.drop_take]
  apply List.ext_getElem?
  intro i
  rw [List.getElem?_take, List.getElem?_take, List.getElem?_drop, List.getElem?_drop]
  by_cases h : i < b - a
  · rw [if_pos h]
    by_cases h2 : a + i < xs.length
    · rw [if_pos (by omega)]
      congr 1
      omega
    · rw [List.getElem?_eq_none (by omega : xs.length ≤ a + i)]
      split
      · exact List.getElem?_eq_none (by omega)
      · rfl
  · rw [if_neg h, if_neg (by omega)]
theorem cut_none {α : Type} {xs : List α} {b : Nat} : cutA xs none (some (b : Int)) = xs.take b := by
  unfold cutA
  rw [HT.sIx_nat, HT.sIx_none, List.drop_zero, Nat.sub_zero]
  apply List.ext_getElem?
  intro i
  rw [List.getElem?_take, List.getElem?_take]
  by_cases h : i < b
  · rw [if_pos h]
    by_cases h2 : i < xs.length
    · rw [if_pos (by omega)]
    · rw [List.getElem?_eq_none (by omega : xs.length ≤ i)]
      split <;> rfl
  · rw [if_neg h, if_neg (by omega)]
theorem cut_mid {α : Type} {pre seg post : List α} {a b : Nat} (ha : a = pre.length) (hb : b = pre.length + seg.length) : cutA (pre ++ (seg ++ post)) (some (a : Int)) (some (b : Int)) = seg := by
  rw [cut_nat, ha, hb, ← List.append_assoc, List.take_left' (by simp), List.drop_left]
def Dat.wd : Dat → Nat
  | .num .. => 1
  | .que _ room _ _ => room.toNat
def Dat.sz : Dat → Nat
  | .num _ lo hi _ => (hi + 1 - lo).toNat
  | .que _ _ lo hi => (hi + 1 - lo).toNat + 1
def SegOk (d : Dat) (s : List Nat) : Prop := s.length = d.wd ∧ ∀ x ∈ s, x < d.sz
def nz (s : List Nat) : List Nat := s.filter fun x => decide (0 < x)
def gd (s : List Nat) : Bool := decide (s.take (nz s).length = nz s)
def valOf : Dat → List Nat → Option D
  | .num _ lo _ _, s => some (.int (lo + (s.headD 0 : Nat)))
  | .que _ _ lo _, s => if gd s = true then some (.tup ((nz s).map fun l => .int (lo + (l : Nat) - 1))) else none
def valsOf : List Dat → List (List Nat) → Option (List D)
  | d :: r, s :: t => (valOf d s).bind fun v => (valsOf r t).bind fun vs => some (v :: vs)
  | [], _ => some []
  | _ :: _, [] => none
def SegsOk : List Dat → List (List Nat) → Prop
  | [], [] => True
  | d :: r, s :: t => SegOk d s ∧ SegsOk r t
  | _, _ => False
abbrev nD (x : Nat) : D := .int (x : Int)
end Sm
namespace Sm
open PySem PySem.Spec PyProof.Rows L2
theorem nD_inj {x y : Nat} (h : nD x = nD y) : x = y := by
  unfold nD at h
  injection h with h
  omega
theorem map_inj {α β : Type} {f : α → β} (hf : ∀ x y, f x = f y → x = y) : ∀ {xs ys : List α}, xs.map f = ys.map f → xs = ys
  | [], [], _ => rfl
  | [], _ :: _, h => by cases h
  | _ :: _, [], h => by cases h
  | x :: r, y :: t, h => by
    rw [List.map_cons, List.map_cons] at h
    injection h with h1 h2
    rw [hf _ _ h1, map_inj hf h2]
theorem gd_dec (s : List Nat) : decide ((s.map nD).take (nz s).length = (nz s).map nD) = gd s := by
  unfold gd
  rw [← List.map_take, Bool.eq_iff_iff, decide_eq_true_iff, decide_eq_true_iff]
  exact ⟨fun h => map_inj (fun _ _ => nD_inj) h, fun h => by rw [h]⟩
theorem all_nD (s : List Nat) : (s.map nD).all D.isIN = true := by
  induction s with
  | nil => rfl
  | cons x r ih => rw [List.map_cons, List.all_cons, ih]; rfl
theorem all_take {xs : List D} (n : Nat) (h : xs.all D.isIN = true) : (xs.take n).all D.isIN = true :=
  List.all_eq_true.mpr fun x hx => List.all_eq_true.mp h x (List.mem_of_mem_take hx)
theorem nz_len (s : List Nat) : (nz s).length ≤ s.length := List.length_filter_le _ _
theorem valOf_t {nm : Str} {room lo hi : Int} {s : List Nat} (hg : gd s = true) : valOf (.que nm room lo hi) s = some (.tup ((nz s).map fun l => .int (lo + (l : Nat) - 1))) := if_pos hg
theorem valOf_f {nm : Str} {room lo hi : Int} {s : List Nat} (hg : ¬ gd s = true) : valOf (.que nm room lo hi) s = none := if_neg hg
theorem unrow_turn {h : AH} {sys pls : D} {d : Dat} {s : List Nat} {row : List Nat} {pre post : List Nat} {vals : List D} {g : AH} {y6 y7 : Option D} (ok : d.Ok) (so : SegOk d s) (hr : row = pre ++ (s ++ post)) (vl : vals.length < 16777216) :
    match valOf d s with
    | some v => ∃ z5 z6 z7 g', l_law_unrow_1 [some sys, some (.tup (row.map nD)), some pls, some (.ref h.length), some (nD pre.length), some d.d, y6, y7, none, none] (h ++ .lst vals :: g)
        = some (.nx [some sys, some (.tup (row.map nD)), some pls, some (.ref h.length), some (nD (pre ++ s).length), z5, z6, z7, none, none] (h ++ .lst (vals ++ [v]) :: g'))
    | none => ∃ g', l_law_unrow_1 [some sys, some (.tup (row.map nD)), some pls, some (.ref h.length), some (nD pre.length), some d.d, y6, y7, none, none] (h ++ .lst vals :: g) = some (.rt .non (h ++ g')) := by
  cases d with
  | num nm lo hi fi =>
    obtain ⟨s1, s2⟩ := so
    match s, s1 with
    | [x], _ =>
      have hx : row[pre.length]? = some x := by rw [hr]; simp
      refine ⟨some (Dat.d (.num nm lo hi fi)), y6, y7, g, ?_⟩
      unfold l_law_unrow_1 Dat.d
      simp (disch := first | assumption | omega | (simp only [List.length_cons, List.length_nil, List.length_map]; omega)) [hx, atI_cast, vl]
  | que nm room lo hi =>
    obtain ⟨s1, s2⟩ := so
    obtain ⟨r0, r1, a, b, c⟩ := ok
    have s1 : s.length = room.toNat := s1
    have sl : s.length ≤ 16777216 := by omega
    have nl := nz_len s
    have nl2 : (nz s).length ≤ 16777216 := by omega
    have hcut : cutA (row.map nD) (some (pre.length : Int)) (some ((pre.length : Int) + room)) = s.map nD := by
      rw [hr, List.map_append, List.map_append, show (pre.length : Int) + room = ((pre.length + s.length : Nat) : Int) by omega]
      exact cut_mid (by simp) (by simp)
    have ne := fun (a : Nat) (h : AH) => neK_some (a := a) (h := h) (all_take (nz s).length (all_nD s)) (all_nD (nz s))
    rw [gd_dec] at ne
    by_cases hg : gd s = true
    · rw [valOf_t hg]
      dsimp only
      refine ⟨some (Dat.d (.que nm room lo hi)), some (.ref (h.length + (g.length + 1))), some (.ref (h.length + (g.length + 2))), g ++ [.lst (s.map nD), .lst ((nz s).map nD)], ?_⟩
      unfold l_law_unrow_1 Dat.d
      simp (disch := first | assumption | omega | (simp only [List.length_cons, List.length_nil, List.length_map]; omega)) [hcut, sl]
      rw [compL_filterT (t := nD) (fun x => decide (0 < x)) nD (by simp (disch := first | assumption | omega | (simp only [List.length_cons, List.length_nil, List.length_map]; omega)) []) _ (fun x hx => ⟨_, rfl, by simp (disch := first | assumption | omega | (simp only [List.length_cons, List.length_nil, List.length_map]; omega)) [], fun _ => by simp (disch := first | assumption | omega | (simp only [List.length_cons, List.length_nil, List.length_map]; omega)) []⟩)]
      rw [← nz]
      simp (disch := first | assumption | omega | (simp only [List.length_cons, List.length_nil, List.length_map]; omega)) [nl2, sl, cut_none, ne, hg]
      rw [compL_mapT (t := nD) (fun l : Nat => .int (lo + (l : Nat) - 1)) (by simp (disch := first | assumption | omega | (simp only [List.length_cons, List.length_nil, List.length_map]; omega)) []) _ (fun x hx => ⟨_, rfl, by simp (disch := first | assumption | omega | (simp only [List.length_cons, List.length_nil, List.length_map]; omega)) []⟩)]
      simp (disch := first | assumption | omega | (simp only [List.length_cons, List.length_nil, List.length_map]; omega)) [nl2, vl]
      omega
    · rw [valOf_f hg]
      dsimp only
      refine ⟨.lst vals :: (g ++ [.lst (s.map nD), .lst ((nz s).map nD)]), ?_⟩
      unfold l_law_unrow_1 Dat.d
      simp (disch := first | assumption | omega | (simp only [List.length_cons, List.length_nil, List.length_map]; omega)) [hcut, sl]
      rw [compL_filterT (t := nD) (fun x => decide (0 < x)) nD (by simp (disch := first | assumption | omega | (simp only [List.length_cons, List.length_nil, List.length_map]; omega)) []) _ (fun x hx => ⟨_, rfl, by simp (disch := first | assumption | omega | (simp only [List.length_cons, List.length_nil, List.length_map]; omega)) [], fun _ => by simp (disch := first | assumption | omega | (simp only [List.length_cons, List.length_nil, List.length_map]; omega)) []⟩)]
      rw [← nz]
      simp (disch := first | assumption | omega | (simp only [List.length_cons, List.length_nil, List.length_map]; omega)) [nl2, sl, cut_none, ne, hg]
end Sm
namespace Sm
open PySem PySem.Spec PyProof.Rows L2
theorem forL_cons {grd : List (Nat × List D)} {g : SG} {body : SS} {x : D} {xs : List D} {τ τ1 τ2 : AT} {h h1 h2 : AH} (c : grdOk grd h = true) (e1 : g x τ h = some (τ1, h1)) (e2 : body τ1 h1 = some (.nx τ2 h2)) : forL grd g body (x :: xs) τ h = forL grd g body xs τ2 h2 := by
  conv => lhs; unfold forL
  rw [if_pos c, e1]
  show (body τ1 h1).bind _ = _
  rw [e2]
  rfl
theorem forL_rt {grd : List (Nat × List D)} {g : SG} {body : SS} {x d : D} {xs : List D} {τ τ1 : AT} {h h1 h2 : AH} (c : grdOk grd h = true) (e1 : g x τ h = some (τ1, h1)) (e2 : body τ1 h1 = some (.rt d h2)) : forL grd g body (x :: xs) τ h = some (.rt d h2) := by
  unfold forL
  rw [if_pos c, e1]
  show (body τ1 h1).bind _ = _
  rw [e2]
  rfl
theorem forL_nil {grd : List (Nat × List D)} {g : SG} {body : SS} {τ : AT} {h : AH} (c : grdOk grd h = true) : forL grd g body [] τ h = some (.nx τ h) := by
  unfold forL
  rw [if_pos c]
theorem unrow_loop {h : AH} {sys pls : D} {row : List Nat} : ∀ (dl : List Dat) (segs : List (List Nat)) (pre : List Nat) (vals : List D) (g : AH) (y5 y6 y7 : Option D), (∀ d ∈ dl, d.Ok) → SegsOk dl segs → row = pre ++ segs.flatten → vals.length + dl.length ≤ 16777216 →
    match valsOf dl segs with
    | some vs => ∃ y4 y5' y6' y7' g', forL [] (gN 5) l_law_unrow_1 (dl.map Dat.d) [some sys, some (.tup (row.map nD)), some pls, some (.ref h.length), some (nD pre.length), y5, y6, y7, none, none] (h ++ .lst vals :: g)
        = some (.nx [some sys, some (.tup (row.map nD)), some pls, some (.ref h.length), y4, y5', y6', y7', none, none] (h ++ .lst (vals ++ vs) :: g'))
    | none => ∃ g', forL [] (gN 5) l_law_unrow_1 (dl.map Dat.d) [some sys, some (.tup (row.map nD)), some pls, some (.ref h.length), some (nD pre.length), y5, y6, y7, none, none] (h ++ .lst vals :: g) = some (.rt .non (h ++ g'))
  | [], segs, pre, vals, g, y5, y6, y7, _, _, _, _ => by
    show ∃ y4 y5' y6' y7' g', _ = _
    refine ⟨some (nD pre.length), y5, y6, y7, g, ?_⟩
    rw [List.map_nil, List.append_nil]
    exact forL_nil rfl
  | d :: dl, [], _, _, _, _, _, _, _, so, _, _ => by cases so
  | d :: dl, s :: t, pre, vals, g, y5, y6, y7, ok, so, hr, vl => by
    rw [List.length_cons] at vl
    have T := unrow_turn (h := h) (sys := sys) (pls := pls) (d := d) (s := s) (row := row) (pre := pre) (post := t.flatten) (vals := vals) (g := g) (y6 := y6) (y7 := y7) (ok d List.mem_cons_self) so.1 (by rw [hr, List.flatten_cons]) (by omega)
    unfold valsOf
    cases hv : valOf d s with
    | none =>
      rw [hv] at T
      obtain ⟨g', e⟩ := T
      exact ⟨g', forL_rt rfl rfl e⟩
    | some v =>
      rw [hv] at T
      obtain ⟨z5, z6, z7, g', e⟩ := T
      have R := unrow_loop (h := h) (sys := sys) (pls := pls) (row := row) dl t (pre ++ s) (vals ++ [v]) g' z5 z6 z7 (fun x hx => ok x (List.mem_cons_of_mem _ hx)) so.2 (by rw [hr, List.flatten_cons, List.append_assoc]) (by simp; omega)
      have E : forL [] (gN 5) l_law_unrow_1 ((d :: dl).map Dat.d) [some sys, some (.tup (row.map nD)), some pls, some (.ref h.length), some (nD pre.length), y5, y6, y7, none, none] (h ++ .lst vals :: g)
          = forL [] (gN 5) l_law_unrow_1 (dl.map Dat.d) [some sys, some (.tup (row.map nD)), some pls, some (.ref h.length), some (nD (pre ++ s).length), z5, z6, z7, none, none] (h ++ .lst (vals ++ [v]) :: g') := by
        rw [List.map_cons]
        exact forL_cons rfl rfl e
      show match (valsOf dl t).bind fun vs => some (v :: vs) with | some vs => _ | none => _
      cases hw : valsOf dl t with
      | none =>
        rw [hw] at R
        obtain ⟨g2, e2⟩ := R
        exact ⟨g2, E.trans e2⟩
      | some vs =>
        rw [hw] at R
        obtain ⟨y4, z5, z6, z7, g2, e2⟩ := R
        refine ⟨y4, z5, z6, z7, g2, E.trans ?_⟩
        rw [e2]
        simp
theorem range_getD {α β : Type} {l : List α} {d : α} {f : α → β} {n : Nat} (hn : n = l.length) : (List.range n).map (fun i => f (l.getD i d)) = l.map f := by
  subst hn
  apply List.ext_getElem (by simp)
  intro i h1 h2
  rw [List.length_map, List.length_range] at h1
  rw [List.getElem_map, List.getElem_map, List.getElem_range, List.getD_eq_getElem?_getD, List.getElem?_eq_getElem h1, Option.getD_some]
/-- the place names of a row -/
def plsOf : List Prc → List Nat → List Str
  | p :: r, k :: t => p.places.getD k ⟨#[]⟩ :: plsOf r t
  | _, _ => []
def PlsOk : List Prc → List Nat → Prop
  | [], [] => True
  | p :: r, k :: t => k < p.places.length ∧ PlsOk r t
  | _, _ => False
theorem plsOk_len : ∀ {ps : List Prc} {pr : List Nat}, PlsOk ps pr → pr.length = ps.length
  | [], [], _ => rfl
  | _ :: _, _ :: _, h => by rw [List.length_cons, List.length_cons, plsOk_len h.2]
theorem plsOk_get : ∀ {ps : List Prc} {pr : List Nat} (i : Nat) (h1 : i < ps.length) (h2 : i < pr.length), PlsOk ps pr → pr[i] < ps[i].places.length
  | _ :: _, _ :: _, 0, _, _, h => h.1
  | _ :: _, _ :: _, i + 1, h1, h2, h => plsOk_get i (Nat.lt_of_succ_lt_succ h1) (Nat.lt_of_succ_lt_succ h2) h.2
theorem plsOf_len : ∀ {ps : List Prc} {pr : List Nat}, PlsOk ps pr → (plsOf ps pr).length = ps.length
  | [], [], _ => rfl
  | _ :: _, _ :: _, h => by rw [plsOf, List.length_cons, List.length_cons, plsOf_len h.2]
theorem plsOf_get : ∀ {ps : List Prc} {pr : List Nat} (i : Nat) (h1 : i < ps.length) (h2 : i < pr.length) (h3 : i < (plsOf ps pr).length), PlsOk ps pr → (plsOf ps pr)[i] = ps[i].places.getD pr[i] ⟨#[]⟩
  | _ :: _, _ :: _, 0, _, _, _, h => rfl
  | _ :: _, _ :: _, i + 1, h1, h2, h3, h => plsOf_get i (Nat.lt_of_succ_lt_succ h1) (Nat.lt_of_succ_lt_succ h2) (Nat.lt_of_succ_lt_succ h3) h.2
/-- what a row tells -/
def UN (S : Sys) (pr : List Nat) (segs : List (List Nat)) : D := match valsOf S.dats segs with
  | some vs => .tup [.tup ((plsOf S.prcs pr).map D.str), .tup vs]
  | none => .non
theorem valOf_low {d : Dat} {s : List Nat} {v : D} (h : valOf d s = some v) : v.low 0 = true := by
  cases d with
  | num nm lo hi fi => cases h; rfl
  | que nm room lo hi =>
    by_cases hg : gd s = true
    · rw [valOf_t hg] at h
      cases h
      rw [low_tup]
      exact lows_map (fun _ => rfl) _
    · rw [valOf_f hg] at h
      cases h
theorem valsOf_low : ∀ {dl : List Dat} {segs : List (List Nat)} {vs : List D}, valsOf dl segs = some vs → D.lows 0 vs = true ∧ vs.length = dl.length
  | [], _, vs, h => by cases h; exact ⟨rfl, rfl⟩
  | d :: r, [], vs, h => by cases h
  | d :: r, s :: t, vs, h => by
    unfold valsOf at h
    cases h1 : valOf d s with
    | none => rw [h1] at h; cases h
    | some v =>
      cases h2 : valsOf r t with
      | none => rw [h1, h2] at h; cases h
      | some ws =>
        rw [h1, h2] at h
        cases h
        have := valsOf_low h2
        exact ⟨by rw [lows_cons, valOf_low h1, this.1]; rfl, by rw [List.length_cons, List.length_cons, this.2]⟩
theorem UN_low {S : Sys} {pr : List Nat} {segs : List (List Nat)} : (UN S pr segs).low 0 = true := by
  unfold UN
  cases h : valsOf S.dats segs with
  | none => rfl
  | some vs =>
    simp [(valsOf_low h).1]
    exact lows_map (fun _ => rfl) _
theorem unrow_ok {h : AH} {S : Sys} {pr : List Nat} {segs : List (List Nat)} {row : List Nat} (ok : S.Ok) (hp : PlsOk S.prcs pr) (hs : SegsOk S.dats segs) (hr : row = pr ++ segs.flatten) : F_law_unrow [S.d, .tup (row.map nD)] h = some (UN S pr segs, h) := by
  have pl := plsOk_len hp
  have pl2 := plsOf_len hp
  have z1 : S.prcs.length ≤ 16777216 := le_big (Nat.le_trans ok.np (by decide))
  have z2 : (S.prcs.length : Int) < 4611686018427387904 := by omega
  unfold F_law_unrow b_law_unrow
  simp (disch := first | assumption | omega | (simp only [List.length_cons, List.length_nil, List.length_map]; omega)) [runDef_if, Sys.d, z2]
  have cm : compL [] (gN 8) mYes (mBin oIx (mBin oIx (mBin oIx (mBin oIx (mVar 0) (mC (.int 3))) (mVar 8)) (mC (.int 2))) (mBin oIx (mVar 1) (mVar 8)))
      [some (D.tup [.str "system", .str S.nm, .tup (S.dats.map Dat.d), .tup (S.prcs.map Prc.d)]), some (.tup (row.map nD)), none, none, none, none, none, none, none, none] (rngD 0 S.prcs.length) h = some ((plsOf S.prcs pr).map D.str, h) := by
    have : rngD 0 S.prcs.length = (List.range S.prcs.length).map nD := by
      unfold rngD
      exact List.map_congr_left fun i _ => by rw [Int.zero_add]
    rw [this, compL_mapT (t := nD) (fun i : Nat => D.str ((plsOf S.prcs pr).getD i ⟨#[]⟩)) rfl _ (fun i hi => ⟨_, rfl, by
      have hi := List.mem_range.mp hi
      have h1 : row[i]? = some (pr[i]'(by omega)) := by rw [hr, List.getElem?_append_left (by omega), List.getElem?_eq_getElem (by omega)]
      have h2 := plsOk_get i hi (by omega) hp
      have h3 := plsOf_get i hi (by omega) (by omega) hp
      have h4 : (plsOf S.prcs pr).getD i ⟨#[]⟩ = (S.prcs[i].places)[pr[i]'(by omega)] := by
        rw [List.getD_eq_getElem?_getD, List.getElem?_eq_getElem (by omega), Option.getD_some, h3, List.getD_eq_getElem?_getD, List.getElem?_eq_getElem h2, Option.getD_some]
      rw [h4]
      simp (disch := first | assumption | omega | (simp only [List.length_cons, List.length_nil, List.length_map]; omega)) [atI_cast, h1, h2, Prc.d]⟩)]
    rw [range_getD pl2.symm]
  rw [cm]
  have z3 : (plsOf S.prcs pr).length ≤ 16777216 := by omega
  have U := unrow_loop (h := h) (sys := S.d) (pls := .tup ((plsOf S.prcs pr).map D.str)) (row := row) S.dats segs pr [] [] none none none ok.dat hs hr (by have := ok.nd; simp; omega)
  unfold UN
  cases hv : valsOf S.dats segs with
  | none =>
    rw [hv] at U
    obtain ⟨g', e⟩ := U
    unfold Sys.d nD at e
    rw [pl, ← pl2] at e
    simp (disch := first | assumption | omega | (simp only [List.length_cons, List.length_nil, List.length_map]; omega)) [e, z3]
    rw [gc_pure rfl]
  | some vs =>
    rw [hv] at U
    obtain ⟨y4, y5, y6, y7, g', e⟩ := U
    unfold Sys.d nD at e
    rw [pl, ← pl2] at e
    have low : (D.tup [.tup ((plsOf S.prcs pr).map D.str), .tup vs]).low h.length = true := by
      have := UN_low (S := S) (pr := pr) (segs := segs)
      unfold UN at this
      rw [hv] at this
      exact low0 this
    simp (disch := first | assumption | omega | (simp only [List.length_cons, List.length_nil, List.length_map]; omega)) [e, z3]
    rw [gc_pure low]
end Sm
namespace Sm
open PySem PySem.Spec PyProof.Rows L2
def cellAt (p : D × Nat) : D := match p.1 with
  | .tup [_, _, .tup vs] => vs.getD p.2 .non
  | _ => .non
def CO (p : D × Nat) : Prop := ∃ a b vs, p.1 = .tup [a, b, .tup vs] ∧ p.2 < vs.length
structure CT (xs : List D) (ys : List Nat) (zs : List D) : Prop where
  len : xs.length = ys.length
  co : ∀ p ∈ xs.zip ys, CO p
  eq : (xs.zip ys).map cellAt = zs
theorem CT.app {xs xs' : List D} {ys ys' : List Nat} {zs zs' : List D} (a : CT xs ys zs) (b : CT xs' ys' zs') : CT (xs ++ xs') (ys ++ ys') (zs ++ zs') := by
  have e : (xs ++ xs').zip (ys ++ ys') = xs.zip ys ++ xs'.zip ys' := List.zip_append a.len
  refine ⟨by simp [a.len, b.len], fun p hp => ?_, by rw [e, List.map_append, a.eq, b.eq]⟩
  rw [e] at hp
  rcases List.mem_append.mp hp with h | h
  · exact a.co p h
  · exact b.co p h
theorem CT.cons {x : D} {y : Nat} {xs : List D} {ys : List Nat} {zs vs : List D} {a b : D} (hx : x = .tup [a, b, .tup vs]) (hy : y < vs.length) (r : CT xs ys zs) : CT (x :: xs) (y :: ys) (vs.getD y .non :: zs) := by
  refine ⟨by simp [r.len], fun p hp => ?_, ?_⟩
  · rw [List.zip_cons_cons] at hp
    rcases List.mem_cons.mp hp with h | h
    · rw [h]; exact ⟨a, b, vs, hx, hy⟩
    · exact r.co p h
  · rw [List.zip_cons_cons, List.map_cons, r.eq, hx]
    rfl
theorem CT.nil : CT [] [] [] := ⟨rfl, fun _ h => (by cases h), rfl⟩
def ctsD : Dat → Nat → D
  | .num _ lo _ _, x => .int (lo + (x : Nat))
  | .que _ _ lo _, x => if x = 0 then .non else .int (lo + (x : Nat) - 1)
def ctsOf : List Dat → List (List Nat) → List D
  | d :: r, s :: t => s.map (ctsD d) ++ ctsOf r t
  | _, _ => []
theorem rng_getD {lo : Int} {n x : Nat} (h : x < n) : (rngD lo n).getD x .non = .int (lo + (x : Nat)) := by
  rw [List.getD_eq_getElem?_getD, List.getElem?_eq_getElem (by rw [rngD_len]; exact h), Option.getD_some]
  simp [rngD]
theorem ct_prcs : ∀ {ps : List Prc} {pr : List Nat}, PlsOk ps pr → CT (ps.map fun p => .tup [.str p.nm, .int 0, .tup (p.places.map D.str)]) pr ((plsOf ps pr).map D.str)
  | [], [], _ => CT.nil
  | p :: r, k :: t, h => by
    have := CT.cons (a := .str p.nm) (b := .int 0) (vs := p.places.map D.str) rfl (by simpa using h.1) (ct_prcs h.2)
    rw [List.map_cons, plsOf, List.map_cons]
    have e : (p.places.map D.str).getD k .non = .str (p.places.getD k ⟨#[]⟩) := by
      rw [List.getD_eq_getElem?_getD, List.getElem?_map, List.getElem?_eq_getElem h.1, List.getD_eq_getElem?_getD, List.getElem?_eq_getElem h.1]
      rfl
    rw [e] at this
    exact this
theorem ct_map {nm : D} {vs : List D} : ∀ {is : List D} {s : List Nat}, is.length = s.length → (∀ x ∈ s, x < vs.length) → CT (is.map fun i => .tup [nm, i, .tup vs]) s (s.map fun x => vs.getD x .non)
  | [], [], _, _ => CT.nil
  | i :: is, x :: s, h, hb => CT.cons rfl (hb x List.mem_cons_self) (ct_map (by simpa using h) fun y hy => hb y (List.mem_cons_of_mem _ hy))
theorem ct_dat {d : Dat} {s : List Nat} (so : SegOk d s) : CT d.cells s (s.map (ctsD d)) := by
  obtain ⟨s1, s2⟩ := so
  cases d with
  | num nm lo hi fi =>
    match s, s1 with
    | [x], _ =>
      have hx : x < (hi + 1 - lo).toNat := s2 x List.mem_cons_self
      have := CT.cons (x := .tup [.str nm, .int 0, .tup (rngD lo (hi + 1 - lo).toNat)]) (y := x) (vs := rngD lo (hi + 1 - lo).toNat) rfl (by rw [rngD_len]; exact hx) CT.nil
      rw [rng_getD hx] at this
      exact this
  | que nm room lo hi =>
    have := ct_map (nm := .str nm) (vs := .non :: rngD lo (hi + 1 - lo).toNat) (is := rngD 1 room.toNat) (s := s) (by rw [rngD_len]; exact s1.symm) (fun x hx => by
      rw [List.length_cons, rngD_len]
      exact s2 x hx)
    have e : s.map (fun x => (D.non :: rngD lo (hi + 1 - lo).toNat).getD x .non) = s.map (ctsD (.que nm room lo hi)) := List.map_congr_left fun x hx => by
      have hx := s2 x hx
      cases x with
      | zero => rfl
      | succ x =>
        have hx : x + 1 < (hi + 1 - lo).toNat + 1 := hx
        show (rngD lo (hi + 1 - lo).toNat).getD x .non = .int (lo + (x + 1 : Nat) - 1)
        rw [rng_getD (by omega)]
        congr 1
        omega
    rw [e] at this
    exact this
theorem ct_dats : ∀ {dl : List Dat} {segs : List (List Nat)}, SegsOk dl segs → CT (dl.flatMap Dat.cells) segs.flatten (ctsOf dl segs)
  | [], [], _ => CT.nil
  | d :: r, s :: t, h => by
    rw [List.flatMap_cons, List.flatten_cons]
    exact (ct_dat h.1).app (ct_dats h.2)
theorem ct_sys {S : Sys} {pr : List Nat} {segs : List (List Nat)} (hp : PlsOk S.prcs pr) (hs : SegsOk S.dats segs) : CT S.cells (pr ++ segs.flatten) ((plsOf S.prcs pr).map D.str ++ ctsOf S.dats segs) :=
  (ct_prcs hp).app (ct_dats hs)
theorem zipD_map : ∀ (xs : List D) (ys : List Nat), zipD xs (ys.map nD) = (xs.zip ys).map fun p => .zt [p.1, nD p.2]
  | [], _ => by rw [zipD]; rfl; simp
  | x :: xs, [] => by rw [List.map_nil, zipD]; rfl; simp
  | x :: xs, y :: ys => by rw [List.map_cons, zipD, List.zip_cons_cons, List.map_cons, zipD_map xs ys]
theorem ctsD_inj {d : Dat} {x y : Nat} (h : ctsD d x = ctsD d y) : x = y := by
  cases d with
  | num nm lo hi fi =>
    have h : D.int (lo + (x : Nat)) = .int (lo + (y : Nat)) := h
    injection h with h
    omega
  | que nm room lo hi =>
    have h : (if x = 0 then D.non else .int (lo + (x : Nat) - 1)) = (if y = 0 then D.non else .int (lo + (y : Nat) - 1)) := h
    by_cases hx : x = 0 <;> by_cases hy : y = 0
    · omega
    · rw [if_pos hx, if_neg hy] at h; cases h
    · rw [if_neg hx, if_pos hy] at h; cases h
    · rw [if_neg hx, if_neg hy] at h
      injection h with h
      omega
theorem gd_cts (d : Dat) (s : List Nat) : decide ((s.map (ctsD d)).take (nz s).length = (nz s).map (ctsD d)) = gd s := by
  unfold gd
  rw [← List.map_take, Bool.eq_iff_iff, decide_eq_true_iff, decide_eq_true_iff]
  exact ⟨fun h => map_inj (fun _ _ => ctsD_inj) h, fun h => by rw [h]⟩
theorem all_cts (d : Dat) (s : List Nat) : (s.map (ctsD d)).all D.isIN = true := by
  induction s with
  | nil => rfl
  | cons x r ih =>
    rw [List.map_cons, List.all_cons, ih, Bool.and_true]
    cases d with
    | num nm lo hi fi => rfl
    | que nm room lo hi =>
      show D.isIN (if x = 0 then D.non else .int (lo + (x : Nat) - 1)) = true
      split <;> rfl
end Sm
namespace Sm
open PySem PySem.Spec PyProof.Rows L2
theorem sof_turn {h : AH} {sys row pls : D} {d : Dat} {s : List Nat} {C pre post : List D} {vals : List D} {g : AH} {y7 y8 : Option D} (ok : d.Ok) (so : SegOk d s) (hr : C = pre ++ (s.map (ctsD d) ++ post)) (vl : vals.length < 16777216) (cl : C.length ≤ 16777216) :
    match valOf d s with
    | some v => ∃ z6 z7 z8 g', l_state_of_1 [some sys, some row, some (.ref h.length), some (nD pre.length), some pls, some (.ref (h.length + 1)), some d.d, y7, y8, none, none, none] (h ++ .lst C :: .lst vals :: g)
        = some (.nx [some sys, some row, some (.ref h.length), some (nD (pre.length + s.length)), some pls, some (.ref (h.length + 1)), z6, z7, z8, none, none, none] (h ++ .lst C :: .lst (vals ++ [v]) :: g'))
    | none => ∃ g', l_state_of_1 [some sys, some row, some (.ref h.length), some (nD pre.length), some pls, some (.ref (h.length + 1)), some d.d, y7, y8, none, none, none] (h ++ .lst C :: .lst vals :: g) = some (.rt .non (h ++ g')) := by
  cases d with
  | num nm lo hi fi =>
    obtain ⟨s1, s2⟩ := so
    match s, s1 with
    | [x], _ =>
      have hx : C[pre.length]? = some (.int (lo + (x : Nat))) := by rw [hr]; simp [ctsD]
      refine ⟨some (Dat.d (.num nm lo hi fi)), y7, y8, g, ?_⟩
      unfold l_state_of_1 Dat.d
      simp (disch := first | assumption | omega | (simp only [List.length_cons, List.length_nil, List.length_map]; omega)) [hx, atI_cast, vl]
  | que nm room lo hi =>
    obtain ⟨s1, s2⟩ := so
    obtain ⟨r0, r1, a, b, c⟩ := ok
    have s1 : s.length = room.toNat := s1
    have sl : s.length ≤ 16777216 := by omega
    have nl := nz_len s
    have nl2 : (nz s).length ≤ 16777216 := by omega
    have hcut : cutA C (some (pre.length : Int)) (some ((pre.length : Int) + room)) = s.map (ctsD (.que nm room lo hi)) := by
      rw [hr, show (pre.length : Int) + room = ((pre.length + s.length : Nat) : Int) by omega]
      exact cut_mid rfl (by simp)
    have ne := fun (a : Nat) (h : AH) => neK_some (a := a) (h := h) (all_take (nz s).length (all_cts (.que nm room lo hi) s)) (all_cts (.que nm room lo hi) (nz s))
    rw [gd_cts] at ne
    have fil : ∀ (τ : AT) (hh : AH) (grd : List (Nat × List D)), grdOk grd hh = true → τ.length = 12 →
        compL grd (gN 11) (mB (mBin oIsNot (mVar 11) (mC .non))) (mVar 11) τ (s.map (ctsD (.que nm room lo hi))) hh = some ((nz s).map (ctsD (.que nm room lo hi)), hh) := fun τ hh grd hg ht => by
      rw [compL_filterT (t := ctsD (.que nm room lo hi)) (fun x => decide (0 < x)) (ctsD (.que nm room lo hi)) hg _ (fun x hx => ⟨τ.set 11 (some (ctsD (.que nm room lo hi) x)), rfl, by
        have : (τ.set 11 (some (ctsD (.que nm room lo hi) x)))[11]? = some (some (ctsD (.que nm room lo hi) x)) := List.getElem?_set_self (by omega)
        simp (disch := first | assumption | omega | (simp only [List.length_cons, List.length_nil, List.length_map]; omega)) [this]
        cases x with
        | zero => rfl
        | succ x => simp [ctsD], fun _ => by
        have : (τ.set 11 (some (ctsD (.que nm room lo hi) x)))[11]? = some (some (ctsD (.que nm room lo hi) x)) := List.getElem?_set_self (by omega)
        simp (disch := first | assumption | omega | (simp only [List.length_cons, List.length_nil, List.length_map]; omega)) [this]⟩)]
      rfl
    have vv : (nz s).map (ctsD (.que nm room lo hi)) = (nz s).map fun l => .int (lo + (l : Nat) - 1) := List.map_congr_left fun x hx => by
      have := (List.mem_filter.mp hx).2
      have : 0 < x := of_decide_eq_true this
      exact if_neg (by omega)
    by_cases hg : gd s = true
    · rw [valOf_t hg]
      dsimp only
      refine ⟨some (Dat.d (.que nm room lo hi)), some (.ref (h.length + (g.length + 2))), some (.ref (h.length + (g.length + 3))), g ++ [.lst (s.map (ctsD (.que nm room lo hi))), .lst ((nz s).map (ctsD (.que nm room lo hi)))], ?_⟩
      unfold l_state_of_1 Dat.d
      simp (disch := first | assumption | omega | (simp only [List.length_cons, List.length_nil, List.length_map]; omega)) [hcut, sl, cl]
      rw [fil _ _ _ (by simp (disch := first | assumption | omega | (simp only [List.length_cons, List.length_nil, List.length_map]; omega)) []) rfl]
      simp (disch := first | assumption | omega | (simp only [List.length_cons, List.length_nil, List.length_map]; omega)) [nl2, sl, cut_none, ne, hg, vl, ← vv]
      omega
    · rw [valOf_f hg]
      dsimp only
      refine ⟨.lst C :: .lst vals :: (g ++ [.lst (s.map (ctsD (.que nm room lo hi))), .lst ((nz s).map (ctsD (.que nm room lo hi)))]), ?_⟩
      unfold l_state_of_1 Dat.d
      simp (disch := first | assumption | omega | (simp only [List.length_cons, List.length_nil, List.length_map]; omega)) [hcut, sl, cl]
      rw [fil _ _ _ (by simp (disch := first | assumption | omega | (simp only [List.length_cons, List.length_nil, List.length_map]; omega)) []) rfl]
      simp (disch := first | assumption | omega | (simp only [List.length_cons, List.length_nil, List.length_map]; omega)) [nl2, sl, cut_none, ne, hg]
end Sm
namespace Sm
open PySem PySem.Spec PyProof.Rows L2
theorem sof_loop {h : AH} {sys row pls : D} {C : List D} (cl : C.length ≤ 16777216) : ∀ (dl : List Dat) (segs : List (List Nat)) (pre : List D) (vals : List D) (g : AH) (y6 y7 y8 : Option D), (∀ d ∈ dl, d.Ok) → SegsOk dl segs → C = pre ++ ctsOf dl segs → vals.length + dl.length ≤ 16777216 →
    match valsOf dl segs with
    | some vs => ∃ z3 z6 z7 z8 g', forL [] (gN 6) l_state_of_1 (dl.map Dat.d) [some sys, some row, some (.ref h.length), some (nD pre.length), some pls, some (.ref (h.length + 1)), y6, y7, y8, none, none, none] (h ++ .lst C :: .lst vals :: g)
        = some (.nx [some sys, some row, some (.ref h.length), z3, some pls, some (.ref (h.length + 1)), z6, z7, z8, none, none, none] (h ++ .lst C :: .lst (vals ++ vs) :: g'))
    | none => ∃ g', forL [] (gN 6) l_state_of_1 (dl.map Dat.d) [some sys, some row, some (.ref h.length), some (nD pre.length), some pls, some (.ref (h.length + 1)), y6, y7, y8, none, none, none] (h ++ .lst C :: .lst vals :: g) = some (.rt .non (h ++ g'))
  | [], segs, pre, vals, g, y6, y7, y8, _, _, _, _ => by
    show ∃ z3 z6 z7 z8 g', _ = _
    refine ⟨some (nD pre.length), y6, y7, y8, g, ?_⟩
    rw [List.map_nil, List.append_nil]
    exact forL_nil rfl
  | d :: dl, [], _, _, _, _, _, _, _, so, _, _ => by cases so
  | d :: dl, s :: t, pre, vals, g, y6, y7, y8, ok, so, hr, vl => by
    rw [List.length_cons] at vl
    rw [ctsOf] at hr
    have T := sof_turn (h := h) (sys := sys) (row := row) (pls := pls) (d := d) (s := s) (C := C) (pre := pre) (post := ctsOf dl t) (vals := vals) (g := g) (y7 := y7) (y8 := y8) (ok d List.mem_cons_self) so.1 hr (by omega) cl
    unfold valsOf
    cases hv : valOf d s with
    | none =>
      rw [hv] at T
      obtain ⟨g', e⟩ := T
      exact ⟨g', forL_rt rfl rfl e⟩
    | some v =>
      rw [hv] at T
      obtain ⟨z6, z7, z8, g', e⟩ := T
      have R := sof_loop (h := h) (sys := sys) (row := row) (pls := pls) cl dl t (pre ++ s.map (ctsD d)) (vals ++ [v]) g' z6 z7 z8 (fun x hx => ok x (List.mem_cons_of_mem _ hx)) so.2 (by rw [hr, List.append_assoc]) (by simp; omega)
      have pe : (pre ++ s.map (ctsD d)).length = pre.length + s.length := by simp
      rw [pe] at R
      have E : forL [] (gN 6) l_state_of_1 ((d :: dl).map Dat.d) [some sys, some row, some (.ref h.length), some (nD pre.length), some pls, some (.ref (h.length + 1)), y6, y7, y8, none, none, none] (h ++ .lst C :: .lst vals :: g)
          = forL [] (gN 6) l_state_of_1 (dl.map Dat.d) [some sys, some row, some (.ref h.length), some (nD (pre.length + s.length)), some pls, some (.ref (h.length + 1)), z6, z7, z8, none, none, none] (h ++ .lst C :: .lst (vals ++ [v]) :: g') := by
        rw [List.map_cons]
        exact forL_cons rfl rfl e
      show match (valsOf dl t).bind fun vs => some (v :: vs) with | some vs => _ | none => _
      cases hw : valsOf dl t with
      | none =>
        rw [hw] at R
        obtain ⟨g2, e2⟩ := R
        exact ⟨g2, E.trans e2⟩
      | some vs =>
        rw [hw] at R
        obtain ⟨z3, w6, w7, w8, g2, e2⟩ := R
        refine ⟨z3, w6, w7, w8, g2, E.trans ?_⟩
        rw [e2]
        simp
theorem ct_len {xs : List D} {ys : List Nat} {zs : List D} (c : CT xs ys zs) : zs.length = xs.length := by
  rw [← c.eq, List.length_map, List.length_zip, c.len, Nat.min_self]
theorem state_of_ok {h : AH} {S : Sys} {pr : List Nat} {segs : List (List Nat)} {row : List Nat} (ok : S.Ok) (hp : PlsOk S.prcs pr) (hs : SegsOk S.dats segs) (hr : row = pr ++ segs.flatten) : F_state_of [S.d, .tup (row.map nD)] h = some (UN S pr segs, h) := by
  have pl := plsOk_len hp
  have pl2 := plsOf_len hp
  have ct := ct_sys hp hs
  rw [← hr] at ct
  have cl := cells_len ok
  have cl2 := ct_len ct
  have np := ok.np
  unfold F_state_of b_state_of
  simp (disch := first | assumption | omega | (simp only [List.length_cons, List.length_nil, List.length_map]; omega)) [runDef_if, cells_ok ok, zipD_map]
  rw [compL_mapT (t := fun p : D × Nat => .zt [p.1, nD p.2]) cellAt rfl _ (fun p hpm => ⟨_, rfl, by
    obtain ⟨a, b, vs, e1, e2⟩ := ct.co p hpm
    have : cellAt p = vs[p.2] := by
      unfold cellAt
      rw [e1]
      show vs.getD p.2 .non = _
      rw [List.getD_eq_getElem?_getD, List.getElem?_eq_getElem e2, Option.getD_some]
    rw [this, e1]
    simp (disch := first | assumption | omega | (simp only [List.length_cons, List.length_nil, List.length_map]; omega)) [atI_cast]⟩)]
  rw [ct.eq]
  have zc : (plsOf S.prcs pr).length + (ctsOf S.dats segs).length ≤ 16777216 := by
    rw [List.length_append, List.length_map] at cl2
    omega
  have hc : cutA ((plsOf S.prcs pr).map D.str ++ ctsOf S.dats segs) none (some (S.prcs.length : Int)) = (plsOf S.prcs pr).map D.str := by
    rw [cut_none, List.take_left' (by rw [List.length_map, pl2])]
  simp (disch := first | assumption | omega | (simp only [List.length_cons, List.length_nil, List.length_map]; omega)) [Sys.d, zc, hc]
  have U := sof_loop (h := h) (sys := S.d) (row := .tup (row.map nD)) (pls := .tup ((plsOf S.prcs pr).map D.str)) (C := (plsOf S.prcs pr).map D.str ++ ctsOf S.dats segs) (by simpa using zc) S.dats segs ((plsOf S.prcs pr).map D.str) [] [] none none none ok.dat hs rfl (by have := ok.nd; simp; omega)
  rw [List.length_map, pl2] at U
  unfold UN
  cases hv : valsOf S.dats segs with
  | none =>
    rw [hv] at U
    obtain ⟨g', e⟩ := U
    unfold Sys.d nD at e
    simp (disch := first | assumption | omega | (simp only [List.length_cons, List.length_nil, List.length_map]; omega)) [e]
    rw [gc_pure rfl]
  | some vs =>
    rw [hv] at U
    obtain ⟨y4, y5, y6, y7, g', e⟩ := U
    unfold Sys.d nD at e
    have low : (D.tup [.tup ((plsOf S.prcs pr).map D.str), .tup vs]).low h.length = true := by
      have := UN_low (S := S) (pr := pr) (segs := segs)
      unfold UN at this
      rw [hv] at this
      exact low0 this
    simp (disch := first | assumption | omega | (simp only [List.length_cons, List.length_nil, List.length_map]; omega)) [e]
    rw [gc_pure low]
end Sm
namespace Sm
open PySem PySem.Spec PyProof.Rows L2
theorem nz_nil {s : List Nat} (h : nz s = []) : ∀ x ∈ s, x = 0 := fun x hx => by
  have := List.filter_eq_nil_iff.mp h x hx
  simpa using this
/-- letters that stand ahead of all gaps -/
theorem gd_form : ∀ {s : List Nat}, gd s = true → s = nz s ++ List.replicate (s.length - (nz s).length) 0
  | [], _ => rfl
  | x :: r, h => by
    by_cases hx : 0 < x
    · have e : nz (x :: r) = x :: nz r := List.filter_cons_of_pos (by simpa using hx)
      have h' : gd r = true := by
        have h := of_decide_eq_true h
        rw [e, List.length_cons, List.take_succ_cons] at h
        exact decide_eq_true (List.cons.inj h).2
      rw [e, List.length_cons, List.length_cons, Nat.add_sub_add_right, List.cons_append, ← gd_form h']
    · have e : nz (x :: r) = nz r := List.filter_cons_of_neg (by simpa using hx)
      have h := of_decide_eq_true h
      rw [e] at h
      have e2 : nz r = [] := by
        cases q : nz r with
        | nil => rfl
        | cons y t =>
          rw [q] at h
          rw [List.length_cons, List.take_succ_cons] at h
          have hy := (List.cons.inj h).1
          have : y ∈ nz r := by rw [q]; exact List.mem_cons_self
          have := (List.mem_filter.mp this).2
          rw [decide_eq_true_iff] at this
          omega
      rw [e, e2, List.nil_append, List.length_nil, Nat.sub_zero, List.length_cons]
      rw [List.eq_replicate_iff]
      exact ⟨rfl, fun y hy => by
        rcases List.mem_cons.mp hy with z | z
        · omega
        · exact nz_nil e2 y z⟩
theorem crow_turn {h : AH} {sys st : D} {d : Dat} {s : List Nat} {v : D} {acc : List D} (ok : d.Ok) (so : SegOk d s) (hv : valOf d s = some v) (vl : acc.length + s.length < 16777216) :
    l_cell_row_1 [some sys, some st, some (.ref h.length), some d.d, some v, none, none, none] (h ++ [.lst acc])
        = some (.nx [some sys, some st, some (.ref h.length), some d.d, some v, none, none, none] (h ++ [.lst (acc ++ s.map (ctsD d))])) := by
  cases d with
  | num nm lo hi fi =>
    obtain ⟨s1, s2⟩ := so
    match s, s1 with
    | [x], _ =>
      cases hv
      have al : acc.length < 16777216 := by simp at vl; omega
      unfold l_cell_row_1 Dat.d
      simp (disch := first | assumption | omega | (simp only [List.length_cons, List.length_nil, List.length_map]; omega)) [al, ctsD]
  | que nm room lo hi =>
    obtain ⟨s1, s2⟩ := so
    obtain ⟨r0, r1, a, b, c⟩ := ok
    have s1 : s.length = room.toNat := s1
    have hg : gd s = true := by
      by_cases hg : gd s = true
      · exact hg
      · rw [valOf_f hg] at hv; cases hv
    rw [valOf_t hg] at hv
    cases hv
    have nl := nz_len s
    have rg : (room.toNat : Nat) = s.length := s1.symm
    unfold l_cell_row_1 Dat.d
    simp (disch := first | assumption | omega | (simp only [List.length_cons, List.length_nil, List.length_map]; omega)) []
    have : rngD 0 room.toNat = (List.range s.length).map nD := by
      rw [rg]
      unfold rngD
      exact List.map_congr_left fun i _ => by rw [Int.zero_add]
    rw [this, compL_mapT (t := nD) (fun i : Nat => ctsD (.que nm room lo hi) (s.getD i 0)) rfl _ (fun i hi' => ⟨_, rfl, by
      have hi' := List.mem_range.mp hi'
      by_cases c : i < (nz s).length
      · have hs : s.getD i 0 = (nz s)[i] := by
          conv => lhs; rw [gd_form hg]
          rw [List.getD_eq_getElem?_getD, List.getElem?_append_left c, List.getElem?_eq_getElem c, Option.getD_some]
        have hp : 0 < (nz s)[i] := by
          have := (List.mem_filter.mp (List.getElem_mem c)).2
          simpa using this
        have hn : ¬ (nz s)[i] = 0 := by omega
        rw [hs]
        simp (disch := first | assumption | omega | (simp only [List.length_cons, List.length_nil, List.length_map]; omega)) [c, atI_cast, ctsD, hn]
      · have hs : s.getD i 0 = 0 := by
          conv => lhs; rw [gd_form hg]
          rw [List.getD_eq_getElem?_getD, List.getElem?_append_right (by omega), List.getElem?_replicate]
          split <;> rfl
        rw [hs]
        simp (disch := first | assumption | omega | (simp only [List.length_cons, List.length_nil, List.length_map]; omega)) [c, ctsD]⟩)]
    rw [range_getD rfl]
    have vl2 : acc.length + s.length ≤ 16777216 := by omega
    have vl3 : s.length ≤ 16777216 := by omega
    simp (disch := first | assumption | omega | (simp only [List.length_cons, List.length_nil, List.length_map]; omega)) [vl2, vl3]
theorem crow_loop {h : AH} {sys st : D} : ∀ (dl : List Dat) (segs : List (List Nat)) (vs : List D) (acc : List D) (y3 y4 : Option D), (∀ d ∈ dl, d.Ok) → SegsOk dl segs → valsOf dl segs = some vs → acc.length + (ctsOf dl segs).length < 16777216 →
    ∃ z3 z4, forL [] (gT 2 (gsC (gN 3) (gsC (gN 4) gsN))) l_cell_row_1 (zipD (dl.map Dat.d) vs) [some sys, some st, some (.ref h.length), y3, y4, none, none, none] (h ++ [.lst acc])
        = some (.nx [some sys, some st, some (.ref h.length), z3, z4, none, none, none] (h ++ [.lst (acc ++ ctsOf dl segs)]))
  | [], segs, vs, acc, y3, y4, _, so, hv, _ => by
    refine ⟨y3, y4, ?_⟩
    have e : ctsOf [] segs = [] := by cases segs <;> rfl
    rw [List.map_nil, zipD, e, List.append_nil]
    · exact forL_nil rfl
    · simp
  | d :: dl, [], _, _, _, _, _, so, _, _ => by cases so
  | d :: dl, s :: t, vs, acc, y3, y4, ok, so, hv, vl => by
    unfold valsOf at hv
    cases h1 : valOf d s with
    | none => rw [h1] at hv; cases hv
    | some v =>
      cases h2 : valsOf dl t with
      | none => rw [h1, h2] at hv; cases hv
      | some ws =>
        rw [h1, h2] at hv
        cases hv
        rw [ctsOf, List.length_append, List.length_map] at vl
        have e := crow_turn (h := h) (sys := sys) (st := st) (acc := acc) (ok d List.mem_cons_self) so.1 h1 (by omega)
        obtain ⟨z3, z4, e2⟩ := crow_loop (h := h) (sys := sys) (st := st) dl t ws (acc ++ s.map (ctsD d)) (some d.d) (some v) (fun x hx => ok x (List.mem_cons_of_mem _ hx)) so.2 h2 (by simp; omega)
        refine ⟨z3, z4, ?_⟩
        rw [List.map_cons, zipD, ctsOf, ← List.append_assoc, ← e2]
        exact forL_cons rfl (by simp (disch := first | assumption | omega | (simp only [List.length_cons, List.length_nil, List.length_map]; omega)) []) e
/-- the first place of that name -/
def FirstOk : List Prc → List Nat → Prop
  | p :: r, k :: t => (∀ i, i < k → p.places[i]? ≠ p.places[k]?) ∧ FirstOk r t
  | _, _ => True
theorem first_of {xs : List Str} : ∀ {k : Nat}, k < xs.length → ∃ k', k' < xs.length ∧ xs[k']? = xs[k]? ∧ ∀ i, i < k' → xs[i]? ≠ xs[k']? := fun {k} => by
  induction k using Nat.strongRecOn with
  | ind k ih =>
    intro hk
    by_cases h : ∃ i, i < k ∧ xs[i]? = xs[k]?
    · obtain ⟨i, hi, e⟩ := h
      obtain ⟨k', a, b, c⟩ := ih i hi (by omega)
      exact ⟨k', a, b.trans e, c⟩
    · exact ⟨k, hk, rfl, fun i hi e => h ⟨i, hi, e⟩⟩
theorem firsts_of : ∀ {ps : List Prc} {pr : List Nat}, PlsOk ps pr → ∃ pr', PlsOk ps pr' ∧ FirstOk ps pr' ∧ plsOf ps pr' = plsOf ps pr
  | [], [], _ => ⟨[], trivial, trivial, rfl⟩
  | p :: r, k :: t, h => by
    obtain ⟨t', a, b, c⟩ := firsts_of h.2
    obtain ⟨k', a1, b1, c1⟩ := first_of h.1
    refine ⟨k' :: t', ⟨a1, a⟩, ⟨c1, b⟩, ?_⟩
    rw [plsOf, plsOf, c, List.getD_eq_getElem?_getD, List.getD_eq_getElem?_getD, b1]
theorem idxD_first {d : D} : ∀ {xs : List D} {k : Nat}, xs[k]? = some d → (∀ i, i < k → xs[i]? ≠ some d) → idxD d xs = some k
  | [], _, h, _ => by cases h
  | x :: r, 0, h, _ => by
    unfold idxD
    rw [if_pos (Option.some.inj h)]
  | x :: r, k + 1, h, hf => by
    unfold idxD
    rw [if_neg (fun e => hf 0 (Nat.zero_lt_succ _) (by rw [List.getElem?_cons_zero, e]))]
    rw [idxD_first (k := k) (by simpa using h) (fun i hi => by
      have := hf (i + 1) (Nat.succ_lt_succ hi)
      simpa using this)]
    rfl
/-- a cell that holds its content at that number, and nowhere ahead of it -/
def CI (p : D × Nat) : Prop := ∃ a b vs, p.1 = .tup [a, b, .tup vs] ∧ idxD (cellAt p) vs = some p.2 ∧ ((cellAt p).flat && vs.all D.flat) = true
theorem ci_mk {a b : D} {vs : List D} {k : Nat} (hk : k < vs.length) (hf : ∀ i, i < k → vs[i]? ≠ vs[k]?) (fl : vs.all D.flat = true) : CI (.tup [a, b, .tup vs], k) := by
  have e : cellAt (.tup [a, b, .tup vs], k) = vs[k] := by
    show vs.getD k .non = _
    rw [List.getD_eq_getElem?_getD, List.getElem?_eq_getElem hk, Option.getD_some]
  refine ⟨a, b, vs, rfl, ?_, ?_⟩
  · rw [e]
    exact idxD_first (List.getElem?_eq_getElem hk) (fun i hi => by rw [← List.getElem?_eq_getElem hk]; exact hf i hi)
  · rw [e, fl, Bool.and_true]
    exact List.all_eq_true.mp fl _ (List.getElem_mem hk)
theorem ci_prcs : ∀ {ps : List Prc} {pr : List Nat}, PlsOk ps pr → FirstOk ps pr → ∀ p ∈ (ps.map fun p => D.tup [.str p.nm, .int 0, .tup (p.places.map D.str)]).zip pr, CI p
  | [], [], _, _, _, h => by cases h
  | q :: r, k :: t, h, f, p, hp => by
    rw [List.map_cons, List.zip_cons_cons] at hp
    rcases List.mem_cons.mp hp with e | e
    · rw [e]
      refine ci_mk (by simpa using h.1) (fun i hi e => f.1 i hi ?_) (flat_strs _)
      rw [List.getElem?_map, List.getElem?_map] at e
      have l1 : i < q.places.length := Nat.lt_trans hi h.1
      rw [List.getElem?_eq_getElem h.1, List.getElem?_eq_getElem l1] at e ⊢
      have e := Option.some.inj e
      injection e with e
      rw [e]
    · exact ci_prcs h.2 f.2 p e
theorem rng_flat (lo : Int) (n : Nat) : (rngD lo n).all D.flat = true := by
  unfold rngD
  induction List.range n with
  | nil => rfl
  | cons x r ih => rw [List.map_cons, List.all_cons, ih]; rfl
theorem rng_ne {lo : Int} {n i k : Nat} (hi : i < k) (hk : k < n) : (rngD lo n)[i]? ≠ (rngD lo n)[k]? := by
  have h1 : (rngD lo n)[i]? = some (.int (lo + i)) := by rw [List.getElem?_eq_getElem (by rw [rngD_len]; omega)]; simp [rngD]
  have h2 : (rngD lo n)[k]? = some (.int (lo + k)) := by rw [List.getElem?_eq_getElem (by rw [rngD_len]; omega)]; simp [rngD]
  rw [h1, h2]
  intro e
  have e := Option.some.inj e
  injection e with e
  omega
theorem ci_map {nm : D} {vs : List D} (fl : vs.all D.flat = true) (nd : ∀ i k, i < k → k < vs.length → vs[i]? ≠ vs[k]?) : ∀ {is : List D} {s : List Nat}, (∀ x ∈ s, x < vs.length) → ∀ p ∈ (is.map fun i => D.tup [nm, i, .tup vs]).zip s, CI p
  | [], _, _, p, hp => by cases hp
  | _ :: _, [], _, p, hp => by cases hp
  | i :: is, x :: s, hb, p, hp => by
    rw [List.map_cons, List.zip_cons_cons] at hp
    rcases List.mem_cons.mp hp with e | e
    · rw [e]
      have := hb x List.mem_cons_self
      exact ci_mk this (fun j hj => nd j x hj this) fl
    · exact ci_map fl nd (fun y hy => hb y (List.mem_cons_of_mem _ hy)) p e
theorem ci_dat {d : Dat} {s : List Nat} (so : SegOk d s) : ∀ p ∈ d.cells.zip s, CI p := by
  obtain ⟨s1, s2⟩ := so
  cases d with
  | num nm lo hi fi =>
    match s, s1 with
    | [x], _ =>
      intro p hp
      have hx : x < (hi + 1 - lo).toNat := s2 x List.mem_cons_self
      rcases List.mem_cons.mp hp with e | e
      · rw [e]
        exact ci_mk (by rw [rngD_len]; exact hx) (fun i hi => rng_ne hi hx) (rng_flat _ _)
      · cases e
  | que nm room lo hi =>
    refine ci_map (by rw [List.all_cons, rng_flat]; rfl) (fun i k hik hk => ?_) (fun x hx => by
      rw [List.length_cons, rngD_len]
      exact s2 x hx)
    rw [List.length_cons, rngD_len] at hk
    cases k with
    | zero => omega
    | succ k =>
      cases i with
      | zero =>
        rw [List.getElem?_cons_zero, List.getElem?_cons_succ, List.getElem?_eq_getElem (by rw [rngD_len]; omega)]
        simp [rngD]
      | succ i =>
        rw [List.getElem?_cons_succ, List.getElem?_cons_succ]
        exact rng_ne (by omega) (by omega)
theorem ci_dats : ∀ {dl : List Dat} {segs : List (List Nat)}, SegsOk dl segs → ∀ p ∈ (dl.flatMap Dat.cells).zip segs.flatten, CI p
  | [], [], _, p, hp => by cases hp
  | d :: r, s :: t, h, p, hp => by
    rw [List.flatMap_cons, List.flatten_cons, List.zip_append (ct_dat h.1).len] at hp
    rcases List.mem_append.mp hp with e | e
    · exact ci_dat h.1 p e
    · exact ci_dats h.2 p e
theorem ci_sys {S : Sys} {pr : List Nat} {segs : List (List Nat)} (hp : PlsOk S.prcs pr) (hf : FirstOk S.prcs pr) (hs : SegsOk S.dats segs) : ∀ p ∈ S.cells.zip (pr ++ segs.flatten), CI p := fun p h => by
  unfold Sys.cells at h
  rw [List.zip_append (ct_prcs hp).len] at h
  rcases List.mem_append.mp h with e | e
  · exact ci_prcs hp hf p e
  · exact ci_dats hs p e
end Sm
namespace Sm
open PySem PySem.Spec PyProof.Rows L2
theorem zipD_cells : ∀ (xs : List D) (ys : List Nat), xs.length = ys.length → zipD xs ((xs.zip ys).map cellAt) = (xs.zip ys).map fun p => .zt [p.1, cellAt p]
  | [], _, _ => by rw [zipD]; rfl; simp
  | x :: xs, [], h => by cases h
  | x :: xs, y :: ys, h => by rw [List.zip_cons_cons, List.map_cons, zipD, List.map_cons, zipD_cells xs ys (by simpa using h)]
theorem zip_snd : ∀ (xs : List D) (ys : List Nat), xs.length = ys.length → (xs.zip ys).map (fun p => nD p.2) = ys.map nD
  | [], [], _ => rfl
  | x :: xs, y :: ys, h => by rw [List.zip_cons_cons, List.map_cons, List.map_cons, zip_snd xs ys (by simpa using h)]
theorem cell_row_ok {h : AH} {S : Sys} {pr : List Nat} {segs : List (List Nat)} {vs : List D} {row : List Nat} (ok : S.Ok) (hp : PlsOk S.prcs pr) (hf : FirstOk S.prcs pr) (hs : SegsOk S.dats segs) (hv : valsOf S.dats segs = some vs) (hr : row = pr ++ segs.flatten) :
    F_cell_row [S.d, .tup [.tup ((plsOf S.prcs pr).map D.str), .tup vs]] h = some (.tup (row.map nD), h) := by
  have pl := plsOk_len hp
  have pl2 := plsOf_len hp
  have ct := ct_sys hp hs
  have ci := ci_sys hp hf hs
  rw [← hr] at ct ci
  have cl := cells_len ok
  have cl2 := ct_len ct
  have np := ok.np
  have z1 : (plsOf S.prcs pr).length ≤ 16777216 := by omega
  have zc : (plsOf S.prcs pr).length + (ctsOf S.dats segs).length < 16777216 := by
    rw [List.length_append, List.length_map] at cl2
    omega
  have zc2 : (plsOf S.prcs pr).length + (ctsOf S.dats segs).length ≤ 16777216 := by omega
  obtain ⟨z3, z4, e⟩ := crow_loop (h := h) (sys := S.d) (st := .tup [.tup ((plsOf S.prcs pr).map D.str), .tup vs]) S.dats segs vs ((plsOf S.prcs pr).map D.str) none none ok.dat hs hv (by simpa using zc)
  have hl : (h ++ [O.lst ((plsOf S.prcs pr).map D.str ++ ctsOf S.dats segs)])[h.length]? = some (.lst ((plsOf S.prcs pr).map D.str ++ ctsOf S.dats segs)) := get_mid
  have co := cells_ok (h := h ++ [O.lst ((plsOf S.prcs pr).map D.str ++ ctsOf S.dats segs)]) ok
  unfold Sys.d at e co
  unfold F_cell_row b_cell_row
  simp (disch := first | assumption | omega | (simp only [List.length_cons, List.length_nil, List.length_map]; omega)) [runDef_if, Sys.d, z1, e, co]
  rw [← ct.eq] at hl ⊢
  rw [zipD_cells _ _ ct.len]
  rw [compL_mapT (t := fun p : D × Nat => .zt [p.1, cellAt p]) (fun p => nD p.2) (by simp (disch := first | assumption | omega | (simp only [List.length_cons, List.length_nil, List.length_map]; omega)) [hl]) _ (fun p hpm => ⟨_, rfl, by
    obtain ⟨a, b, ws, e1, e2, e3⟩ := ci p hpm
    have ix := fun h : AH => idxK_some (h := h) e3 e2
    rw [e1]
    simp (disch := first | assumption | omega | (simp only [List.length_cons, List.length_nil, List.length_map]; omega)) [ix]⟩)]
  rw [zip_snd _ _ ct.len]
  have rl : row.length ≤ 16777216 := by
    rw [← ct.len]
    omega
  simp (disch := first | assumption | omega | (simp only [List.length_cons, List.length_nil, List.length_map]; omega)) [rl]
  rw [gc_pure (d := .tup (row.map nD)) (by rw [low_tup]; exact lows_map (fun _ => rfl) _)]
end Sm
namespace Sm
open PySem PySem.Spec PyProof.Rows L2
@[simp] theorem oMul_new {xs : List D} {k : Int} {h : AH} : oMul (.new xs) (.val (.int k)) h = if (decide (k.natAbs < 9223372036854775808) && decide (xs.length * k.toNat ≤ 16777216)) = true then some (.new (List.replicate k.toNat xs).flatten, h) else none := rfl
theorem filter_range {c : Nat → Bool} {n k : Nat} (hk : k < n) (hc : c k = true) (hf : ∀ i, i < k → c i = false) : ∃ r, (List.range n).filter c = k :: r := by
  have h : ((List.range n).filter c).head? = some k := by
    rw [List.head?_filter, List.find?_range_eq_some]
    exact ⟨hc, List.mem_range.mpr hk, fun j hj => by rw [hf j hj]; rfl⟩
  cases q : (List.range n).filter c with
  | nil => rw [q] at h; cases h
  | cons x r =>
    rw [q] at h
    exact ⟨r, by rw [Option.some.inj h]⟩
theorem plsOf_get' {ps : List Prc} {pr : List Nat} {i : Nat} (hp : PlsOk ps pr) (h1 : i < ps.length) : ∃ k, pr[i]? = some k ∧ k < ps[i].places.length ∧ (plsOf ps pr)[i]? = ps[i].places[k]? := by
  have pl := plsOk_len hp
  have pl2 := plsOf_len hp
  have h2 : i < pr.length := by omega
  have a := plsOk_get i h1 h2 hp
  refine ⟨pr[i], List.getElem?_eq_getElem h2, a, ?_⟩
  rw [List.getElem?_eq_getElem (by omega), plsOf_get i h1 h2 (by omega) hp, List.getD_eq_getElem?_getD, List.getElem?_eq_getElem a, Option.getD_some]
theorem first_get : ∀ {ps : List Prc} {pr : List Nat} {i k : Nat} (h1 : i < ps.length), pr[i]? = some k → PlsOk ps pr → FirstOk ps pr → ∀ j, j < k → ps[i].places[j]? ≠ ps[i].places[k]?
  | p :: r, k' :: t, 0, k, _, hk, _, hf => by
    have : k' = k := by simpa using hk
    subst this
    exact hf.1
  | p :: r, k' :: t, i + 1, k, h1, hk, hp, hf => first_get (Nat.lt_of_succ_lt_succ h1) (by simpa using hk) hp.2 hf.2
theorem vals_get : ∀ {dl : List Dat} {segs : List (List Nat)} {vs : List D} {i : Nat} (h1 : i < dl.length), valsOf dl segs = some vs → SegsOk dl segs → ∃ s v, segs[i]? = some s ∧ vs[i]? = some v ∧ valOf dl[i] s = some v ∧ SegOk dl[i] s
  | d :: r, s :: t, vs, i, h1, hv, so => by
    unfold valsOf at hv
    cases e1 : valOf d s with
    | none => rw [e1] at hv; cases hv
    | some v =>
      cases e2 : valsOf r t with
      | none => rw [e1, e2] at hv; cases hv
      | some ws =>
        rw [e1, e2] at hv
        cases hv
        cases i with
        | zero => exact ⟨s, v, rfl, rfl, e1, so.1⟩
        | succ i =>
          have := vals_get (i := i) (Nat.lt_of_succ_lt_succ h1) e2 so.2
          simpa using this
theorem rng0 (n : Nat) : rngD 0 n = (List.range n).map nD := by
  unfold rngD
  exact List.map_congr_left fun i _ => by rw [Int.zero_add]
theorem lrow1_turn {h : AH} {S : Sys} {pr : List Nat} {vs : D} {acc : List D} {i k : Nat} {y3 : Option D} (ok : S.Ok) (hp : PlsOk S.prcs pr) (hf : FirstOk S.prcs pr) (hi : i < S.prcs.length) (hk : pr[i]? = some k) (al : acc.length < 16777216) :
    l_law_row_1 [some S.d, some (.tup [.tup ((plsOf S.prcs pr).map D.str), vs]), some (.ref h.length), some (nD i), none, none, none, none] (h ++ [.lst acc]) = some (.nx [some S.d, some (.tup [.tup ((plsOf S.prcs pr).map D.str), vs]), some (.ref h.length), some (nD i), none, none, none, none] (h ++ [.lst (acc ++ [nD k])])) := by
  obtain ⟨k', e1, e2, e3⟩ := plsOf_get' hp hi
  have : k' = k := Option.some.inj (e1.symm.trans hk)
  subst this
  have f := first_get hi hk hp hf
  have n1 := ok.pl _ (List.getElem_mem hi)
  have n2 : (S.prcs[i].places.length : Int) < 4611686018427387904 := by omega
  rw [List.getElem?_eq_getElem e2] at e3
  have hg : ∀ hh, S.prcs[i]'hh = S.prcs[i] := fun _ => rfl
  unfold l_law_row_1 Sys.d
  simp (disch := first | assumption | omega | (simp only [List.length_cons, List.length_nil, List.length_map]; omega)) [atI_cast, Prc.d, n2, e3]
  rw [rng0, compL_filterT (t := nD) (fun j => decide (S.prcs[i].places[j]? = S.prcs[i].places[k']?)) nD rfl _ (fun j hj => by
    have hj := List.mem_range.mp hj
    have e4 : S.prcs[i].places[j]? = some S.prcs[i].places[j] := List.getElem?_eq_getElem hj
    have e5 : S.prcs[i].places[k']? = some S.prcs[i].places[k'] := List.getElem?_eq_getElem e2
    refine ⟨_, rfl, ?_, fun _ => by simp (disch := first | assumption | omega | (simp only [List.length_cons, List.length_nil, List.length_map]; omega)) []⟩
    simp (disch := first | assumption | omega | (simp only [List.length_cons, List.length_nil, List.length_map]; omega)) [atI_cast, Prc.d, e3])]
  obtain ⟨r, hr⟩ := filter_range (c := fun j => decide (S.prcs[i].places[j]? = S.prcs[i].places[k']?)) (n := S.prcs[i].places.length) e2 (by simp) (fun j hj => by simpa using f j hj)
  rw [hr]
  have rl : r.length + 1 ≤ 16777216 := by
    have := congrArg List.length hr
    rw [List.length_cons] at this
    have := List.length_filter_le (fun j => decide (S.prcs[i].places[j]? = S.prcs[i].places[k']?)) (List.range S.prcs[i].places.length)
    rw [List.length_range] at this
    omega
  simp (disch := first | assumption | omega | (simp only [List.length_cons, List.length_nil, List.length_map]; omega)) [al, rl]
@[simp] theorem rep0 (n : Nat) : (List.replicate n [D.int 0]).flatten = (List.replicate n 0).map nD := by
  induction n with
  | zero => rfl
  | succ n ih => rw [List.replicate_succ, List.flatten_cons, ih, List.replicate_succ]; rfl
theorem lrow2_turn {h : AH} {S : Sys} {pls : D} {acc : List Nat} {i m : Nat} {vs : List D} {v : D} {s : List Nat} {g : AH} {y4 y5 : Option D} (ok : S.Ok) (hi : i < S.dats.length) (hv : vs[i]? = some v) (ho : valOf S.dats[i] s = some v) (so : SegOk S.dats[i] s) (hg : g[m]? = some (.lst (acc.map nD))) (al : acc.length + s.length < 16777216) :
    ∃ m' z4 z5 g', g'[m']? = some (.lst ((acc ++ s).map nD)) ∧ l_law_row_2 [some S.d, some (.tup [pls, .tup vs]), some (.ref (h.length + m)), some (nD i), y4, y5, none, none] (h ++ g) = some (.nx [some S.d, some (.tup [pls, .tup vs]), some (.ref (h.length + m')), some (nD i), z4, z5, none, none] (h ++ g')) := by
  have hd : S.dats[i]? = some S.dats[i] := List.getElem?_eq_getElem hi
  have hok := ok.dat _ (List.getElem_mem hi)
  obtain ⟨d, hde⟩ : ∃ d, S.dats[i] = d := ⟨_, rfl⟩
  have hd2 : ∀ hh, S.dats[i]'hh = d := fun _ => hde
  rw [hde] at ho so hok hd
  have gm := (List.getElem?_eq_some_iff.mp hg).1
  cases d with
  | num nm lo hi fi =>
    obtain ⟨s1, s2⟩ := so
    match s, s1 with
    | [x], _ =>
      cases ho
      have al : acc.length < 16777216 := by simp at al; omega
      have ex : lo + (x : Nat) - lo = (x : Int) := by omega
      refine ⟨m, some (Dat.d (.num nm lo hi fi)), y5, g.set m (.lst ((acc ++ [x]).map nD)), List.getElem?_set_self gm, ?_⟩
      clear gm
      unfold l_law_row_2 Sys.d
      simp (disch := first | assumption | omega | (simp only [List.length_cons, List.length_nil, List.length_map]; omega)) [atI_cast, hd, hd2, hv, Dat.d, hg, al, ex]
  | que nm room lo hi =>
    obtain ⟨s1, s2⟩ := so
    obtain ⟨r0, r1, a, b, c⟩ := hok
    have s1 : s.length = room.toNat := s1
    have hgd : gd s = true := by
      by_cases hg : gd s = true
      · exact hg
      · rw [valOf_f hg] at ho; cases ho
    rw [valOf_t hgd] at ho
    cases ho
    have nl := nz_len s
    have nl2 : (nz s).length ≤ 16777216 := by omega
    have ex : ∀ x : Nat, lo + (x : Nat) - 1 - lo + 1 = (x : Int) := fun x => by omega
    have e1 : (room - ((nz s).length : Int)).natAbs < 9223372036854775808 := by omega
    have e2 : (room - ((nz s).length : Int)).toNat = s.length - (nz s).length := by omega
    have e3 : s.length - (nz s).length ≤ 16777216 := by omega
    have e4 : acc.length + (nz s).length ≤ 16777216 := by omega
    have e5 : acc.length + (nz s).length + (s.length - (nz s).length) ≤ 16777216 := by omega
    have e6 : acc.length + ((nz s).length + (s.length - (nz s).length)) ≤ 16777216 := by omega
    have gf := gd_form hgd
    refine ⟨g.length + 1, some (Dat.d (.que nm room lo hi)), some (.ref (h.length + g.length)), g ++ [.lst ((nz s).map nD), .lst ((acc ++ s).map nD)], by simp, ?_⟩
    clear gm
    unfold l_law_row_2 Sys.d
    simp (disch := first | assumption | omega | (simp only [List.length_cons, List.length_nil, List.length_map]; omega)) [atI_cast, hd, hd2, hv, Dat.d, hg]
    rw [compL_mapT (t := fun l : Nat => D.int (lo + (l : Nat) - 1)) nD rfl _ (fun x hx => ⟨_, rfl, by simp (disch := first | assumption | omega | (simp only [List.length_cons, List.length_nil, List.length_map]; omega)) [ex]⟩)]
    have hg2 : ∀ o, (g ++ [o])[m]? = some (.lst (acc.map nD)) := fun o => by rw [List.getElem?_append_left (List.getElem?_eq_some_iff.mp hg).1]; exact hg
    simp (disch := first | assumption | omega | (simp only [List.length_cons, List.length_nil, List.length_map]; omega)) [nl2, hg2, e1, e2, e3, e4, e5, e6]
    conv => rhs; rw [gf]
    rw [List.map_append, List.map_replicate]
    rfl
end Sm
namespace Sm
open PySem PySem.Spec PyProof.Rows L2
theorem take_snoc {α : Type} {xs : List α} {i : Nat} {x : α} (h : xs[i]? = some x) : xs.take (i + 1) = xs.take i ++ [x] := by
  rw [List.take_add_one, h]
  rfl
theorem flat_len_le {segs : List (List Nat)} : ∀ (i : Nat), ((segs.take i).flatten).length ≤ segs.flatten.length := fun i => by
  conv => rhs; rw [← List.take_append_drop i segs]
  rw [List.flatten_append, List.length_append]
  omega
theorem segsOk_len : ∀ {dl : List Dat} {segs : List (List Nat)}, SegsOk dl segs → segs.length = dl.length
  | [], [], _ => rfl
  | _ :: _, _ :: _, h => by rw [List.length_cons, List.length_cons, segsOk_len h.2]
theorem law_row_ok {h : AH} {S : Sys} {pr : List Nat} {segs : List (List Nat)} {vs : List D} {row : List Nat} (ok : S.Ok) (hp : PlsOk S.prcs pr) (hf : FirstOk S.prcs pr) (hs : SegsOk S.dats segs) (hv : valsOf S.dats segs = some vs) (hr : row = pr ++ segs.flatten) :
    F_law_row [S.d, .tup [.tup ((plsOf S.prcs pr).map D.str), .tup vs]] h = some (.tup (row.map nD), h) := by
  have pl := plsOk_len hp
  have pl2 := plsOf_len hp
  have vl := (valsOf_low hv).2
  have ct := ct_sys hp hs
  rw [← hr] at ct
  have cl := cells_len ok
  have np := ok.np
  have nd := ok.nd
  have rl : pr.length + segs.flatten.length ≤ 10100 := by
    have := ct.len
    rw [hr, List.length_append] at this
    omega
  have z1 : ((plsOf S.prcs pr).length : Int) < 4611686018427387904 := by omega
  have z2 : (vs.length : Int) < 4611686018427387904 := by omega
  unfold F_law_row b_law_row
  simp (disch := first | assumption | omega | (simp only [List.length_cons, List.length_nil, List.length_map]; omega)) [runDef_if, z1]
  obtain ⟨τ', h', e, P⟩ := forRg0 (g := gN 3) (body := l_law_row_1) (n := (plsOf S.prcs pr).length)
    (fun i τ hh => ∃ y3, i ≤ pr.length ∧ τ = [some S.d, some (.tup [.tup ((plsOf S.prcs pr).map D.str), .tup vs]), some (.ref h.length), y3, none, none, none, none] ∧ hh = h ++ [.lst ((pr.take i).map nD)])
    (fun i hi τ hh ⟨y3, h0, h1, h2⟩ => by
      subst h1 h2
      have hk : pr[i]? = some (pr[i]'(by omega)) := List.getElem?_eq_getElem (by omega)
      have e := lrow1_turn (h := h) (vs := .tup vs) (acc := (pr.take i).map nD) (y3 := none) ok hp hf (by omega) hk (by simp; omega)
      refine ⟨_, _, _, _, rfl, .inl e, some (nD i), by omega, rfl, ?_⟩
      rw [take_snoc hk, List.map_append]
      rfl)
    [some S.d, some (.tup [.tup ((plsOf S.prcs pr).map D.str), .tup vs]), some (.ref h.length), none, none, none, none, none] (h ++ [.lst []]) ⟨none, Nat.zero_le _, rfl, rfl⟩
  rw [e]
  obtain ⟨y3, h0, h1, h2⟩ := P
  subst h1 h2
  rw [pl2, ← pl, List.take_length]
  simp (disch := first | assumption | omega | (simp only [List.length_cons, List.length_nil, List.length_map]; omega)) [z2]
  obtain ⟨τ', h', e2, P⟩ := forRg0 (g := gN 3) (body := l_law_row_2) (n := vs.length)
    (fun i τ hh => ∃ m z3 z4 z5 g, i ≤ vs.length ∧ g[m]? = some (.lst ((pr ++ (segs.take i).flatten).map nD)) ∧ τ = [some S.d, some (.tup [.tup ((plsOf S.prcs pr).map D.str), .tup vs]), some (.ref (h.length + m)), z3, z4, z5, none, none] ∧ hh = h ++ g)
    (fun i hi τ hh ⟨m, z3, z4, z5, g, h0, h1, h2, h3⟩ => by
      subst h2 h3
      obtain ⟨s, v, s1, s2, s3, s4⟩ := vals_get (i := i) (by omega) hv hs
      have tk := take_snoc s1
      obtain ⟨m', w4, w5, g', a1, a2⟩ := lrow2_turn (h := h) (pls := .tup ((plsOf S.prcs pr).map D.str)) (y4 := z4) (y5 := z5) ok (by omega) s2 s3 s4 h1 (by
        have := flat_len_le (segs := segs) (i + 1)
        rw [tk, List.flatten_append, List.length_append] at this
        simp only [List.flatten_cons, List.flatten_nil, List.append_nil] at this
        rw [List.length_append]
        omega)
      refine ⟨_, _, _, _, rfl, .inl a2, m', some (nD i), w4, w5, g', by omega, ?_, rfl, rfl⟩
      rw [a1, tk, List.flatten_append]
      simp only [List.flatten_cons, List.flatten_nil, List.append_nil, List.append_assoc])
    [some S.d, some (.tup [.tup ((plsOf S.prcs pr).map D.str), .tup vs]), some (.ref h.length), y3, none, none, none, none] (h ++ [.lst (pr.map nD)]) ⟨0, y3, none, none, [.lst (pr.map nD)], Nat.zero_le _, by simp, rfl, rfl⟩
  rw [e2]
  obtain ⟨m, z3, z4, z5, g, i0, i1, i2, i3⟩ := P
  subst i2 i3
  rw [vl, ← segsOk_len hs, List.take_length, ← hr] at i1
  simp (disch := first | assumption | omega | (simp only [List.length_cons, List.length_nil, List.length_map]; omega)) [i1]
  rw [gc_pure (d := .tup (row.map nD)) (by rw [low_tup]; exact lows_map (fun _ => rfl) _)]
end Sm
namespace Sm
open PySem PySem.Spec PyProof.Rows L2
section
variable {h j : AH} {b dg : Nat} {ds : List Int} {p q : Int} {sys nm : D} {vs : List D} {x2 y5 y6 y7 : Option D} {turn slot : Int} {row : List Nat}
theorem rcell0 (B : Bx h b dg ds p) (hq : 0 ≤ q) (hp : q < 900000) (h0 : 0 < vs.length) (hs : slot ≤ 1) (rl : row.length < 16777216) :
    ∃ x q' z6 z7, x < vs.length ∧ q ≤ q' ∧ q' ≤ q + 1 ∧
    l_law_rows_of_1 [some (.ref b), some sys, x2, some (.int turn), some (.ref (h.length + j.length)), some (.tup [nm, .int slot, .tup vs]), y6, y7] (bset h b dg q ++ (j ++ [.lst (row.map nD)]))
      = some (.nx [some (.ref b), some sys, x2, some (.int turn), some (.ref (h.length + j.length)), some (.tup [nm, .int slot, .tup vs]), z6, z7] (bset h b dg q' ++ (j ++ [.lst ((row ++ [x]).map nD)]))) := by
  have DR := fun (q : Int) (j : AH) (m : Int) (a1 : 0 ≤ q) (a2 : q < 1000000) (a3 : 0 < m) => draw_loc (j := j) B a1 a2 a3
  have k0 := dr_lo (ds := ds) (p := q) (m := vs.length) (by omega)
  have k1 := dr_hi (ds := ds) (p := q) (m := vs.length) (by omega)
  obtain ⟨x, hx⟩ := Int.eq_ofNat_of_zero_le k0
  have h0' : 0 < (vs.length : Int) := by omega
  have hs' : ¬ 1 < slot := by omega
  refine ⟨x, q + 1, some (.int vs.length), some (.bl false), by omega, by omega, by omega, ?_⟩
  unfold l_law_rows_of_1
  simp (disch := first | assumption | omega | (simp only [List.length_cons, List.length_nil, List.length_map]; omega)) [hs', DR, hx, rl]
theorem rcell1 {l : Nat} (B : Bx h b dg ds p) (hq : 0 ≤ q) (hp : q < 900000) (h0 : 0 < vs.length) (hs : 1 < slot) (rl : row.length < 16777215) :
    ∃ x q' z6 z7, x < vs.length ∧ q ≤ q' ∧ q' ≤ q + 1 ∧ (turn < 2 → l = 0 → x = 0) ∧
    l_law_rows_of_1 [some (.ref b), some sys, x2, some (.int turn), some (.ref (h.length + j.length)), some (.tup [nm, .int slot, .tup vs]), y6, y7] (bset h b dg q ++ (j ++ [.lst ((row ++ [l]).map nD)]))
      = some (.nx [some (.ref b), some sys, x2, some (.int turn), some (.ref (h.length + j.length)), some (.tup [nm, .int slot, .tup vs]), z6, z7] (bset h b dg q' ++ (j ++ [.lst ((row ++ [l] ++ [x]).map nD)]))) := by
  have DR := fun (q : Int) (j : AH) (m : Int) (a1 : 0 ≤ q) (a2 : q < 1000000) (a3 : 0 < m) => draw_loc (j := j) B a1 a2 a3
  have k0 := dr_lo (ds := ds) (p := q) (m := vs.length) (by omega)
  have k1 := dr_hi (ds := ds) (p := q) (m := vs.length) (by omega)
  obtain ⟨x, hx⟩ := Int.eq_ofNat_of_zero_le k0
  have h0' : 0 < (vs.length : Int) := by omega
  have rl' : row.length + 1 < 16777216 := by omega
  by_cases c : l = 0 ∧ turn < 2
  · obtain ⟨c1, c2⟩ := c
    refine ⟨0, q, some (.int vs.length), some (.bl true), by omega, by omega, by omega, fun _ _ => rfl, ?_⟩
    unfold l_law_rows_of_1
    simp (disch := first | assumption | omega | (simp only [List.length_cons, List.length_nil, List.length_map]; omega)) [hs, c1, c2, atI_m1, rl']
  · refine ⟨x, q + 1, some (.int vs.length), some (.bl false), by omega, by omega, by omega, fun a b => absurd ⟨b, a⟩ c, ?_⟩
    unfold l_law_rows_of_1
    by_cases c1 : l = 0
    · have c2 : ¬ turn < 2 := fun z => c ⟨c1, z⟩
      simp (disch := first | assumption | omega | (simp only [List.length_cons, List.length_nil, List.length_map]; omega)) [hs, c1, c2, atI_m1, DR, hx, rl']
    · simp (disch := first | assumption | omega | (simp only [List.length_cons, List.length_nil, List.length_map]; omega)) [hs, c1, atI_m1, DR, hx, rl']
end
end Sm
namespace Sm
open PySem PySem.Spec PyProof.Rows L2
/-- a gap is followed by gaps -/
def Mz : List Nat → Prop
  | x :: y :: r => (x = 0 → y = 0) ∧ Mz (y :: r)
  | _ => True
theorem mz_zero : ∀ {r : List Nat}, Mz (0 :: r) → nz r = []
  | [], _ => rfl
  | y :: r, h => by
    have hy := h.1 rfl
    subst hy
    have := mz_zero h.2
    exact (List.filter_cons_of_neg (by simp)).trans this
theorem mz_tail {x : Nat} {r : List Nat} (h : Mz (x :: r)) : Mz r := by
  cases r with
  | nil => trivial
  | cons y t => exact h.2
theorem mz_gd : ∀ {s : List Nat}, Mz s → gd s = true
  | [], _ => rfl
  | x :: r, h => by
    by_cases hx : 0 < x
    · have e : nz (x :: r) = x :: nz r := List.filter_cons_of_pos (by simpa using hx)
      have := of_decide_eq_true (mz_gd (mz_tail h))
      unfold gd
      rw [e, List.length_cons, List.take_succ_cons, this]
      exact decide_eq_true rfl
    · have hx : x = 0 := by omega
      subst hx
      have e : nz (0 :: r) = [] := (List.filter_cons_of_neg (by simp)).trans (mz_zero h)
      unfold gd
      rw [e]
      rfl
theorem rngD_cons {lo : Int} {n : Nat} : rngD lo (n + 1) = .int lo :: rngD (lo + 1) n := by
  unfold rngD
  rw [List.range_succ_eq_map, List.map_cons, List.map_map]
  congr 1
  · congr 1; omega
  · exact List.map_congr_left fun i _ => by show D.int (lo + (i + 1 : Nat)) = .int (lo + 1 + (i : Nat)); congr 1; omega
section
variable {h j : AH} {b dg : Nat} {ds : List Int} {p : Int} {sys : D} {x2 : Option D} {turn : Int}
theorem r_prcs (B : Bx h b dg ds p) : ∀ (ps : List Prc) (row : List Nat) (q : Int) (y5 y6 y7 : Option D), (∀ p ∈ ps, 0 < p.places.length) → 0 ≤ q → q + ps.length < 900000 → row.length + ps.length < 16777216 →
    ∃ pr q' z5 z6 z7, PlsOk ps pr ∧ q ≤ q' ∧ q' ≤ q + ps.length ∧ ∀ rest, forL [] (gN 5) l_law_rows_of_1 (ps.map (fun p => .tup [.str p.nm, .int 0, .tup (p.places.map D.str)]) ++ rest) [some (.ref b), some sys, x2, some (.int turn), some (.ref (h.length + j.length)), y5, y6, y7] (bset h b dg q ++ (j ++ [.lst (row.map nD)]))
      = forL [] (gN 5) l_law_rows_of_1 rest [some (.ref b), some sys, x2, some (.int turn), some (.ref (h.length + j.length)), z5, z6, z7] (bset h b dg q' ++ (j ++ [.lst ((row ++ pr).map nD)]))
  | [], row, q, y5, y6, y7, _, _, _, _ => ⟨[], q, y5, y6, y7, trivial, by omega, by simp, fun rest => by rw [List.append_nil]; rfl⟩
  | P :: ps, row, q, y5, y6, y7, h0, hq, hp, rl => by
    rw [List.length_cons] at hp rl
    obtain ⟨x, q1, z6, z7, a1, a2, a3, e⟩ := rcell0 (j := j) (sys := sys) (nm := .str P.nm) (vs := P.places.map D.str) (x2 := x2) (turn := turn) (slot := 0) (row := row) (y6 := y6) (y7 := y7) B hq (by omega) (by simpa using h0 P List.mem_cons_self) (by omega) (by omega)
    obtain ⟨pr, q2, w5, w6, w7, b1, b2, b3, e2⟩ := r_prcs B ps (row ++ [x]) q1 (some (.tup [.str P.nm, .int 0, .tup (P.places.map D.str)])) z6 z7 (fun p hp => h0 p (List.mem_cons_of_mem _ hp)) (by omega) (by omega) (by simp; omega)
    refine ⟨x :: pr, q2, w5, w6, w7, ⟨by simpa using a1, b1⟩, by omega, by rw [List.length_cons]; omega, fun rest => ?_⟩
    have := e2 rest
    rw [List.append_assoc] at this
    rw [List.map_cons, List.cons_append]
    exact (forL_cons rfl rfl e).trans this
theorem r_que (B : Bx h b dg ds p) {nm : D} {vs : List D} (v0 : 0 < vs.length) : ∀ (n : Nat) (k : Int) (row : List Nat) (l : Nat) (q : Int) (y5 y6 y7 : Option D), 1 < k → 0 ≤ q → q + n < 900000 → row.length + n < 16777215 →
    ∃ s q' z5 z6 z7, s.length = n ∧ (∀ x ∈ s, x < vs.length) ∧ (turn < 2 → Mz (l :: s)) ∧ q ≤ q' ∧ q' ≤ q + n ∧ ∀ rest, forL [] (gN 5) l_law_rows_of_1 ((rngD k n).map (fun i => .tup [nm, i, .tup vs]) ++ rest) [some (.ref b), some sys, x2, some (.int turn), some (.ref (h.length + j.length)), y5, y6, y7] (bset h b dg q ++ (j ++ [.lst ((row ++ [l]).map nD)]))
      = forL [] (gN 5) l_law_rows_of_1 rest [some (.ref b), some sys, x2, some (.int turn), some (.ref (h.length + j.length)), z5, z6, z7] (bset h b dg q' ++ (j ++ [.lst ((row ++ [l] ++ s).map nD)]))
  | 0, k, row, l, q, y5, y6, y7, _, _, _, _ => ⟨[], q, y5, y6, y7, rfl, fun _ h => (by cases h), fun _ => trivial, by omega, by omega, fun rest => by rw [List.append_nil]; rfl⟩
  | n + 1, k, row, l, q, y5, y6, y7, hk, hq, hp, rl => by
    obtain ⟨x, q1, z6, z7, a1, a2, a3, a4, e⟩ := rcell1 (j := j) (sys := sys) (nm := nm) (vs := vs) (x2 := x2) (turn := turn) (slot := k) (row := row) (l := l) (y6 := y6) (y7 := y7) B hq (by omega) v0 hk (by omega)
    obtain ⟨s, q2, w5, w6, w7, b1, b2, b3, b4, b5, e2⟩ := r_que B v0 n (k + 1) (row ++ [l]) x q1 (some (.tup [nm, .int k, .tup vs])) z6 z7 (by omega) (by omega) (by omega) (by simp; omega)
    refine ⟨x :: s, q2, w5, w6, w7, by rw [List.length_cons, b1], fun y hy => ?_, fun t => ⟨a4 t, b3 t⟩, by omega, by omega, fun rest => ?_⟩
    · rcases List.mem_cons.mp hy with z | z
      · rw [z]; exact a1
      · exact b2 y z
    · have := e2 rest
      rw [List.append_assoc (row ++ [l])] at this
      rw [rngD_cons, List.map_cons, List.cons_append]
      exact (forL_cons rfl rfl e).trans this
theorem r_dat (B : Bx h b dg ds p) {d : Dat} {row : List Nat} {q : Int} {y5 y6 y7 : Option D} (ok : d.Ok) (hq : 0 ≤ q) (hp : q < 800000) (rl : row.length < 16000000) :
    ∃ s q' z5 z6 z7, SegOk d s ∧ (turn < 2 → ∃ v, valOf d s = some v) ∧ q ≤ q' ∧ q' ≤ q + 100 ∧ ∀ rest, forL [] (gN 5) l_law_rows_of_1 (d.cells ++ rest) [some (.ref b), some sys, x2, some (.int turn), some (.ref (h.length + j.length)), y5, y6, y7] (bset h b dg q ++ (j ++ [.lst (row.map nD)]))
      = forL [] (gN 5) l_law_rows_of_1 rest [some (.ref b), some sys, x2, some (.int turn), some (.ref (h.length + j.length)), z5, z6, z7] (bset h b dg q' ++ (j ++ [.lst ((row ++ s).map nD)])) := by
  cases d with
  | num nm lo hi fi =>
    obtain ⟨a, b', c⟩ := ok
    obtain ⟨x, q1, z6, z7, a1, a2, a3, e⟩ := rcell0 (j := j) (sys := sys) (nm := .str nm) (vs := rngD lo (hi + 1 - lo).toNat) (x2 := x2) (turn := turn) (slot := 0) (row := row) (y6 := y6) (y7 := y7) B hq (by omega) (by rw [rngD_len]; omega) (by omega) (by omega)
    rw [rngD_len] at a1
    refine ⟨[x], q1, _, z6, z7, ⟨rfl, fun y hy => by rw [List.mem_singleton] at hy; rw [hy]; exact a1⟩, fun _ => ⟨_, rfl⟩, by omega, by omega, fun rest => forL_cons rfl rfl e⟩
  | que nm room lo hi =>
    obtain ⟨r0, r1, a, b', c⟩ := ok
    have hc : Dat.cells (.que nm room lo hi) = (rngD 1 room.toNat).map fun i => .tup [.str nm, i, .tup (.non :: rngD lo (hi + 1 - lo).toNat)] := rfl
    rw [hc]
    have sz : (D.non :: rngD lo (hi + 1 - lo).toNat).length = (hi + 1 - lo).toNat + 1 := by rw [List.length_cons, rngD_len]
    cases hn : room.toNat with
    | zero =>
      refine ⟨[], q, y5, y6, y7, ⟨hn.symm, fun _ h => (by cases h)⟩, fun _ => ⟨_, valOf_t rfl⟩, by omega, by omega, fun rest => by rw [List.append_nil]; rfl⟩
    | succ n =>
      obtain ⟨x, q1, z6, z7, a1, a2, a3, e⟩ := rcell0 (j := j) (sys := sys) (nm := .str nm) (vs := .non :: rngD lo (hi + 1 - lo).toNat) (x2 := x2) (turn := turn) (slot := 1) (row := row) (y6 := y6) (y7 := y7) B hq (by omega) (by rw [sz]; omega) (by omega) (by omega)
      obtain ⟨s, q2, w5, w6, w7, b1, b2, b3, b4, b5, e2⟩ := r_que (h := h) (j := j) (sys := sys) (x2 := x2) (turn := turn) B (nm := .str nm) (vs := .non :: rngD lo (hi + 1 - lo).toNat) (by rw [sz]; omega) n (1 + 1) row x q1 (some (.tup [.str nm, .int 1, .tup (.non :: rngD lo (hi + 1 - lo).toNat)])) z6 z7 (by omega) (by omega) (by omega) (by omega)
      refine ⟨x :: s, q2, w5, w6, w7, ⟨by rw [List.length_cons, b1]; exact hn.symm, fun y hy => ?_⟩, fun t => ⟨_, valOf_t (mz_gd (b3 t))⟩, by omega, by omega, fun rest => ?_⟩
      · rw [sz] at a1 b2
        rcases List.mem_cons.mp hy with z | z
        · rw [z]; exact a1
        · exact b2 y z
      · have := e2 rest
        rw [List.append_assoc] at this
        rw [rngD_cons, List.map_cons, List.cons_append]
        exact (forL_cons rfl rfl e).trans this
theorem r_dats (B : Bx h b dg ds p) : ∀ (dl : List Dat) (row : List Nat) (q : Int) (y5 y6 y7 : Option D), (∀ d ∈ dl, d.Ok) → 0 ≤ q → q + 100 * dl.length < 800000 → row.length + 100 * dl.length < 16000000 →
    ∃ segs q' z5 z6 z7, SegsOk dl segs ∧ (turn < 2 → ∃ vs, valsOf dl segs = some vs) ∧ q ≤ q' ∧ q' ≤ q + 100 * dl.length ∧ ∀ rest, forL [] (gN 5) l_law_rows_of_1 (dl.flatMap Dat.cells ++ rest) [some (.ref b), some sys, x2, some (.int turn), some (.ref (h.length + j.length)), y5, y6, y7] (bset h b dg q ++ (j ++ [.lst (row.map nD)]))
      = forL [] (gN 5) l_law_rows_of_1 rest [some (.ref b), some sys, x2, some (.int turn), some (.ref (h.length + j.length)), z5, z6, z7] (bset h b dg q' ++ (j ++ [.lst ((row ++ segs.flatten).map nD)]))
  | [], row, q, y5, y6, y7, _, _, _, _ => ⟨[], q, y5, y6, y7, trivial, fun _ => ⟨_, rfl⟩, by omega, by simp, fun rest => by rw [List.flatten_nil, List.append_nil]; rfl⟩
  | d :: dl, row, q, y5, y6, y7, ok, hq, hp, rl => by
    rw [List.length_cons] at hp rl
    obtain ⟨s, q1, z5, z6, z7, a1, a2, a3, a4, e⟩ := r_dat (h := h) (j := j) (sys := sys) (x2 := x2) (turn := turn) (d := d) (row := row) (q := q) (y5 := y5) (y6 := y6) (y7 := y7) B (ok d List.mem_cons_self) hq (by omega) (by omega)
    have sl : s.length ≤ 100 := by
      rw [← (ct_dat a1).len]
      exact dat_cells_len (ok d List.mem_cons_self)
    obtain ⟨segs, q2, w5, w6, w7, b1, b2, b3, b4, e2⟩ := r_dats B dl (row ++ s) q1 z5 z6 z7 (fun x hx => ok x (List.mem_cons_of_mem _ hx)) (by omega) (by omega) (by simp; omega)
    refine ⟨s :: segs, q2, w5, w6, w7, ⟨a1, b1⟩, fun t => ?_, by omega, by rw [List.length_cons]; omega, fun rest => ?_⟩
    · obtain ⟨v, hv⟩ := a2 t
      obtain ⟨vs, hvs⟩ := b2 t
      exact ⟨v :: vs, by unfold valsOf; rw [hv, hvs]; rfl⟩
    · rw [List.flatMap_cons, List.append_assoc, e, e2, List.flatten_cons, List.append_assoc]
end
end Sm
namespace Sm
open PySem PySem.Spec PyProof.Rows L2
def RowOk (S : Sys) (row : List Nat) : Prop := ∃ pr segs, PlsOk S.prcs pr ∧ SegsOk S.dats segs ∧ row = pr ++ segs.flatten
def RowGd (S : Sys) (row : List Nat) : Prop := ∃ pr segs vs, PlsOk S.prcs pr ∧ SegsOk S.dats segs ∧ valsOf S.dats segs = some vs ∧ row = pr ++ segs.flatten
def tupN (row : List Nat) : D := .tup (row.map nD)
theorem tupN_low {n : Nat} (row : List Nat) : (tupN row).low n = true := by
  unfold tupN
  rw [low_tup]
  exact lows_map (fun _ => rfl) _
theorem tupNs_low {n : Nat} (R : List (List Nat)) : D.lows n (R.map tupN) = true := lows_map tupN_low R
theorem RowOk.len {S : Sys} {row : List Nat} (ok : S.Ok) (h : RowOk S row) : row.length ≤ 10100 := by
  obtain ⟨pr, segs, a, b, rfl⟩ := h
  rw [← (ct_sys a b).len]
  exact cells_len ok
section
variable {h j : AH} {b dg : Nat} {ds : List Int} {p q : Int} {S : Sys}
theorem rows_turn (B : Bx h b dg ds p) (F : S.Fi) {i : Nat} {R : List (List Nat)} {g : AH} {y3 y4 y5 y6 y7 : Option D} (hq : 0 ≤ q) (hp : q < 600000) (hR : R.length < 10) :
    ∃ row q' g' z4 z5 z6 z7, RowOk S row ∧ (i < 2 → RowGd S row) ∧ q ≤ q' ∧ q' ≤ q + 10100 ∧
    l_law_rows_of_2 [some (.ref b), some S.d, some (.ref (h.length + j.length)), some (.int (i : Int)), y4, y5, y6, y7] (bset h b dg q ++ (j ++ .lst (R.map tupN) :: g))
      = some (.nx [some (.ref b), some S.d, some (.ref (h.length + j.length)), some (.int (i : Int)), z4, z5, z6, z7] (bset h b dg q' ++ (j ++ .lst ((R ++ [row]).map tupN) :: g'))) := by
  have np := F.ok.np
  have nd := F.ok.nd
  obtain ⟨pr, q1, z5, z6, z7, a1, a2, a3, e1⟩ := r_prcs (h := h) (j := j ++ .lst (R.map tupN) :: g) (sys := S.d) (x2 := some (.ref (h.length + j.length))) (turn := i) B S.prcs [] q y5 y6 y7 F.pl hq (by omega) (by simp; omega)
  have pl := plsOk_len a1
  obtain ⟨segs, q2, w5, w6, w7, b1, b2, b3, b4, e2⟩ := r_dats (h := h) (j := j ++ .lst (R.map tupN) :: g) (sys := S.d) (x2 := some (.ref (h.length + j.length))) (turn := i) B S.dats pr q1 z5 z6 z7 F.ok.dat (by omega) (by omega) (by omega)
  have ro : RowOk S (pr ++ segs.flatten) := ⟨pr, segs, a1, b1, rfl⟩
  have rl := ro.len F.ok
  have e3 := (e1 (S.dats.flatMap Dat.cells ++ [])).trans (e2 [])
  rw [List.append_nil, forL_nil rfl, ← Sys.cells] at e3
  refine ⟨pr ++ segs.flatten, q2, g ++ [.lst ((pr ++ segs.flatten).map nD)], some (.ref (h.length + (j.length + (g.length + 1)))), w5, w6, w7, ro, fun t => ?_, by omega, by omega, ?_⟩
  · obtain ⟨vs, hv⟩ := b2 (by omega)
    exact ⟨pr, segs, vs, a1, b1, hv, rfl⟩
  · unfold l_law_rows_of_2
    have lc := law_cells_ok (h := bset h b dg q ++ (j ++ .lst (R.map tupN) :: (g ++ [.lst []]))) F.ok
    generalize hrow : pr ++ segs.flatten = row at *
    have t1 : ∀ row : List Nat, tupN row = .tup (row.map nD) := fun _ => rfl
    simp (disch := first | assumption | omega | (simp only [List.length_cons, List.length_nil, List.length_map]; omega)) [] at e3
    simp (disch := first | assumption | omega | (simp only [List.length_cons, List.length_nil, List.length_map]; omega)) [lc, e3]
    have hR' : R.length < 16777216 := by omega
    simp (disch := first | assumption | omega | (simp only [List.length_cons, List.length_nil, List.length_map]; omega)) [hR', t1]
theorem rows_of_loc (B : Bx h b dg ds p) (F : S.Fi) (hq : 0 ≤ q) (hp : q < 500000) :
    ∃ R : List (List Nat), ∃ q', R.length = 4 ∧ (∀ r ∈ R, RowOk S r) ∧ (∀ r ∈ R.take 2, RowGd S r) ∧ q ≤ q' ∧ q' ≤ q + 40400 ∧
    F_law_rows_of [.ref b, S.d] (bset h b dg q ++ j) = some (.ref (h.length + j.length), bset h b dg q' ++ (j ++ [.lst (R.map tupN)])) := by
  obtain ⟨τ', h', e, P⟩ := forRg0 (g := gN 3) (body := l_law_rows_of_2) (n := 4)
    (fun i τ hh => ∃ (R : List (List Nat)) (q' : Int) (g : AH) (y3 y4 y5 y6 y7 : Option D), R.length = i ∧ (∀ r ∈ R, RowOk S r) ∧ (∀ r ∈ R.take 2, RowGd S r) ∧ q ≤ q' ∧ q' ≤ q + 10100 * i ∧ τ = [some (.ref b), some S.d, some (.ref (h.length + j.length)), y3, y4, y5, y6, y7] ∧ hh = bset h b dg q' ++ (j ++ .lst (R.map tupN) :: g))
    (fun i hi τ hh ⟨R, q', g, y3, y4, y5, y6, y7, h1, h2, h3, h4, h5, h6, h7⟩ => by
      subst h6 h7
      obtain ⟨row, q1, g1, z4, z5, z6, z7, a1, a2, a3, a4, e⟩ := rows_turn (h := h) (j := j) (S := S) (i := i) (R := R) (g := g) (q := q') (y3 := y3) (y4 := y4) (y5 := y5) (y6 := y6) (y7 := y7) B F (by omega) (by omega) (by omega)
      refine ⟨_, _, _, _, rfl, .inl e, R ++ [row], q1, g1, some (.int i), z4, z5, z6, z7, by simp [h1], fun r hr => ?_, fun r hr => ?_, by omega, by omega, rfl, rfl⟩
      · rcases List.mem_append.mp hr with z | z
        · exact h2 r z
        · rw [List.mem_singleton] at z
          rw [z]; exact a1
      · rw [List.take_append] at hr
        rcases List.mem_append.mp hr with z | z
        · exact h3 r z
        · have hm := List.mem_of_mem_take z
          rw [List.mem_singleton] at hm
          rw [hm]
          refine a2 ?_
          rcases Nat.lt_or_ge i 2 with c | c
          · exact c
          · rw [show 2 - R.length = 0 by omega, List.take_zero] at z
            cases z)
    [some (.ref b), some S.d, some (.ref (h.length + j.length)), none, none, none, none, none] (bset h b dg q ++ (j ++ [.lst []])) ⟨[], q, [], none, none, none, none, none, rfl, fun _ h => (by cases h), fun _ h => (by cases h), by omega, by omega, rfl, rfl⟩
  obtain ⟨R, q', g, y3, y4, y5, y6, y7, h1, h2, h3, h4, h5, h6, h7⟩ := P
  subst h6 h7
  refine ⟨R, q', h1, h2, h3, by omega, by omega, ?_⟩
  unfold F_law_rows_of b_law_rows_of
  have g := gc_locL (j := j) (j' := .lst (R.map tupN) :: g) (k := 0) (q' := q') B hq rfl (tupNs_low R)
  simp (disch := first | assumption | omega | (simp only [List.length_cons, List.length_nil, List.length_map]; omega)) [runDef_if, e]
  simpa using g
end
end Sm
namespace Sm
open PySem PySem.Spec PyProof.Rows L2
section
variable {h : AH} {sys nm : D} {vs : List D} {slot : Int} {y1 y2 y3 y4 y5 : Option D}
/-- what a row may be followed by -/
def Nx (vs : List D) (slot : Int) (r : List Nat) (x : Nat) : Prop := x < vs.length ∧ (slot < 2 ∨ x = 0 ∨ ∃ l, r.getLast? = some l ∧ 0 < l)
def cc (slot : Int) (r : List Nat) (x : Nat) : Bool := decide (slot < 2) || (decide (x = 0) || decide (0 < r.getLast?.getD 0))
theorem all_row {g : AH} {m a : Nat} {L : List (List Nat)} {r : List Nat} (hl : g[m]? = some (.lst (L.map tupN))) (h3 : vs.length ≤ 3) (hL : L.length ≤ 1000000) (hr : r.length < 1000) (hs : slot < 2 ∨ ∃ l, r.getLast? = some l) :
    ∃ L' : List (List Nat), L'.length ≤ L.length + vs.length ∧ (∀ t ∈ L', t ∈ L ∨ ∃ x, Nx vs slot r x ∧ t = r ++ [x]) ∧
    l_law_all_1 [some sys, some (.ref a), some (.tup [nm, .int slot, .tup vs]), some (.ref (h.length + m)), some (tupN r), none] (h ++ g)
      = some (.nx [some sys, some (.ref a), some (.tup [nm, .int slot, .tup vs]), some (.ref (h.length + g.length)), some (tupN r), none] (h ++ (g ++ [.lst (L'.map tupN)]))) := by
  have n2 : (vs.length : Int) < 4611686018427387904 := by omega
  have fl : ((List.range vs.length).filter (cc slot r)).length ≤ vs.length := by
    have := List.length_filter_le (cc slot r) (List.range vs.length)
    rwa [List.length_range] at this
  have f1 : ((List.range vs.length).filter (cc slot r)).length ≤ 16777216 := by omega
  have f2 : L.length + ((List.range vs.length).filter (cc slot r)).length ≤ 16777216 := by omega
  refine ⟨L ++ ((List.range vs.length).filter (cc slot r)).map fun x => r ++ [x], by simp; exact fl, fun t ht => ?_, ?_⟩
  · rcases List.mem_append.mp ht with z | z
    · exact .inl z
    · obtain ⟨x, hx, rfl⟩ := List.mem_map.mp z
      obtain ⟨hx1, hx2⟩ := List.mem_filter.mp hx
      refine .inr ⟨x, ⟨List.mem_range.mp hx1, ?_⟩, rfl⟩
      unfold cc at hx2
      rw [Bool.or_eq_true, Bool.or_eq_true, decide_eq_true_iff, decide_eq_true_iff, decide_eq_true_iff] at hx2
      rcases hx2 with c | c | c
      · exact .inl c
      · exact .inr (.inl c)
      · refine .inr (.inr ?_)
        cases q : r.getLast? with
        | none => rw [q] at c; cases c
        | some l => rw [q] at c; exact ⟨l, rfl, c⟩
  · have hr1 : r.length + 1 ≤ 16777216 := by omega
    have tn : tupN r = .tup (r.map nD) := rfl
    unfold l_law_all_1
    simp (disch := first | assumption | omega | (simp only [List.length_cons, List.length_nil, List.length_map]; omega)) [hl, n2]
    rw [rng0, compL_filterT (t := nD) (cc slot r) (fun x => tupN (r ++ [x])) rfl _ (fun x hx => by
      refine ⟨_, rfl, ?_, fun _ => ?_⟩
      · by_cases c : slot < 2
        · have : cc slot r x = true := by unfold cc; rw [decide_eq_true c]; rfl
          rw [this]
          simp (disch := first | assumption | omega | (simp only [List.length_cons, List.length_nil, List.length_map]; omega)) [c]
        · rcases hs with c' | ⟨l, hl'⟩
          · exact absurd c' c
          · by_cases cx : x = 0
            · have : cc slot r x = true := by unfold cc; rw [decide_eq_true cx]; simp
              rw [this]
              simp (disch := first | assumption | omega | (simp only [List.length_cons, List.length_nil, List.length_map]; omega)) [c, cx]
            · have : cc slot r x = decide (0 < l) := by unfold cc; rw [hl', decide_eq_false c, decide_eq_false cx]; rfl
              rw [this]
              simp (disch := first | assumption | omega | (simp only [List.length_cons, List.length_nil, List.length_map]; omega)) [c, cx, tn, atI_m1, hl']
      · rw [tn]
        simp (disch := first | assumption | omega | (simp only [List.length_cons, List.length_nil, List.length_map]; omega)) [hr1]
        unfold tupN
        simp)]
    simp (disch := first | assumption | omega | (simp only [List.length_cons, List.length_nil, List.length_map]; omega)) [f1, f2, hl]
theorem all_cell {g : AH} {m : Nat} {Rs : List (List Nat)} (hm : g[m]? = some (.lst (Rs.map tupN))) (h3 : vs.length ≤ 3) (hL : Rs.length ≤ 300000) (hr : ∀ r ∈ Rs, r.length < 1000 ∧ (slot < 2 ∨ ∃ l, r.getLast? = some l)) :
    ∃ (L : List (List Nat)) (m' : Nat) (g' : AH) (z3 z4 : Option D), L.length ≤ 3 * Rs.length ∧ (∀ t ∈ L, ∃ r ∈ Rs, ∃ x, Nx vs slot r x ∧ t = r ++ [x]) ∧ g'[m']? = some (.lst (L.map tupN)) ∧
    l_law_all_2 [some sys, some (.ref (h.length + m)), some (.tup [nm, .int slot, .tup vs]), y3, y4, none] (h ++ g)
      = some (.nx [some sys, some (.ref (h.length + m')), some (.tup [nm, .int slot, .tup vs]), z3, z4, none] (h ++ g')) := by
  have gm := (List.getElem?_eq_some_iff.mp hm).1
  obtain ⟨τ', h', e, P⟩ := forIx (grd := [(h.length + m, Rs.map tupN)]) (g := gN 4) (body := l_law_all_1) (xs := Rs.map tupN)
    (fun i τ hh => ∃ (L : List (List Nat)) (m2 : Nat) (g' : AH) (y4 : Option D), L.length ≤ 3 * i ∧ i ≤ Rs.length ∧ (∀ t ∈ L, ∃ r ∈ Rs, ∃ x, Nx vs slot r x ∧ t = r ++ [x]) ∧ g'[m2]? = some (.lst (L.map tupN)) ∧ g'[m]? = some (.lst (Rs.map tupN)) ∧ τ = [some sys, some (.ref (h.length + m)), some (.tup [nm, .int slot, .tup vs]), some (.ref (h.length + m2)), y4, none] ∧ hh = h ++ g')
    (fun i τ hh ⟨L, m2, g', y4, _, _, _, _, h5, _, h7⟩ => by
      subst h7
      have : (h ++ g')[h.length + m]? = some (.lst (Rs.map tupN)) := by rw [getB]; exact h5
      simp only [grdOk_cons]
      rw [this]
      simp)
    (fun i hi τ hh ⟨L, m2, g', y4, h1, h2, h3', h4, h5, h6, h7⟩ => by
      subst h6 h7
      rw [List.length_map] at hi
      obtain ⟨r1, r2⟩ := hr _ (List.getElem_mem hi)
      obtain ⟨L', a1, a2, e⟩ := all_row (h := h) (sys := sys) (nm := nm) (a := h.length + m) (r := Rs[i]) h4 h3 (by omega) r1 r2
      have gl := (List.getElem?_eq_some_iff.mp h5).1
      refine ⟨_, _, _, _, by rw [List.getElem_map]; rfl, .inl e, L', g'.length, g' ++ [.lst (L'.map tupN)], some (tupN Rs[i]), by omega, by omega, fun t ht => ?_, by simp, by rw [List.getElem?_append_left gl]; exact h5, rfl, rfl⟩
      rcases a2 t ht with z | ⟨x, z1, z2⟩
      · exact h3' t z
      · exact ⟨_, List.getElem_mem hi, x, z1, z2⟩)
    [some sys, some (.ref (h.length + m)), some (.tup [nm, .int slot, .tup vs]), some (.ref (h.length + g.length)), y4, none] (h ++ (g ++ [.lst []])) ⟨[], g.length, g ++ [.lst []], y4, Nat.zero_le _, Nat.zero_le _, fun _ h => (by cases h), by simp, by rw [List.getElem?_append_left gm]; exact hm, rfl, rfl⟩
  obtain ⟨L, m2, g', z4, h1, h2, h3', h4, h5, h6, h7⟩ := P
  subst h6 h7
  rw [List.length_map] at h1
  refine ⟨L, m2, g', some (.ref (h.length + m2)), z4, h1, h3', h4, ?_⟩
  have hm2 : ∀ o, (g ++ [o])[m]? = some (.lst (Rs.map tupN)) := fun o => by rw [List.getElem?_append_left gm]; exact hm
  clear gm
  unfold l_law_all_2
  simp (disch := first | assumption | omega | (simp only [List.length_cons, List.length_nil, List.length_map]; omega)) [hm2, e]
end
end Sm
namespace Sm
open PySem PySem.Spec PyProof.Rows L2
theorem pow_step {a b n N : Nat} (h : a ≤ 3 * b) (hb : b * 3 ^ (n + 1 + N) ≤ 200000) : a * 3 ^ (n + N) ≤ 200000 := by
  have e : 3 ^ (n + 1 + N) = 3 * 3 ^ (n + N) := by rw [show n + 1 + N = (n + N) + 1 by omega, Nat.pow_succ, Nat.mul_comm]
  rw [e, ← Nat.mul_assoc, Nat.mul_comm b 3] at hb
  exact Nat.le_trans (Nat.mul_le_mul_right _ h) hb
theorem pow_le {a k : Nat} (h : a * 3 ^ k ≤ 200000) : a ≤ 300000 := by
  have : a * 1 ≤ a * 3 ^ k := Nat.mul_le_mul_left _ (Nat.pow_pos (by decide))
  omega
section
variable {h : AH} {sys : D}
theorem a_prcs (N : Nat) : ∀ (ps : List Prc) (Rs : List (List Nat)) (g : AH) (m : Nat) (y2 y3 y4 : Option D), g[m]? = some (.lst (Rs.map tupN)) → (∀ p ∈ ps, p.places.length ≤ 3) → Rs.length * 3 ^ (ps.length + N) ≤ 200000 → (∀ r ∈ Rs, r.length + ps.length < 1000) →
    ∃ (L : List (List Nat)) (g' : AH) (m' : Nat) (z2 z3 z4 : Option D), g'[m']? = some (.lst (L.map tupN)) ∧ L.length * 3 ^ N ≤ 200000 ∧ (∀ t ∈ L, ∃ r ∈ Rs, ∃ pr, PlsOk ps pr ∧ t = r ++ pr) ∧ ∀ rest, forL [] (gN 2) l_law_all_2 (ps.map (fun p => .tup [.str p.nm, .int 0, .tup (p.places.map D.str)]) ++ rest) [some sys, some (.ref (h.length + m)), y2, y3, y4, none] (h ++ g)
      = forL [] (gN 2) l_law_all_2 rest [some sys, some (.ref (h.length + m')), z2, z3, z4, none] (h ++ g')
  | [], Rs, g, m, y2, y3, y4, hm, _, hb, _ => ⟨Rs, g, m, y2, y3, y4, hm, by simpa using hb, fun t ht => ⟨t, ht, [], trivial, (List.append_nil _).symm⟩, fun rest => rfl⟩
  | P :: ps, Rs, g, m, y2, y3, y4, hm, h3, hb, hr => by
    rw [List.length_cons] at hb
    obtain ⟨L, m1, g1, z3, z4, a1, a2, a3, e⟩ := all_cell (h := h) (sys := sys) (nm := .str P.nm) (vs := P.places.map D.str) (slot := 0) (y3 := y3) (y4 := y4) hm (by simpa using h3 P List.mem_cons_self) (pow_le hb) (fun r hr' => ⟨by have := hr r hr'; omega, .inl (by decide)⟩)
    obtain ⟨L2, g2, m2, w2, w3, w4, b1, b2, b3, e2⟩ := a_prcs N ps L g1 m1 (some (.tup [.str P.nm, .int 0, .tup (P.places.map D.str)])) z3 z4 a3 (fun p hp => h3 p (List.mem_cons_of_mem _ hp)) (pow_step a1 hb) (fun t ht => by
      obtain ⟨r, hr1, x, _, rfl⟩ := a2 t ht
      have := hr r hr1
      simp at this ⊢
      omega)
    refine ⟨L2, g2, m2, w2, w3, w4, b1, b2, fun t ht => ?_, fun rest => ?_⟩
    · obtain ⟨t', ht', pr, hpr, rfl⟩ := b3 t ht
      obtain ⟨r, hr1, x, hx, rfl⟩ := a2 t' ht'
      exact ⟨r, hr1, x :: pr, ⟨by simpa using hx.1, hpr⟩, by simp⟩
    · rw [List.map_cons, List.cons_append]
      exact (forL_cons rfl rfl e).trans (e2 rest)
theorem a_que (N : Nat) {nm : D} {vs : List D} (v3 : vs.length ≤ 3) : ∀ (n : Nat) (k : Int) (Rs : List (List Nat)) (g : AH) (m : Nat) (y2 y3 y4 : Option D), 1 < k → g[m]? = some (.lst (Rs.map tupN)) → Rs.length * 3 ^ (n + N) ≤ 200000 → (∀ r ∈ Rs, r.length + n < 1000 ∧ ∃ l, r.getLast? = some l) →
    ∃ (L : List (List Nat)) (g' : AH) (m' : Nat) (z2 z3 z4 : Option D), g'[m']? = some (.lst (L.map tupN)) ∧ L.length * 3 ^ N ≤ 200000 ∧ (∀ t ∈ L, ∃ r ∈ Rs, ∃ l s, r.getLast? = some l ∧ s.length = n ∧ (∀ x ∈ s, x < vs.length) ∧ Mz (l :: s) ∧ t = r ++ s) ∧ ∀ rest, forL [] (gN 2) l_law_all_2 ((rngD k n).map (fun i => .tup [nm, i, .tup vs]) ++ rest) [some sys, some (.ref (h.length + m)), y2, y3, y4, none] (h ++ g)
      = forL [] (gN 2) l_law_all_2 rest [some sys, some (.ref (h.length + m')), z2, z3, z4, none] (h ++ g')
  | 0, k, Rs, g, m, y2, y3, y4, _, hm, hb, hr => ⟨Rs, g, m, y2, y3, y4, hm, by simpa using hb, fun t ht => by
      obtain ⟨l, hl⟩ := (hr t ht).2
      exact ⟨t, ht, l, [], hl, rfl, fun _ h => (by cases h), trivial, (List.append_nil _).symm⟩, fun rest => rfl⟩
  | n + 1, k, Rs, g, m, y2, y3, y4, hk, hm, hb, hr => by
    obtain ⟨L, m1, g1, z3, z4, a1, a2, a3, e⟩ := all_cell (h := h) (sys := sys) (nm := nm) (vs := vs) (slot := k) (y3 := y3) (y4 := y4) hm v3 (pow_le hb) (fun r hr' => ⟨by have := (hr r hr').1; omega, .inr (hr r hr').2⟩)
    obtain ⟨L2, g2, m2, w2, w3, w4, b1, b2, b3, e2⟩ := a_que N v3 n (k + 1) L g1 m1 (some (.tup [nm, .int k, .tup vs])) z3 z4 (by omega) a3 (pow_step a1 hb) (fun t ht => by
      obtain ⟨r, hr1, x, _, rfl⟩ := a2 t ht
      have := (hr r hr1).1
      exact ⟨by simp; omega, x, by simp⟩)
    refine ⟨L2, g2, m2, w2, w3, w4, b1, b2, fun t ht => ?_, fun rest => ?_⟩
    · obtain ⟨t', ht', l, s, c1, c2, c3, c4, rfl⟩ := b3 t ht
      obtain ⟨r, hr1, x, hx, rfl⟩ := a2 t' ht'
      obtain ⟨l0, hl0⟩ := (hr r hr1).2
      have : l = x := by
        rw [List.getLast?_append] at c1
        exact (by simpa using c1.symm)
      subst this
      refine ⟨r, hr1, l0, l :: s, hl0, by rw [List.length_cons, c2], fun y hy => ?_, ⟨fun z => ?_, c4⟩, by simp⟩
      · rcases List.mem_cons.mp hy with z | z
        · rw [z]; exact hx.1
        · exact c3 y z
      · rcases hx.2 with d | d | ⟨l1, d1, d2⟩
        · omega
        · exact d
        · rw [hl0] at d1
          have := Option.some.inj d1
          omega
    · rw [rngD_cons, List.map_cons, List.cons_append]
      exact (forL_cons rfl rfl e).trans (e2 rest)
theorem a_dat (N : Nat) {d : Dat} {Rs : List (List Nat)} {g : AH} {m : Nat} {y2 y3 y4 : Option D} (ok : d.Ok) (tn : d.Tn) (hm : g[m]? = some (.lst (Rs.map tupN))) (hb : Rs.length * 3 ^ (3 + N) ≤ 200000) (hr : ∀ r ∈ Rs, r.length + 3 < 1000) :
    ∃ (L : List (List Nat)) (g' : AH) (m' : Nat) (z2 z3 z4 : Option D), g'[m']? = some (.lst (L.map tupN)) ∧ L.length * 3 ^ N ≤ 200000 ∧ (∀ t ∈ L, ∃ r ∈ Rs, ∃ s v, SegOk d s ∧ valOf d s = some v ∧ s.length ≤ 3 ∧ t = r ++ s) ∧ ∀ rest, forL [] (gN 2) l_law_all_2 (d.cells ++ rest) [some sys, some (.ref (h.length + m)), y2, y3, y4, none] (h ++ g)
      = forL [] (gN 2) l_law_all_2 rest [some sys, some (.ref (h.length + m')), z2, z3, z4, none] (h ++ g') := by
  cases d with
  | num nm lo hi fi =>
    have tn : hi + 1 - lo ≤ 3 := tn
    obtain ⟨L, m1, g1, z3, z4, a1, a2, a3, e⟩ := all_cell (h := h) (sys := sys) (nm := .str nm) (vs := rngD lo (hi + 1 - lo).toNat) (slot := 0) (y3 := y3) (y4 := y4) hm (by rw [rngD_len]; omega) (pow_le hb) (fun r hr' => ⟨by have := hr r hr'; omega, .inl (by decide)⟩)
    refine ⟨L, g1, m1, _, z3, z4, a3, ?_, fun t ht => ?_, fun rest => forL_cons rfl rfl e⟩
    · have := pow_step (n := 2) (N := N) a1 hb
      rw [Nat.pow_add, ← Nat.mul_assoc] at this
      exact Nat.le_trans (Nat.mul_le_mul_right _ (Nat.le_mul_of_pos_right _ (by decide))) this
    · obtain ⟨r, hr1, x, hx, rfl⟩ := a2 t ht
      have hx1 := hx.1
      rw [rngD_len] at hx1
      exact ⟨r, hr1, [x], _, ⟨rfl, fun y hy => by rw [List.mem_singleton] at hy; rw [hy]; exact hx1⟩, rfl, by simp, rfl⟩
  | que nm room lo hi =>
    obtain ⟨r0, r1, a, b', c⟩ := ok
    obtain ⟨tn1, tn2⟩ := tn
    have hc : Dat.cells (.que nm room lo hi) = (rngD 1 room.toNat).map fun i => .tup [.str nm, i, .tup (.non :: rngD lo (hi + 1 - lo).toNat)] := rfl
    rw [hc]
    have sz : (D.non :: rngD lo (hi + 1 - lo).toNat).length = (hi + 1 - lo).toNat + 1 := by rw [List.length_cons, rngD_len]
    have pw : ∀ {x n}, n ≤ 3 → x * 3 ^ (3 + N) ≤ 200000 → x * 3 ^ (n + N) ≤ 200000 := fun hn hx => Nat.le_trans (Nat.mul_le_mul_left _ (Nat.pow_le_pow_right (by decide) (by omega))) hx
    cases hn : room.toNat with
    | zero =>
      exact ⟨Rs, g, m, y2, y3, y4, hm, by simpa using pw (n := 0) (by omega) hb, fun t ht => ⟨t, ht, [], _, ⟨hn.symm, fun _ h => (by cases h)⟩, valOf_t rfl, by simp, (List.append_nil _).symm⟩, fun rest => rfl⟩
    | succ n =>
      have n2 : n + 1 ≤ 3 := by omega
      obtain ⟨L, m1, g1, z3, z4, a1, a2, a3, e⟩ := all_cell (h := h) (sys := sys) (nm := .str nm) (vs := .non :: rngD lo (hi + 1 - lo).toNat) (slot := 1) (y3 := y3) (y4 := y4) hm (by rw [sz]; omega) (pow_le hb) (fun r hr' => ⟨by have := hr r hr'; omega, .inl (by decide)⟩)
      obtain ⟨L2, g2, m2, w2, w3, w4, b1, b2, b3, e2⟩ := a_que (h := h) (sys := sys) N (nm := .str nm) (vs := .non :: rngD lo (hi + 1 - lo).toNat) (by rw [sz]; omega) n (1 + 1) L g1 m1 (some (.tup [.str nm, .int 1, .tup (.non :: rngD lo (hi + 1 - lo).toNat)])) z3 z4 (by omega) a3 (pow_step a1 (pw n2 hb)) (fun t ht => by
        obtain ⟨r, hr1, x, _, rfl⟩ := a2 t ht
        have := hr r hr1
        exact ⟨by simp; omega, x, by simp⟩)
      refine ⟨L2, g2, m2, w2, w3, w4, b1, b2, fun t ht => ?_, fun rest => ?_⟩
      · obtain ⟨t', ht', l, s, c1, c2, c3, c4, rfl⟩ := b3 t ht
        obtain ⟨r, hr1, x, hx, rfl⟩ := a2 t' ht'
        have : l = x := by
          rw [List.getLast?_append] at c1
          exact (by simpa using c1.symm)
        subst this
        have hx1 := hx.1
        rw [sz] at hx1 c3
        refine ⟨r, hr1, l :: s, _, ⟨by rw [List.length_cons, c2]; exact hn.symm, fun y hy => ?_⟩, valOf_t (mz_gd c4), by rw [List.length_cons, c2]; omega, by simp⟩
        rcases List.mem_cons.mp hy with z | z
        · rw [z]; exact hx1
        · exact c3 y z
      · rw [rngD_cons, List.map_cons, List.cons_append]
        exact (forL_cons rfl rfl e).trans (e2 rest)
end
end Sm
namespace Sm
open PySem PySem.Spec PyProof.Rows L2
section
variable {h : AH} {sys : D}
theorem a_dats : ∀ (dl : List Dat) (Rs : List (List Nat)) (g : AH) (m : Nat) (y2 y3 y4 : Option D), (∀ d ∈ dl, d.Ok ∧ d.Tn) → g[m]? = some (.lst (Rs.map tupN)) → Rs.length * 3 ^ (3 * dl.length) ≤ 200000 → (∀ r ∈ Rs, r.length + 3 * dl.length < 1000) →
    ∃ (L : List (List Nat)) (g' : AH) (m' : Nat) (z2 z3 z4 : Option D), g'[m']? = some (.lst (L.map tupN)) ∧ L.length ≤ 200000 ∧ (∀ t ∈ L, ∃ r ∈ Rs, ∃ segs vs, SegsOk dl segs ∧ valsOf dl segs = some vs ∧ t = r ++ segs.flatten) ∧ ∀ rest, forL [] (gN 2) l_law_all_2 (dl.flatMap Dat.cells ++ rest) [some sys, some (.ref (h.length + m)), y2, y3, y4, none] (h ++ g)
      = forL [] (gN 2) l_law_all_2 rest [some sys, some (.ref (h.length + m')), z2, z3, z4, none] (h ++ g')
  | [], Rs, g, m, y2, y3, y4, _, hm, hb, _ => ⟨Rs, g, m, y2, y3, y4, hm, by simpa using hb, fun t ht => ⟨t, ht, [], [], trivial, rfl, (List.append_nil _).symm⟩, fun rest => rfl⟩
  | d :: dl, Rs, g, m, y2, y3, y4, ok, hm, hb, hr => by
    rw [List.length_cons] at hb hr
    obtain ⟨L, g1, m1, z2, z3, z4, a1, a2, a3, e⟩ := a_dat (h := h) (sys := sys) (3 * dl.length) (d := d) (Rs := Rs) (g := g) (m := m) (y2 := y2) (y3 := y3) (y4 := y4) (ok d List.mem_cons_self).1 (ok d List.mem_cons_self).2 hm (by rw [show 3 + 3 * dl.length = 3 * (dl.length + 1) by omega]; exact hb) (fun r hr' => by have := hr r hr'; omega)
    obtain ⟨L2, g2, m2, w2, w3, w4, b1, b2, b3, e2⟩ := a_dats dl L g1 m1 z2 z3 z4 (fun x hx => ok x (List.mem_cons_of_mem _ hx)) a1 a2 (fun t ht => by
      obtain ⟨r, hr1, s, v, _, _, sl, rfl⟩ := a3 t ht
      have := hr r hr1
      simp
      omega)
    refine ⟨L2, g2, m2, w2, w3, w4, b1, b2, fun t ht => ?_, fun rest => ?_⟩
    · obtain ⟨t', ht', segs, vs, c1, c2, rfl⟩ := b3 t ht
      obtain ⟨r, hr1, s, v, d1, d2, _, rfl⟩ := a3 t' ht'
      exact ⟨r, hr1, s :: segs, v :: vs, ⟨d1, c1⟩, by unfold valsOf; rw [d2, c2]; rfl, by rw [List.flatten_cons, List.append_assoc]⟩
    · rw [List.flatMap_cons, List.append_assoc, e, e2]
end
/-- the state that a row tells -/
def stOf (S : Sys) (row : List Nat) : D := match F_law_unrow [S.d, tupN row] [] with
  | some (d, _) => d
  | none => .non
theorem stOf_eq {S : Sys} {pr : List Nat} {segs : List (List Nat)} {row : List Nat} (ok : S.Ok) (hp : PlsOk S.prcs pr) (hs : SegsOk S.dats segs) (hr : row = pr ++ segs.flatten) : stOf S row = UN S pr segs := by
  unfold stOf tupN
  rw [unrow_ok ok hp hs hr]
theorem unrow_st {h : AH} {S : Sys} {row : List Nat} (ok : S.Ok) (r : RowOk S row) : F_law_unrow [S.d, tupN row] h = some (stOf S row, h) := by
  obtain ⟨pr, segs, a, b, c⟩ := r
  rw [stOf_eq ok a b c]
  exact unrow_ok ok a b c
theorem RowGd.ok {S : Sys} {row : List Nat} (r : RowGd S row) : RowOk S row := by
  obtain ⟨pr, segs, vs, a, b, _, c⟩ := r
  exact ⟨pr, segs, a, b, c⟩
theorem stOf_low {S : Sys} {row : List Nat} (ok : S.Ok) (r : RowOk S row) : (stOf S row).low 0 = true := by
  obtain ⟨pr, segs, a, b, c⟩ := r
  rw [stOf_eq ok a b c]
  exact UN_low
theorem all_ok {h : AH} {S : Sys} (T : S.Ty) : ∃ L : List (List Nat), L.length ≤ 200000 ∧ (∀ r ∈ L, RowGd S r) ∧ F_law_all [S.d] h = some (.ref h.length, h ++ [.lst (L.map (stOf S))]) := by
  have ok := T.gd.ok
  have p2 := T.p2
  have d3 := T.d.len
  obtain ⟨L1, g1, m1, z2, z3, z4, a1, a2, a3, e1⟩ := a_prcs (h := h) (sys := S.d) (3 * S.dats.length) S.prcs [[]] [.lst [.tup []]] 0 none none none rfl (fun p hp => (T.pr p hp).2.1) (by
    have : 3 ^ (S.prcs.length + 3 * S.dats.length) ≤ 3 ^ 11 := Nat.pow_le_pow_right (by decide) (by omega)
    simp
    omega) (fun r hr => by rw [List.mem_singleton] at hr; rw [hr]; simp; omega)
  obtain ⟨L2, g2, m2, w2, w3, w4, b1, b2, b3, e2⟩ := a_dats (h := h) (sys := S.d) S.dats L1 g1 m1 z2 z3 z4 (fun d hd => ⟨T.d.ok d hd, T.d.tn d hd⟩) a1 a2 (fun t ht => by
    obtain ⟨r, hr, pr, hpr, rfl⟩ := a3 t ht
    rw [List.mem_singleton] at hr
    subst hr
    have := plsOk_len hpr
    simp
    omega)
  have e3 := (e1 (S.dats.flatMap Dat.cells ++ [])).trans (e2 [])
  rw [List.append_nil, forL_nil rfl, ← Sys.cells] at e3
  have gd : ∀ r ∈ L2, RowGd S r := fun t ht => by
    obtain ⟨t', ht', segs, vs, c1, c2, rfl⟩ := b3 t ht
    obtain ⟨r, hr, pr, hpr, rfl⟩ := a3 t' ht'
    rw [List.mem_singleton] at hr
    subst hr
    exact ⟨pr, segs, vs, hpr, c1, c2, rfl⟩
  refine ⟨L2, b2, gd, ?_⟩
  have lc := law_cells_ok (h := h ++ [.lst [.tup []]]) ok
  have l2 : L2.length ≤ 16777216 := by omega
  unfold F_law_all b_law_all
  simp (disch := first | assumption | omega | (simp only [List.length_cons, List.length_nil, List.length_map]; omega)) [] at e3
  simp (disch := first | assumption | omega | (simp only [List.length_cons, List.length_nil, List.length_map]; omega)) [runDef_if, lc, e3, b1]
  rw [compL_mapT (t := tupN) (stOf S) (by simp (disch := first | assumption | omega | (simp only [List.length_cons, List.length_nil, List.length_map]; omega)) [b1]) _ (fun r hr => ⟨_, rfl, by simp (disch := first | assumption | omega | (simp only [List.length_cons, List.length_nil, List.length_map]; omega)) [unrow_st ok (gd r hr).ok]⟩)]
  simp (disch := first | assumption | omega | (simp only [List.length_cons, List.length_nil, List.length_map]; omega)) [l2]
  rw [gc_list (ds := L2.map (stOf S)) (k := h.length + g2.length) (by omega) (by simp) (lows_of fun x hx => by
    obtain ⟨r, hr, rfl⟩ := List.mem_map.mp hx
    exact low0 (stOf_low ok (gd r hr).ok))]
end Sm
namespace Sm
open PySem PySem.Spec PyProof.Rows L2
def s_law_digits_3_2 : SS := (mIfS (mB (mBin oGe (mVar 5) (mBin oPow (mC (.int 10)) (mC (.int 18))))) (mFor (mRng1 (mCons (mC (.int 60)) mNil)) (gN 6) l_law_digits_1) (mSeq (mAsg (gN 7) (mBin oMod (mFn oInt (mCons (mBin oAdd (mBin oAdd (mBin oMul (mVar 5) (mC (.int 48271))) (mBin oMul (mVar 4) (mC (.int 69621)))) (mC (.int 11))) mNil)) (mC (.int 2147483647)))) (mFor (mRng1 (mCons (mC (.int 12)) mNil)) (gN 6) l_law_digits_2)))
theorem l_law_digits_3_cut : l_law_digits_3 = (mSeq (mAsg (gN 5) (mCall F_law_cell (mCons (mVar 0) (mCons (mVar 4) mNil)))) (mSeq (mIfS (mB (mBin oLt (mVar 5) (mC (.int 0)))) (mAsg (gN 5) (mBin oSub (mC (.int 1)) (mBin oMul (mC (.int 2)) (mVar 5)))) mPass) s_law_digits_3_2)) := rfl
theorem cell_ok {h : AH} {ns : List Int} {k : Nat} : ∃ c : Int, F_law_cell [.fl (ns.map D.int), .int (k : Int)] h = some (.int c, h) := by
  by_cases hk : k < ns.length
  · refine ⟨ns[k], ?_⟩
    have g := gc_pure0 (h := h) (d := .int ns[k]) rfl
    unfold F_law_cell b_law_cell
    simp (disch := first | assumption | omega | (simp only [List.length_cons, List.length_nil, List.length_map]; omega)) [runDef_if, hk, atI_cast, g]
  · refine ⟨0, ?_⟩
    have g := gc_pure0 (h := h) (d := .int 0) rfl
    unfold F_law_cell b_law_cell
    simp (disch := first | assumption | omega | (simp only [List.length_cons, List.length_nil, List.length_map]; omega)) [runDef_if, hk, g]
section
variable {h : AH} {x0 x1 x2 x4 x6 x7 : Option D} {ds : List Int} {c : Int}
theorem dig1 (dl : ds.length ≤ 1000000) : ∃ (ds' : List Int) (c' : Int) (y6 : Option D), ds'.length ≤ ds.length + 60 ∧ forL [] (gN 6) l_law_digits_1 (rngD 0 60) [x0, x1, x2, some (.ref h.length), x4, some (.int c), x6, x7] (h ++ [.lst (ds.map D.int)])
    = some (.nx [x0, x1, x2, some (.ref h.length), x4, some (.int c'), y6, x7] (h ++ [.lst (ds'.map D.int)])) := by
  obtain ⟨τ', h', e, P⟩ := forRg0 (g := gN 6) (body := l_law_digits_1) (n := 60)
    (fun i τ hh => ∃ (ds' : List Int) (c' : Int) (y6 : Option D), ds'.length ≤ ds.length + i ∧ τ = [x0, x1, x2, some (.ref h.length), x4, some (.int c'), y6, x7] ∧ hh = h ++ [.lst (ds'.map D.int)])
    (fun i hi τ hh ⟨ds', c', y6, h1, h2, h3⟩ => by
      subst h2 h3
      have al : ds'.length < 16777216 := by omega
      by_cases hc : 0 < c'
      · refine ⟨_, _, _, _, rfl, .inl ?_, ds' ++ [c'.fmod 1009], c'.fdiv 1009, some (.int i), by simp; omega, rfl, rfl⟩
        unfold l_law_digits_1
        simp (disch := first | assumption | omega | (simp only [List.length_cons, List.length_nil, List.length_map]; omega)) [hc, al]
      · refine ⟨_, _, _, _, rfl, .inl ?_, ds', c', some (.int i), by omega, rfl, rfl⟩
        unfold l_law_digits_1
        simp (disch := first | assumption | omega | (simp only [List.length_cons, List.length_nil, List.length_map]; omega)) [hc])
    [x0, x1, x2, some (.ref h.length), x4, some (.int c), x6, x7] (h ++ [.lst (ds.map D.int)]) ⟨ds, c, x6, by omega, rfl, rfl⟩
  obtain ⟨ds', c', y6, h1, h2, h3⟩ := P
  subst h2 h3
  exact ⟨ds', c', y6, h1, e⟩
theorem dig2 (dl : ds.length ≤ 1000000) {x5 : Option D} : ∃ (ds' : List Int) (y6 y7 : Option D), ds'.length ≤ ds.length + 12 ∧ forL [] (gN 6) l_law_digits_2 (rngD 0 12) [x0, x1, x2, some (.ref h.length), x4, x5, x6, some (.int c)] (h ++ [.lst (ds.map D.int)])
    = some (.nx [x0, x1, x2, some (.ref h.length), x4, x5, y6, y7] (h ++ [.lst (ds'.map D.int)])) := by
  obtain ⟨τ', h', e, P⟩ := forRg0 (g := gN 6) (body := l_law_digits_2) (n := 12)
    (fun i τ hh => ∃ (ds' : List Int) (c' : Int) (y6 : Option D), ds'.length ≤ ds.length + i ∧ τ = [x0, x1, x2, some (.ref h.length), x4, x5, y6, some (.int c')] ∧ hh = h ++ [.lst (ds'.map D.int)])
    (fun i hi τ hh ⟨ds', c', y6, h1, h2, h3⟩ => by
      subst h2 h3
      have al : ds'.length < 16777216 := by omega
      refine ⟨_, _, _, _, rfl, .inl ?_, ds' ++ [(((c' * 16807 + 7 * i + 1).fmod 2147483647).fdiv 997).fmod 1009], (c' * 16807 + 7 * i + 1).fmod 2147483647, some (.int i), by simp; omega, rfl, rfl⟩
      unfold l_law_digits_2
      simp (disch := first | assumption | omega | (simp only [List.length_cons, List.length_nil, List.length_map]; omega)) [al])
    [x0, x1, x2, some (.ref h.length), x4, x5, x6, some (.int c)] (h ++ [.lst (ds.map D.int)]) ⟨ds, c, x6, by omega, rfl, rfl⟩
  obtain ⟨ds', c', y6, h1, h2, h3⟩ := P
  subst h2 h3
  exact ⟨ds', y6, _, h1, e⟩
theorem dig3m {ns : List Int} {k : Nat} (dl : ds.length ≤ 1000000) (c : Int) : ∃ (ds' : List Int) (y5 y6 y7 : Option D), ds'.length ≤ ds.length + 60 ∧
    s_law_digits_3_2 [some (.fl (ns.map D.int)), x1, x2, some (.ref h.length), some (.int (k : Int)), some (.int c), x6, x7] (h ++ [.lst (ds.map D.int)])
      = some (.nx [some (.fl (ns.map D.int)), x1, x2, some (.ref h.length), some (.int (k : Int)), y5, y6, y7] (h ++ [.lst (ds'.map D.int)])) := by
  by_cases hc : 1000000000000000000 ≤ c
  · obtain ⟨ds', c', y6, a1, e⟩ := dig1 (h := h) (x0 := some (.fl (ns.map D.int))) (x1 := x1) (x2 := x2) (x4 := some (.int (k : Int))) (x6 := x6) (x7 := x7) (c := c) dl
    refine ⟨ds', some (.int c'), y6, x7, a1, ?_⟩
    unfold s_law_digits_3_2
    simp (disch := first | assumption | omega | (simp only [List.length_cons, List.length_nil, List.length_map]; omega)) [hc]
    exact e
  · obtain ⟨ds', y6, y7, a1, e⟩ := dig2 (h := h) (x0 := some (.fl (ns.map D.int))) (x1 := x1) (x2 := x2) (x4 := some (.int (k : Int))) (x5 := some (.int c)) (x6 := x6) (c := (c * 48271 + k * 69621 + 11).fmod 2147483647) dl
    refine ⟨ds', some (.int c), y6, y7, by omega, ?_⟩
    unfold s_law_digits_3_2
    simp (disch := first | assumption | omega | (simp only [List.length_cons, List.length_nil, List.length_map]; omega)) [hc]
    exact e
theorem dig3 {ns : List Int} {k : Nat} {x5 : Option D} (dl : ds.length ≤ 1000000) : ∃ (ds' : List Int) (y5 y6 y7 : Option D), ds'.length ≤ ds.length + 60 ∧
    l_law_digits_3 [some (.fl (ns.map D.int)), x1, x2, some (.ref h.length), some (.int (k : Int)), x5, x6, x7] (h ++ [.lst (ds.map D.int)])
      = some (.nx [some (.fl (ns.map D.int)), x1, x2, some (.ref h.length), some (.int (k : Int)), y5, y6, y7] (h ++ [.lst (ds'.map D.int)])) := by
  obtain ⟨c, ec⟩ := cell_ok (h := h ++ [.lst (ds.map D.int)]) (ns := ns) (k := k)
  rw [l_law_digits_3_cut]
  by_cases h0 : c < 0
  · obtain ⟨ds', y5, y6, y7, a1, e⟩ := dig3m (h := h) (x1 := x1) (x2 := x2) (x6 := x6) (x7 := x7) (ns := ns) (k := k) dl (1 - 2 * c)
    refine ⟨ds', y5, y6, y7, a1, ?_⟩
    simp (disch := first | assumption | omega | (simp only [List.length_cons, List.length_nil, List.length_map]; omega)) [ec, h0, e]
  · obtain ⟨ds', y5, y6, y7, a1, e⟩ := dig3m (h := h) (x1 := x1) (x2 := x2) (x6 := x6) (x7 := x7) (ns := ns) (k := k) dl c
    refine ⟨ds', y5, y6, y7, a1, ?_⟩
    simp (disch := first | assumption | omega | (simp only [List.length_cons, List.length_nil, List.length_map]; omega)) [ec, h0, e]
end
theorem ints_low {n : Nat} (ds : List Int) : D.lows n (ds.map D.int) = true := lows_map (fun _ => rfl) _
theorem digits_ok {h : AH} {ns : List Int} : ∃ ds : List Int, F_law_digits [.fl (ns.map D.int), .int 0, .int 63] h = some (.ref h.length, h ++ [.lst (ds.map D.int)]) := by
  obtain ⟨τ', h', e, P⟩ := forRg0 (g := gN 4) (body := l_law_digits_3) (n := 63)
    (fun i τ hh => ∃ (ds' : List Int) (y4 y5 y6 y7 : Option D), ds'.length ≤ 60 * i ∧ τ = [some (.fl (ns.map D.int)), some (.int 0), some (.int 63), some (.ref h.length), y4, y5, y6, y7] ∧ hh = h ++ [.lst (ds'.map D.int)])
    (fun i hi τ hh ⟨ds', y4, y5, y6, y7, h1, h2, h3⟩ => by
      subst h2 h3
      obtain ⟨ds2, z5, z6, z7, a1, e⟩ := dig3 (h := h) (x1 := some (.int 0)) (x2 := some (.int 63)) (x5 := y5) (x6 := y6) (x7 := y7) (ns := ns) (k := i) (ds := ds') (by omega)
      exact ⟨_, _, _, _, rfl, .inl e, ds2, some (.int i), z5, z6, z7, by omega, rfl, rfl⟩)
    [some (.fl (ns.map D.int)), some (.int 0), some (.int 63), some (.ref h.length), none, none, none, none] (h ++ [.lst []]) ⟨[], none, none, none, none, Nat.zero_le _, rfl, rfl⟩
  obtain ⟨ds', y4, y5, y6, y7, h1, h2, h3⟩ := P
  subst h2 h3
  refine ⟨ds', ?_⟩
  unfold F_law_digits b_law_digits
  simp (disch := first | assumption | omega | (simp only [List.length_cons, List.length_nil, List.length_map]; omega)) [runDef_if, e]
  rw [gc_list (ds := ds'.map D.int) (k := h.length) (Nat.le_refl _) (by simp) (ints_low ds')]
end Sm
namespace Sm
open PySem PySem.Spec PyProof.Rows L2
def t_law_2 : SS := (mSeq (mIfS (mNot (mB (mCall (F_law_like 8) (mCons (mCall F_cells (mCons (mVar 4) mNil)) (mCons (mCall F_law_cells (mCons (mVar 4) mNil)) mNil))))) (mRet (mC (.bl false))) mPass) (mSeq (mFor (mIter (mVar 5)) (gN 2) l_law_1) (mSeq (mFor (mIter (mCall F_law_rows_of (mCons (mVar 1) (mCons (mVar 4) mNil)))) (gN 3) l_law_2) (mRet (mC (.bl true))))))
theorem b_law_cut : b_law = (mSeq (mAsg (gN 1) (mLst (mCons (mCall F_law_digits (mCons (mVar 0) (mCons (mC (.int 0)) (mCons (mC (.int 63)) mNil)))) (mCons (mC (.int 0)) mNil)))) (mSeq (mIfS (mB (mBin oGt (mCall F_law_draw (mCons (mVar 1) (mCons (mC (.int 3)) mNil))) (mC (.int 0)))) (mSeq (mAsg (gN 4) (mCall F_law_tiny (mCons (mVar 1) mNil))) (mAsg (gN 5) (mCall F_law_all (mCons (mVar 4) mNil)))) (mSeq (mAsg (gN 4) (mCall F_law_wide (mCons (mVar 1) mNil))) (mAsg (gN 5) (mComp (mIter (mSl (mCall F_law_rows_of (mCons (mVar 1) (mCons (mVar 4) mNil))) mNoP (mPart (mC (.int 2))))) (gN 3) mYes (mCall F_law_unrow (mCons (mVar 4) (mCons (mVar 3) mNil))) [3])))) t_law_2)) := rfl
theorem lks_of : ∀ {ds : List D}, (∀ d ∈ ds, d.lk = true) → D.lks ds = true
  | [], _ => rfl
  | d :: r, h => by rw [D.lks, h d List.mem_cons_self, lks_of fun x hx => h x (List.mem_cons_of_mem _ hx)]; rfl
theorem lds_le {n : Nat} : ∀ {ds : List D}, (∀ d ∈ ds, d.ld ≤ n) → D.lds ds ≤ n
  | [], _ => Nat.zero_le _
  | d :: r, h => by rw [D.lds]; exact Nat.max_le.mpr ⟨h d List.mem_cons_self, lds_le fun x hx => h x (List.mem_cons_of_mem _ hx)⟩
/-- alike to itself, and not deep -/
def Lk (n : Nat) (d : D) : Prop := d.lk = true ∧ d.ld ≤ n
theorem lk_tup {n : Nat} {ds : List D} (l : ds.length ≤ 16777216) (h : ∀ d ∈ ds, Lk n d) : Lk (n + 1) (.tup ds) := by
  refine ⟨?_, ?_⟩
  · rw [D.lk, decide_eq_true l, lks_of fun d hd => (h d hd).1]; rfl
  · rw [D.ld]
    have := lds_le fun d hd => (h d hd).2
    omega
theorem Lk.mono {m n : Nat} {d : D} (h : Lk m d) (le : m ≤ n) : Lk n d := ⟨h.1, Nat.le_trans h.2 le⟩
theorem lk_int {i : Int} : Lk 0 (.int i) := ⟨rfl, Nat.le_refl _⟩
theorem lk_str {i : Str} : Lk 0 (.str i) := ⟨rfl, Nat.le_refl _⟩
theorem lk_non : Lk 0 .non := ⟨rfl, Nat.le_refl _⟩
theorem lk_rng {lo : Int} {n : Nat} : ∀ d ∈ rngD lo n, Lk 0 d := fun d hd => by
  obtain ⟨i, _, rfl⟩ := List.mem_map.mp hd
  exact lk_int
theorem lk_cells {S : Sys} (ok : S.Ok) : Lk 3 (.tup S.cells) := by
  refine lk_tup (le_big (Nat.le_trans (cells_len ok) (by decide))) fun c hc => ?_
  unfold Sys.cells at hc
  rcases List.mem_append.mp hc with e | e
  · obtain ⟨p, hp, rfl⟩ := List.mem_map.mp e
    have := ok.pl p hp
    refine lk_tup (by simp) fun d hd => ?_
    simp only [List.mem_cons, List.not_mem_nil, or_false] at hd
    rcases hd with e | e | e <;> rw [e]
    · exact lk_str.mono (by omega)
    · exact lk_int.mono (by omega)
    · refine lk_tup (by simp; omega) fun x hx => ?_
      obtain ⟨s, _, rfl⟩ := List.mem_map.mp hx
      exact lk_str
  · obtain ⟨d, hd, hc⟩ := List.mem_flatMap.mp e
    have okd := ok.dat d hd
    cases d with
    | num nm lo hi fi =>
      obtain ⟨a, b, c'⟩ := okd
      rw [List.mem_singleton.mp hc]
      refine lk_tup (by simp) fun d hd => ?_
      simp only [List.mem_cons, List.not_mem_nil, or_false] at hd
      rcases hd with e | e | e <;> rw [e]
      · exact lk_str.mono (by omega)
      · exact lk_int.mono (by omega)
      · exact lk_tup (by rw [rngD_len]; omega) lk_rng
    | que nm room lo hi =>
      obtain ⟨r0, r1, a, b, c'⟩ := okd
      obtain ⟨i, hi', rfl⟩ := List.mem_map.mp hc
      obtain ⟨i', _, rfl⟩ := List.mem_map.mp hi'
      refine lk_tup (by simp) fun d hd => ?_
      simp only [List.mem_cons, List.not_mem_nil, or_false] at hd
      rcases hd with e | e | e <;> rw [e]
      · exact lk_str.mono (by omega)
      · exact lk_int.mono (by omega)
      · refine lk_tup (by rw [List.length_cons, rngD_len]; omega) fun x hx => ?_
        rcases List.mem_cons.mp hx with z | z
        · rw [z]; exact lk_non
        · exact lk_rng x z
theorem lk_row {row : List Nat} (h : row.length ≤ 10100) : Lk 1 (tupN row) := by
  refine lk_tup (by simp; omega) fun d hd => ?_
  obtain ⟨x, _, rfl⟩ := List.mem_map.mp hd
  exact lk_int
theorem lk_val {d : Dat} {s : List Nat} {v : D} (sl : s.length ≤ 10100) (h : valOf d s = some v) : Lk 1 v := by
  cases d with
  | num nm lo hi fi => cases h; exact lk_int.mono (by omega)
  | que nm room lo hi =>
    by_cases hg : gd s = true
    · rw [valOf_t hg] at h
      cases h
      have := nz_len s
      refine lk_tup (by simp; omega) fun d hd => ?_
      obtain ⟨x, _, rfl⟩ := List.mem_map.mp hd
      exact lk_int
    · rw [valOf_f hg] at h
      cases h
theorem lk_vals : ∀ {dl : List Dat} {segs : List (List Nat)} {vs : List D}, segs.flatten.length ≤ 10100 → valsOf dl segs = some vs → ∀ v ∈ vs, Lk 1 v
  | [], _, vs, _, h => by cases h; exact fun _ h => by cases h
  | d :: r, [], vs, _, h => by cases h
  | d :: r, s :: t, vs, sl, h => by
    rw [List.flatten_cons, List.length_append] at sl
    unfold valsOf at h
    cases h1 : valOf d s with
    | none => rw [h1] at h; cases h
    | some v =>
      cases h2 : valsOf r t with
      | none => rw [h1, h2] at h; cases h
      | some ws =>
        rw [h1, h2] at h
        cases h
        intro x hx
        rcases List.mem_cons.mp hx with z | z
        · rw [z]; exact lk_val (by omega) h1
        · exact lk_vals (by omega) h2 x z
theorem lk_UN {S : Sys} {pr : List Nat} {segs : List (List Nat)} (ok : S.Ok) (hp : PlsOk S.prcs pr) (hs : SegsOk S.dats segs) : Lk 3 (UN S pr segs) := by
  unfold UN
  cases hv : valsOf S.dats segs with
  | none => exact lk_non.mono (by omega)
  | some vs =>
    have rl := (show RowOk S (pr ++ segs.flatten) from ⟨pr, segs, hp, hs, rfl⟩).len ok
    rw [List.length_append] at rl
    have vl := (valsOf_low hv).2
    have pl2 := plsOf_len hp
    have np := ok.np
    have nd := ok.nd
    refine lk_tup (by simp) fun d hd => ?_
    simp only [List.mem_cons, List.not_mem_nil, or_false] at hd
    rcases hd with e | e <;> rw [e]
    · refine (lk_tup (n := 0) (by simp; omega) fun x hx => ?_).mono (by omega)
      obtain ⟨s, _, rfl⟩ := List.mem_map.mp hx
      exact lk_str
    · exact lk_tup (by omega) (lk_vals (by omega) hv)
theorem like8 {d : D} {n : Nat} {h : AH} (l : Lk n d) (hn : n < 8) : F_law_like 8 [d, d] h = some (.bl true, h) := like_ok 8 d h l.1 (Nat.lt_of_le_of_lt l.2 hn)
theorem law1_turn {h : AH} {S : Sys} {row : List Nat} {x0 x1 x3 x5 : Option D} (ok : S.Ok) (r : RowGd S row) : ∃ z3,
    l_law_1 [x0, x1, some (stOf S row), x3, some S.d, x5] h = some (.nx [x0, x1, some (stOf S row), z3, some S.d, x5] h) := by
  obtain ⟨pr, segs, vs, a, b, hv, hr⟩ := r
  obtain ⟨pr', a', f', pe⟩ := firsts_of a
  have ro : RowOk S (pr' ++ segs.flatten) := ⟨pr', segs, a', b, rfl⟩
  have e1 := fun h : AH => cell_row_ok (h := h) ok a' f' b hv rfl
  have e2 := fun h : AH => law_row_ok (h := h) ok a' f' b hv rfl
  have e3 := fun h : AH => state_of_ok (h := h) ok a' b rfl
  have ue : UN S pr' segs = UN S pr segs := by unfold UN; rw [pe]
  have us : UN S pr segs = .tup [.tup ((plsOf S.prcs pr).map D.str), .tup vs] := by unfold UN; rw [hv]
  rw [pe] at e1 e2
  rw [ue] at e3
  rw [stOf_eq ok a b hr]
  have l1 := fun h : AH => like8 (h := h) (lk_row (ro.len ok)) (by decide)
  have l2 := fun h : AH => like8 (h := h) (lk_UN ok a b) (by decide)
  rw [us] at e3 l2 ⊢
  unfold tupN at l1
  generalize pr' ++ segs.flatten = row' at *
  refine ⟨some (.tup (row'.map nD)), ?_⟩
  unfold l_law_1
  simp (disch := first | assumption | omega | (simp only [List.length_cons, List.length_nil, List.length_map]; omega)) [e1, e2, e3, l1, l2]
theorem law2_turn {h : AH} {S : Sys} {row : List Nat} {x0 x1 x2 x5 : Option D} (ok : S.Ok) (r : RowOk S row) :
    l_law_2 [x0, x1, x2, some (tupN row), some S.d, x5] h = some (.nx [x0, x1, x2, some (tupN row), some S.d, x5] h) := by
  obtain ⟨pr, segs, a, b, hr⟩ := r
  have e1 := fun h : AH => unrow_ok (h := h) ok a b hr
  have e2 := fun h : AH => state_of_ok (h := h) ok a b hr
  have l2 := fun h : AH => like8 (h := h) (lk_UN ok a b) (by decide)
  unfold l_law_2 tupN
  simp (disch := first | assumption | omega | (simp only [List.length_cons, List.length_nil, List.length_map]; omega)) [e1, e2, l2]
end Sm
namespace Sm
open PySem PySem.Spec PyProof.Rows L2
section
variable {h j : AH} {b dg : Nat} {ds : List Int} {p q : Int} {S : Sys}
theorem Sys.Ty.fi {S : Sys} (T : S.Ty) : S.Fi := ⟨T.gd.ok, T.gd.pl, T.gd.mv⟩
theorem law_tail {k : Nat} {L : List (List Nat)} {x0 y2 y3 : Option D} (B : Bx h b dg ds p) (F : S.Fi) (gL : ∀ r ∈ L, RowGd S r) (hk : j[k]? = some (.lst (L.map (stOf S)))) (hq : 0 ≤ q) (hp : q < 400000) :
    ∃ h', t_law_2 [x0, some (.ref b), y2, y3, some S.d, some (.ref (h.length + k))] (bset h b dg q ++ j) = some (.rt (.bl true) h') := by
  have lc := law_cells_ok (h := bset h b dg q ++ j) F.ok
  have lc2 := cells_ok (h := bset h b dg q ++ j) F.ok
  have l1 := fun h : AH => like8 (h := h) (lk_cells F.ok) (by decide)
  obtain ⟨τ', h', e, P⟩ := forIx (grd := [(h.length + k, L.map (stOf S))]) (g := gN 2) (body := l_law_1) (xs := L.map (stOf S))
    (fun i τ hh => ∃ y2 y3 : Option D, τ = [x0, some (.ref b), y2, y3, some S.d, some (.ref (h.length + k))] ∧ hh = bset h b dg q ++ j)
    (fun i τ hh ⟨y2, y3, h1, h2⟩ => by
      subst h2
      simp only [grdOk_cons, getA]
      rw [hk]
      simp)
    (fun i hi τ hh ⟨y2, y3, h1, h2⟩ => by
      subst h1 h2
      rw [List.length_map] at hi
      obtain ⟨z3, e⟩ := law1_turn (h := bset h b dg q ++ j) (x0 := x0) (x1 := some (.ref b)) (x3 := y3) (x5 := some (.ref (h.length + k))) F.ok (gL _ (List.getElem_mem hi))
      exact ⟨_, _, _, _, by rw [List.getElem_map]; rfl, .inl e, some (stOf S L[i]), z3, rfl, rfl⟩)
    [x0, some (.ref b), y2, y3, some S.d, some (.ref (h.length + k))] (bset h b dg q ++ j) ⟨y2, y3, rfl, rfl⟩
  obtain ⟨y2', y3', h1, h2⟩ := P
  subst h1 h2
  obtain ⟨R, q', r1, r2, r3, a1, a2, e2⟩ := rows_of_loc (j := j) B F hq (by omega)
  obtain ⟨τ', h', e3, P⟩ := forIx (grd := [(h.length + j.length, R.map tupN)]) (g := gN 3) (body := l_law_2) (xs := R.map tupN)
    (fun i τ hh => ∃ y3 : Option D, τ = [x0, some (.ref b), y2', y3, some S.d, some (.ref (h.length + k))] ∧ hh = bset h b dg q' ++ (j ++ [.lst (R.map tupN)]))
    (fun i τ hh ⟨y3, h1, h2⟩ => by
      subst h2
      simp)
    (fun i hi τ hh ⟨y3, h1, h2⟩ => by
      subst h1 h2
      rw [List.length_map] at hi
      have e := law2_turn (h := bset h b dg q' ++ (j ++ [.lst (R.map tupN)])) (x0 := x0) (x1 := some (.ref b)) (x2 := y2') (x5 := some (.ref (h.length + k))) F.ok (r2 _ (List.getElem_mem hi))
      exact ⟨_, _, _, _, by rw [List.getElem_map]; rfl, .inl e, some (tupN R[i]), rfl, rfl⟩)
    [x0, some (.ref b), y2', y3', some S.d, some (.ref (h.length + k))] (bset h b dg q' ++ (j ++ [.lst (R.map tupN)])) ⟨y3', rfl, rfl⟩
  obtain ⟨y3'', h1, h2⟩ := P
  subst h1 h2
  refine ⟨bset h b dg q' ++ (j ++ [.lst (R.map tupN)]), ?_⟩
  unfold t_law_2
  simp (disch := first | assumption | omega | (simp only [List.length_cons, List.length_nil, List.length_map]; omega)) [lc, lc2, l1, hk, e, e2, e3]
end
theorem gc_bl {h h' : AH} {b : Bool} : ∃ h2, gc h (.bl b) h' = (.bl b, h2) := by
  unfold gc
  split
  · exact ⟨_, rfl⟩
  · exact ⟨_, rfl⟩
theorem law_ok {h : AH} (ns : List Int) : ∃ h', F_law [.fl (ns.map D.int)] h = some (.bl true, h') := by
  obtain ⟨ds, ed⟩ := digits_ok (h := h) (ns := ns)
  have B : Bx (h ++ [.lst (ds.map D.int), .lst [.ref h.length, .int 0]]) (h.length + 1) h.length ds 0 := ⟨by simp, by simp, by omega, by omega⟩
  have Hl : (h ++ [O.lst (ds.map D.int), .lst [.ref h.length, .int 0]]).length = h.length + 2 := by simp
  generalize hH : h ++ [O.lst (ds.map D.int), .lst [.ref h.length, .int 0]] = H at *
  have hs : bset H (h.length + 1) h.length 0 ++ [] = H := by rw [List.append_nil]; exact B.same
  have D0 := draw_loc (q := 0) (m := 3) (j := []) B (by omega) (by omega) (by omega)
  rw [hs] at D0
  unfold F_law
  rw [b_law_cut]
  by_cases c : 0 < dr ds 0 3
  · obtain ⟨S, q1, T, a1, a2, e1⟩ := tiny_loc (j := []) (q := 1) B (by omega) (by omega)
    obtain ⟨L, l1, l2, e2⟩ := all_ok (h := bset H (h.length + 1) h.length q1 ++ []) T
    obtain ⟨h', e3⟩ := law_tail (j := [.lst (L.map (stOf S))]) (k := 0) (q := q1) (x0 := some (.fl (ns.map D.int))) (y2 := none) (y3 := none) B T.fi l2 rfl (by omega) (by omega)
    rw [List.append_nil] at e1 e2
    obtain ⟨h2, e4⟩ := gc_bl (h := h) (h' := h')
    refine ⟨h2, ?_⟩
    simp (disch := first | assumption | omega | (simp only [List.length_cons, List.length_nil, List.length_map]; omega)) [runDef_if, ed]
    rw [hH]
    simp (disch := first | assumption | omega | (simp only [List.length_cons, List.length_nil, List.length_map]; omega)) [] at D0
    simp (disch := first | assumption | omega | (simp only [List.length_cons, List.length_nil, List.length_map]; omega)) [] at e1
    simp (disch := first | assumption | omega | (simp only [List.length_cons, List.length_nil, List.length_map]; omega)) [bset_len] at e2
    simp (disch := first | assumption | omega | (simp only [List.length_cons, List.length_nil, List.length_map]; omega)) [] at e3
    simp (disch := first | assumption | omega | (simp only [List.length_cons, List.length_nil, List.length_map]; omega)) [D0, c, e1, e2, e3]
    exact e4
  · obtain ⟨S, q1, F, a1, a2, e1⟩ := wide_loc (j := []) (q := 1) B (by omega) (by omega)
    obtain ⟨R, q2, r1, r2, r3, b1, b2, e2⟩ := rows_of_loc (j := []) (q := q1) B F (by omega) (by omega)
    obtain ⟨h', e3⟩ := law_tail (j := [.lst (R.map tupN), .lst ((R.take 2).map (stOf S))]) (k := 1) (q := q2) (x0 := some (.fl (ns.map D.int))) (y2 := none) (y3 := none) B F r3 rfl (by omega) (by omega)
    rw [List.append_nil] at e1
    obtain ⟨h2, e4⟩ := gc_bl (h := h) (h' := h')
    refine ⟨h2, ?_⟩
    simp (disch := first | assumption | omega | (simp only [List.length_cons, List.length_nil, List.length_map]; omega)) [runDef_if, ed]
    rw [hH]
    simp (disch := first | assumption | omega | (simp only [List.length_cons, List.length_nil, List.length_map]; omega)) [] at D0
    simp (disch := first | assumption | omega | (simp only [List.length_cons, List.length_nil, List.length_map]; omega)) [] at e1
    simp (disch := first | assumption | omega | (simp only [List.length_cons, List.length_nil, List.length_map]; omega)) [] at e2
    have hc : cutA (R.map tupN) none (some 2) = (R.take 2).map tupN := by
      rw [show (2 : Int) = ((2 : Nat) : Int) from rfl, cut_none, List.map_take]
    have tl : (R.take 2).length ≤ 16777216 := by rw [List.length_take]; omega
    have rl : R.length ≤ 16777216 := by omega
    simp (disch := first | assumption | omega | (simp only [List.length_cons, List.length_nil, List.length_map]; omega)) [D0, c, e1, e2, hc, rl, -List.map_take]
    rw [compL_mapT (t := tupN) (stOf S) rfl _ (fun r hr => ⟨_, rfl, by simp (disch := first | assumption | omega | (simp only [List.length_cons, List.length_nil, List.length_map]; omega)) [unrow_st F.ok (r3 r hr).ok]⟩)]
    simp (disch := first | assumption | omega | (simp only [List.length_cons, List.length_nil, List.length_map]; omega)) [tl, -List.map_take, -List.length_take]
    simp (disch := first | assumption | omega | (simp only [List.length_cons, List.length_nil, List.length_map]; omega)) [e3, -List.map_take, -List.length_take]
    exact e4
end Sm
namespace Sm
open PySem PySem.Spec PyProof.Rows L2
def topS (i : Nat) : Stmt := PySem.Challenge.pw_allroads_k31_cells_and_rows.main.body.getD i (.Pass ⟨0, 0, 0, 0⟩)
structure Tx (K : PySem.W.Frag) (mg : Str → Option Value) where
  f_datum_cells : Addr
  d_datum_cells : FuncData
  F_datum_cells : Fun K "datum_cells" "datum_cells" (topS 1) f_datum_cells d_datum_cells
  b_datum_cells : Binds K d_datum_cells ["datum"] []
  m_datum_cells : mg "datum_cells" = some (.ref f_datum_cells)
  f_cells : Addr
  d_cells : FuncData
  F_cells : Fun K "cells" "cells" (topS 2) f_cells d_cells
  b_cells : Binds K d_cells ["system"] []
  m_cells : mg "cells" = some (.ref f_cells)
  f_cell_row : Addr
  d_cell_row : FuncData
  F_cell_row : Fun K "cell_row" "cell_row" (topS 3) f_cell_row d_cell_row
  b_cell_row : Binds K d_cell_row ["system", "state"] []
  m_cell_row : mg "cell_row" = some (.ref f_cell_row)
  f_state_of : Addr
  d_state_of : FuncData
  F_state_of : Fun K "state_of" "state_of" (topS 4) f_state_of d_state_of
  b_state_of : Binds K d_state_of ["system", "row"] []
  m_state_of : mg "state_of" = some (.ref f_state_of)
  f_law_cell : Addr
  d_law_cell : FuncData
  F_law_cell : Fun K "_law_cell" "_law_cell" (topS 6) f_law_cell d_law_cell
  b_law_cell : Binds K d_law_cell ["script", "k"] []
  m_law_cell : mg "_law_cell" = some (.ref f_law_cell)
  f_law_digits : Addr
  d_law_digits : FuncData
  F_law_digits : Fun K "_law_digits" "_law_digits" (topS 7) f_law_digits d_law_digits
  b_law_digits : Binds K d_law_digits ["script", "first", "last"] []
  m_law_digits : mg "_law_digits" = some (.ref f_law_digits)
  f_law_draw : Addr
  d_law_draw : FuncData
  F_law_draw : Fun K "_law_draw" "_law_draw" (topS 8) f_law_draw d_law_draw
  b_law_draw : Binds K d_law_draw ["box", "many"] []
  m_law_draw : mg "_law_draw" = some (.ref f_law_draw)
  f_law_pick : Addr
  d_law_pick : FuncData
  F_law_pick : Fun K "_law_pick" "_law_pick" (topS 9) f_law_pick d_law_pick
  b_law_pick : Binds K d_law_pick ["box", "rows"] []
  m_law_pick : mg "_law_pick" = some (.ref f_law_pick)
  f_law_names : Addr
  d_law_names : FuncData
  F_law_names : Fun K "_law_names" "_law_names" (topS 10) f_law_names d_law_names
  b_law_names : Binds K d_law_names ["box", "many", "used"] []
  m_law_names : mg "_law_names" = some (.ref f_law_names)
  f_law_number : Addr
  d_law_number : FuncData
  F_law_number : Fun K "_law_number" "_law_number" (topS 11) f_law_number d_law_number
  b_law_number : Binds K d_law_number ["box", "system"] []
  m_law_number : mg "_law_number" = some (.ref f_law_number)
  f_law_truth : Addr
  d_law_truth : FuncData
  F_law_truth : Fun K "_law_truth" "_law_truth" (topS 12) f_law_truth d_law_truth
  b_law_truth : Binds K d_law_truth ["box", "system", "deep"] []
  m_law_truth : mg "_law_truth" = some (.ref f_law_truth)
  f_law_deed : Addr
  d_law_deed : FuncData
  F_law_deed : Fun K "_law_deed" "_law_deed" (topS 13) f_law_deed d_law_deed
  b_law_deed : Binds K d_law_deed ["box", "system"] []
  m_law_deed : mg "_law_deed" = some (.ref f_law_deed)
  f_law_like : Addr
  d_law_like : FuncData
  F_law_like : Fun K "_law_like" "_law_like" (topS 14) f_law_like d_law_like
  b_law_like : Binds K d_law_like ["actual", "due"] []
  m_law_like : mg "_law_like" = some (.ref f_law_like)
  f_law_lively : Addr
  d_law_lively : FuncData
  F_law_lively : Fun K "_law_lively" "_law_lively" (topS 16) f_law_lively d_law_lively
  b_law_lively : Binds K d_law_lively ["box", "system"] []
  m_law_lively : mg "_law_lively" = some (.ref f_law_lively)
  f_law_tiny : Addr
  d_law_tiny : FuncData
  F_law_tiny : Fun K "_law_tiny" "_law_tiny" (topS 15) f_law_tiny d_law_tiny
  b_law_tiny : Binds K d_law_tiny ["box"] []
  m_law_tiny : mg "_law_tiny" = some (.ref f_law_tiny)
  f_law_cells : Addr
  d_law_cells : FuncData
  F_law_cells : Fun K "_law_cells" "_law_cells" (topS 17) f_law_cells d_law_cells
  b_law_cells : Binds K d_law_cells ["system"] []
  m_law_cells : mg "_law_cells" = some (.ref f_law_cells)
  f_law_row : Addr
  d_law_row : FuncData
  F_law_row : Fun K "_law_row" "_law_row" (topS 18) f_law_row d_law_row
  b_law_row : Binds K d_law_row ["system", "state"] []
  m_law_row : mg "_law_row" = some (.ref f_law_row)
  f_law_unrow : Addr
  d_law_unrow : FuncData
  F_law_unrow : Fun K "_law_unrow" "_law_unrow" (topS 19) f_law_unrow d_law_unrow
  b_law_unrow : Binds K d_law_unrow ["system", "row"] []
  m_law_unrow : mg "_law_unrow" = some (.ref f_law_unrow)
  f_law_all : Addr
  d_law_all : FuncData
  F_law_all : Fun K "_law_all" "_law_all" (topS 20) f_law_all d_law_all
  b_law_all : Binds K d_law_all ["system"] []
  m_law_all : mg "_law_all" = some (.ref f_law_all)
  f_law_wide : Addr
  d_law_wide : FuncData
  F_law_wide : Fun K "_law_wide" "_law_wide" (topS 21) f_law_wide d_law_wide
  b_law_wide : Binds K d_law_wide ["box"] []
  m_law_wide : mg "_law_wide" = some (.ref f_law_wide)
  f_law_rows_of : Addr
  d_law_rows_of : FuncData
  F_law_rows_of : Fun K "_law_rows_of" "_law_rows_of" (topS 22) f_law_rows_of d_law_rows_of
  b_law_rows_of : Binds K d_law_rows_of ["box", "system"] []
  m_law_rows_of : mg "_law_rows_of" = some (.ref f_law_rows_of)
  f_law : Addr
  d_law : FuncData
  F_law : Fun K "law" "law" (topS 23) f_law d_law
  b_law : Binds K d_law ["script"] []
  m_law : mg "law" = some (.ref f_law)
  z_bool : mg "bool" = none
  z_int : mg "int" = none
  z_isinstance : mg "isinstance" = none
  z_len : mg "len" = none
  z_list : mg "list" = none
  z_range : mg "range" = none
  z_str : mg "str" = none
  z_tuple : mg "tuple" = none
  z_zip : mg "zip" = none
section
variable {P : Program} {w : World} {K : PySem.W.Frag} {mg : Str → Option Value} {base : Heap}
theorem sc_datum_cells : FnScope ["datum", "values", "slot"] ["datum"] (defScope (topS 1)) := ⟨rfl, rfl, rfl, by decide +kernel, rfl, by decide +kernel, by decide +kernel⟩
theorem ok_datum_cells (T : Tx K mg) : FnOk P w K mg base CX0 1 T.f_datum_cells T.d_datum_cells ["datum"] (spF K 1 F_datum_cells) :=
  fn_sem (k := 0) T.F_datum_cells sc_datum_cells rfl rfl fun cdv A outer s H E hr =>
  (jb_cons (js_if (jt_c (c_eq hr) (je_at (je_var 0) je_int) je_str) (jb_one (js_ret (je_lst (ja_cons (je_tup (ja_cons (je_at (je_var 0) je_int) (ja_cons je_int (ja_cons (je_tupRg2 rfl (by rfl) T.z_tuple (by rfl) T.z_range (je_at (je_var 0) je_int) (je_add (je_at (je_var 0) je_int) je_int)) ja_nil)))) ja_nil)))) jb_nil) (jb_cons (js_set (i := 1) sc_datum_cells.nd rfl (by first | exact .inl rfl | exact .inr rfl) (je_add (je_tup (ja_cons je_non ja_nil)) (je_tupRg2 rfl (by rfl) T.z_tuple (by rfl) T.z_range (je_at (je_var 0) je_int) (je_add (je_at (je_var 0) je_int) je_int)))) (jb_one (js_ret (je_comp (own := [(("slot" : Str), 2)]) rfl sc_datum_cells.nd (ji_rng2 (by rfl) T.z_range (ja_cons je_int (ja_cons (je_add (je_at (je_var 0) je_int) je_int) ja_nil))) (blkOk_by (by kernel_rfl)) (fun _ _ _ _ _ => (jg_name (i := 2) sc_datum_cells.nd rfl (by first | exact .inl rfl | exact .inr rfl) (by decide))) (fun _ _ _ _ _ => jts_nil) (fun _ _ _ _ _ => (je_tup (ja_cons (je_at (je_var 0) je_int) (ja_cons (je_var 2) (ja_cons (je_var 1) ja_nil))))))))))
theorem sc_cells : FnScope ["system", "found", "datum", "process"] ["system"] (defScope (topS 2)) := ⟨rfl, rfl, rfl, by decide +kernel, rfl, by decide +kernel, by decide +kernel⟩
theorem ok_cells (T : Tx K mg) : FnOk P w K mg base CX0 2 T.f_cells T.d_cells ["system"] (spF K 1 F_cells) :=
  fn_sem (k := 1) T.F_cells sc_cells rfl rfl fun cdv A outer s H E hr =>
  (jb_cons (js_setComp (i := 1) (own := [(("process" : Str), 3)]) rfl sc_cells.nd rfl rfl (sw_true rfl rfl rfl (by decide +kernel)) (ji_seq (je_at (je_var 0) je_int)) (blkOk_by (by kernel_rfl)) (fun _ _ _ _ _ => (jg_name (i := 3) sc_cells.nd rfl (by first | exact .inl rfl | exact .inr rfl) (by decide))) (fun _ _ _ _ _ => jts_nil) (fun _ _ _ _ _ => (je_tup (ja_cons (je_at (je_var 3) je_int) (ja_cons je_int (ja_cons (je_at (je_var 3) je_int) ja_nil)))))) (jb_cons (js_for (vs := [2]) PassesOwn.never rfl (ji_seq (je_at (je_var 0) je_int)) (jg_name (i := 2) sc_cells.nd rfl (by first | exact .inl rfl | exact .inr rfl) (by decide)) (jb_one (js_iadd (i := 1) sc_cells.nd rfl (by first | exact .inl rfl | exact .inr rfl) (je_call (ok_datum_cells T) (hr.mono (by decide)) (by rfl) T.m_datum_cells T.F_datum_cells.kp T.b_datum_cells (ja_cons (je_var 2) ja_nil) (lenA_cons lenA_nil) rfl)))) (jb_one (js_ret (je_tuple (by rfl) T.z_tuple (ja_cons (je_var 1) ja_nil))))))
theorem sc_cell_row : FnScope ["system", "state", "contents", "datum", "value", "at", "cell", "content"] ["system", "state"] (defScope (topS 3)) := ⟨rfl, rfl, rfl, by decide +kernel, rfl, by decide +kernel, by decide +kernel⟩
theorem ok_cell_row (T : Tx K mg) : FnOk P w K mg base CX0 3 T.f_cell_row T.d_cell_row ["system", "state"] (spF K 2 F_cell_row) :=
  fn_sem (k := 2) T.F_cell_row sc_cell_row rfl rfl fun cdv A outer s H E hr =>
  (jb_cons (js_set (i := 2) sc_cell_row.nd rfl (by first | exact .inl rfl | exact .inr rfl) (je_list (by rfl) T.z_list (ja_cons (je_at (je_var 1) je_int) ja_nil))) (jb_cons (js_for (vs := [3, 4]) PassesOwn.never rfl (ji_zip (by rfl) T.z_zip (ja_cons (je_at (je_var 0) je_int) (ja_cons (je_at (je_var 1) je_int) ja_nil))) (jg_tup rfl (jgs_cons (jg_name (i := 3) sc_cell_row.nd rfl (by first | exact .inl rfl | exact .inr rfl) (by decide)) (jgs_cons (jg_name (i := 4) sc_cell_row.nd rfl (by first | exact .inl rfl | exact .inr rfl) (by decide)) jgs_nil))) (jb_one (js_if (jt_c (c_eq hr) (je_at (je_var 3) je_int) je_str) (jb_one (js_expr (je_append (je_var 2) (je_var 4)))) (jb_one (js_iadd (i := 2) sc_cell_row.nd rfl (by first | exact .inl rfl | exact .inr rfl) (je_comp (own := [(("at" : Str), 5)]) rfl sc_cell_row.nd (ji_rng1 (by rfl) T.z_range (ja_cons (je_at (je_var 3) je_int) ja_nil)) (blkOk_by (by kernel_rfl)) (fun _ _ _ _ _ => (jg_name (i := 5) sc_cell_row.nd rfl (by first | exact .inl rfl | exact .inr rfl) (by decide))) (fun _ _ _ _ _ => jts_nil) (fun _ _ _ _ _ => (je_if (jt_c c_lt (je_var 5) (je_len (by rfl) T.z_len (ja_cons (je_var 4) ja_nil))) (je_at (je_var 4) (je_var 5)) je_non)))))))) (jb_one (js_ret (je_tuple (by rfl) T.z_tuple (ja_cons (je_comp (own := [(("cell" : Str), 6), (("content" : Str), 7)]) rfl sc_cell_row.nd (ji_zip (by rfl) T.z_zip (ja_cons (je_call (ok_cells T) (hr.mono (by decide)) (by rfl) T.m_cells T.F_cells.kp T.b_cells (ja_cons (je_var 0) ja_nil) (lenA_cons lenA_nil) rfl) (ja_cons (je_var 2) ja_nil))) (blkOk_by (by kernel_rfl)) (fun _ _ _ _ _ => (jg_tup rfl (jgs_cons (jg_name (i := 6) sc_cell_row.nd rfl (by first | exact .inl rfl | exact .inr rfl) (by decide)) (jgs_cons (jg_name (i := 7) sc_cell_row.nd rfl (by first | exact .inl rfl | exact .inr rfl) (by decide)) jgs_nil)))) (fun _ _ _ _ _ => jts_nil) (fun _ _ _ _ _ => (je_index (je_at (je_var 6) je_int) (je_var 7)))) ja_nil))))))
theorem sc_state_of : FnScope ["system", "row", "contents", "at", "places", "values", "datum", "letters", "full", "cell", "number", "letter"] ["system", "row"] (defScope (topS 4)) := ⟨rfl, rfl, rfl, by decide +kernel, rfl, by decide +kernel, by decide +kernel⟩
theorem ok_state_of (T : Tx K mg) : FnOk P w K mg base CX0 3 T.f_state_of T.d_state_of ["system", "row"] (spF K 2 F_state_of) :=
  fn_sem (k := 2) T.F_state_of sc_state_of rfl rfl fun cdv A outer s H E hr =>
  (jb_cons (js_setComp (i := 2) (own := [(("cell" : Str), 9), (("number" : Str), 10)]) rfl sc_state_of.nd rfl rfl (sw_true rfl rfl rfl (by decide +kernel)) (ji_zip (by rfl) T.z_zip (ja_cons (je_call (ok_cells T) (hr.mono (by decide)) (by rfl) T.m_cells T.F_cells.kp T.b_cells (ja_cons (je_var 0) ja_nil) (lenA_cons lenA_nil) rfl) (ja_cons (je_var 1) ja_nil))) (blkOk_by (by kernel_rfl)) (fun _ _ _ _ _ => (jg_tup rfl (jgs_cons (jg_name (i := 9) sc_state_of.nd rfl (by first | exact .inl rfl | exact .inr rfl) (by decide)) (jgs_cons (jg_name (i := 10) sc_state_of.nd rfl (by first | exact .inl rfl | exact .inr rfl) (by decide)) jgs_nil)))) (fun _ _ _ _ _ => jts_nil) (fun _ _ _ _ _ => (je_at (je_at (je_var 9) je_int) (je_var 10)))) (jb_cons (js_set (i := 3) sc_state_of.nd rfl (by first | exact .inl rfl | exact .inr rfl) (je_len (by rfl) T.z_len (ja_cons (je_at (je_var 0) je_int) ja_nil))) (jb_cons (js_set (i := 4) sc_state_of.nd rfl (by first | exact .inl rfl | exact .inr rfl) (je_tuple (by rfl) T.z_tuple (ja_cons (je_sl (je_var 2) jo_none (jo_some (je_var 3))) ja_nil))) (jb_cons (js_set (i := 5) sc_state_of.nd rfl (by first | exact .inl rfl | exact .inr rfl) (je_lst ja_nil)) (jb_cons (js_for (vs := [6]) PassesOwn.never rfl (ji_seq (je_at (je_var 0) je_int)) (jg_name (i := 6) sc_state_of.nd rfl (by first | exact .inl rfl | exact .inr rfl) (by decide)) (jb_one (js_if (jt_c (c_eq hr) (je_at (je_var 6) je_int) je_str) (jb_cons (js_expr (je_append (je_var 5) (je_at (je_var 2) (je_var 3)))) (jb_one (js_iadd (i := 3) sc_state_of.nd rfl (by first | exact .inl rfl | exact .inr rfl) je_int))) (jb_cons (js_set (i := 7) sc_state_of.nd rfl (by first | exact .inl rfl | exact .inr rfl) (je_sl (je_var 2) (jo_some (je_var 3)) (jo_some (je_add (je_var 3) (je_at (je_var 6) je_int))))) (jb_cons (js_iadd (i := 3) sc_state_of.nd rfl (by first | exact .inl rfl | exact .inr rfl) (je_at (je_var 6) je_int)) (jb_cons (js_setComp (i := 8) (own := [(("letter" : Str), 11)]) rfl sc_state_of.nd rfl rfl (sw_true rfl rfl rfl (by decide +kernel)) (ji_seq (je_var 7)) (blkOk_by (by kernel_rfl)) (fun _ _ _ _ _ => (jg_name (i := 11) sc_state_of.nd rfl (by first | exact .inl rfl | exact .inr rfl) (by decide))) (fun _ _ _ _ _ => (jts_one (jt_c c_isnot (je_var 11) je_non))) (fun _ _ _ _ _ => (je_var 11))) (jb_cons (js_if (jt_c (c_ne hr) (je_sl (je_var 7) jo_none (jo_some (je_len (by rfl) T.z_len (ja_cons (je_var 8) ja_nil)))) (je_var 8)) (jb_one (js_ret je_non)) jb_nil) (jb_one (js_expr (je_append (je_var 5) (je_tuple (by rfl) T.z_tuple (ja_cons (je_var 8) ja_nil)))))))))))) (jb_one (js_ret (je_tup (ja_cons (je_var 4) (ja_cons (je_tuple (by rfl) T.z_tuple (ja_cons (je_var 5) ja_nil)) ja_nil))))))))))
theorem sc_law_cell : FnScope ["script", "k"] ["script", "k"] (defScope (topS 6)) := ⟨rfl, rfl, rfl, by decide +kernel, rfl, by decide +kernel, by decide +kernel⟩
theorem ok_law_cell (T : Tx K mg) : FnOk P w K mg base CX0 1 T.f_law_cell T.d_law_cell ["script", "k"] (spF K 2 F_law_cell) :=
  fn_sem (k := 0) T.F_law_cell sc_law_cell rfl rfl fun cdv A outer s H E hr =>
  (jb_cons (js_if (jt_c c_lt (je_var 1) (je_len (by rfl) T.z_len (ja_cons (je_var 0) ja_nil))) (jb_one (js_ret (je_at (je_var 0) (je_var 1)))) jb_nil) (jb_one (js_ret je_int)))
theorem sc_law_digits : FnScope ["script", "first", "last", "digits", "k", "cell", "turn", "seed"] ["script", "first", "last"] (defScope (topS 7)) := ⟨rfl, rfl, rfl, by decide +kernel, rfl, by decide +kernel, by decide +kernel⟩
theorem ok_law_digits (T : Tx K mg) : FnOk P w K mg base CX0 2 T.f_law_digits T.d_law_digits ["script", "first", "last"] (spF K 3 F_law_digits) :=
  fn_sem (k := 1) T.F_law_digits sc_law_digits rfl rfl fun cdv A outer s H E hr =>
  (jb_cons (js_set (i := 3) sc_law_digits.nd rfl (by first | exact .inl rfl | exact .inr rfl) (je_lst ja_nil)) (jb_cons (js_for (vs := [4]) PassesOwn.never rfl (ji_rng2 (by rfl) T.z_range (ja_cons (je_var 1) (ja_cons (je_var 2) ja_nil))) (jg_name (i := 4) sc_law_digits.nd rfl (by first | exact .inl rfl | exact .inr rfl) (by decide)) (jb_cons (js_set (i := 5) sc_law_digits.nd rfl (by first | exact .inl rfl | exact .inr rfl) (je_call (ok_law_cell T) (hr.mono (by decide)) (by rfl) T.m_law_cell T.F_law_cell.kp T.b_law_cell (ja_cons (je_var 0) (ja_cons (je_var 4) ja_nil)) (lenA_cons (lenA_cons lenA_nil)) rfl)) (jb_cons (js_if (jt_c c_lt (je_var 5) je_int) (jb_one (js_set (i := 5) sc_law_digits.nd rfl (by first | exact .inl rfl | exact .inr rfl) (je_sub je_int (je_mul je_int (je_var 5))))) jb_nil) (jb_one (js_if (jt_c c_ge (je_var 5) (je_pow je_int je_int)) (jb_one (js_for (vs := [6]) PassesOwn.never rfl (ji_rng1 (by rfl) T.z_range (ja_cons je_int ja_nil)) (jg_name (i := 6) sc_law_digits.nd rfl (by first | exact .inl rfl | exact .inr rfl) (by decide)) (jb_one (js_if (jt_c c_gt (je_var 5) je_int) (jb_cons (js_expr (je_append (je_var 3) (je_mod (je_intc (by rfl) T.z_int (ja_cons (je_var 5) ja_nil)) je_int))) (jb_one (js_set (i := 5) sc_law_digits.nd rfl (by first | exact .inl rfl | exact .inr rfl) (je_div (je_var 5) je_int)))) jb_nil)))) (jb_cons (js_set (i := 7) sc_law_digits.nd rfl (by first | exact .inl rfl | exact .inr rfl) (je_mod (je_intc (by rfl) T.z_int (ja_cons (je_add (je_add (je_mul (je_var 5) je_int) (je_mul (je_var 4) je_int)) je_int) ja_nil)) je_int)) (jb_one (js_for (vs := [6]) PassesOwn.never rfl (ji_rng1 (by rfl) T.z_range (ja_cons je_int ja_nil)) (jg_name (i := 6) sc_law_digits.nd rfl (by first | exact .inl rfl | exact .inr rfl) (by decide)) (jb_cons (js_set (i := 7) sc_law_digits.nd rfl (by first | exact .inl rfl | exact .inr rfl) (je_mod (je_intc (by rfl) T.z_int (ja_cons (je_add (je_add (je_mul (je_var 7) je_int) (je_mul je_int (je_var 6))) je_int) ja_nil)) je_int)) (jb_one (js_expr (je_append (je_var 3) (je_mod (je_intc (by rfl) T.z_int (ja_cons (je_div (je_var 7) je_int) ja_nil)) je_int))))))))))))) (jb_one (js_ret (je_var 3)))))
theorem sc_law_draw : FnScope ["box", "many", "at"] ["box", "many"] (defScope (topS 8)) := ⟨rfl, rfl, rfl, by decide +kernel, rfl, by decide +kernel, by decide +kernel⟩
theorem ok_law_draw (T : Tx K mg) : FnOk P w K mg base CX0 1 T.f_law_draw T.d_law_draw ["box", "many"] (spF K 2 F_law_draw) :=
  fn_sem (k := 0) T.F_law_draw sc_law_draw rfl rfl fun cdv A outer s H E hr =>
  (jb_cons (js_set (i := 2) sc_law_draw.nd rfl (by first | exact .inl rfl | exact .inr rfl) (je_at (je_var 0) je_int)) (jb_cons (js_asg (vs := []) (je_add (je_var 2) je_int) (jg_sub (je_var 0) je_int)) (jb_cons (js_if (jt_c c_lt (je_var 2) (je_len (by rfl) T.z_len (ja_cons (je_at (je_var 0) je_int) ja_nil))) (jb_one (js_ret (je_mod (je_intc (by rfl) T.z_int (ja_cons (je_at (je_at (je_var 0) je_int) (je_var 2)) ja_nil)) (je_var 1)))) jb_nil) (jb_one (js_ret (je_mod (je_intc (by rfl) T.z_int (ja_cons (je_add (je_add (je_add (je_mul (je_mul (je_var 2) (je_var 2)) je_int) (je_mul (je_var 2) je_int)) (je_div (je_var 2) je_int)) je_int) ja_nil)) (je_var 1)))))))
theorem sc_law_pick : FnScope ["box", "rows"] ["box", "rows"] (defScope (topS 9)) := ⟨rfl, rfl, rfl, by decide +kernel, rfl, by decide +kernel, by decide +kernel⟩
theorem ok_law_pick (T : Tx K mg) : FnOk P w K mg base CX0 2 T.f_law_pick T.d_law_pick ["box", "rows"] (spF K 2 F_law_pick) :=
  fn_sem (k := 1) T.F_law_pick sc_law_pick rfl rfl fun cdv A outer s H E hr =>
  (jb_one (js_ret (je_at (je_var 1) (je_call (ok_law_draw T) (hr.mono (by decide)) (by rfl) T.m_law_draw T.F_law_draw.kp T.b_law_draw (ja_cons (je_var 0) (ja_cons (je_len (by rfl) T.z_len (ja_cons (je_var 1) ja_nil)) ja_nil)) (lenA_cons (lenA_cons lenA_nil)) rfl))))
theorem sc_law_names : FnScope ["box", "many", "used", "found", "k", "sign", "other", "name", "turn"] ["box", "many", "used"] (defScope (topS 10)) := ⟨rfl, rfl, rfl, by decide +kernel, rfl, by decide +kernel, by decide +kernel⟩
theorem ok_law_names (T : Tx K mg) : FnOk P w K mg base CX0 2 T.f_law_names T.d_law_names ["box", "many", "used"] (spF K 3 F_law_names) :=
  fn_sem (k := 1) T.F_law_names sc_law_names rfl rfl fun cdv A outer s H E hr =>
  (jb_cons (js_set (i := 3) sc_law_names.nd rfl (by first | exact .inl rfl | exact .inr rfl) (je_lst ja_nil)) (jb_cons (js_for (vs := [4]) PassesOwn.never rfl (ji_rng1 (by rfl) T.z_range (ja_cons (je_var 1) ja_nil)) (jg_name (i := 4) sc_law_names.nd rfl (by first | exact .inl rfl | exact .inr rfl) (by decide)) (jb_cons (js_set (i := 5) sc_law_names.nd rfl (by first | exact .inl rfl | exact .inr rfl) (je_at je_str (je_var 4))) (jb_cons (js_set (i := 6) sc_law_names.nd rfl (by first | exact .inl rfl | exact .inr rfl) (je_at je_str (je_call (ok_law_draw T) (hr.mono (by decide)) (by rfl) T.m_law_draw T.F_law_draw.kp T.b_law_draw (ja_cons (je_var 0) (ja_cons je_int ja_nil)) (lenA_cons (lenA_cons lenA_nil)) rfl))) (jb_cons (js_set (i := 7) sc_law_names.nd rfl (by first | exact .inl rfl | exact .inr rfl) (je_at (je_lst (ja_cons (je_var 5) (ja_cons (je_ad (je_add (je_var 5) (je_var 6))) (ja_cons (je_ad (je_add (je_var 6) (je_var 5))) (ja_cons (je_ad (je_add (je_add (je_var 6) (je_var 5)) je_str)) (ja_cons (je_ad (je_add (je_add (je_var 6) je_str) (je_var 5))) ja_nil)))))) (je_call (ok_law_draw T) (hr.mono (by decide)) (by rfl) T.m_law_draw T.F_law_draw.kp T.b_law_draw (ja_cons (je_var 0) (ja_cons je_int ja_nil)) (lenA_cons (lenA_cons lenA_nil)) rfl))) (jb_cons (js_for (vs := [8]) PassesOwn.never rfl (ji_rng1 (by rfl) T.z_range (ja_cons je_int ja_nil)) (jg_name (i := 8) sc_law_names.nd rfl (by first | exact .inl rfl | exact .inr rfl) (by decide)) (jb_one (js_if (jt_c c_in (je_var 7) (je_add (je_var 3) (je_var 2))) (jb_one (js_set (i := 7) sc_law_names.nd rfl (by first | exact .inl rfl | exact .inr rfl) (je_add (je_var 7) (je_at je_str (je_var 8))))) jb_nil))) (jb_one (js_expr (je_append (je_var 3) (je_var 7))))))))) (jb_one (js_ret (je_var 3)))))
theorem sc_law_number : FnScope ["box", "system", "names", "one", "kind", "datum"] ["box", "system"] (defScope (topS 11)) := ⟨rfl, rfl, rfl, by decide +kernel, rfl, by decide +kernel, by decide +kernel⟩
theorem ok_law_number (T : Tx K mg) : FnOk P w K mg base CX0 3 T.f_law_number T.d_law_number ["box", "system"] (spF K 2 F_law_number) :=
  fn_sem (k := 2) T.F_law_number sc_law_number rfl rfl fun cdv A outer s H E hr =>
  (jb_cons (js_setComp (i := 2) (own := [(("datum" : Str), 5)]) rfl sc_law_number.nd rfl rfl (sw_true rfl rfl rfl (by decide +kernel)) (ji_seq (je_at (je_var 1) je_int)) (blkOk_by (by kernel_rfl)) (fun _ _ _ _ _ => (jg_name (i := 5) sc_law_number.nd rfl (by first | exact .inl rfl | exact .inr rfl) (by decide))) (fun _ _ _ _ _ => (jts_one (jt_c (c_eq hr) (je_at (je_var 5) je_int) je_str))) (fun _ _ _ _ _ => (je_tup (ja_cons je_str (ja_cons (je_at (je_var 5) je_int) ja_nil))))) (jb_cons (js_set (i := 2) sc_law_number.nd rfl (by first | exact .inl rfl | exact .inr rfl) (je_add (je_var 2) (je_comp (own := [(("datum" : Str), 5)]) rfl sc_law_number.nd (ji_seq (je_at (je_var 1) je_int)) (blkOk_by (by kernel_rfl)) (fun _ _ _ _ _ => (jg_name (i := 5) sc_law_number.nd rfl (by first | exact .inl rfl | exact .inr rfl) (by decide))) (fun _ _ _ _ _ => (jts_one (jt_c (c_eq hr) (je_at (je_var 5) je_int) je_str))) (fun _ _ _ _ _ => (je_tup (ja_cons je_str (ja_cons (je_at (je_var 5) je_int) ja_nil))))))) (jb_cons (js_set (i := 3) sc_law_number.nd rfl (by first | exact .inl rfl | exact .inr rfl) (je_call (ok_law_pick T) (hr.mono (by decide)) (by rfl) T.m_law_pick T.F_law_pick.kp T.b_law_pick (ja_cons (je_var 0) (ja_cons (je_ad (je_add (je_var 2) (je_lst (ja_cons (je_tup (ja_cons je_str (ja_cons (je_call (ok_law_draw T) (hr.mono (by decide)) (by rfl) T.m_law_draw T.F_law_draw.kp T.b_law_draw (ja_cons (je_var 0) (ja_cons je_int ja_nil)) (lenA_cons (lenA_cons lenA_nil)) rfl) ja_nil))) ja_nil)))) ja_nil)) (lenA_cons (lenA_cons lenA_nil)) rfl)) (jb_cons (js_set (i := 4) sc_law_number.nd rfl (by first | exact .inl rfl | exact .inr rfl) (je_call (ok_law_draw T) (hr.mono (by decide)) (by rfl) T.m_law_draw T.F_law_draw.kp T.b_law_draw (ja_cons (je_var 0) (ja_cons je_int ja_nil)) (lenA_cons (lenA_cons lenA_nil)) rfl)) (jb_cons (js_if (jt_c (c_eq hr) (je_var 4) je_int) (jb_one (js_ret (je_tup (ja_cons je_str (ja_cons (je_var 3) (ja_cons (je_tup (ja_cons je_str (ja_cons (je_ad (je_add je_int (je_call (ok_law_draw T) (hr.mono (by decide)) (by rfl) T.m_law_draw T.F_law_draw.kp T.b_law_draw (ja_cons (je_var 0) (ja_cons je_int ja_nil)) (lenA_cons (lenA_cons lenA_nil)) rfl))) ja_nil))) ja_nil)))))) jb_nil) (jb_cons (js_if (jt_c (c_eq hr) (je_var 4) je_int) (jb_one (js_ret (je_tup (ja_cons je_str (ja_cons (je_var 3) (ja_cons (je_call (ok_law_pick T) (hr.mono (by decide)) (by rfl) T.m_law_pick T.F_law_pick.kp T.b_law_pick (ja_cons (je_var 0) (ja_cons (je_ad (je_add (je_var 2) (je_lst (ja_cons (je_tup (ja_cons je_str (ja_cons je_int ja_nil))) ja_nil)))) ja_nil)) (lenA_cons (lenA_cons lenA_nil)) rfl) ja_nil)))))) jb_nil) (jb_cons (js_if (jt_c (c_eq hr) (je_var 4) je_int) (jb_one (js_ret (je_tup (ja_cons je_str (ja_cons (je_var 3) (ja_cons (je_tup (ja_cons je_str (ja_cons (je_call (ok_law_draw T) (hr.mono (by decide)) (by rfl) T.m_law_draw T.F_law_draw.kp T.b_law_draw (ja_cons (je_var 0) (ja_cons je_int ja_nil)) (lenA_cons (lenA_cons lenA_nil)) rfl) ja_nil))) ja_nil)))))) jb_nil) (jb_one (js_ret (je_var 3))))))))))
theorem sc_law_truth : FnScope ["box", "system", "deep", "kind", "process"] ["box", "system", "deep"] (defScope (topS 12)) := ⟨rfl, rfl, rfl, by decide +kernel, rfl, by decide +kernel, by decide +kernel⟩
theorem ok_law_truth (T : Tx K mg) : ∀ k : Nat, FnOk P w K mg base CX0 (3 + k) T.f_law_truth T.d_law_truth ["box", "system", "deep"] (spF K 3 (F_law_truth k))
  | 0 => fn_none fun vs H Q E ⟨m, h, ds, d, h', S, r, hl, e, q⟩ => by cases e
  | k + 1 => by
    have ih := ok_law_truth T k
    exact fn_sem (k := 3 + k) T.F_law_truth sc_law_truth rfl rfl fun cdv A outer s H E hr =>
      (jb_cons (js_set (i := 3) sc_law_truth.nd rfl (by first | exact .inl rfl | exact .inr rfl) (je_call (ok_law_draw T) (hr.mono (by omega)) (by rfl) T.m_law_draw T.F_law_draw.kp T.b_law_draw (ja_cons (je_var 0) (ja_cons (je_at (je_lst (ja_cons je_int (ja_cons je_int ja_nil))) (je_intc (by rfl) T.z_int (ja_cons (je_c c_gt (je_var 2) je_int) ja_nil))) ja_nil)) (lenA_cons (lenA_cons lenA_nil)) rfl)) (jb_cons (js_if (jt_c c_lt (je_var 3) je_int) (jb_one (js_ret (je_tup (ja_cons (je_at (je_lst (ja_cons je_str (ja_cons je_str (ja_cons je_str ja_nil)))) (je_var 3)) (ja_cons (je_call (ok_law_number T) (hr.mono (by omega)) (by rfl) T.m_law_number T.F_law_number.kp T.b_law_number (ja_cons (je_var 0) (ja_cons (je_var 1) ja_nil)) (lenA_cons (lenA_cons lenA_nil)) rfl) (ja_cons (je_call (ok_law_number T) (hr.mono (by omega)) (by rfl) T.m_law_number T.F_law_number.kp T.b_law_number (ja_cons (je_var 0) (ja_cons (je_var 1) ja_nil)) (lenA_cons (lenA_cons lenA_nil)) rfl) ja_nil)))))) jb_nil) (jb_cons (js_if (jt_c c_lt (je_var 3) je_int) (jb_cons (js_set (i := 4) sc_law_truth.nd rfl (by first | exact .inl rfl | exact .inr rfl) (je_call (ok_law_pick T) (hr.mono (by omega)) (by rfl) T.m_law_pick T.F_law_pick.kp T.b_law_pick (ja_cons (je_var 0) (ja_cons (je_at (je_var 1) je_int) ja_nil)) (lenA_cons (lenA_cons lenA_nil)) rfl)) (jb_one (js_ret (je_tup (ja_cons je_str (ja_cons (je_at (je_var 4) je_int) (ja_cons (je_call (ok_law_pick T) (hr.mono (by omega)) (by rfl) T.m_law_pick T.F_law_pick.kp T.b_law_pick (ja_cons (je_var 0) (ja_cons (je_at (je_var 4) je_int) ja_nil)) (lenA_cons (lenA_cons lenA_nil)) rfl) ja_nil))))))) jb_nil) (jb_cons (js_if (jt_c (c_eq hr) (je_var 3) je_int) (jb_one (js_ret (je_tup (ja_cons je_str (ja_cons (je_call ih (hr.mono (Nat.le_refl _)) (by rfl) T.m_law_truth T.F_law_truth.kp T.b_law_truth (ja_cons (je_var 0) (ja_cons (je_var 1) (ja_cons (je_sub (je_var 2) je_int) ja_nil))) (lenA_cons (lenA_cons (lenA_cons lenA_nil))) rfl) ja_nil))))) jb_nil) (jb_one (js_ret (je_tup (ja_cons (je_at (je_lst (ja_cons je_str (ja_cons je_str ja_nil))) (je_sub (je_var 3) je_int)) (ja_cons (je_call ih (hr.mono (Nat.le_refl _)) (by rfl) T.m_law_truth T.F_law_truth.kp T.b_law_truth (ja_cons (je_var 0) (ja_cons (je_var 1) (ja_cons (je_sub (je_var 2) je_int) ja_nil))) (lenA_cons (lenA_cons (lenA_cons lenA_nil))) rfl) (ja_cons (je_call ih (hr.mono (Nat.le_refl _)) (by rfl) T.m_law_truth T.F_law_truth.kp T.b_law_truth (ja_cons (je_var 0) (ja_cons (je_var 1) (ja_cons (je_sub (je_var 2) je_int) ja_nil))) (lenA_cons (lenA_cons (lenA_cons lenA_nil))) rfl) ja_nil))))))))))
theorem sc_law_deed : FnScope ["box", "system", "queues", "numbers", "kind", "datum", "queue"] ["box", "system"] (defScope (topS 13)) := ⟨rfl, rfl, rfl, by decide +kernel, rfl, by decide +kernel, by decide +kernel⟩
theorem ok_law_deed (T : Tx K mg) : FnOk P w K mg base CX0 4 T.f_law_deed T.d_law_deed ["box", "system"] (spF K 2 F_law_deed) :=
  fn_sem (k := 3) T.F_law_deed sc_law_deed rfl rfl fun cdv A outer s H E hr =>
  (jb_cons (js_setComp (i := 2) (own := [(("datum" : Str), 5)]) rfl sc_law_deed.nd rfl rfl (sw_true rfl rfl rfl (by decide +kernel)) (ji_seq (je_at (je_var 1) je_int)) (blkOk_by (by kernel_rfl)) (fun _ _ _ _ _ => (jg_name (i := 5) sc_law_deed.nd rfl (by first | exact .inl rfl | exact .inr rfl) (by decide))) (fun _ _ _ _ _ => (jts_one (jt_c (c_eq hr) (je_at (je_var 5) je_int) je_str))) (fun _ _ _ _ _ => (je_var 5))) (jb_cons (js_setComp (i := 3) (own := [(("datum" : Str), 5)]) rfl sc_law_deed.nd rfl rfl (sw_true rfl rfl rfl (by decide +kernel)) (ji_seq (je_at (je_var 1) je_int)) (blkOk_by (by kernel_rfl)) (fun _ _ _ _ _ => (jg_name (i := 5) sc_law_deed.nd rfl (by first | exact .inl rfl | exact .inr rfl) (by decide))) (fun _ _ _ _ _ => (jts_one (jt_c (c_eq hr) (je_at (je_var 5) je_int) je_str))) (fun _ _ _ _ _ => (je_var 5))) (jb_cons (js_set (i := 4) sc_law_deed.nd rfl (by first | exact .inl rfl | exact .inr rfl) (je_call (ok_law_draw T) (hr.mono (by decide)) (by rfl) T.m_law_draw T.F_law_draw.kp T.b_law_draw (ja_cons (je_var 0) (ja_cons je_int ja_nil)) (lenA_cons (lenA_cons lenA_nil)) rfl)) (jb_cons (js_if (JW.t (jw_and (jt_c c_lt (je_var 4) je_int) (jw_and1 (jt_c c_gt (je_len (by rfl) T.z_len (ja_cons (je_var 2) ja_nil)) je_int)))) (jb_cons (js_set (i := 6) sc_law_deed.nd rfl (by first | exact .inl rfl | exact .inr rfl) (je_call (ok_law_pick T) (hr.mono (by decide)) (by rfl) T.m_law_pick T.F_law_pick.kp T.b_law_pick (ja_cons (je_var 0) (ja_cons (je_var 2) ja_nil)) (lenA_cons (lenA_cons lenA_nil)) rfl)) (jb_cons (js_if (jt_c (c_eq hr) (je_var 4) je_int) (jb_one (js_ret (je_tup (ja_cons je_str (ja_cons (je_at (je_var 6) je_int) (ja_cons (je_at (je_lst (ja_cons (je_call (ok_law_number T) (hr.mono (by decide)) (by rfl) T.m_law_number T.F_law_number.kp T.b_law_number (ja_cons (je_var 0) (ja_cons (je_var 1) ja_nil)) (lenA_cons (lenA_cons lenA_nil)) rfl) (ja_cons (je_tup (ja_cons je_str (ja_cons (je_at (je_var 6) je_int) ja_nil))) ja_nil))) (je_call (ok_law_draw T) (hr.mono (by decide)) (by rfl) T.m_law_draw T.F_law_draw.kp T.b_law_draw (ja_cons (je_var 0) (ja_cons je_int ja_nil)) (lenA_cons (lenA_cons lenA_nil)) rfl)) ja_nil)))))) jb_nil) (jb_one (js_ret (je_tup (ja_cons je_str (ja_cons (je_at (je_var 6) je_int) (ja_cons (je_at (je_call (ok_law_pick T) (hr.mono (by decide)) (by rfl) T.m_law_pick T.F_law_pick.kp T.b_law_pick (ja_cons (je_var 0) (ja_cons (je_var 3) ja_nil)) (lenA_cons (lenA_cons lenA_nil)) rfl) je_int) ja_nil)))))))) jb_nil) (jb_cons (js_set (i := 5) sc_law_deed.nd rfl (by first | exact .inl rfl | exact .inr rfl) (je_call (ok_law_pick T) (hr.mono (by decide)) (by rfl) T.m_law_pick T.F_law_pick.kp T.b_law_pick (ja_cons (je_var 0) (ja_cons (je_var 3) ja_nil)) (lenA_cons (lenA_cons lenA_nil)) rfl)) (jb_cons (js_if (jt_c c_lt (je_var 4) je_int) (jb_one (js_ret (je_tup (ja_cons je_str (ja_cons (je_at (je_var 5) je_int) (ja_cons (je_tup (ja_cons je_str (ja_cons (je_tup (ja_cons je_str (ja_cons (je_tup (ja_cons je_str (ja_cons (je_at (je_var 5) je_int) ja_nil))) (ja_cons (je_tup (ja_cons je_str (ja_cons (je_at (je_var 5) je_int) ja_nil))) ja_nil)))) (ja_cons (je_tup (ja_cons je_str (ja_cons (je_tup (ja_cons je_str (ja_cons (je_at (je_var 5) je_int) ja_nil))) (ja_cons (je_tup (ja_cons je_str (ja_cons je_int ja_nil))) ja_nil)))) (ja_cons (je_tup (ja_cons je_str (ja_cons (je_at (je_var 5) je_int) ja_nil))) ja_nil))))) ja_nil)))))) jb_nil) (jb_one (js_ret (je_tup (ja_cons je_str (ja_cons (je_at (je_var 5) je_int) (ja_cons (je_at (je_lst (ja_cons (je_call (ok_law_number T) (hr.mono (by decide)) (by rfl) T.m_law_number T.F_law_number.kp T.b_law_number (ja_cons (je_var 0) (ja_cons (je_var 1) ja_nil)) (lenA_cons (lenA_cons lenA_nil)) rfl) (ja_cons (je_tup (ja_cons je_str (ja_cons (je_ad (je_add (je_at (je_var 5) je_int) (je_call (ok_law_draw T) (hr.mono (by decide)) (by rfl) T.m_law_draw T.F_law_draw.kp T.b_law_draw (ja_cons (je_var 0) (ja_cons (je_ad (je_add (je_sub (je_at (je_var 5) je_int) (je_at (je_var 5) je_int)) je_int)) ja_nil)) (lenA_cons (lenA_cons lenA_nil)) rfl))) ja_nil))) ja_nil))) (je_call (ok_law_draw T) (hr.mono (by decide)) (by rfl) T.m_law_draw T.F_law_draw.kp T.b_law_draw (ja_cons (je_var 0) (ja_cons je_int ja_nil)) (lenA_cons (lenA_cons lenA_nil)) rfl)) ja_nil))))))))))))
theorem sc_law_like : FnScope ["actual", "due", "k"] ["actual", "due"] (defScope (topS 14)) := ⟨rfl, rfl, rfl, by decide +kernel, rfl, by decide +kernel, by decide +kernel⟩
theorem ok_law_like (T : Tx K mg) : ∀ k : Nat, FnOk P w K mg base CX0 (0 + k) T.f_law_like T.d_law_like ["actual", "due"] (spF K 2 (F_law_like k))
  | 0 => fn_none fun vs H Q E ⟨m, h, ds, d, h', S, r, hl, e, q⟩ => by cases e
  | k + 1 => by
    have ih := ok_law_like T k
    exact fn_sem (k := 0 + k) T.F_law_like sc_law_like rfl rfl fun cdv A outer s H E hr =>
      (jb_cons (js_if (JW.t (jw_or (jt_val (je_isi (by rfl) T.z_isinstance (ja_cons (je_var 1) (ja_cons (je_ty (by rfl) T.z_tuple PyProof.Rows.boot_tuple) ja_nil)))) (jw_or1 (jt_val (je_isi (by rfl) T.z_isinstance (ja_cons (je_var 1) (ja_cons (je_ty (by rfl) T.z_list PyProof.Rows.boot_list) ja_nil))))))) (jb_cons (js_if (JW.t (jw_or (JW.t (jw_and (jt_val (je_isi (by rfl) T.z_isinstance (ja_cons (je_var 1) (ja_cons (je_ty (by rfl) T.z_tuple PyProof.Rows.boot_tuple) ja_nil)))) (jw_and1 (jt_not (jt_val (je_isi (by rfl) T.z_isinstance (ja_cons (je_var 0) (ja_cons (je_ty (by rfl) T.z_tuple PyProof.Rows.boot_tuple) ja_nil)))))))) (jw_or1 (JW.t (jw_and (jt_val (je_isi (by rfl) T.z_isinstance (ja_cons (je_var 1) (ja_cons (je_ty (by rfl) T.z_list PyProof.Rows.boot_list) ja_nil)))) (jw_and1 (jt_not (jt_val (je_isi (by rfl) T.z_isinstance (ja_cons (je_var 0) (ja_cons (je_ty (by rfl) T.z_list PyProof.Rows.boot_list) ja_nil))))))))))) (jb_one (js_ret je_bl)) jb_nil) (jb_cons (js_if (jt_c (c_ne hr) (je_len (by rfl) T.z_len (ja_cons (je_var 0) ja_nil)) (je_len (by rfl) T.z_len (ja_cons (je_var 1) ja_nil))) (jb_one (js_ret je_bl)) jb_nil) (jb_cons (js_for (vs := [2]) PassesOwn.never rfl (ji_rng1 (by rfl) T.z_range (ja_cons (je_len (by rfl) T.z_len (ja_cons (je_var 1) ja_nil)) ja_nil)) (jg_name (i := 2) sc_law_like.nd rfl (by first | exact .inl rfl | exact .inr rfl) (by decide)) (jb_one (js_if (jt_not (jt_val (je_call ih (hr.mono (Nat.le_refl _)) (by rfl) T.m_law_like T.F_law_like.kp T.b_law_like (ja_cons (je_at (je_var 0) (je_var 2)) (ja_cons (je_at (je_var 1) (je_var 2)) ja_nil)) (lenA_cons (lenA_cons lenA_nil)) rfl))) (jb_one (js_ret je_bl)) jb_nil))) (jb_one (js_ret je_bl))))) jb_nil) (jb_cons (js_if (jt_c c_is (je_var 1) je_non) (jb_one (js_ret (je_c c_is (je_var 0) je_non))) jb_nil) (jb_cons (js_if (jt_val (je_isi (by rfl) T.z_isinstance (ja_cons (je_var 1) (ja_cons (je_ty (by rfl) T.z_bool PyProof.Rows.boot_bool) ja_nil)))) (jb_one (js_ret (je_and (je_isi (by rfl) T.z_isinstance (ja_cons (je_var 0) (ja_cons (je_ty (by rfl) T.z_bool PyProof.Rows.boot_bool) ja_nil))) (je_and1 (je_c (c_eq hr) (je_var 0) (je_var 1)))))) jb_nil) (jb_cons (js_if (jt_val (je_isi (by rfl) T.z_isinstance (ja_cons (je_var 1) (ja_cons (je_ty (by rfl) T.z_int PyProof.Rows.boot_int) ja_nil)))) (jb_one (js_ret (je_and (je_isi (by rfl) T.z_isinstance (ja_cons (je_var 0) (ja_cons (je_ty (by rfl) T.z_int PyProof.Rows.boot_int) ja_nil))) (je_and (je_not (je_isi (by rfl) T.z_isinstance (ja_cons (je_var 0) (ja_cons (je_ty (by rfl) T.z_bool PyProof.Rows.boot_bool) ja_nil)))) (je_and1 (je_c (c_eq hr) (je_var 0) (je_var 1))))))) jb_nil) (jb_one (js_ret (je_and (je_isi (by rfl) T.z_isinstance (ja_cons (je_var 0) (ja_cons (je_ty (by rfl) T.z_str PyProof.Rows.boot_str) ja_nil))) (je_and1 (je_c (c_eq hr) (je_var 0) (je_var 1))))))))))
theorem sc_law_lively : FnScope ["box", "system", "queues", "numbers", "kind", "datum", "up", "letter"] ["box", "system"] (defScope (topS 16)) := ⟨rfl, rfl, rfl, by decide +kernel, rfl, by decide +kernel, by decide +kernel⟩
theorem ok_law_lively (T : Tx K mg) : FnOk P w K mg base CX0 5 T.f_law_lively T.d_law_lively ["box", "system"] (spF K 2 F_law_lively) :=
  fn_sem (k := 4) T.F_law_lively sc_law_lively rfl rfl fun cdv A outer s H E hr =>
  (jb_cons (js_setComp (i := 2) (own := [(("datum" : Str), 5)]) rfl sc_law_lively.nd rfl rfl (sw_true rfl rfl rfl (by decide +kernel)) (ji_seq (je_at (je_var 1) je_int)) (blkOk_by (by kernel_rfl)) (fun _ _ _ _ _ => (jg_name (i := 5) sc_law_lively.nd rfl (by first | exact .inl rfl | exact .inr rfl) (by decide))) (fun _ _ _ _ _ => (jts_one (jt_c (c_eq hr) (je_at (je_var 5) je_int) je_str))) (fun _ _ _ _ _ => (je_var 5))) (jb_cons (js_setComp (i := 3) (own := [(("datum" : Str), 5)]) rfl sc_law_lively.nd rfl rfl (sw_true rfl rfl rfl (by decide +kernel)) (ji_seq (je_at (je_var 1) je_int)) (blkOk_by (by kernel_rfl)) (fun _ _ _ _ _ => (jg_name (i := 5) sc_law_lively.nd rfl (by first | exact .inl rfl | exact .inr rfl) (by decide))) (fun _ _ _ _ _ => (jts_one (jt_c (c_eq hr) (je_at (je_var 5) je_int) je_str))) (fun _ _ _ _ _ => (je_var 5))) (jb_cons (js_set (i := 4) sc_law_lively.nd rfl (by first | exact .inl rfl | exact .inr rfl) (je_call (ok_law_draw T) (hr.mono (by decide)) (by rfl) T.m_law_draw T.F_law_draw.kp T.b_law_draw (ja_cons (je_var 0) (ja_cons je_int ja_nil)) (lenA_cons (lenA_cons lenA_nil)) rfl)) (jb_cons (js_if (JW.t (jw_and (jt_c c_lt (je_var 4) je_int) (jw_and1 (jt_c c_gt (je_len (by rfl) T.z_len (ja_cons (je_var 2) ja_nil)) je_int)))) (jb_cons (js_set (i := 7) sc_law_lively.nd rfl (by first | exact .inl rfl | exact .inr rfl) (je_add (je_at (je_at (je_var 2) je_int) je_int) (je_call (ok_law_draw T) (hr.mono (by decide)) (by rfl) T.m_law_draw T.F_law_draw.kp T.b_law_draw (ja_cons (je_var 0) (ja_cons (je_ad (je_add (je_sub (je_at (je_at (je_var 2) je_int) je_int) (je_at (je_at (je_var 2) je_int) je_int)) je_int)) ja_nil)) (lenA_cons (lenA_cons lenA_nil)) rfl))) (jb_one (js_ret (je_at (je_lst (ja_cons (je_tup (ja_cons je_str (ja_cons (je_at (je_at (je_var 2) je_int) je_int) (ja_cons (je_tup (ja_cons je_str (ja_cons (je_var 7) ja_nil))) ja_nil)))) (ja_cons (je_tup (ja_cons je_str (ja_cons (je_at (je_at (je_var 2) je_int) je_int) (ja_cons (je_at (je_call (ok_law_pick T) (hr.mono (by decide)) (by rfl) T.m_law_pick T.F_law_pick.kp T.b_law_pick (ja_cons (je_var 0) (ja_cons (je_var 3) ja_nil)) (lenA_cons (lenA_cons lenA_nil)) rfl) je_int) ja_nil)))) ja_nil))) (je_var 4))))) jb_nil) (jb_cons (js_if (jt_c (c_eq hr) (je_var 4) je_int) (jb_one (js_ret (je_call (ok_law_deed T) (hr.mono (by decide)) (by rfl) T.m_law_deed T.F_law_deed.kp T.b_law_deed (ja_cons (je_var 0) (ja_cons (je_var 1) ja_nil)) (lenA_cons (lenA_cons lenA_nil)) rfl))) jb_nil) (jb_cons (js_set (i := 5) sc_law_lively.nd rfl (by first | exact .inl rfl | exact .inr rfl) (je_call (ok_law_pick T) (hr.mono (by decide)) (by rfl) T.m_law_pick T.F_law_pick.kp T.b_law_pick (ja_cons (je_var 0) (ja_cons (je_var 3) ja_nil)) (lenA_cons (lenA_cons lenA_nil)) rfl)) (jb_cons (js_set (i := 6) sc_law_lively.nd rfl (by first | exact .inl rfl | exact .inr rfl) (je_tup (ja_cons je_str (ja_cons (je_tup (ja_cons je_str (ja_cons (je_tup (ja_cons je_str (ja_cons (je_at (je_var 5) je_int) ja_nil))) (ja_cons (je_tup (ja_cons je_str (ja_cons (je_at (je_var 5) je_int) ja_nil))) ja_nil)))) (ja_cons (je_tup (ja_cons je_str (ja_cons (je_tup (ja_cons je_str (ja_cons (je_at (je_var 5) je_int) ja_nil))) (ja_cons (je_tup (ja_cons je_str (ja_cons je_int ja_nil))) ja_nil)))) (ja_cons (je_tup (ja_cons je_str (ja_cons (je_at (je_var 5) je_int) ja_nil))) ja_nil)))))) (jb_one (js_ret (je_tup (ja_cons je_str (ja_cons (je_at (je_var 5) je_int) (ja_cons (je_at (je_lst (ja_cons (je_var 6) (ja_cons (je_var 6) (ja_cons (je_var 6) (ja_cons (je_tup (ja_cons je_str (ja_cons (je_at (je_var 5) je_int) ja_nil))) (ja_cons (je_tup (ja_cons je_str (ja_cons (je_tup (ja_cons je_str (ja_cons (je_at (je_var 5) je_int) ja_nil))) (ja_cons (je_tup (ja_cons je_str (ja_cons je_int ja_nil))) ja_nil)))) ja_nil)))))) (je_call (ok_law_draw T) (hr.mono (by decide)) (by rfl) T.m_law_draw T.F_law_draw.kp T.b_law_draw (ja_cons (je_var 0) (ja_cons je_int ja_nil)) (lenA_cons (lenA_cons lenA_nil)) rfl)) ja_nil)))))))))))))
theorem sc_law_tiny : FnScope ["box", "kind", "names", "data", "k", "processes", "system", "found", "process", "low", "high", "moves", "places", "titles", "guard", "deeds", "turn"] ["box"] (defScope (topS 15)) := ⟨rfl, rfl, rfl, by decide +kernel, rfl, by decide +kernel, by decide +kernel⟩
theorem ok_law_tiny (T : Tx K mg) : FnOk P w K mg base CX0 8 T.f_law_tiny T.d_law_tiny ["box"] (spF K 1 F_law_tiny) :=
  fn_sem (k := 7) T.F_law_tiny sc_law_tiny rfl rfl fun cdv A outer s H E hr =>
  (jb_cons (js_set (i := 1) sc_law_tiny.nd rfl (by first | exact .inl rfl | exact .inr rfl) (je_call (ok_law_draw T) (hr.mono (by decide)) (by rfl) T.m_law_draw T.F_law_draw.kp T.b_law_draw (ja_cons (je_var 0) (ja_cons je_int ja_nil)) (lenA_cons (lenA_cons lenA_nil)) rfl)) (jb_cons (js_set (i := 2) sc_law_tiny.nd rfl (by first | exact .inl rfl | exact .inr rfl) (je_call (ok_law_names T) (hr.mono (by decide)) (by rfl) T.m_law_names T.F_law_names.kp T.b_law_names (ja_cons (je_var 0) (ja_cons je_int (ja_cons (je_ad (je_lst ja_nil)) ja_nil))) (lenA_cons (lenA_cons (lenA_cons lenA_nil))) rfl)) (jb_cons (js_set (i := 3) sc_law_tiny.nd rfl (by first | exact .inl rfl | exact .inr rfl) (je_lst ja_nil)) (jb_cons (js_for (vs := [4]) PassesOwn.never rfl (ji_rng1 (by rfl) T.z_range (ja_cons (je_at (je_lst (ja_cons je_int (ja_cons je_int (ja_cons je_int (ja_cons je_int ja_nil))))) (je_var 1)) ja_nil)) (jg_name (i := 4) sc_law_tiny.nd rfl (by first | exact .inl rfl | exact .inr rfl) (by decide)) (jb_cons (js_set (i := 9) sc_law_tiny.nd rfl (by first | exact .inl rfl | exact .inr rfl) (je_at (je_lst (ja_cons je_int (ja_cons je_int (ja_cons je_int (ja_cons (je_neg je_int) (ja_cons (je_neg je_int) ja_nil)))))) (je_call (ok_law_draw T) (hr.mono (by decide)) (by rfl) T.m_law_draw T.F_law_draw.kp T.b_law_draw (ja_cons (je_var 0) (ja_cons je_int ja_nil)) (lenA_cons (lenA_cons lenA_nil)) rfl))) (jb_cons (js_set (i := 10) sc_law_tiny.nd rfl (by first | exact .inl rfl | exact .inr rfl) (je_add (je_var 9) (je_at (je_lst (ja_cons je_int (ja_cons je_int (ja_cons je_int (ja_cons je_int (ja_cons je_int (ja_cons je_int ja_nil))))))) (je_call (ok_law_draw T) (hr.mono (by decide)) (by rfl) T.m_law_draw T.F_law_draw.kp T.b_law_draw (ja_cons (je_var 0) (ja_cons je_int ja_nil)) (lenA_cons (lenA_cons lenA_nil)) rfl)))) (jb_cons (js_if (jt_c (c_eq hr) (je_var 1) je_int) (jb_one (js_set (i := 10) sc_law_tiny.nd rfl (by first | exact .inl rfl | exact .inr rfl) (je_add (je_var 9) je_int))) jb_nil) (jb_one (js_expr (je_append (je_var 3) (je_tup (ja_cons je_str (ja_cons (je_at (je_var 2) (je_var 4)) (ja_cons (je_var 9) (ja_cons (je_var 10) (ja_cons (je_ad (je_add (je_var 9) (je_call (ok_law_draw T) (hr.mono (by decide)) (by rfl) T.m_law_draw T.F_law_draw.kp T.b_law_draw (ja_cons (je_var 0) (ja_cons (je_ad (je_add (je_sub (je_var 10) (je_var 9)) je_int)) ja_nil)) (lenA_cons (lenA_cons lenA_nil)) rfl))) ja_nil))))))))))))) (jb_cons (js_if (jt_c c_gt (je_var 1) je_int) (jb_cons (js_set (i := 9) sc_law_tiny.nd rfl (by first | exact .inl rfl | exact .inr rfl) (je_call (ok_law_draw T) (hr.mono (by decide)) (by rfl) T.m_law_draw T.F_law_draw.kp T.b_law_draw (ja_cons (je_var 0) (ja_cons je_int ja_nil)) (lenA_cons (lenA_cons lenA_nil)) rfl)) (jb_one (js_expr (je_append (je_var 3) (je_tup (ja_cons je_str (ja_cons (je_at (je_var 2) je_int) (ja_cons (je_ad (je_add je_int (je_call (ok_law_draw T) (hr.mono (by decide)) (by rfl) T.m_law_draw T.F_law_draw.kp T.b_law_draw (ja_cons (je_var 0) (ja_cons (je_sub je_int (je_var 1)) ja_nil)) (lenA_cons (lenA_cons lenA_nil)) rfl))) (ja_cons (je_var 9) (ja_cons (je_ad (je_add (je_var 9) (je_call (ok_law_draw T) (hr.mono (by decide)) (by rfl) T.m_law_draw T.F_law_draw.kp T.b_law_draw (ja_cons (je_var 0) (ja_cons je_int ja_nil)) (lenA_cons (lenA_cons lenA_nil)) rfl))) ja_nil)))))))))) jb_nil) (jb_cons (js_if (jt_c (c_eq hr) (je_call (ok_law_draw T) (hr.mono (by decide)) (by rfl) T.m_law_draw T.F_law_draw.kp T.b_law_draw (ja_cons (je_var 0) (ja_cons je_int ja_nil)) (lenA_cons (lenA_cons lenA_nil)) rfl) je_int) (jb_one (js_set (i := 3) sc_law_tiny.nd rfl (by first | exact .inl rfl | exact .inr rfl) (je_rev (je_var 3)))) jb_nil) (jb_cons (js_set (i := 5) sc_law_tiny.nd rfl (by first | exact .inl rfl | exact .inr rfl) (je_lst ja_nil)) (jb_cons (js_for (vs := [4]) PassesOwn.never rfl (ji_rng1 (by rfl) T.z_range (ja_cons (je_at (je_lst (ja_cons je_int (ja_cons je_int (ja_cons je_int (ja_cons je_int ja_nil))))) (je_var 1)) ja_nil)) (jg_name (i := 4) sc_law_tiny.nd rfl (by first | exact .inl rfl | exact .inr rfl) (by decide)) (jb_one (js_expr (je_append (je_var 5) (je_tup (ja_cons je_str (ja_cons (je_at (je_var 2) (je_add je_int (je_var 4))) (ja_cons (je_tuple (by rfl) T.z_tuple (ja_cons (je_call (ok_law_names T) (hr.mono (by decide)) (by rfl) T.m_law_names T.F_law_names.kp T.b_law_names (ja_cons (je_var 0) (ja_cons (je_at (je_lst (ja_cons je_int (ja_cons je_int (ja_cons je_int (ja_cons je_int (ja_cons je_int ja_nil)))))) (je_call (ok_law_draw T) (hr.mono (by decide)) (by rfl) T.m_law_draw T.F_law_draw.kp T.b_law_draw (ja_cons (je_var 0) (ja_cons je_int ja_nil)) (lenA_cons (lenA_cons lenA_nil)) rfl)) (ja_cons (je_var 2) ja_nil))) (lenA_cons (lenA_cons (lenA_cons lenA_nil))) rfl) ja_nil)) (ja_cons (je_tup ja_nil) ja_nil))))))))) (jb_cons (js_set (i := 6) sc_law_tiny.nd rfl (by first | exact .inl rfl | exact .inr rfl) (je_tup (ja_cons je_str (ja_cons (je_at (je_var 2) je_int) (ja_cons (je_tuple (by rfl) T.z_tuple (ja_cons (je_var 3) ja_nil)) (ja_cons (je_tuple (by rfl) T.z_tuple (ja_cons (je_var 5) ja_nil)) ja_nil)))))) (jb_cons (js_set (i := 7) sc_law_tiny.nd rfl (by first | exact .inl rfl | exact .inr rfl) (je_lst ja_nil)) (jb_cons (js_for (vs := [8]) PassesOwn.never rfl (ji_seq (je_at (je_var 6) je_int)) (jg_name (i := 8) sc_law_tiny.nd rfl (by first | exact .inl rfl | exact .inr rfl) (by decide)) (jb_cons (js_set (i := 11) sc_law_tiny.nd rfl (by first | exact .inl rfl | exact .inr rfl) (je_lst ja_nil)) (jb_cons (js_set (i := 12) sc_law_tiny.nd rfl (by first | exact .inl rfl | exact .inr rfl) (je_at (je_var 8) je_int)) (jb_cons (js_set (i := 13) sc_law_tiny.nd rfl (by first | exact .inl rfl | exact .inr rfl) (je_call (ok_law_names T) (hr.mono (by decide)) (by rfl) T.m_law_names T.F_law_names.kp T.b_law_names (ja_cons (je_var 0) (ja_cons (je_ad (je_add (je_len (by rfl) T.z_len (ja_cons (je_var 12) ja_nil)) (je_call (ok_law_draw T) (hr.mono (by decide)) (by rfl) T.m_law_draw T.F_law_draw.kp T.b_law_draw (ja_cons (je_var 0) (ja_cons je_int ja_nil)) (lenA_cons (lenA_cons lenA_nil)) rfl))) (ja_cons (je_ad (je_lst ja_nil)) ja_nil))) (lenA_cons (lenA_cons (lenA_cons lenA_nil))) rfl)) (jb_cons (js_for (vs := [4]) PassesOwn.never rfl (ji_rng1 (by rfl) T.z_range (ja_cons (je_len (by rfl) T.z_len (ja_cons (je_var 13) ja_nil)) ja_nil)) (jg_name (i := 4) sc_law_tiny.nd rfl (by first | exact .inl rfl | exact .inr rfl) (by decide)) (jb_cons (js_set (i := 14) sc_law_tiny.nd rfl (by first | exact .inl rfl | exact .inr rfl) (je_at (je_lst (ja_cons (je_tup (ja_cons je_str ja_nil)) (ja_cons (je_call (ok_law_truth T 4) (hr.mono (by decide)) (by rfl) T.m_law_truth T.F_law_truth.kp T.b_law_truth (ja_cons (je_var 0) (ja_cons (je_var 6) (ja_cons je_int ja_nil))) (lenA_cons (lenA_cons (lenA_cons lenA_nil))) rfl) ja_nil))) (je_intc (by rfl) T.z_int (ja_cons (je_or (je_c (c_eq hr) (je_call (ok_law_draw T) (hr.mono (by decide)) (by rfl) T.m_law_draw T.F_law_draw.kp T.b_law_draw (ja_cons (je_var 0) (ja_cons je_int ja_nil)) (lenA_cons (lenA_cons lenA_nil)) rfl) je_int) (je_and1 (je_c c_gt (je_var 4) (je_len (by rfl) T.z_len (ja_cons (je_var 12) ja_nil))))) ja_nil)))) (jb_cons (js_set (i := 15) sc_law_tiny.nd rfl (by first | exact .inl rfl | exact .inr rfl) (je_tuple (by rfl) T.z_tuple (ja_cons (je_comp (own := [(("turn" : Str), 16)]) rfl sc_law_tiny.nd (ji_rng1 (by rfl) T.z_range (ja_cons (je_at (je_lst (ja_cons je_int (ja_cons je_int (ja_cons je_int (ja_cons je_int (ja_cons je_int ja_nil)))))) (je_call (ok_law_draw T) (hr.mono (by decide)) (by rfl) T.m_law_draw T.F_law_draw.kp T.b_law_draw (ja_cons (je_var 0) (ja_cons je_int ja_nil)) (lenA_cons (lenA_cons lenA_nil)) rfl)) ja_nil)) (blkOk_by (by kernel_rfl)) (fun _ _ _ _ _ => (jg_name (i := 16) sc_law_tiny.nd rfl (by first | exact .inl rfl | exact .inr rfl) (by decide))) (fun _ _ _ _ _ => jts_nil) (fun _ _ _ _ _ => (je_call (ok_law_lively T) (hr.mono (by decide)) (by rfl) T.m_law_lively T.F_law_lively.kp T.b_law_lively (ja_cons (je_var 0) (ja_cons (je_var 6) ja_nil)) (lenA_cons (lenA_cons lenA_nil)) rfl))) ja_nil))) (jb_one (js_if (jt_c c_lt (je_var 4) (je_len (by rfl) T.z_len (ja_cons (je_var 12) ja_nil))) (jb_one (js_expr (je_append (je_var 11) (je_tup (ja_cons (je_at (je_var 13) (je_var 4)) (ja_cons (je_at (je_var 12) (je_var 4)) (ja_cons (je_at (je_var 12) (je_mod (je_intc (by rfl) T.z_int (ja_cons (je_add (je_var 4) je_int) ja_nil)) (je_len (by rfl) T.z_len (ja_cons (je_var 12) ja_nil)))) (ja_cons (je_var 14) (ja_cons (je_var 15) ja_nil))))))))) (jb_one (js_expr (je_append (je_var 11) (je_tup (ja_cons (je_at (je_var 13) (je_var 4)) (ja_cons (je_call (ok_law_pick T) (hr.mono (by decide)) (by rfl) T.m_law_pick T.F_law_pick.kp T.b_law_pick (ja_cons (je_var 0) (ja_cons (je_var 12) ja_nil)) (lenA_cons (lenA_cons lenA_nil)) rfl) (ja_cons (je_call (ok_law_pick T) (hr.mono (by decide)) (by rfl) T.m_law_pick T.F_law_pick.kp T.b_law_pick (ja_cons (je_var 0) (ja_cons (je_var 12) ja_nil)) (lenA_cons (lenA_cons lenA_nil)) rfl) (ja_cons (je_var 14) (ja_cons (je_var 15) ja_nil)))))))))))))) (jb_one (js_expr (je_append (je_var 7) (je_ad (je_add (je_sl (je_var 8) jo_none (jo_some je_int)) (je_tup (ja_cons (je_tuple (by rfl) T.z_tuple (ja_cons (je_var 11) ja_nil)) ja_nil)))))))))))) (jb_one (js_ret (je_add (je_sl (je_var 6) jo_none (jo_some je_int)) (je_tup (ja_cons (je_tuple (by rfl) T.z_tuple (ja_cons (je_var 7) ja_nil)) ja_nil))))))))))))))))
theorem sc_law_cells : FnScope ["system", "found", "datum", "process", "slot"] ["system"] (defScope (topS 17)) := ⟨rfl, rfl, rfl, by decide +kernel, rfl, by decide +kernel, by decide +kernel⟩
theorem ok_law_cells (T : Tx K mg) : FnOk P w K mg base CX0 1 T.f_law_cells T.d_law_cells ["system"] (spF K 1 F_law_cells) :=
  fn_sem (k := 0) T.F_law_cells sc_law_cells rfl rfl fun cdv A outer s H E hr =>
  (jb_cons (js_setComp (i := 1) (own := [(("process" : Str), 3)]) rfl sc_law_cells.nd rfl rfl (sw_true rfl rfl rfl (by decide +kernel)) (ji_seq (je_at (je_var 0) je_int)) (blkOk_by (by kernel_rfl)) (fun _ _ _ _ _ => (jg_name (i := 3) sc_law_cells.nd rfl (by first | exact .inl rfl | exact .inr rfl) (by decide))) (fun _ _ _ _ _ => jts_nil) (fun _ _ _ _ _ => (je_tup (ja_cons (je_at (je_var 3) je_int) (ja_cons je_int (ja_cons (je_at (je_var 3) je_int) ja_nil)))))) (jb_cons (js_for (vs := [2]) PassesOwn.never rfl (ji_seq (je_at (je_var 0) je_int)) (jg_name (i := 2) sc_law_cells.nd rfl (by first | exact .inl rfl | exact .inr rfl) (by decide)) (jb_one (js_if (jt_c (c_eq hr) (je_at (je_var 2) je_int) je_str) (jb_one (js_expr (je_append (je_var 1) (je_tup (ja_cons (je_at (je_var 2) je_int) (ja_cons je_int (ja_cons (je_tupRg2 rfl (by rfl) T.z_tuple (by rfl) T.z_range (je_at (je_var 2) je_int) (je_add (je_at (je_var 2) je_int) je_int)) ja_nil))))))) (jb_one (js_for (vs := [4]) PassesOwn.never rfl (ji_rng1 (by rfl) T.z_range (ja_cons (je_at (je_var 2) je_int) ja_nil)) (jg_name (i := 4) sc_law_cells.nd rfl (by first | exact .inl rfl | exact .inr rfl) (by decide)) (jb_one (js_expr (je_append (je_var 1) (je_tup (ja_cons (je_at (je_var 2) je_int) (ja_cons (je_ad (je_add (je_var 4) je_int)) (ja_cons (je_ad (je_add (je_tup (ja_cons je_non ja_nil)) (je_tupRg2 rfl (by rfl) T.z_tuple (by rfl) T.z_range (je_at (je_var 2) je_int) (je_add (je_at (je_var 2) je_int) je_int)))) ja_nil)))))))))))) (jb_one (js_ret (je_tuple (by rfl) T.z_tuple (ja_cons (je_var 1) ja_nil))))))
theorem sc_law_row : FnScope ["system", "state", "row", "k", "datum", "letters", "letter", "j"] ["system", "state"] (defScope (topS 18)) := ⟨rfl, rfl, rfl, by decide +kernel, rfl, by decide +kernel, by decide +kernel⟩
theorem ok_law_row (T : Tx K mg) : FnOk P w K mg base CX0 1 T.f_law_row T.d_law_row ["system", "state"] (spF K 2 F_law_row) :=
  fn_sem (k := 0) T.F_law_row sc_law_row rfl rfl fun cdv A outer s H E hr =>
  (jb_cons (js_set (i := 2) sc_law_row.nd rfl (by first | exact .inl rfl | exact .inr rfl) (je_lst ja_nil)) (jb_cons (js_for (vs := [3]) PassesOwn.never rfl (ji_rng1 (by rfl) T.z_range (ja_cons (je_len (by rfl) T.z_len (ja_cons (je_at (je_var 1) je_int) ja_nil)) ja_nil)) (jg_name (i := 3) sc_law_row.nd rfl (by first | exact .inl rfl | exact .inr rfl) (by decide)) (jb_one (js_expr (je_append (je_var 2) (je_at (je_comp (own := [(("j" : Str), 7)]) rfl sc_law_row.nd (ji_rng1 (by rfl) T.z_range (ja_cons (je_len (by rfl) T.z_len (ja_cons (je_at (je_at (je_at (je_var 0) je_int) (je_var 3)) je_int) ja_nil)) ja_nil)) (blkOk_by (by kernel_rfl)) (fun _ _ _ _ _ => (jg_name (i := 7) sc_law_row.nd rfl (by first | exact .inl rfl | exact .inr rfl) (by decide))) (fun _ _ _ _ _ => (jts_one (jt_c (c_eq hr) (je_at (je_at (je_at (je_at (je_var 0) je_int) (je_var 3)) je_int) (je_var 7)) (je_at (je_at (je_var 1) je_int) (je_var 3))))) (fun _ _ _ _ _ => (je_var 7))) je_int))))) (jb_cons (js_for (vs := [3]) PassesOwn.never rfl (ji_rng1 (by rfl) T.z_range (ja_cons (je_len (by rfl) T.z_len (ja_cons (je_at (je_var 1) je_int) ja_nil)) ja_nil)) (jg_name (i := 3) sc_law_row.nd rfl (by first | exact .inl rfl | exact .inr rfl) (by decide)) (jb_cons (js_set (i := 4) sc_law_row.nd rfl (by first | exact .inl rfl | exact .inr rfl) (je_at (je_at (je_var 0) je_int) (je_var 3))) (jb_one (js_if (jt_c (c_eq hr) (je_at (je_var 4) je_int) je_str) (jb_one (js_expr (je_append (je_var 2) (je_sub (je_at (je_at (je_var 1) je_int) (je_var 3)) (je_at (je_var 4) je_int))))) (jb_cons (js_setComp (i := 5) (own := [(("letter" : Str), 6)]) rfl sc_law_row.nd rfl rfl (sw_true rfl rfl rfl (by decide +kernel)) (ji_seq (je_at (je_at (je_var 1) je_int) (je_var 3))) (blkOk_by (by kernel_rfl)) (fun _ _ _ _ _ => (jg_name (i := 6) sc_law_row.nd rfl (by first | exact .inl rfl | exact .inr rfl) (by decide))) (fun _ _ _ _ _ => jts_nil) (fun _ _ _ _ _ => (je_add (je_sub (je_var 6) (je_at (je_var 4) je_int)) je_int))) (jb_one (js_set (i := 2) sc_law_row.nd rfl (by first | exact .inl rfl | exact .inr rfl) (je_add (je_add (je_var 2) (je_var 5)) (je_mul (je_lst (ja_cons je_int ja_nil)) (je_sub (je_at (je_var 4) je_int) (je_len (by rfl) T.z_len (ja_cons (je_var 5) ja_nil)))))))))))) (jb_one (js_ret (je_tuple (by rfl) T.z_tuple (ja_cons (je_var 2) ja_nil)))))))
theorem sc_law_unrow : FnScope ["system", "row", "places", "values", "at", "datum", "letters", "full", "k", "letter"] ["system", "row"] (defScope (topS 19)) := ⟨rfl, rfl, rfl, by decide +kernel, rfl, by decide +kernel, by decide +kernel⟩
theorem ok_law_unrow (T : Tx K mg) : FnOk P w K mg base CX0 1 T.f_law_unrow T.d_law_unrow ["system", "row"] (spF K 2 F_law_unrow) :=
  fn_sem (k := 0) T.F_law_unrow sc_law_unrow rfl rfl fun cdv A outer s H E hr =>
  (jb_cons (js_set (i := 2) sc_law_unrow.nd rfl (by first | exact .inl rfl | exact .inr rfl) (je_tuple (by rfl) T.z_tuple (ja_cons (je_comp (own := [(("k" : Str), 8)]) rfl sc_law_unrow.nd (ji_rng1 (by rfl) T.z_range (ja_cons (je_len (by rfl) T.z_len (ja_cons (je_at (je_var 0) je_int) ja_nil)) ja_nil)) (blkOk_by (by kernel_rfl)) (fun _ _ _ _ _ => (jg_name (i := 8) sc_law_unrow.nd rfl (by first | exact .inl rfl | exact .inr rfl) (by decide))) (fun _ _ _ _ _ => jts_nil) (fun _ _ _ _ _ => (je_at (je_at (je_at (je_at (je_var 0) je_int) (je_var 8)) je_int) (je_at (je_var 1) (je_var 8))))) ja_nil))) (jb_cons (js_set (i := 3) sc_law_unrow.nd rfl (by first | exact .inl rfl | exact .inr rfl) (je_lst ja_nil)) (jb_cons (js_set (i := 4) sc_law_unrow.nd rfl (by first | exact .inl rfl | exact .inr rfl) (je_len (by rfl) T.z_len (ja_cons (je_var 2) ja_nil))) (jb_cons (js_for (vs := [5]) PassesOwn.never rfl (ji_seq (je_at (je_var 0) je_int)) (jg_name (i := 5) sc_law_unrow.nd rfl (by first | exact .inl rfl | exact .inr rfl) (by decide)) (jb_one (js_if (jt_c (c_eq hr) (je_at (je_var 5) je_int) je_str) (jb_cons (js_expr (je_append (je_var 3) (je_ad (je_add (je_at (je_var 5) je_int) (je_at (je_var 1) (je_var 4)))))) (jb_one (js_set (i := 4) sc_law_unrow.nd rfl (by first | exact .inl rfl | exact .inr rfl) (je_add (je_var 4) je_int)))) (jb_cons (js_set (i := 6) sc_law_unrow.nd rfl (by first | exact .inl rfl | exact .inr rfl) (je_list (by rfl) T.z_list (ja_cons (je_sl (je_var 1) (jo_some (je_var 4)) (jo_some (je_add (je_var 4) (je_at (je_var 5) je_int)))) ja_nil))) (jb_cons (js_set (i := 4) sc_law_unrow.nd rfl (by first | exact .inl rfl | exact .inr rfl) (je_add (je_var 4) (je_at (je_var 5) je_int))) (jb_cons (js_setComp (i := 7) (own := [(("letter" : Str), 9)]) rfl sc_law_unrow.nd rfl rfl (sw_true rfl rfl rfl (by decide +kernel)) (ji_seq (je_var 6)) (blkOk_by (by kernel_rfl)) (fun _ _ _ _ _ => (jg_name (i := 9) sc_law_unrow.nd rfl (by first | exact .inl rfl | exact .inr rfl) (by decide))) (fun _ _ _ _ _ => (jts_one (jt_c c_gt (je_var 9) je_int))) (fun _ _ _ _ _ => (je_var 9))) (jb_cons (js_if (jt_c (c_ne hr) (je_sl (je_var 6) jo_none (jo_some (je_len (by rfl) T.z_len (ja_cons (je_var 7) ja_nil)))) (je_var 7)) (jb_one (js_ret je_non)) jb_nil) (jb_one (js_expr (je_append (je_var 3) (je_tuple (by rfl) T.z_tuple (ja_cons (je_comp (own := [(("letter" : Str), 9)]) rfl sc_law_unrow.nd (ji_seq (je_var 7)) (blkOk_by (by kernel_rfl)) (fun _ _ _ _ _ => (jg_name (i := 9) sc_law_unrow.nd rfl (by first | exact .inl rfl | exact .inr rfl) (by decide))) (fun _ _ _ _ _ => jts_nil) (fun _ _ _ _ _ => (je_sub (je_add (je_at (je_var 5) je_int) (je_var 9)) je_int))) ja_nil)))))))))))) (jb_one (js_ret (je_tup (ja_cons (je_var 2) (ja_cons (je_tuple (by rfl) T.z_tuple (ja_cons (je_var 3) ja_nil)) ja_nil)))))))))
theorem sc_law_all : FnScope ["system", "rows", "cell", "longer", "row", "k"] ["system"] (defScope (topS 20)) := ⟨rfl, rfl, rfl, by decide +kernel, rfl, by decide +kernel, by decide +kernel⟩
theorem ok_law_all (T : Tx K mg) : FnOk P w K mg base CX0 2 T.f_law_all T.d_law_all ["system"] (spF K 1 F_law_all) :=
  fn_sem (k := 1) T.F_law_all sc_law_all rfl rfl fun cdv A outer s H E hr =>
  (jb_cons (js_set (i := 1) sc_law_all.nd rfl (by first | exact .inl rfl | exact .inr rfl) (je_lst (ja_cons (je_tup ja_nil) ja_nil))) (jb_cons (js_for (vs := [2]) PassesOwn.never rfl (ji_seq (je_call (ok_law_cells T) (hr.mono (by decide)) (by rfl) T.m_law_cells T.F_law_cells.kp T.b_law_cells (ja_cons (je_var 0) ja_nil) (lenA_cons lenA_nil) rfl)) (jg_name (i := 2) sc_law_all.nd rfl (by first | exact .inl rfl | exact .inr rfl) (by decide)) (jb_cons (js_set (i := 3) sc_law_all.nd rfl (by first | exact .inl rfl | exact .inr rfl) (je_lst ja_nil)) (jb_cons (js_for (vs := [4]) PassesOwn.never rfl (ji_seq (je_var 1)) (jg_name (i := 4) sc_law_all.nd rfl (by first | exact .inl rfl | exact .inr rfl) (by decide)) (jb_one (js_set (i := 3) sc_law_all.nd rfl (by first | exact .inl rfl | exact .inr rfl) (je_add (je_var 3) (je_comp (own := [(("k" : Str), 5)]) rfl sc_law_all.nd (ji_rng1 (by rfl) T.z_range (ja_cons (je_len (by rfl) T.z_len (ja_cons (je_at (je_var 2) je_int) ja_nil)) ja_nil)) (blkOk_by (by kernel_rfl)) (fun _ _ _ _ _ => (jg_name (i := 5) sc_law_all.nd rfl (by first | exact .inl rfl | exact .inr rfl) (by decide))) (fun _ _ _ _ _ => (jts_one (JW.t (jw_or (jt_c c_lt (je_at (je_var 2) je_int) je_int) (jw_or (jt_c (c_eq hr) (je_var 5) je_int) (jw_or1 (jt_c c_gt (je_at (je_var 4) (je_neg je_int)) je_int))))))) (fun _ _ _ _ _ => (je_add (je_var 4) (je_tup (ja_cons (je_var 5) ja_nil))))))))) (jb_one (js_set (i := 1) sc_law_all.nd rfl (by first | exact .inl rfl | exact .inr rfl) (je_var 3)))))) (jb_one (js_ret (je_comp (own := [(("row" : Str), 4)]) rfl sc_law_all.nd (ji_seq (je_var 1)) (blkOk_by (by kernel_rfl)) (fun _ _ _ _ _ => (jg_name (i := 4) sc_law_all.nd rfl (by first | exact .inl rfl | exact .inr rfl) (by decide))) (fun _ _ _ _ _ => jts_nil) (fun _ _ _ _ _ => (je_call (ok_law_unrow T) (hr.mono (by decide)) (by rfl) T.m_law_unrow T.F_law_unrow.kp T.b_law_unrow (ja_cons (je_var 0) (ja_cons (je_var 4) ja_nil)) (lenA_cons (lenA_cons lenA_nil)) rfl)))))))
theorem sc_law_wide : FnScope ["box", "names", "data", "k", "processes", "places", "low", "high"] ["box"] (defScope (topS 21)) := ⟨rfl, rfl, rfl, by decide +kernel, rfl, by decide +kernel, by decide +kernel⟩
theorem ok_law_wide (T : Tx K mg) : FnOk P w K mg base CX0 3 T.f_law_wide T.d_law_wide ["box"] (spF K 1 F_law_wide) :=
  fn_sem (k := 2) T.F_law_wide sc_law_wide rfl rfl fun cdv A outer s H E hr =>
  (jb_cons (js_set (i := 1) sc_law_wide.nd rfl (by first | exact .inl rfl | exact .inr rfl) (je_call (ok_law_names T) (hr.mono (by decide)) (by rfl) T.m_law_names T.F_law_names.kp T.b_law_names (ja_cons (je_var 0) (ja_cons je_int (ja_cons (je_ad (je_lst ja_nil)) ja_nil))) (lenA_cons (lenA_cons (lenA_cons lenA_nil))) rfl)) (jb_cons (js_set (i := 2) sc_law_wide.nd rfl (by first | exact .inl rfl | exact .inr rfl) (je_lst ja_nil)) (jb_cons (js_for (vs := [3]) PassesOwn.never rfl (ji_rng1 (by rfl) T.z_range (ja_cons (je_call (ok_law_draw T) (hr.mono (by decide)) (by rfl) T.m_law_draw T.F_law_draw.kp T.b_law_draw (ja_cons (je_var 0) (ja_cons je_int ja_nil)) (lenA_cons (lenA_cons lenA_nil)) rfl) ja_nil)) (jg_name (i := 3) sc_law_wide.nd rfl (by first | exact .inl rfl | exact .inr rfl) (by decide)) (jb_one (js_if (jt_c (c_eq hr) (je_call (ok_law_draw T) (hr.mono (by decide)) (by rfl) T.m_law_draw T.F_law_draw.kp T.b_law_draw (ja_cons (je_var 0) (ja_cons je_int ja_nil)) (lenA_cons (lenA_cons lenA_nil)) rfl) je_int) (jb_cons (js_set (i := 6) sc_law_wide.nd rfl (by first | exact .inl rfl | exact .inr rfl) (je_call (ok_law_draw T) (hr.mono (by decide)) (by rfl) T.m_law_draw T.F_law_draw.kp T.b_law_draw (ja_cons (je_var 0) (ja_cons je_int ja_nil)) (lenA_cons (lenA_cons lenA_nil)) rfl)) (jb_one (js_expr (je_append (je_var 2) (je_tup (ja_cons je_str (ja_cons (je_at (je_var 1) (je_var 3)) (ja_cons (je_ad (je_add je_int (je_call (ok_law_draw T) (hr.mono (by decide)) (by rfl) T.m_law_draw T.F_law_draw.kp T.b_law_draw (ja_cons (je_var 0) (ja_cons je_int ja_nil)) (lenA_cons (lenA_cons lenA_nil)) rfl))) (ja_cons (je_var 6) (ja_cons (je_ad (je_add (je_var 6) (je_call (ok_law_draw T) (hr.mono (by decide)) (by rfl) T.m_law_draw T.F_law_draw.kp T.b_law_draw (ja_cons (je_var 0) (ja_cons (je_sub je_int (je_var 6)) ja_nil)) (lenA_cons (lenA_cons lenA_nil)) rfl))) ja_nil)))))))))) (jb_cons (js_set (i := 6) sc_law_wide.nd rfl (by first | exact .inl rfl | exact .inr rfl) (je_sub (je_call (ok_law_draw T) (hr.mono (by decide)) (by rfl) T.m_law_draw T.F_law_draw.kp T.b_law_draw (ja_cons (je_var 0) (ja_cons je_int ja_nil)) (lenA_cons (lenA_cons lenA_nil)) rfl) je_int)) (jb_cons (js_set (i := 7) sc_law_wide.nd rfl (by first | exact .inl rfl | exact .inr rfl) (je_add (je_var 6) (je_call (ok_law_draw T) (hr.mono (by decide)) (by rfl) T.m_law_draw T.F_law_draw.kp T.b_law_draw (ja_cons (je_var 0) (ja_cons je_int ja_nil)) (lenA_cons (lenA_cons lenA_nil)) rfl))) (jb_one (js_expr (je_append (je_var 2) (je_tup (ja_cons je_str (ja_cons (je_at (je_var 1) (je_var 3)) (ja_cons (je_var 6) (ja_cons (je_var 7) (ja_cons (je_ad (je_add (je_var 6) (je_call (ok_law_draw T) (hr.mono (by decide)) (by rfl) T.m_law_draw T.F_law_draw.kp T.b_law_draw (ja_cons (je_var 0) (ja_cons (je_ad (je_add (je_sub (je_var 7) (je_var 6)) je_int)) ja_nil)) (lenA_cons (lenA_cons lenA_nil)) rfl))) ja_nil)))))))))))))) (jb_cons (js_set (i := 4) sc_law_wide.nd rfl (by first | exact .inl rfl | exact .inr rfl) (je_lst ja_nil)) (jb_cons (js_for (vs := [3]) PassesOwn.never rfl (ji_rng1 (by rfl) T.z_range (ja_cons (je_add je_int (je_call (ok_law_draw T) (hr.mono (by decide)) (by rfl) T.m_law_draw T.F_law_draw.kp T.b_law_draw (ja_cons (je_var 0) (ja_cons je_int ja_nil)) (lenA_cons (lenA_cons lenA_nil)) rfl)) ja_nil)) (jg_name (i := 3) sc_law_wide.nd rfl (by first | exact .inl rfl | exact .inr rfl) (by decide)) (jb_cons (js_set (i := 5) sc_law_wide.nd rfl (by first | exact .inl rfl | exact .inr rfl) (je_call (ok_law_names T) (hr.mono (by decide)) (by rfl) T.m_law_names T.F_law_names.kp T.b_law_names (ja_cons (je_var 0) (ja_cons (je_ad (je_add je_int (je_call (ok_law_draw T) (hr.mono (by decide)) (by rfl) T.m_law_draw T.F_law_draw.kp T.b_law_draw (ja_cons (je_var 0) (ja_cons je_int ja_nil)) (lenA_cons (lenA_cons lenA_nil)) rfl))) (ja_cons (je_var 1) ja_nil))) (lenA_cons (lenA_cons (lenA_cons lenA_nil))) rfl)) (jb_one (js_expr (je_append (je_var 4) (je_tup (ja_cons je_str (ja_cons (je_at (je_var 1) (je_add je_int (je_var 3))) (ja_cons (je_tuple (by rfl) T.z_tuple (ja_cons (je_var 5) ja_nil)) (ja_cons (je_tup ja_nil) ja_nil)))))))))) (jb_one (js_ret (je_tup (ja_cons je_str (ja_cons je_str (ja_cons (je_tuple (by rfl) T.z_tuple (ja_cons (je_var 2) ja_nil)) (ja_cons (je_tuple (by rfl) T.z_tuple (ja_cons (je_var 4) ja_nil)) ja_nil))))))))))))
theorem sc_law_rows_of : FnScope ["box", "system", "rows", "turn", "row", "cell", "many", "empty"] ["box", "system"] (defScope (topS 22)) := ⟨rfl, rfl, rfl, by decide +kernel, rfl, by decide +kernel, by decide +kernel⟩
theorem ok_law_rows_of (T : Tx K mg) : FnOk P w K mg base CX0 2 T.f_law_rows_of T.d_law_rows_of ["box", "system"] (spF K 2 F_law_rows_of) :=
  fn_sem (k := 1) T.F_law_rows_of sc_law_rows_of rfl rfl fun cdv A outer s H E hr =>
  (jb_cons (js_set (i := 2) sc_law_rows_of.nd rfl (by first | exact .inl rfl | exact .inr rfl) (je_lst ja_nil)) (jb_cons (js_for (vs := [3]) PassesOwn.never rfl (ji_rng1 (by rfl) T.z_range (ja_cons je_int ja_nil)) (jg_name (i := 3) sc_law_rows_of.nd rfl (by first | exact .inl rfl | exact .inr rfl) (by decide)) (jb_cons (js_set (i := 4) sc_law_rows_of.nd rfl (by first | exact .inl rfl | exact .inr rfl) (je_lst ja_nil)) (jb_cons (js_for (vs := [5]) PassesOwn.never rfl (ji_seq (je_call (ok_law_cells T) (hr.mono (by decide)) (by rfl) T.m_law_cells T.F_law_cells.kp T.b_law_cells (ja_cons (je_var 1) ja_nil) (lenA_cons lenA_nil) rfl)) (jg_name (i := 5) sc_law_rows_of.nd rfl (by first | exact .inl rfl | exact .inr rfl) (by decide)) (jb_cons (js_set (i := 6) sc_law_rows_of.nd rfl (by first | exact .inl rfl | exact .inr rfl) (je_len (by rfl) T.z_len (ja_cons (je_at (je_var 5) je_int) ja_nil))) (jb_cons (js_set (i := 7) sc_law_rows_of.nd rfl (by first | exact .inl rfl | exact .inr rfl) (je_and (je_c c_gt (je_at (je_var 5) je_int) je_int) (je_and (je_c (c_eq hr) (je_at (je_var 4) (je_neg je_int)) je_int) (je_and1 (je_c c_lt (je_var 3) je_int))))) (jb_one (js_expr (je_append (je_var 4) (je_if (jt_val (je_var 7)) je_int (je_call (ok_law_draw T) (hr.mono (by decide)) (by rfl) T.m_law_draw T.F_law_draw.kp T.b_law_draw (ja_cons (je_var 0) (ja_cons (je_var 6) ja_nil)) (lenA_cons (lenA_cons lenA_nil)) rfl)))))))) (jb_one (js_expr (je_append (je_var 2) (je_tuple (by rfl) T.z_tuple (ja_cons (je_var 4) ja_nil)))))))) (jb_one (js_ret (je_var 2)))))
theorem sc_law : FnScope ["script", "box", "state", "row", "system", "states"] ["script"] (defScope (topS 23)) := ⟨rfl, rfl, rfl, by decide +kernel, rfl, by decide +kernel, by decide +kernel⟩
theorem ok_law (T : Tx K mg) : FnOk P w K mg base CX0 9 T.f_law T.d_law ["script"] (spF K 1 F_law) :=
  fn_sem (k := 8) T.F_law sc_law rfl rfl fun cdv A outer s H E hr =>
  (jb_cons (js_set (i := 1) sc_law.nd rfl (by first | exact .inl rfl | exact .inr rfl) (je_lst (ja_cons (je_call (ok_law_digits T) (hr.mono (by decide)) (by rfl) T.m_law_digits T.F_law_digits.kp T.b_law_digits (ja_cons (je_var 0) (ja_cons je_int (ja_cons je_int ja_nil))) (lenA_cons (lenA_cons (lenA_cons lenA_nil))) rfl) (ja_cons je_int ja_nil)))) (jb_cons (js_if (jt_c c_gt (je_call (ok_law_draw T) (hr.mono (by decide)) (by rfl) T.m_law_draw T.F_law_draw.kp T.b_law_draw (ja_cons (je_var 1) (ja_cons je_int ja_nil)) (lenA_cons (lenA_cons lenA_nil)) rfl) je_int) (jb_cons (js_set (i := 4) sc_law.nd rfl (by first | exact .inl rfl | exact .inr rfl) (je_call (ok_law_tiny T) (hr.mono (by decide)) (by rfl) T.m_law_tiny T.F_law_tiny.kp T.b_law_tiny (ja_cons (je_var 1) ja_nil) (lenA_cons lenA_nil) rfl)) (jb_one (js_set (i := 5) sc_law.nd rfl (by first | exact .inl rfl | exact .inr rfl) (je_call (ok_law_all T) (hr.mono (by decide)) (by rfl) T.m_law_all T.F_law_all.kp T.b_law_all (ja_cons (je_var 4) ja_nil) (lenA_cons lenA_nil) rfl)))) (jb_cons (js_set (i := 4) sc_law.nd rfl (by first | exact .inl rfl | exact .inr rfl) (je_call (ok_law_wide T) (hr.mono (by decide)) (by rfl) T.m_law_wide T.F_law_wide.kp T.b_law_wide (ja_cons (je_var 1) ja_nil) (lenA_cons lenA_nil) rfl)) (jb_one (js_setComp (i := 5) (own := [(("row" : Str), 3)]) rfl sc_law.nd rfl rfl (sw_true rfl rfl rfl (by decide +kernel)) (ji_seq (je_sl (je_call (ok_law_rows_of T) (hr.mono (by decide)) (by rfl) T.m_law_rows_of T.F_law_rows_of.kp T.b_law_rows_of (ja_cons (je_var 1) (ja_cons (je_var 4) ja_nil)) (lenA_cons (lenA_cons lenA_nil)) rfl) jo_none (jo_some je_int))) (blkOk_by (by kernel_rfl)) (fun _ _ _ _ _ => (jg_name (i := 3) sc_law.nd rfl (by first | exact .inl rfl | exact .inr rfl) (by decide))) (fun _ _ _ _ _ => jts_nil) (fun _ _ _ _ _ => (je_call (ok_law_unrow T) (hr.mono (by decide)) (by rfl) T.m_law_unrow T.F_law_unrow.kp T.b_law_unrow (ja_cons (je_var 4) (ja_cons (je_var 3) ja_nil)) (lenA_cons (lenA_cons lenA_nil)) rfl)))))) (jb_cons (js_if (jt_not (jt_val (je_call (ok_law_like T 8) (hr.mono (by decide)) (by rfl) T.m_law_like T.F_law_like.kp T.b_law_like (ja_cons (je_call (ok_cells T) (hr.mono (by decide)) (by rfl) T.m_cells T.F_cells.kp T.b_cells (ja_cons (je_var 4) ja_nil) (lenA_cons lenA_nil) rfl) (ja_cons (je_call (ok_law_cells T) (hr.mono (by decide)) (by rfl) T.m_law_cells T.F_law_cells.kp T.b_law_cells (ja_cons (je_var 4) ja_nil) (lenA_cons lenA_nil) rfl) ja_nil)) (lenA_cons (lenA_cons lenA_nil)) rfl))) (jb_one (js_ret je_bl)) jb_nil) (jb_cons (js_for (vs := [2]) PassesOwn.never rfl (ji_seq (je_var 5)) (jg_name (i := 2) sc_law.nd rfl (by first | exact .inl rfl | exact .inr rfl) (by decide)) (jb_cons (js_set (i := 3) sc_law.nd rfl (by first | exact .inl rfl | exact .inr rfl) (je_call (ok_cell_row T) (hr.mono (by decide)) (by rfl) T.m_cell_row T.F_cell_row.kp T.b_cell_row (ja_cons (je_var 4) (ja_cons (je_var 2) ja_nil)) (lenA_cons (lenA_cons lenA_nil)) rfl)) (jb_one (js_if (JW.t (jw_or (jt_not (jt_val (je_call (ok_law_like T 8) (hr.mono (by decide)) (by rfl) T.m_law_like T.F_law_like.kp T.b_law_like (ja_cons (je_var 3) (ja_cons (je_call (ok_law_row T) (hr.mono (by decide)) (by rfl) T.m_law_row T.F_law_row.kp T.b_law_row (ja_cons (je_var 4) (ja_cons (je_var 2) ja_nil)) (lenA_cons (lenA_cons lenA_nil)) rfl) ja_nil)) (lenA_cons (lenA_cons lenA_nil)) rfl))) (jw_or1 (jt_not (jt_val (je_call (ok_law_like T 8) (hr.mono (by decide)) (by rfl) T.m_law_like T.F_law_like.kp T.b_law_like (ja_cons (je_call (ok_state_of T) (hr.mono (by decide)) (by rfl) T.m_state_of T.F_state_of.kp T.b_state_of (ja_cons (je_var 4) (ja_cons (je_var 3) ja_nil)) (lenA_cons (lenA_cons lenA_nil)) rfl) (ja_cons (je_var 2) ja_nil)) (lenA_cons (lenA_cons lenA_nil)) rfl)))))) (jb_one (js_ret je_bl)) jb_nil)))) (jb_cons (js_for (vs := [3]) PassesOwn.never rfl (ji_seq (je_call (ok_law_rows_of T) (hr.mono (by decide)) (by rfl) T.m_law_rows_of T.F_law_rows_of.kp T.b_law_rows_of (ja_cons (je_var 1) (ja_cons (je_var 4) ja_nil)) (lenA_cons (lenA_cons lenA_nil)) rfl)) (jg_name (i := 3) sc_law.nd rfl (by first | exact .inl rfl | exact .inr rfl) (by decide)) (jb_one (js_if (jt_not (jt_val (je_call (ok_law_like T 8) (hr.mono (by decide)) (by rfl) T.m_law_like T.F_law_like.kp T.b_law_like (ja_cons (je_call (ok_state_of T) (hr.mono (by decide)) (by rfl) T.m_state_of T.F_state_of.kp T.b_state_of (ja_cons (je_var 4) (ja_cons (je_var 3) ja_nil)) (lenA_cons (lenA_cons lenA_nil)) rfl) (ja_cons (je_call (ok_law_unrow T) (hr.mono (by decide)) (by rfl) T.m_law_unrow T.F_law_unrow.kp T.b_law_unrow (ja_cons (je_var 4) (ja_cons (je_var 3) ja_nil)) (lenA_cons (lenA_cons lenA_nil)) rfl) ja_nil)) (lenA_cons (lenA_cons lenA_nil)) rfl))) (jb_one (js_ret je_bl)) jb_nil))) (jb_one (js_ret je_bl)))))))
end
end Sm
namespace Sm
open PySem PySem.Spec PyProof.Rows L2
theorem sq_fz {K : PySem.W.Frag} {H : Hp} {a : Addr} {vs : List V} (O : L2.Only H) (h : SqL K H a vs) : FzL K H a vs := by
  rcases h with h | h
  · rcases O a with e | ⟨o, xs, e⟩
    · rcases h with h | ⟨o, h⟩ <;> (rw [e] at h; cases h)
    · rcases h with h | ⟨o', h⟩
      · rw [e] at h; cases h
      · exact .inl ⟨o', h⟩
  · exact .inr (.inr h)
theorem rv_ints {K : PySem.W.Frag} {m : List Addr} {H : Hp} : ∀ ns : List Int, RVs K m H (ns.map V.int) (ns.map D.int)
  | [] => .nil
  | n :: r => .cons (.int n) (rv_ints r)
theorem sim_nil {K : PySem.W.Frag} {H : Hp} : Sim K [] [] H := ⟨rfl, List.nodup_nil, fun i a o h => by cases h⟩
theorem all_mk {l : PySem.W.OpenLaw} {w : World} {K : PySem.W.Frag} {h : Heap} {mg : Str → Option Value} {fa f1 f2 f3 f4 f5 f6 f7 f8 f9 f10 f11 f12 f13 f14 f15 f16 f17 f18 f19 f20 f21 f22 : Addr} {od1 an1 od2 an2 od3 an3 od4 an4 od5 an5 od6 an6 od7 an7 od8 an8 od9 an9 od10 an10 od11 an11 od12 an12 od13 an13 od14 an14 od15 an15 od16 an16 od17 an17 od18 an18 od19 an19 od20 an20 od21 an21 od22 an22 : Option Addr} {sl1 sl2 sl3 sl4 sl5 sl6 sl7 sl8 sl9 sl10 sl11 sl12 sl13 sl14 sl15 sl16 sl17 sl18 sl19 sl20 sl21 sl22 : Array (Option Value)} {oc1 kV1 dc1 pm1 cd1 ct1 oc2 kV2 dc2 pm2 cd2 ct2 oc3 kV3 dc3 pm3 cd3 ct3 oc4 kV4 dc4 pm4 cd4 ct4 oc5 kV5 dc5 pm5 cd5 ct5 oc6 kV6 dc6 pm6 cd6 ct6 oc7 kV7 dc7 pm7 cd7 ct7 oc8 kV8 dc8 pm8 cd8 ct8 oc9 kV9 dc9 pm9 cd9 ct9 oc10 kV10 dc10 pm10 cd10 ct10 oc11 kV11 dc11 pm11 cd11 ct11 oc12 kV12 dc12 pm12 cd12 ct12 oc13 kV13 dc13 pm13 cd13 ct13 oc14 kV14 dc14 pm14 cd14 ct14 oc15 kV15 dc15 pm15 cd15 ct15 oc16 kV16 dc16 pm16 cd16 ct16 oc17 kV17 dc17 pm17 cd17 ct17 oc18 kV18 dc18 pm18 cd18 ct18 oc19 kV19 dc19 pm19 cd19 ct19 oc20 kV20 dc20 pm20 cd20 ct20 oc21 kV21 dc21 pm21 cd21 ct21 oc22 kV22 dc22 pm22 cd22 ct22 : Value} (X : K.In h) (G : h.Ns mainGlobals mg) (hfa : mg "law" = some (.ref fa))
    (a1 : PySem.W.nsIn K mainGlobals "datum_cells" = some (some (.ref f1))) (l1 : K.lookup f1 = some ⟨oc1, od1, .func (PySem.W.fnOf "datum_cells" "datum_cells" (defArgs (topS 1)) (defBody (topS 1)) (defScope (topS 1)) .none kV1 dc1 pm1 an1 cd1 ct1), sl1⟩) (c1 : PySem.W.codeIn K cd1 "datum_cells" = true) (k1 : PySem.W.keepIn K (.ref f1) = true)
    (a2 : PySem.W.nsIn K mainGlobals "cells" = some (some (.ref f2))) (l2 : K.lookup f2 = some ⟨oc2, od2, .func (PySem.W.fnOf "cells" "cells" (defArgs (topS 2)) (defBody (topS 2)) (defScope (topS 2)) .none kV2 dc2 pm2 an2 cd2 ct2), sl2⟩) (c2 : PySem.W.codeIn K cd2 "cells" = true) (k2 : PySem.W.keepIn K (.ref f2) = true)
    (a3 : PySem.W.nsIn K mainGlobals "cell_row" = some (some (.ref f3))) (l3 : K.lookup f3 = some ⟨oc3, od3, .func (PySem.W.fnOf "cell_row" "cell_row" (defArgs (topS 3)) (defBody (topS 3)) (defScope (topS 3)) .none kV3 dc3 pm3 an3 cd3 ct3), sl3⟩) (c3 : PySem.W.codeIn K cd3 "cell_row" = true) (k3 : PySem.W.keepIn K (.ref f3) = true)
    (a4 : PySem.W.nsIn K mainGlobals "state_of" = some (some (.ref f4))) (l4 : K.lookup f4 = some ⟨oc4, od4, .func (PySem.W.fnOf "state_of" "state_of" (defArgs (topS 4)) (defBody (topS 4)) (defScope (topS 4)) .none kV4 dc4 pm4 an4 cd4 ct4), sl4⟩) (c4 : PySem.W.codeIn K cd4 "state_of" = true) (k4 : PySem.W.keepIn K (.ref f4) = true)
    (a5 : PySem.W.nsIn K mainGlobals "_law_cell" = some (some (.ref f5))) (l5 : K.lookup f5 = some ⟨oc5, od5, .func (PySem.W.fnOf "_law_cell" "_law_cell" (defArgs (topS 6)) (defBody (topS 6)) (defScope (topS 6)) .none kV5 dc5 pm5 an5 cd5 ct5), sl5⟩) (c5 : PySem.W.codeIn K cd5 "_law_cell" = true) (k5 : PySem.W.keepIn K (.ref f5) = true)
    (a6 : PySem.W.nsIn K mainGlobals "_law_digits" = some (some (.ref f6))) (l6 : K.lookup f6 = some ⟨oc6, od6, .func (PySem.W.fnOf "_law_digits" "_law_digits" (defArgs (topS 7)) (defBody (topS 7)) (defScope (topS 7)) .none kV6 dc6 pm6 an6 cd6 ct6), sl6⟩) (c6 : PySem.W.codeIn K cd6 "_law_digits" = true) (k6 : PySem.W.keepIn K (.ref f6) = true)
    (a7 : PySem.W.nsIn K mainGlobals "_law_draw" = some (some (.ref f7))) (l7 : K.lookup f7 = some ⟨oc7, od7, .func (PySem.W.fnOf "_law_draw" "_law_draw" (defArgs (topS 8)) (defBody (topS 8)) (defScope (topS 8)) .none kV7 dc7 pm7 an7 cd7 ct7), sl7⟩) (c7 : PySem.W.codeIn K cd7 "_law_draw" = true) (k7 : PySem.W.keepIn K (.ref f7) = true)
    (a8 : PySem.W.nsIn K mainGlobals "_law_pick" = some (some (.ref f8))) (l8 : K.lookup f8 = some ⟨oc8, od8, .func (PySem.W.fnOf "_law_pick" "_law_pick" (defArgs (topS 9)) (defBody (topS 9)) (defScope (topS 9)) .none kV8 dc8 pm8 an8 cd8 ct8), sl8⟩) (c8 : PySem.W.codeIn K cd8 "_law_pick" = true) (k8 : PySem.W.keepIn K (.ref f8) = true)
    (a9 : PySem.W.nsIn K mainGlobals "_law_names" = some (some (.ref f9))) (l9 : K.lookup f9 = some ⟨oc9, od9, .func (PySem.W.fnOf "_law_names" "_law_names" (defArgs (topS 10)) (defBody (topS 10)) (defScope (topS 10)) .none kV9 dc9 pm9 an9 cd9 ct9), sl9⟩) (c9 : PySem.W.codeIn K cd9 "_law_names" = true) (k9 : PySem.W.keepIn K (.ref f9) = true)
    (a10 : PySem.W.nsIn K mainGlobals "_law_number" = some (some (.ref f10))) (l10 : K.lookup f10 = some ⟨oc10, od10, .func (PySem.W.fnOf "_law_number" "_law_number" (defArgs (topS 11)) (defBody (topS 11)) (defScope (topS 11)) .none kV10 dc10 pm10 an10 cd10 ct10), sl10⟩) (c10 : PySem.W.codeIn K cd10 "_law_number" = true) (k10 : PySem.W.keepIn K (.ref f10) = true)
    (a11 : PySem.W.nsIn K mainGlobals "_law_truth" = some (some (.ref f11))) (l11 : K.lookup f11 = some ⟨oc11, od11, .func (PySem.W.fnOf "_law_truth" "_law_truth" (defArgs (topS 12)) (defBody (topS 12)) (defScope (topS 12)) .none kV11 dc11 pm11 an11 cd11 ct11), sl11⟩) (c11 : PySem.W.codeIn K cd11 "_law_truth" = true) (k11 : PySem.W.keepIn K (.ref f11) = true)
    (a12 : PySem.W.nsIn K mainGlobals "_law_deed" = some (some (.ref f12))) (l12 : K.lookup f12 = some ⟨oc12, od12, .func (PySem.W.fnOf "_law_deed" "_law_deed" (defArgs (topS 13)) (defBody (topS 13)) (defScope (topS 13)) .none kV12 dc12 pm12 an12 cd12 ct12), sl12⟩) (c12 : PySem.W.codeIn K cd12 "_law_deed" = true) (k12 : PySem.W.keepIn K (.ref f12) = true)
    (a13 : PySem.W.nsIn K mainGlobals "_law_like" = some (some (.ref f13))) (l13 : K.lookup f13 = some ⟨oc13, od13, .func (PySem.W.fnOf "_law_like" "_law_like" (defArgs (topS 14)) (defBody (topS 14)) (defScope (topS 14)) .none kV13 dc13 pm13 an13 cd13 ct13), sl13⟩) (c13 : PySem.W.codeIn K cd13 "_law_like" = true) (k13 : PySem.W.keepIn K (.ref f13) = true)
    (a14 : PySem.W.nsIn K mainGlobals "_law_lively" = some (some (.ref f14))) (l14 : K.lookup f14 = some ⟨oc14, od14, .func (PySem.W.fnOf "_law_lively" "_law_lively" (defArgs (topS 16)) (defBody (topS 16)) (defScope (topS 16)) .none kV14 dc14 pm14 an14 cd14 ct14), sl14⟩) (c14 : PySem.W.codeIn K cd14 "_law_lively" = true) (k14 : PySem.W.keepIn K (.ref f14) = true)
    (a15 : PySem.W.nsIn K mainGlobals "_law_tiny" = some (some (.ref f15))) (l15 : K.lookup f15 = some ⟨oc15, od15, .func (PySem.W.fnOf "_law_tiny" "_law_tiny" (defArgs (topS 15)) (defBody (topS 15)) (defScope (topS 15)) .none kV15 dc15 pm15 an15 cd15 ct15), sl15⟩) (c15 : PySem.W.codeIn K cd15 "_law_tiny" = true) (k15 : PySem.W.keepIn K (.ref f15) = true)
    (a16 : PySem.W.nsIn K mainGlobals "_law_cells" = some (some (.ref f16))) (l16 : K.lookup f16 = some ⟨oc16, od16, .func (PySem.W.fnOf "_law_cells" "_law_cells" (defArgs (topS 17)) (defBody (topS 17)) (defScope (topS 17)) .none kV16 dc16 pm16 an16 cd16 ct16), sl16⟩) (c16 : PySem.W.codeIn K cd16 "_law_cells" = true) (k16 : PySem.W.keepIn K (.ref f16) = true)
    (a17 : PySem.W.nsIn K mainGlobals "_law_row" = some (some (.ref f17))) (l17 : K.lookup f17 = some ⟨oc17, od17, .func (PySem.W.fnOf "_law_row" "_law_row" (defArgs (topS 18)) (defBody (topS 18)) (defScope (topS 18)) .none kV17 dc17 pm17 an17 cd17 ct17), sl17⟩) (c17 : PySem.W.codeIn K cd17 "_law_row" = true) (k17 : PySem.W.keepIn K (.ref f17) = true)
    (a18 : PySem.W.nsIn K mainGlobals "_law_unrow" = some (some (.ref f18))) (l18 : K.lookup f18 = some ⟨oc18, od18, .func (PySem.W.fnOf "_law_unrow" "_law_unrow" (defArgs (topS 19)) (defBody (topS 19)) (defScope (topS 19)) .none kV18 dc18 pm18 an18 cd18 ct18), sl18⟩) (c18 : PySem.W.codeIn K cd18 "_law_unrow" = true) (k18 : PySem.W.keepIn K (.ref f18) = true)
    (a19 : PySem.W.nsIn K mainGlobals "_law_all" = some (some (.ref f19))) (l19 : K.lookup f19 = some ⟨oc19, od19, .func (PySem.W.fnOf "_law_all" "_law_all" (defArgs (topS 20)) (defBody (topS 20)) (defScope (topS 20)) .none kV19 dc19 pm19 an19 cd19 ct19), sl19⟩) (c19 : PySem.W.codeIn K cd19 "_law_all" = true) (k19 : PySem.W.keepIn K (.ref f19) = true)
    (a20 : PySem.W.nsIn K mainGlobals "_law_wide" = some (some (.ref f20))) (l20 : K.lookup f20 = some ⟨oc20, od20, .func (PySem.W.fnOf "_law_wide" "_law_wide" (defArgs (topS 21)) (defBody (topS 21)) (defScope (topS 21)) .none kV20 dc20 pm20 an20 cd20 ct20), sl20⟩) (c20 : PySem.W.codeIn K cd20 "_law_wide" = true) (k20 : PySem.W.keepIn K (.ref f20) = true)
    (a21 : PySem.W.nsIn K mainGlobals "_law_rows_of" = some (some (.ref f21))) (l21 : K.lookup f21 = some ⟨oc21, od21, .func (PySem.W.fnOf "_law_rows_of" "_law_rows_of" (defArgs (topS 22)) (defBody (topS 22)) (defScope (topS 22)) .none kV21 dc21 pm21 an21 cd21 ct21), sl21⟩) (c21 : PySem.W.codeIn K cd21 "_law_rows_of" = true) (k21 : PySem.W.keepIn K (.ref f21) = true)
    (a22 : PySem.W.nsIn K mainGlobals "law" = some (some (.ref f22))) (l22 : K.lookup f22 = some ⟨oc22, od22, .func (PySem.W.fnOf "law" "law" (defArgs (topS 23)) (defBody (topS 23)) (defScope (topS 23)) .none kV22 dc22 pm22 an22 cd22 ct22), sl22⟩) (c22 : PySem.W.codeIn K cd22 "law" = true) (k22 : PySem.W.keepIn K (.ref f22) = true)
    (z1 : PySem.W.nsIn K mainGlobals "bool" = some none)
    (z2 : PySem.W.nsIn K mainGlobals "int" = some none)
    (z3 : PySem.W.nsIn K mainGlobals "isinstance" = some none)
    (z4 : PySem.W.nsIn K mainGlobals "len" = some none)
    (z5 : PySem.W.nsIn K mainGlobals "list" = some none)
    (z6 : PySem.W.nsIn K mainGlobals "range" = some none)
    (z7 : PySem.W.nsIn K mainGlobals "str" = some none)
    (z8 : PySem.W.nsIn K mainGlobals "tuple" = some none)
    (z9 : PySem.W.nsIn K mainGlobals "zip" = some none) :
    ∃ fd : FuncData, (∀ (s : Shared) (v : Value), BindsTo s fd ⟨[v], []⟩ [("script", v)]) ∧ ∀ base : Heap, K.In base → base.Ns mainGlobals mg → FnOk l.prog w K mg base CX0 9 fa fd ["script"] (spF K 1 F_law) := by
  have e := hfa.symm.trans (PySem.W.mg_of X G a22)
  cases e
  have F1 := fun_mk (st := topS 1) l1 c1 k1
  have b1 := F1.binds (ps := ["datum"]) fun _ _ _ _ _ _ us hl => match us, hl with | [_], _ => rfl
  have F2 := fun_mk (st := topS 2) l2 c2 k2
  have b2 := F2.binds (ps := ["system"]) fun _ _ _ _ _ _ us hl => match us, hl with | [_], _ => rfl
  have F3 := fun_mk (st := topS 3) l3 c3 k3
  have b3 := F3.binds (ps := ["system", "state"]) fun _ _ _ _ _ _ us hl => match us, hl with | [_, _], _ => rfl
  have F4 := fun_mk (st := topS 4) l4 c4 k4
  have b4 := F4.binds (ps := ["system", "row"]) fun _ _ _ _ _ _ us hl => match us, hl with | [_, _], _ => rfl
  have F5 := fun_mk (st := topS 6) l5 c5 k5
  have b5 := F5.binds (ps := ["script", "k"]) fun _ _ _ _ _ _ us hl => match us, hl with | [_, _], _ => rfl
  have F6 := fun_mk (st := topS 7) l6 c6 k6
  have b6 := F6.binds (ps := ["script", "first", "last"]) fun _ _ _ _ _ _ us hl => match us, hl with | [_, _, _], _ => rfl
  have F7 := fun_mk (st := topS 8) l7 c7 k7
  have b7 := F7.binds (ps := ["box", "many"]) fun _ _ _ _ _ _ us hl => match us, hl with | [_, _], _ => rfl
  have F8 := fun_mk (st := topS 9) l8 c8 k8
  have b8 := F8.binds (ps := ["box", "rows"]) fun _ _ _ _ _ _ us hl => match us, hl with | [_, _], _ => rfl
  have F9 := fun_mk (st := topS 10) l9 c9 k9
  have b9 := F9.binds (ps := ["box", "many", "used"]) fun _ _ _ _ _ _ us hl => match us, hl with | [_, _, _], _ => rfl
  have F10 := fun_mk (st := topS 11) l10 c10 k10
  have b10 := F10.binds (ps := ["box", "system"]) fun _ _ _ _ _ _ us hl => match us, hl with | [_, _], _ => rfl
  have F11 := fun_mk (st := topS 12) l11 c11 k11
  have b11 := F11.binds (ps := ["box", "system", "deep"]) fun _ _ _ _ _ _ us hl => match us, hl with | [_, _, _], _ => rfl
  have F12 := fun_mk (st := topS 13) l12 c12 k12
  have b12 := F12.binds (ps := ["box", "system"]) fun _ _ _ _ _ _ us hl => match us, hl with | [_, _], _ => rfl
  have F13 := fun_mk (st := topS 14) l13 c13 k13
  have b13 := F13.binds (ps := ["actual", "due"]) fun _ _ _ _ _ _ us hl => match us, hl with | [_, _], _ => rfl
  have F14 := fun_mk (st := topS 16) l14 c14 k14
  have b14 := F14.binds (ps := ["box", "system"]) fun _ _ _ _ _ _ us hl => match us, hl with | [_, _], _ => rfl
  have F15 := fun_mk (st := topS 15) l15 c15 k15
  have b15 := F15.binds (ps := ["box"]) fun _ _ _ _ _ _ us hl => match us, hl with | [_], _ => rfl
  have F16 := fun_mk (st := topS 17) l16 c16 k16
  have b16 := F16.binds (ps := ["system"]) fun _ _ _ _ _ _ us hl => match us, hl with | [_], _ => rfl
  have F17 := fun_mk (st := topS 18) l17 c17 k17
  have b17 := F17.binds (ps := ["system", "state"]) fun _ _ _ _ _ _ us hl => match us, hl with | [_, _], _ => rfl
  have F18 := fun_mk (st := topS 19) l18 c18 k18
  have b18 := F18.binds (ps := ["system", "row"]) fun _ _ _ _ _ _ us hl => match us, hl with | [_, _], _ => rfl
  have F19 := fun_mk (st := topS 20) l19 c19 k19
  have b19 := F19.binds (ps := ["system"]) fun _ _ _ _ _ _ us hl => match us, hl with | [_], _ => rfl
  have F20 := fun_mk (st := topS 21) l20 c20 k20
  have b20 := F20.binds (ps := ["box"]) fun _ _ _ _ _ _ us hl => match us, hl with | [_], _ => rfl
  have F21 := fun_mk (st := topS 22) l21 c21 k21
  have b21 := F21.binds (ps := ["box", "system"]) fun _ _ _ _ _ _ us hl => match us, hl with | [_, _], _ => rfl
  have F22 := fun_mk (st := topS 23) l22 c22 k22
  have b22 := F22.binds (ps := ["script"]) fun _ _ _ _ _ _ us hl => match us, hl with | [_], _ => rfl
  refine ⟨PySem.W.fnOf "law" "law" (defArgs (topS 23)) (defBody (topS 23)) (defScope (topS 23)) .none kV22 dc22 pm22 an22 cd22 ct22, fun s v => .of_eq rfl, fun base _ _ => ?_⟩
  exact ok_law (P := l.prog) (w := w) (base := base) (Tx.mk _ _ F1 b1 (PySem.W.mg_of X G a1) _ _ F2 b2 (PySem.W.mg_of X G a2) _ _ F3 b3 (PySem.W.mg_of X G a3) _ _ F4 b4 (PySem.W.mg_of X G a4) _ _ F5 b5 (PySem.W.mg_of X G a5) _ _ F6 b6 (PySem.W.mg_of X G a6) _ _ F7 b7 (PySem.W.mg_of X G a7) _ _ F8 b8 (PySem.W.mg_of X G a8) _ _ F9 b9 (PySem.W.mg_of X G a9) _ _ F10 b10 (PySem.W.mg_of X G a10) _ _ F11 b11 (PySem.W.mg_of X G a11) _ _ F12 b12 (PySem.W.mg_of X G a12) _ _ F13 b13 (PySem.W.mg_of X G a13) _ _ F14 b14 (PySem.W.mg_of X G a14) _ _ F15 b15 (PySem.W.mg_of X G a15) _ _ F16 b16 (PySem.W.mg_of X G a16) _ _ F17 b17 (PySem.W.mg_of X G a17) _ _ F18 b18 (PySem.W.mg_of X G a18) _ _ F19 b19 (PySem.W.mg_of X G a19) _ _ F20 b20 (PySem.W.mg_of X G a20) _ _ F21 b21 (PySem.W.mg_of X G a21) _ _ F22 b22 (PySem.W.mg_of X G a22) (PySem.W.mg_none_of X G z1) (PySem.W.mg_none_of X G z2) (PySem.W.mg_none_of X G z3) (PySem.W.mg_none_of X G z4) (PySem.W.mg_none_of X G z5) (PySem.W.mg_none_of X G z6) (PySem.W.mg_none_of X G z7) (PySem.W.mg_none_of X G z8) (PySem.W.mg_none_of X G z9))
theorem walk {l : PySem.W.OpenLaw} {q : Program} {loose : List Str} {XP : (Str → Option Value) → Heap → Prop} {YP : World → Heap → Prop} {d : DefRec} {K : Params → PySem.W.Frag} (hn : l.most = some 63) (hdf : d.params.defaults = [])
    (hY : ∀ (w : World) (h : Heap), YP w h → (K w.params).In h)
    (F : ∀ (w : World) (mg : Str → Option Value) (fa : Addr) (h : Heap), (K w.params).In h → h.Ns mainGlobals mg → mg d.name = some (.ref fa) →
      ∃ fd : FuncData, (∀ (s : Shared) (u : Value), BindsTo s fd ⟨[u], []⟩ [("script", u)]) ∧ ∀ base : Heap, (K w.params).In base → base.Ns mainGlobals mg → FnOk l.prog w (K w.params) mg base CX0 9 fa fd ["script"] (spF (K w.params) 1 F_law)) :
    PySem.W.WalkO q loose XP YP l.row.toRowW d [] (fun f vs => PySem.call f vs) :=
  L2.walk_of (n := 63) (k := 9) (x := "script") (CX := fun _ => CX0) (sp := fun w => spF (K w.params) 1 F_law) hn (by decide) hdf ⟨rfl, by decide, by decide⟩ hY F (fun w H a ns hl O hS => by
    obtain ⟨h', e⟩ := law_ok (h := []) ns
    exact ⟨[], [], [.fl (ns.map D.int)], .bl true, h', sim_nil, .cons (.fl (sq_fz O hS) (rv_ints ns)) .nil, rfl, e, fun m' H' v _ _ r => by cases r; rfl⟩) fun _ _ _ _ _ z => z
end Sm
open PySem PySem.W PyProof.Rows
set_option maxRecDepth 100000 in
set_option maxHeartbeats 0 in
theorem PySem.Challenge.cw_allroads_k31_cells_and_rows_holds : PySem.Challenge.rw_allroads_k31_cells_and_rows.Holds := by
  w_on; o_law; k_head; (case hw => w_witness2)
  k_fill
  refine Sm.walk (l := PySem.Challenge.rw_allroads_k31_cells_and_rows) rfl rfl (fun w h Y => PySem.W.kIn_of Y) ?F
  case F =>
    intro w mg fa h KX G hmg
    refine' Sm.all_mk KX G hmg ?a1 ?l1 ?c1 ?k1 ?a2 ?l2 ?c2 ?k2 ?a3 ?l3 ?c3 ?k3 ?a4 ?l4 ?c4 ?k4 ?a5 ?l5 ?c5 ?k5 ?a6 ?l6 ?c6 ?k6 ?a7 ?l7 ?c7 ?k7 ?a8 ?l8 ?c8 ?k8 ?a9 ?l9 ?c9 ?k9 ?a10 ?l10 ?c10 ?k10 ?a11 ?l11 ?c11 ?k11 ?a12 ?l12 ?c12 ?k12 ?a13 ?l13 ?c13 ?k13 ?a14 ?l14 ?c14 ?k14 ?a15 ?l15 ?c15 ?k15 ?a16 ?l16 ?c16 ?k16 ?a17 ?l17 ?c17 ?k17 ?a18 ?l18 ?c18 ?k18 ?a19 ?l19 ?c19 ?k19 ?a20 ?l20 ?c20 ?k20 ?a21 ?l21 ?c21 ?k21 ?a22 ?l22 ?c22 ?k22 ?z1 ?z2 ?z3 ?z4 ?z5 ?z6 ?z7 ?z8 ?z9
    (case a1 => k_is)
    (case l1 => k_is)
    (case c1 => k_is)
    (case k1 => k_is)
    (case a2 => k_is)
    (case l2 => k_is)
    (case c2 => k_is)
    (case k2 => k_is)
    (case a3 => k_is)
    (case l3 => k_is)
    (case c3 => k_is)
    (case k3 => k_is)
    (case a4 => k_is)
    (case l4 => k_is)
    (case c4 => k_is)
    (case k4 => k_is)
    (case a5 => k_is)
    (case l5 => k_is)
    (case c5 => k_is)
    (case k5 => k_is)
    (case a6 => k_is)
    (case l6 => k_is)
    (case c6 => k_is)
    (case k6 => k_is)
    (case a7 => k_is)
    (case l7 => k_is)
    (case c7 => k_is)
    (case k7 => k_is)
    (case a8 => k_is)
    (case l8 => k_is)
    (case c8 => k_is)
    (case k8 => k_is)
    (case a9 => k_is)
    (case l9 => k_is)
    (case c9 => k_is)
    (case k9 => k_is)
    (case a10 => k_is)
    (case l10 => k_is)
    (case c10 => k_is)
    (case k10 => k_is)
    (case a11 => k_is)
    (case l11 => k_is)
    (case c11 => k_is)
    (case k11 => k_is)
    (case a12 => k_is)
    (case l12 => k_is)
    (case c12 => k_is)
    (case k12 => k_is)
    (case a13 => k_is)
    (case l13 => k_is)
    (case c13 => k_is)
    (case k13 => k_is)
    (case a14 => k_is)
    (case l14 => k_is)
    (case c14 => k_is)
    (case k14 => k_is)
    (case a15 => k_is)
    (case l15 => k_is)
    (case c15 => k_is)
    (case k15 => k_is)
    (case a16 => k_is)
    (case l16 => k_is)
    (case c16 => k_is)
    (case k16 => k_is)
    (case a17 => k_is)
    (case l17 => k_is)
    (case c17 => k_is)
    (case k17 => k_is)
    (case a18 => k_is)
    (case l18 => k_is)
    (case c18 => k_is)
    (case k18 => k_is)
    (case a19 => k_is)
    (case l19 => k_is)
    (case c19 => k_is)
    (case k19 => k_is)
    (case a20 => k_is)
    (case l20 => k_is)
    (case c20 => k_is)
    (case k20 => k_is)
    (case a21 => k_is)
    (case l21 => k_is)
    (case c21 => k_is)
    (case k21 => k_is)
    (case a22 => k_is)
    (case l22 => k_is)
    (case c22 => k_is)
    (case k22 => k_is)
    (case z1 => k_is)
    (case z2 => k_is)
    (case z3 => k_is)
    (case z4 => k_is)
    (case z5 => k_is)
    (case z6 => k_is)
    (case z7 => k_is)
    (case z8 => k_is)
    (case z9 => k_is)
#print axioms PySem.Challenge.cw_allroads_k31_cells_and_rows_holds
