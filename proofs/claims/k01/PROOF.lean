import PyProof.Rows.All
import Wide.All
import OpenK.AllK
import Wide.FinOn
import HandS.ForMost
import HandS.TupAny
import HandS.IsInst
import HandS.Conv
import HandS.Style
import HandS.Flow
import HandS.Strs
import HandS.Zip
import HandS.TryOnly
import KE.GoesMore
import KE.GoesZip
import KE.GoesEnum
import HandS.Ends
import PyProof.ReprRoads
import HandS.Deep
import HandS.TupMul
import HandS.More
import HandS.HeadHook3
import PyProof.Rows.ReprShort
import PySem.Challenge.RW_allroads_k01_values_in_states
set_option Elab.async false
set_option linter.all false
set_option maxRecDepth 100000
namespace Sm
open PySem PySem.Spec PyProof.Rows L2

/-! ## plain data, plain heaps -/
inductive D where
  | non | bl (b : Bool) | int (i : Int) | str (x : Str) | tup (ds : List D) | zt (ds : List D) | fl (ds : List D) | ref (a : Nat) | ty (n : String)
mutual
def D.same : D → D → Bool
  | .non, .non => true
  | .bl a, .bl b => a == b
  | .int a, .int b => a == b
  | .str a, .str b => decide (a = b)
  | .tup a, .tup b => D.sames a b
  | .zt a, .zt b => D.sames a b
  | .fl a, .fl b => D.sames a b
  | .ref a, .ref b => a == b
  | .ty a, .ty b => a == b
  | _, _ => false
def D.sames : List D → List D → Bool
  | [], [] => true
  | a :: r, b :: s => D.same a b && D.sames r s
  | _, _ => false
end
mutual
theorem D.same_iff : ∀ a b : D, D.same a b = true ↔ a = b
  | .non, b => by cases b <;> simp [D.same]
  | .bl a, b => by cases b <;> simp [D.same]
  | .int a, b => by cases b <;> simp [D.same]
  | .str a, b => by cases b <;> simp [D.same]
  | .tup a, b => by cases b <;> simp [D.same, D.sames_iff a]
  | .zt a, b => by cases b <;> simp [D.same, D.sames_iff a]
  | .fl a, b => by cases b <;> simp [D.same, D.sames_iff a]
  | .ref a, b => by cases b <;> simp [D.same]
  | .ty a, b => by cases b <;> simp [D.same]
theorem D.sames_iff : ∀ a b : List D, D.sames a b = true ↔ a = b
  | [], b => by cases b <;> simp [D.sames]
  | a :: r, b => by cases b <;> simp [D.sames, D.same_iff a, D.sames_iff r]
end
instance : DecidableEq D := fun a b => decidable_of_iff (D.same a b = true) (D.same_iff a b)
inductive O where
  | lst (ds : List D)
  | dic (kvs : List (D × D))
  deriving DecidableEq
abbrev AH := List O
abbrev AT := List (Option D)
/-- what an expression hands on: a plain value, or a new list that nobody holds yet -/
inductive LV where
  | val (d : D) | new (ds : List D)
  deriving DecidableEq
abbrev SE := AT → AH → Option (LV × AH)
abbrev SA := AT → AH → Option (List LV × AH)
abbrev ST := AT → AH → Option (Bool × AH)
abbrev SF := List D → AH → Option (D × AH)
inductive Res where
  | nx (τ : AT) (h : AH) | rt (d : D) (h : AH) | bk (τ : AT) (h : AH) | ct (τ : AT) (h : AH)
abbrev SS := AT → AH → Option Res

/-! ## how they stand for the layer's values and heaps -/
def FzL (K : PySem.W.Frag) (H : Hp) (a : Addr) (vs : List V) : Prop := (∃ o, H a = some (.frz o (.lst vs))) ∨ SqL K (fun _ => none) a vs
/-- a tuple that is known to the object: it has no dict of its own -/
def FzT (K : PySem.W.Frag) (H : Hp) (a : Addr) (vs : List V) : Prop := (∃ o, H a = some (.frz o (.tup vs)) ∧ o.cls = .type "tuple" ∧ o.dict = none) ∨
  ∃ (o : Obj) (its : Array Value) (n : Nat), K.lookup a = some o ∧ o.cls = .type "tuple" ∧ o.dict = none ∧ o.data = .seq its n ∧ its.size ≤ sizeLine ∧ Vals vs its.toList
mutual
inductive RV (K : PySem.W.Frag) (m : List Addr) (H : Hp) : V → D → Prop
  | non : RV K m H .non .non
  | bl (b : Bool) : RV K m H (.bl b) (.bl b)
  | int (i : Int) : RV K m H (.int i) (.int i)
  | str (x : Str) : RV K m H (.str x) (.str x)
  | tup {a : Addr} {vs : List V} {ds : List D} : FzT K H a vs → RVs K m H vs ds → RV K m H (.ref a) (.tup ds)
  | zt {a : Addr} {vs : List V} {ds : List D} : SqT K H a vs → RVs K m H vs ds → RV K m H (.ref a) (.zt ds)
  | fl {a : Addr} {vs : List V} {ds : List D} : FzL K H a vs → RVs K m H vs ds → RV K m H (.ref a) (.fl ds)
  | ref {a : Addr} {i : Nat} : m[i]? = some a → RV K m H (.ref a) (.ref i)
  | ty (n : String) : RV K m H (.ty n) (.ty n)
inductive RVs (K : PySem.W.Frag) (m : List Addr) (H : Hp) : List V → List D → Prop
  | nil : RVs K m H [] []
  | cons {v : V} {vs : List V} {d : D} {ds : List D} : RV K m H v d → RVs K m H vs ds → RVs K m H (v :: vs) (d :: ds)
end
/-- keys of a dict -/
inductive RKs (K : PySem.W.Frag) (m : List Addr) (H : Hp) : List (Key × V) → List (D × D) → Prop
  | nil : RKs K m H [] []
  | int {i : Int} {v : V} {d : D} {ks : List (Key × V)} {kvs : List (D × D)} : RV K m H v d → RKs K m H ks kvs → RKs K m H ((.inl i, v) :: ks) ((.int i, d) :: kvs)
  | str {x : Str} {v : V} {d : D} {ks : List (Key × V)} {kvs : List (D × D)} : RV K m H v d → RKs K m H ks kvs → RKs K m H ((.inr x, v) :: ks) ((.str x, d) :: kvs)
/-- what was there stands (weakly: what is tracked may grow by what is there) -/
structure Lw (m : List Addr) (H : Hp) (m' : List Addr) (H' : Hp) : Prop where
  pre : ∃ t, m' = m ++ t
  fr : ∀ a o, H a = some o → a ∉ m → H' a = some o
structure Le (m : List Addr) (H : Hp) (m' : List Addr) (H' : Hp) : Prop extends Lw m H m' H' where
  nw : ∀ a, a ∈ m' → a ∉ m → H a = none
def RO (K : PySem.W.Frag) (m : List Addr) (H : Hp) (a : Addr) : O → Prop
  | .lst ds => ∃ vs, H a = some (.lst vs) ∧ RVs K m H vs ds
  | .dic kvs => ∃ ks, H a = some (.dK ks) ∧ RKs K m H ks kvs
structure Sim (K : PySem.W.Frag) (m : List Addr) (h : AH) (H : Hp) : Prop where
  len : m.length = h.length
  nd : m.Nodup
  ob : ∀ (i : Nat) (a : Addr) (o : O), m[i]? = some a → h[i]? = some o → RO K m H a o
def RSt (K : PySem.W.Frag) (m : List Addr) (H : Hp) (σ : L2.St) (τ : AT) : Prop :=
  σ.length = τ.length ∧ ∀ (i : Nat) (d : D), τ[i]? = some (some d) → ∃ v, σ[i]? = some (some v) ∧ RV K m H v d

/-! ## facts -/
theorem Le.refl (m : List Addr) (H : Hp) : Le m H m H := ⟨⟨⟨[], by simp⟩, fun _ _ h _ => h⟩, fun a h1 h2 => absurd h1 h2⟩
theorem Le.mem {m m' : List Addr} {H H' : Hp} (L : Le m H m' H') {a : Addr} (h : a ∈ m) : a ∈ m' := by
  obtain ⟨t, rfl⟩ := L.pre
  exact List.mem_append_left _ h
theorem Le.trans {m m1 m2 : List Addr} {H H1 H2 : Hp} (a : Le m H m1 H1) (b : Le m1 H1 m2 H2) : Le m H m2 H2 where
  pre := by
    obtain ⟨t, rfl⟩ := a.pre
    obtain ⟨u, rfl⟩ := b.pre
    exact ⟨t ++ u, by simp⟩
  fr := fun c o h hn => b.fr c o (a.fr c o h hn) fun hm => by
    rw [a.nw c hm hn] at h
    cases h
  nw := fun c h hn => by
    by_cases hc : c ∈ m1
    · exact a.nw c hc hn
    · have q := b.nw c h hc
      cases e : H c with
      | none => rfl
      | some o =>
        rw [a.fr c o e hn] at q
        cases q
theorem Lw.get {m m' : List Addr} {H H' : Hp} (L : Lw m H m' H') {i : Nat} {a : Addr} (h : m[i]? = some a) : m'[i]? = some a := by
  obtain ⟨t, rfl⟩ := L.pre
  have hi : i < m.length := by
    rcases Nat.lt_or_ge i m.length with q | q
    · exact q
    · rw [List.getElem?_eq_none q] at h
      cases h
  rw [List.getElem?_append_left hi]
  exact h
/-- what is tracked by m is no tuple, nothing frozen -/
def Cl (m : List Addr) (H : Hp) : Prop := ∀ a ∈ m, (∃ vs, H a = some (.lst vs)) ∨ ∃ ks, H a = some (.dK ks)
theorem Cl.tup {m : List Addr} {H : Hp} (c : Cl m H) {a : Addr} {vs : List V} (h : H a = some (.tup vs)) : a ∉ m := fun hm => by
  rcases c a hm with ⟨_, e⟩ | ⟨_, e⟩ <;> (rw [h] at e; cases e)
theorem Cl.frz {m : List Addr} {H : Hp} (c : Cl m H) {a : Addr} {o : Obj} {u : HO} (h : H a = some (.frz o u)) : a ∉ m := fun hm => by
  rcases c a hm with ⟨_, e⟩ | ⟨_, e⟩ <;> (rw [h] at e; cases e)
theorem Cl.non {m : List Addr} {H : Hp} (c : Cl m H) {a : Addr} (h : H a = none) : a ∉ m := fun hm => by
  rcases c a hm with ⟨_, e⟩ | ⟨_, e⟩ <;> (rw [h] at e; cases e)
theorem Sim.get {K : PySem.W.Frag} {m : List Addr} {h : AH} {H : Hp} (S : Sim K m h H) {i : Nat} {a : Addr} (e : m[i]? = some a) : ∃ o, h[i]? = some o ∧ RO K m H a o := by
  have hi : i < m.length := by
    rcases Nat.lt_or_ge i m.length with q | q
    · exact q
    · rw [List.getElem?_eq_none q] at e
      cases e
  have hi' : i < h.length := by
    rw [← S.len]
    exact hi
  exact ⟨h[i], List.getElem?_eq_getElem hi', S.ob i a _ e (List.getElem?_eq_getElem hi')⟩
theorem Sim.cl {K : PySem.W.Frag} {m : List Addr} {h : AH} {H : Hp} (S : Sim K m h H) : Cl m H := fun a ha => by
  obtain ⟨i, hi, e⟩ := List.getElem_of_mem ha
  obtain ⟨o, _, r⟩ := S.get (i := i) (a := a) (by rw [List.getElem?_eq_getElem hi, e])
  cases o with
  | lst ds => obtain ⟨vs, q, _⟩ := r; exact .inl ⟨vs, q⟩
  | dic ds => obtain ⟨vs, q, _⟩ := r; exact .inr ⟨vs, q⟩
section
variable {K : PySem.W.Frag} {m m' : List Addr} {H H' : Hp}
theorem sqT_mono (c : Cl m H) (L : Lw m H m' H') {a : Addr} {vs : List V} (h : SqT K H a vs) : SqT K H' a vs := by
  rcases h with (h | ⟨o, h⟩) | h
  · exact .inl (.inl (L.fr _ _ h (c.tup h)))
  · exact .inl (.inr ⟨o, L.fr _ _ h (c.frz h)⟩)
  · exact .inr h
theorem fzT_mono (c : Cl m H) (L : Lw m H m' H') {a : Addr} {vs : List V} (h : FzT K H a vs) : FzT K H' a vs := by
  rcases h with ⟨o, h, r⟩ | h
  · exact .inl ⟨o, L.fr _ _ h (c.frz h), r⟩
  · exact .inr h
theorem FzT.sq {a : Addr} {vs : List V} (h : FzT K H a vs) : SqT K H a vs := by
  rcases h with ⟨o, h, r⟩ | ⟨o, its, n, h1, h2, h3, h4⟩
  · exact .inl (.inr ⟨o, h⟩)
  · exact .inr ⟨o, its, n, h1, h2, h4⟩
theorem fzL_mono (c : Cl m H) (L : Lw m H m' H') {a : Addr} {vs : List V} (h : FzL K H a vs) : FzL K H' a vs := by
  rcases h with ⟨o, h⟩ | h
  · exact .inl ⟨o, L.fr _ _ h (c.frz h)⟩
  · exact .inr h
theorem FzL.sq {a : Addr} {vs : List V} (h : FzL K H a vs) : SqL K H a vs := by
  rcases h with ⟨o, h⟩ | (h | ⟨o, h⟩) | h
  · exact .inl (.inr ⟨o, h⟩)
  · cases h
  · cases h
  · exact .inr h
/-- tuples and what is frozen stand -/
structure Ls (m : List Addr) (H : Hp) (m' : List Addr) (H' : Hp) : Prop where
  pre : ∃ t, m' = m ++ t
  tu : ∀ a vs, H a = some (.tup vs) → H' a = some (.tup vs)
  fz : ∀ a o u, H a = some (.frz o u) → H' a = some (.frz o u)
theorem Ls.get (L : Ls m H m' H') {i : Nat} {a : Addr} (h : m[i]? = some a) : m'[i]? = some a := by
  obtain ⟨t, rfl⟩ := L.pre
  have hi : i < m.length := by
    rcases Nat.lt_or_ge i m.length with q | q
    · exact q
    · rw [List.getElem?_eq_none q] at h
      cases h
  rw [List.getElem?_append_left hi]
  exact h
theorem Ls.sqT (L : Ls m H m' H') {a : Addr} {vs : List V} (h : SqT K H a vs) : SqT K H' a vs := by
  rcases h with (h | ⟨o, h⟩) | h
  · exact .inl (.inl (L.tu _ _ h))
  · exact .inl (.inr ⟨o, L.fz _ _ _ h⟩)
  · exact .inr h
theorem Ls.fzT (L : Ls m H m' H') {a : Addr} {vs : List V} (h : FzT K H a vs) : FzT K H' a vs := by
  rcases h with ⟨o, h, r⟩ | h
  · exact .inl ⟨o, L.fz _ _ _ h, r⟩
  · exact .inr h
theorem Ls.fzL (L : Ls m H m' H') {a : Addr} {vs : List V} (h : FzL K H a vs) : FzL K H' a vs := by
  rcases h with ⟨o, h⟩ | h
  · exact .inl ⟨o, L.fz _ _ _ h⟩
  · exact .inr h
mutual
theorem RV.monoS (L : Ls m H m' H') : ∀ {v : V} {d : D}, RV K m H v d → RV K m' H' v d
  | _, _, .non => .non
  | _, _, .bl b => .bl b
  | _, _, .int i => .int i
  | _, _, .str x => .str x
  | _, _, .tup h r => .tup (L.fzT h) (RVs.monoS L r)
  | _, _, .zt h r => .zt (L.sqT h) (RVs.monoS L r)
  | _, _, .fl h r => .fl (L.fzL h) (RVs.monoS L r)
  | _, _, .ref e => .ref (L.get e)
  | _, _, .ty n => .ty n
theorem RVs.monoS (L : Ls m H m' H') : ∀ {vs : List V} {ds : List D}, RVs K m H vs ds → RVs K m' H' vs ds
  | _, _, .nil => .nil
  | _, _, .cons h r => .cons (RV.monoS L h) (RVs.monoS L r)
end
theorem RKs.monoS (L : Ls m H m' H') : ∀ {ks : List (Key × V)} {kvs : List (D × D)}, RKs K m H ks kvs → RKs K m' H' ks kvs
  | _, _, .nil => .nil
  | _, _, .int h r => .int (RV.monoS L h) (RKs.monoS L r)
  | _, _, .str h r => .str (RV.monoS L h) (RKs.monoS L r)
theorem Lw.ls (c : Cl m H) (L : Lw m H m' H') : Ls m H m' H' := ⟨L.pre, fun a vs e => L.fr _ _ e (c.tup e), fun a o u e => L.fr _ _ e (c.frz e)⟩
theorem RV.mono (c : Cl m H) (L : Lw m H m' H') {v : V} {d : D} (r : RV K m H v d) : RV K m' H' v d := r.monoS (L.ls c)
theorem RVs.mono (c : Cl m H) (L : Lw m H m' H') {vs : List V} {ds : List D} (r : RVs K m H vs ds) : RVs K m' H' vs ds := r.monoS (L.ls c)
theorem RKs.mono (c : Cl m H) (L : Lw m H m' H') {ks : List (Key × V)} {kvs : List (D × D)} (r : RKs K m H ks kvs) : RKs K m' H' ks kvs := r.monoS (L.ls c)
theorem RSt.mono (c : Cl m H) (L : Lw m H m' H') {σ : L2.St} {τ : AT} (r : RSt K m H σ τ) : RSt K m' H' σ τ :=
  ⟨r.1, fun i d e => by
    obtain ⟨v, h1, h2⟩ := r.2 i d e
    exact ⟨v, h1, h2.mono c L⟩⟩
theorem RSt.set {σ : L2.St} {τ : AT} (r : RSt K m H σ τ) {v : V} {d : D} (q : RV K m H v d) (i : Nat) : RSt K m H (σ.set i (some v)) (τ.set i (some d)) := by
  refine ⟨by simp [r.1], fun j e h => ?_⟩
  by_cases hij : i = j
  · subst hij
    by_cases hl : i < τ.length
    · rw [List.getElem?_set_self hl] at h
      cases h
      exact ⟨v, List.getElem?_set_self (by rw [r.1]; exact hl), q⟩
    · rw [List.getElem?_eq_none (by simpa using hl)] at h
      cases h
  · rw [List.getElem?_set_ne hij] at h ⊢
    exact r.2 j e h
theorem RVs.length : ∀ {vs : List V} {ds : List D}, RVs K m H vs ds → vs.length = ds.length
  | _, _, .nil => rfl
  | _, _, .cons _ r => by rw [List.length_cons, List.length_cons, RVs.length r]
theorem RVs.append : ∀ {vs ws : List V} {ds es : List D}, RVs K m H vs ds → RVs K m H ws es → RVs K m H (vs ++ ws) (ds ++ es)
  | _, _, _, _, .nil, s => s
  | _, _, _, _, .cons r t, s => .cons r (RVs.append t s)
theorem RVs.one {v : V} {d : D} (r : RV K m H v d) : RVs K m H [v] [d] := .cons r .nil
theorem RVs.get : ∀ {vs : List V} {ds : List D} {i : Nat} {d : D}, RVs K m H vs ds → ds[i]? = some d → ∃ v, vs[i]? = some v ∧ RV K m H v d
  | _, _, _, _, .nil, e => by simp at e
  | _, _, 0, _, .cons r _, e => by simp at e; subst e; exact ⟨_, rfl, r⟩
  | _, _, i + 1, d, .cons _ t, e => by
    obtain ⟨v, h1, h2⟩ := RVs.get (i := i) (d := d) t (by simpa using e)
    exact ⟨v, by simpa using h1, h2⟩
theorem RVs.set {v : V} {d : D} (r : RV K m H v d) : ∀ {vs : List V} {ds : List D} (i : Nat), RVs K m H vs ds → RVs K m H (vs.set i v) (ds.set i d)
  | _, _, _, .nil => .nil
  | _, _, 0, .cons _ t => .cons r t
  | _, _, i + 1, .cons q t => .cons q (RVs.set r i t)
theorem RVs.take : ∀ {vs : List V} {ds : List D} (n : Nat), RVs K m H vs ds → RVs K m H (vs.take n) (ds.take n)
  | _, _, 0, _ => by simp only [List.take_zero]; exact .nil
  | _, _, _ + 1, .nil => by simp only [List.take_nil]; exact .nil
  | _, _, n + 1, .cons r t => .cons r (RVs.take n t)
theorem RVs.drop : ∀ {vs : List V} {ds : List D} (n : Nat), RVs K m H vs ds → RVs K m H (vs.drop n) (ds.drop n)
  | _, _, 0, r => r
  | _, _, _ + 1, .nil => by simp only [List.drop_nil]; exact .nil
  | _, _, n + 1, .cons _ t => RVs.drop n t
theorem RVs.reverse : ∀ {vs : List V} {ds : List D}, RVs K m H vs ds → RVs K m H vs.reverse ds.reverse
  | _, _, .nil => .nil
  | _, _, .cons r t => by
    rw [List.reverse_cons, List.reverse_cons]
    exact (RVs.reverse t).append (.one r)
theorem RVs.replicate {vs : List V} {ds : List D} (r : RVs K m H vs ds) : ∀ k : Nat, RVs K m H (List.replicate k vs).flatten (List.replicate k ds).flatten
  | 0 => .nil
  | k + 1 => by
    rw [List.replicate_succ, List.replicate_succ, List.flatten_cons, List.flatten_cons]
    exact r.append (RVs.replicate r k)
theorem RVs.ints : ∀ {vs : List V} {ns : List Int}, RVs K m H vs (ns.map D.int) → vs = ns.map V.int
  | _, [], .nil => rfl
  | _, n :: ns, .cons (.int _) r => by rw [RVs.ints r]; rfl
theorem RVs.of_ints : ∀ (ns : List Int), RVs K m H (ns.map V.int) (ns.map D.int)
  | [] => .nil
  | n :: ns => .cons (.int n) (RVs.of_ints ns)
theorem RVs.bls : ∀ {vs : List V} {bs : List Bool}, RVs K m H vs (bs.map D.bl) → vs = bs.map V.bl
  | _, [], .nil => rfl
  | _, n :: ns, .cons (.bl _) r => by rw [RVs.bls r]; rfl
theorem RVs.strs : ∀ {vs : List V} {bs : List Str}, RVs K m H vs (bs.map D.str) → vs = bs.map V.str
  | _, [], .nil => rfl
  | _, n :: ns, .cons (.str _) r => by rw [RVs.strs r]; rfl
/-- a new object that is not tracked -/
theorem Le.upd (c : Cl m H) {p : Addr} (hp : H p = none) (o : HO) : Le m H m (upd H p o) := ⟨⟨⟨[], by simp⟩, fun a u h _ => by rw [upd_ne (ne_of_none h hp)]; exact h⟩, fun a h1 h2 => absurd h1 h2⟩
end
section
variable {K : PySem.W.Frag} {m m' : List Addr} {H H' : Hp} {h : AH}
theorem RO.mono (c : Cl m H) (L : Lw m H m' H') {a : Addr} {o : O} (hk : H' a = H a) (r : RO K m H a o) : RO K m' H' a o := by
  cases o with
  | lst ds => obtain ⟨vs, e, q⟩ := r; exact ⟨vs, by rw [hk]; exact e, q.mono c L⟩
  | dic ds => obtain ⟨vs, e, q⟩ := r; exact ⟨vs, by rw [hk]; exact e, q.mono c L⟩
theorem Sim.upd (S : Sim K m h H) {p : Addr} (hp : H p = none) (o : HO) : Sim K m h (L2.upd H p o) := by
  refine ⟨S.len, S.nd, fun i a ob e1 e2 => (S.ob i a ob e1 e2).mono S.cl (Le.upd S.cl hp o).toLw (upd_ne ?_)⟩
  intro z
  subst z
  exact S.cl.non hp (List.mem_of_getElem? e1)
theorem RV.tupN (S : Sim K m h H) {p : Addr} (hp : H p = none) {vs : List V} {ds : List D} {o : Obj} (hc : o.cls = .type "tuple") (hd : o.dict = none) (r : RVs K m H vs ds) : RV K m (L2.upd H p (.frz o (.tup vs))) (.ref p) (.tup ds) :=
  .tup (.inl ⟨o, upd_same, hc, hd⟩) (r.mono S.cl (Le.upd S.cl hp _).toLw)
theorem RV.ztN (S : Sim K m h H) {p : Addr} (hp : H p = none) {vs : List V} {ds : List D} (r : RVs K m H vs ds) : RV K m (L2.upd H p (.tup vs)) (.ref p) (.zt ds) :=
  .zt (SqT.of upd_same) (r.mono S.cl (Le.upd S.cl hp _).toLw)
/-- a new list that is tracked -/
theorem Le.lay (S : Sim K m h H) {p : Addr} (hp : H p = none) (o : HO) : Le m H (m ++ [p]) (L2.upd H p o) := ⟨⟨⟨[p], rfl⟩, fun a u q _ => by rw [upd_ne (ne_of_none q hp)]; exact q⟩, fun a h1 h2 => by
  rcases List.mem_append.mp h1 with z | z
  · exact absurd z h2
  · rw [List.mem_singleton.mp z]; exact hp⟩
theorem nodup_add {m : List Addr} {p : Addr} (h : m.Nodup) (hn : p ∉ m) : (m ++ [p]).Nodup := by
  rw [List.nodup_append]
  refine ⟨h, by simp, fun a ha b hb e => ?_⟩
  rw [List.mem_singleton.mp hb] at e
  exact hn (e ▸ ha)
theorem get_add {α : Type} {m : List α} {p a : α} {i : Nat} (e : (m ++ [p])[i]? = some a) : m[i]? = some a ∨ (i = m.length ∧ a = p) := by
  rcases Nat.lt_or_ge i m.length with q | q
  · rw [List.getElem?_append_left q] at e
    exact .inl e
  · rw [List.getElem?_append_right q] at e
    have : i - m.length = 0 := by
      rcases Nat.eq_zero_or_pos (i - m.length) with z | z
      · exact z
      · rw [List.getElem?_eq_none (by simp; omega)] at e
        cases e
    rw [this] at e
    exact .inr ⟨by omega, (Option.some.inj e).symm⟩
theorem Sim.lay (S : Sim K m h H) {p : Addr} (hp : H p = none) {u : HO} {o : O} (r : RO K (m ++ [p]) (L2.upd H p u) p o) : Sim K (m ++ [p]) (h ++ [o]) (L2.upd H p u) := by
  have hn := S.cl.non hp
  refine ⟨by simp [S.len], nodup_add S.nd hn, fun i a ob e1 e2 => ?_⟩
  rcases get_add e1 with q | ⟨q, rfl⟩
  · have hi : i < m.length := by
      rcases Nat.lt_or_ge i m.length with z | z
      · exact z
      · rw [List.getElem?_eq_none z] at q
        cases q
    rw [List.getElem?_append_left (by rw [← S.len]; exact hi)] at e2
    refine (S.ob i a ob q e2).mono S.cl (Le.lay S hp u).toLw (upd_ne ?_)
    intro z
    subst z
    exact hn (List.mem_of_getElem? q)
  · rw [q, S.len, List.getElem?_append_right (Nat.le_refl _), Nat.sub_self] at e2
    cases e2
    exact r
theorem Sim.layL (S : Sim K m h H) {p : Addr} (hp : H p = none) {vs : List V} {ds : List D} (r : RVs K m H vs ds) : Sim K (m ++ [p]) (h ++ [.lst ds]) (L2.upd H p (.lst vs)) :=
  S.lay hp ⟨vs, upd_same, r.mono S.cl (Le.lay S hp _).toLw⟩
theorem RV.new (S : Sim K m h H) {p : Addr} {G : Hp} : RV K (m ++ [p]) G (.ref p) (.ref h.length) := .ref (by rw [← S.len, List.getElem?_append_right (Nat.le_refl _), Nat.sub_self]; rfl)
/-- a tracked object is changed -/
theorem Le.put (S : Sim K m h H) {i : Nat} {a : Addr} (e : m[i]? = some a) (o : HO) : Le m H m (L2.upd H a o) := by
  refine ⟨⟨⟨[], by simp⟩, fun b u q hb => ?_⟩, fun b h1 h2 => absurd h1 h2⟩
  rw [upd_ne]
  · exact q
  · intro z
    rw [z] at hb
    exact hb (List.mem_of_getElem? e)
theorem Sim.put (S : Sim K m h H) {i : Nat} {a : Addr} (e : m[i]? = some a) {u : HO} {o : O} (r : RO K m (L2.upd H a u) a o) : Sim K m (h.set i o) (L2.upd H a u) := by
  have hi : i < m.length := by
    rcases Nat.lt_or_ge i m.length with z | z
    · exact z
    · rw [List.getElem?_eq_none z] at e
      cases e
  refine ⟨by simp [S.len], S.nd, fun j b ob e1 e2 => ?_⟩
  by_cases hij : i = j
  · subst hij
    rw [e] at e1
    cases e1
    rw [List.getElem?_set_self (by rw [← S.len]; exact hi)] at e2
    cases e2
    exact r
  · rw [List.getElem?_set_ne hij] at e2
    refine (S.ob j b ob e1 e2).mono S.cl (Le.put S e u).toLw (upd_ne ?_)
    intro z
    subst z
    have hj : j < m.length := by
      rcases Nat.lt_or_ge j m.length with z | z
      · exact z
      · rw [List.getElem?_eq_none z] at e1
        cases e1
    rw [List.getElem?_eq_getElem hi] at e
    rw [List.getElem?_eq_getElem hj] at e1
    exact hij ((List.getElem_inj S.nd).mp ((Option.some.inj e).trans (Option.some.inj e1).symm))
/-- a list that nobody tracks is changed -/
theorem Ls.side {p : Addr} {vs ws : List V} (e : H p = some (.lst vs)) : Ls m H m (L2.upd H p (.lst ws)) :=
  ⟨⟨[], by simp⟩, fun a us h => by rw [upd_ne (fun z => by rw [z, e] at h; cases h)]; exact h, fun a o u h => by rw [upd_ne (fun z => by rw [z, e] at h; cases h)]; exact h⟩
theorem Sim.side (S : Sim K m h H) {p : Addr} {vs : List V} (ws : List V) (e : H p = some (.lst vs)) (hn : p ∉ m) : Sim K m h (L2.upd H p (.lst ws)) := by
  refine ⟨S.len, S.nd, fun i a ob e1 e2 => ?_⟩
  have hk : L2.upd H p (.lst ws) a = H a := upd_ne (fun z => hn (by rw [← z]; exact List.mem_of_getElem? e1))
  have r := S.ob i a ob e1 e2
  cases ob with
  | lst ds => obtain ⟨us, q, r⟩ := r; exact ⟨us, by rw [hk]; exact q, r.monoS (Ls.side e)⟩
  | dic ds => obtain ⟨us, q, r⟩ := r; exact ⟨us, by rw [hk]; exact q, r.monoS (Ls.side e)⟩
theorem Le.side {m1 : List Addr} {H1 : Hp} (L : Le m1 H1 m H) {p : Addr} (u : HO) (hp : H1 p = none) : Le m1 H1 m (L2.upd H p u) :=
  ⟨⟨L.pre, fun a o q hn => by rw [upd_ne (ne_of_none q hp)]; exact L.fr a o q hn⟩, L.nw⟩
theorem Sim.putL (S : Sim K m h H) {i : Nat} {a : Addr} (e : m[i]? = some a) {vs : List V} {ds : List D} (r : RVs K m H vs ds) : Sim K m (h.set i (.lst ds)) (L2.upd H a (.lst vs)) :=
  S.put e ⟨vs, upd_same, r.mono S.cl (Le.put S e _).toLw⟩
theorem Sim.lst (S : Sim K m h H) {i : Nat} {a : Addr} {ds : List D} (e : m[i]? = some a) (q : h[i]? = some (.lst ds)) : ∃ vs, H a = some (.lst vs) ∧ RVs K m H vs ds := S.ob i a _ e q
end

/-! ## what an expression hands on -/
inductive RQ (K : PySem.W.Frag) (m : List Addr) (H : Hp) : V → LV → Prop
  | val {v : V} {d : D} : RV K m H v d → RQ K m H v (.val d)
  | new {p : Addr} {vs : List V} {ds : List D} : p ∉ m → H p = some (.lst vs) → RVs K m H vs ds → ds.length ≤ 16777216 → RQ K m H (.ref p) (.new ds)
inductive RQs (K : PySem.W.Frag) (m : List Addr) (H : Hp) : List V → List LV → Prop
  | nil : RQs K m H [] []
  | cons {v : V} {vs : List V} {d : LV} {ds : List LV} : RQ K m H v d → RQs K m H vs ds → RQs K m H (v :: vs) (d :: ds)
/-- a new list is newer than the heap H0 -/
def Nw (H0 : Hp) : V → LV → Prop
  | .ref p, .new _ => H0 p = none
  | _, _ => True
section
variable {K : PySem.W.Frag} {m m' : List Addr} {H H' : Hp}
theorem RQ.mono (c : Cl m H) (L : Le m H m' H') {v : V} {q : LV} (r : RQ K m H v q) : RQ K m' H' v q := by
  cases r with
  | val r => exact .val (r.mono c L.toLw)
  | new hn e r z =>
    refine .new (fun hm => ?_) (L.fr _ _ e hn) (r.mono c L.toLw) z
    have := L.nw _ hm hn
    rw [e] at this
    cases this
theorem RQs.mono (c : Cl m H) (L : Le m H m' H') : ∀ {vs : List V} {qs : List LV}, RQs K m H vs qs → RQs K m' H' vs qs
  | _, _, .nil => .nil
  | _, _, .cons r t => .cons (r.mono c L) (RQs.mono c L t)
theorem fresh_back (c : Cl m' H') (L : Le m H m' H') {p : Addr} (hp : H' p = none) : H p = none := by
  cases z : H p with
  | none => rfl
  | some o =>
    by_cases hm : p ∈ m
    · exact absurd (L.mem hm) (c.non hp)
    · rw [L.fr p o z hm] at hp; cases hp
theorem Nw.back (c : Cl m' H') (L : Le m H m' H') {v : V} {q : LV} (n : Nw H' v q) : Nw H v q := by
  cases q with
  | val d => cases v <;> exact True.intro
  | new ds =>
    cases v with
    | ref p => exact fresh_back c L n
    | _ => exact True.intro
theorem nwV (H0 : Hp) (v : V) (d : D) : Nw H0 v (.val d) := by cases v <;> exact True.intro
end

/-! ## what a piece of syntax does, by a plain function -/
def tE (K : PySem.W.Frag) (f : SE) : TE := fun σ H Q => ∃ m τ h q h', RSt K m H σ τ ∧ Sim K m h H ∧ f τ h = some (q, h') ∧ ∀ m' H' v, Le m H m' H' → Sim K m' h' H' → RQ K m' H' v q → Nw H v q → Q v H'
def tA (K : PySem.W.Frag) (f : SA) : TA := fun σ H Q => ∃ m τ h qs h', RSt K m H σ τ ∧ Sim K m h H ∧ f τ h = some (qs, h') ∧ ∀ m' H' vs, Le m H m' H' → Sim K m' h' H' → RQs K m' H' vs qs → Q vs H'
def tT (K : PySem.W.Frag) (f : ST) : TT := fun σ H Q => ∃ m τ h b h', RSt K m H σ τ ∧ Sim K m h H ∧ f τ h = some (b, h') ∧ ∀ m' H', Le m H m' H' → Sim K m' h' H' → Q b H'
def Aft (K : PySem.W.Frag) (D : Ends) (m : List Addr) (H : Hp) : Res → Prop
  | .nx τ' h' => ∀ m' H' σ', Le m H m' H' → Sim K m' h' H' → RSt K m' H' σ' τ' → D.nx σ' H'
  | .rt d h' => ∀ m' H' v, Le m H m' H' → Sim K m' h' H' → RV K m' H' v d → D.rt v H'
  | .bk τ' h' => ∀ m' H' σ', Le m H m' H' → Sim K m' h' H' → RSt K m' H' σ' τ' → D.bk σ' H'
  | .ct τ' h' => ∀ m' H' σ', Le m H m' H' → Sim K m' h' H' → RSt K m' H' σ' τ' → D.ct σ' H'
theorem Aft.le {K : PySem.W.Frag} {D : Ends} {m m1 : List Addr} {H H1 : Hp} {r : Res} (q : Aft K D m H r) (L : Le m H m1 H1) : Aft K D m1 H1 r := by
  cases r with
  | nx τ' h' => exact fun m' H' σ' L' => q m' H' σ' (L.trans L')
  | rt d h' => exact fun m' H' v L' => q m' H' v (L.trans L')
  | bk τ' h' => exact fun m' H' σ' L' => q m' H' σ' (L.trans L')
  | ct τ' h' => exact fun m' H' σ' L' => q m' H' σ' (L.trans L')
def tS (K : PySem.W.Frag) (f : SS) : TS := fun D σ H => ∃ m τ h r, RSt K m H σ τ ∧ Sim K m h H ∧ f τ h = some r ∧ Aft K D m H r
def JE (X : Cx) (e : Expr) (f : SE) : Prop := PE X e (tE X.K f)
def JT (X : Cx) (e : Expr) (f : ST) : Prop := PT X e (tT X.K f)
def JW (X : Cx) (e : Expr) (f : ST) : Prop := PW X e (tT X.K f)
def JA (X : Cx) (es : List Expr) (f : SA) : Prop := PA X es (tA X.K f)
def JS (X : Cx) (st : Stmt) (f : SS) : Prop := PS X st (tS X.K f)
def JB (X : Cx) (sts : List Stmt) (f : SS) : Prop := PSs X sts (tS X.K f)
theorem pe_weak {X : Cx} {e : Expr} {t t' : TE} (h : PE X e t) (hw : ∀ σ H Q, t' σ H Q → t σ H Q) : PE X e t' := ⟨fun pins s σ H Q I q => h.run pins s σ H Q I (hw _ _ _ q)⟩
theorem pt_weak {X : Cx} {e : Expr} {t t' : TT} (h : PT X e t) (hw : ∀ σ H Q, t' σ H Q → t σ H Q) : PT X e t' := ⟨fun pins s σ H Q I q => h.run pins s σ H Q I (hw _ _ _ q)⟩
theorem pw_weak {X : Cx} {e : Expr} {t t' : TT} (h : PW X e t) (hw : ∀ σ H Q, t' σ H Q → t σ H Q) : PW X e t' := ⟨fun wh pins s σ H Q I q => h.run wh pins s σ H Q I (hw _ _ _ q)⟩
theorem pa_weak {X : Cx} {e : List Expr} {t t' : TA} (h : PA X e t) (hw : ∀ σ H Q, t' σ H Q → t σ H Q) : PA X e t' := ⟨fun pos pins s σ H Q I q => h.run pos pins s σ H Q I (hw _ _ _ q)⟩
theorem ps_weak {X : Cx} {e : Stmt} {t t' : TS} (h : PS X e t) (hw : ∀ D σ H, t' D σ H → t D σ H) : PS X e t' := ⟨fun pins s σ H D I q => h.run pins s σ H D I (hw _ _ _ q)⟩
theorem pss_weak {X : Cx} {e : List Stmt} {t t' : TS} (h : PSs X e t) (hw : ∀ D σ H, t' D σ H → t D σ H) : PSs X e t' := ⟨fun pins s σ H D I q => h.run pins s σ H D I (hw _ _ _ q)⟩

/-! ## plain semantics: the pieces -/
def mVar (i : Nat) : SE := fun τ h => match τ[i]? with
  | some (some d) => some (.val d, h)
  | _ => none
def mC (d : D) : SE := fun _ h => some (.val d, h)
abbrev Op2 := LV → LV → AH → Option (LV × AH)
abbrev Op1 := LV → AH → Option (LV × AH)
abbrev OpN := List LV → AH → Option (LV × AH)
def mBin (op : Op2) (fa fb : SE) : SE := fun τ h => (fa τ h).bind fun p => (fb τ p.2).bind fun q => op p.1 q.1 q.2
def mUn (op : Op1) (fa : SE) : SE := fun τ h => (fa τ h).bind fun p => op p.1 p.2
def mNil : SA := fun _ h => some ([], h)
def mCons (fa : SE) (fr : SA) : SA := fun τ h => (fa τ h).bind fun p => (fr τ p.2).bind fun q => some (p.1 :: q.1, q.2)
def plain : List LV → Option (List D)
  | [] => some []
  | .val d :: r => (plain r).bind fun s => some (d :: s)
  | .new _ :: _ => none
def mTup (fa : SA) : SE := fun τ h => (fa τ h).bind fun p => (plain p.1).bind fun ds => if ds.length ≤ 16777216 then some (.val (.tup ds), p.2) else none
def mLst (fa : SA) : SE := fun τ h => (fa τ h).bind fun p => (plain p.1).bind fun ds => if ds.length ≤ 16777216 then some (.new ds, p.2) else none
/-- a new list is laid, to be held -/
def lay : LV → AH → D × AH
  | .val d, h => (d, h)
  | .new ds, h => (.ref h.length, h ++ [.lst ds])
def mAd (fa : SE) : SE := fun τ h => (fa τ h).bind fun p => some (.val (lay p.1 p.2).1, (lay p.1 p.2).2)
def mIf (ft : ST) (fa fb : SE) : SE := fun τ h => (ft τ h).bind fun p => if p.1 = true then fa τ p.2 else fb τ p.2
def mB (fa : SE) : ST := fun τ h => (fa τ h).bind fun p => match p.1 with
  | .val (.bl b) => some (b, p.2)
  | _ => none
def mAnd (ta tb : ST) : ST := fun τ h => (ta τ h).bind fun p => if p.1 = true then tb τ p.2 else some (false, p.2)
def mOr (ta tb : ST) : ST := fun τ h => (ta τ h).bind fun p => if p.1 = true then some (true, p.2) else tb τ p.2
def mNot (ta : ST) : ST := fun τ h => (ta τ h).bind fun p => some (!p.1, p.2)
def mCall (F : SF) (fa : SA) : SE := fun τ h => (fa τ h).bind fun p => (plain p.1).bind fun ds => (F ds p.2).bind fun q => some (.val q.1, q.2)
def mFn (op : OpN) (fa : SA) : SE := fun τ h => (fa τ h).bind fun p => op p.1 p.2

theorem bind_some' {α β : Type} {x : Option α} {f : α → Option β} {b : β} (h : x.bind f = some b) : ∃ a, x = some a ∧ f a = some b := by
  cases x with
  | none => cases h
  | some a => exact ⟨a, rfl, h⟩
theorem ite_some' {c : Prop} [Decidable c] {α : Type} {x : Option α} {b : α} (h : (if c then x else none) = some b) : c ∧ x = some b := by
  by_cases q : c
  · rw [if_pos q] at h; exact ⟨q, h⟩
  · rw [if_neg q] at h; cases h
theorem RQs.plain {K : PySem.W.Frag} {m : List Addr} {H : Hp} : ∀ {vs : List V} {qs : List LV} {ds : List D}, RQs K m H vs qs → Sm.plain qs = some ds → RVs K m H vs ds
  | _, _, _, .nil, h => by cases h; exact .nil
  | _, _, _, .cons (.val r) t, h => by
    obtain ⟨s, e, q⟩ := bind_some' h
    cases q
    exact .cons r (RQs.plain t e)
  | _, _, _, .cons (.new _ _ _ _) t, h => by cases h
section
variable {X : Cx} {a b c : Expr} {es : List Expr} {fa fb : SE} {fr : SA} {ft fu : ST} {pos : Pos}

theorem je_var (i : Nat) {x : Str} {pos : Pos} (hN : X.N[i]? = some x := by rfl) (hv : Vis X.env.scope x := by first | exact Or.inl rfl | exact Or.inr (Or.inl rfl) | exact Or.inr (Or.inr rfl)) (hd : (x == ("__debug__" : Str)) = false := by decide)
    (hcd : (x == ("__classdict__" : Str)) = false := by decide) : JE X (.Name x pos) (mVar i) := by
  refine pe_weak (pe_var hN hv hd hcd) fun σ H Q ⟨m, τ, h, d, h', R, S, e, q⟩ => ?_
  unfold mVar at e
  split at e
  · rename_i d' q'
    cases e
    obtain ⟨v, h1, h2⟩ := R.2 i d' q'
    exact ⟨v, h1, q m H v (Le.refl m H) S (.val h2) (nwV _ _ _)⟩
  · cases e
theorem je_const {e : Expr} {v : V} {d : D} (p : PE X e (tC v)) (r : ∀ m H, RV X.K m H v d) : JE X e (mC d) := by
  refine pe_weak p fun σ H Q ⟨m, τ, h, d', h', R, S, e, q⟩ => ?_
  cases e
  exact q m H v (Le.refl m H) S (.val (r m H)) (nwV _ _ _)
theorem je_int {i j pos} : JE X (.Constant (.int i) j pos) (mC (.int i)) := je_const pe_int fun _ _ => .int i
theorem je_bl {b j pos} : JE X (.Constant (.bool b) j pos) (mC (.bl b)) := je_const pe_bl fun _ _ => .bl b
theorem je_non {j pos} : JE X (.Constant .none j pos) (mC .non) := je_const pe_non fun _ _ => .non
theorem je_str {x j pos} : JE X (.Constant (.str x) j pos) (mC (.str x)) := je_const pe_str fun _ _ => .str x

/-! rules by values -/
abbrev SimR (K : PySem.W.Frag) (r : R2) (op : Op2) : Prop :=
  ∀ m h H x y dx dy d h' (Q : VK), Sim K m h H → RQ K m H x dx → RQ K m H y dy → op dx dy h = some (d, h') → (∀ m' H' v, Le m H m' H' → Sim K m' h' H' → RQ K m' H' v d → Nw H v d → Q v H') → r x y H Q
abbrev SimU (K : PySem.W.Frag) (r : V → Hp → VK → Prop) (op : Op1) : Prop :=
  ∀ m h H x dx d h' (Q : VK), Sim K m h H → RQ K m H x dx → op dx h = some (d, h') → (∀ m' H' v, Le m H m' H' → Sim K m' h' H' → RQ K m' H' v d → Nw H v d → Q v H') → r x H Q
abbrev SimN (K : PySem.W.Frag) (r : List V → Hp → VK → Prop) (op : OpN) : Prop :=
  ∀ m h H xs dxs d h' (Q : VK), Sim K m h H → RQs K m H xs dxs → op dxs h = some (d, h') → (∀ m' H' v, Le m H m' H' → Sim K m' h' H' → RQ K m' H' v d → Nw H v d → Q v H') → r xs H Q
theorem two {K : PySem.W.Frag} {fa fb : SE} {op : Op2} {r : R2} (hs : SimR K r op)
    (σ : L2.St) (H : Hp) (Q : VK) (h : tE K (mBin op fa fb) σ H Q) : tOp r (tE K fa) (tE K fb) σ H Q := by
  obtain ⟨m, τ, h, d, h', R, S, e, q⟩ := h
  obtain ⟨⟨x, h1⟩, e1, e⟩ := bind_some' e
  obtain ⟨⟨y, h2⟩, e2, e⟩ := bind_some' e
  refine ⟨m, τ, h, x, h1, R, S, e1, fun m1 H1 v1 L1 S1 r1 _ => ?_⟩
  refine ⟨m1, τ, h1, y, h2, R.mono S.cl L1.toLw, S1, e2, fun m2 H2 v2 L2 S2 r2 _ => ?_⟩
  exact hs m2 h2 H2 v1 v2 x y d h' Q S2 (r1.mono S1.cl L2) r2 e fun m' H' v L' S' r' n' => q m' H' v (L1.trans (L2.trans L')) S' r' (n'.back S2.cl (L1.trans L2))
theorem one {K : PySem.W.Frag} {fa : SE} {op : Op1} {r : V → Hp → VK → Prop} (hs : SimU K r op)
    (σ : L2.St) (H : Hp) (Q : VK) (h : tE K (mUn op fa) σ H Q) : tE K fa σ H fun x H1 => r x H1 Q := by
  obtain ⟨m, τ, h, d, h', R, S, e, q⟩ := h
  obtain ⟨⟨x, h1⟩, e1, e⟩ := bind_some' e
  refine ⟨m, τ, h, x, h1, R, S, e1, fun m1 H1 v1 L1 S1 r1 _ => ?_⟩
  exact hs m1 h1 H1 v1 x d h' Q S1 r1 e fun m' H' v L' S' r' n' => q m' H' v (L1.trans L') S' r' (n'.back S1.cl L1)
theorem many {K : PySem.W.Frag} {fa : SA} {op : OpN} {r : List V → Hp → VK → Prop} (hs : SimN K r op)
    (σ : L2.St) (H : Hp) (Q : VK) (h : tE K (mFn op fa) σ H Q) : tA K fa σ H fun x H1 => r x H1 Q := by
  obtain ⟨m, τ, h, d, h', R, S, e, q⟩ := h
  obtain ⟨⟨x, h1⟩, e1, e⟩ := bind_some' e
  refine ⟨m, τ, h, x, h1, R, S, e1, fun m1 H1 v1 L1 S1 r1 => ?_⟩
  exact hs m1 h1 H1 v1 x d h' Q S1 r1 e fun m' H' v L' S' r' n' => q m' H' v (L1.trans L') S' r' (n'.back S1.cl L1)
theorem je_bin {o : Operator} {r : R2} {op : Op2} (ho : OpR X (binaryOp o) r) (hs : SimR X.K r op) (ha : JE X a fa) (hb : JE X b fb) : JE X (.BinOp a o b pos) (mBin op fa fb) :=
  pe_weak (pe_op ho ha hb) (two hs)
theorem je_cmp {o : CmpOp} {r : R2} {op : Op2} (ho : OpR X (compareOp o) r) (hs : SimR X.K r op) (ha : JE X a fa) (hb : JE X b fb) (hm : behindInMarks o b = false) : JE X (.Compare a [o] [b] pos) (mBin op fa fb) :=
  pe_weak (pe_cmpR ho ha hb hm) (two hs)
theorem je_ix {r : R2} {op : Op2} (ho : IxR X r) (hs : SimR X.K r op) (ha : JE X a fa) (hb : JE X b fb) (hp : PlainIx b) : JE X (.Subscript a b pos) (mBin op fa fb) :=
  pe_weak (pe_ix ho ha hb hp) (two hs)
theorem je_un {o : UnaryOp} {r : V → Hp → VK → Prop} {op : Op1} (ho : UnR X (unaryOp o) r) (hs : SimU X.K r op) (ha : JE X a fa) : JE X (.UnaryOp o a pos) (mUn op fa) :=
  pe_weak (pe_un ho ha) (one hs)
theorem je_fnB {x : Str} {p : Pos} {id : String} {r : List V → Hp → VK → Prop} {op : OpN} (hc : CallR X (.builtin id) r) (hs : SimN X.K r op) (hg : Gl X x) (hm : X.mg x = none) (hv : bootBuiltins x = some (.builtin id)) (ha : JA X (a :: es) fr) (hn : x ≠ "__name__" := by decide) (hdb : (x == ("__debug__" : Str)) = false := by decide)
    (he : starEach (a :: es) X.env = (false, eval a X.env) :: starEach es X.env := by rfl) (hpl : (backTo pos (starEach es X.env)).any (·.1) = false := by rfl) : JE X (.Call (.Name x p) (a :: es) [] pos) (mFn op fr) :=
  pe_weak (pe_callB hc hg hm hv ha hn hdb he hpl) (many hs)
theorem je_fnT {x : Str} {p : Pos} {T : String} {r : List V → Hp → VK → Prop} {op : OpN} (hc : CallR X (.type T) r) (hs : SimN X.K r op) (hg : Gl X x) (hm : X.mg x = none) (hv : bootBuiltins x = some (.type T)) (ha : JA X (a :: es) fr) (hn : x ≠ "__name__" := by decide) (hdb : (x == ("__debug__" : Str)) = false := by decide)
    (he : starEach (a :: es) X.env = (false, eval a X.env) :: starEach es X.env := by rfl) (hpl : (backTo pos (starEach es X.env)).any (·.1) = false := by rfl) : JE X (.Call (.Name x p) (a :: es) [] pos) (mFn op fr) :=
  pe_weak (pe_callTy hc hg hm hv ha hn hdb he hpl) (many hs)
/-! arguments -/
theorem ja_nil : JA X [] mNil := pa_weak pa_nil fun σ H Q ⟨m, τ, h, d, h', R, S, e, q⟩ => by
  cases e
  exact q m H [] (Le.refl m H) S .nil
theorem ja_cons (ha : JE X a fa) (hr : JA X es fr) (hs : starEach (a :: es) X.env = (false, eval a X.env) :: starEach es X.env := by rfl) : JA X (a :: es) (mCons fa fr) := by
  refine pa_weak (pa_cons ha hr hs) fun σ H Q ⟨m, τ, h, d, h', R, S, e, q⟩ => ?_
  obtain ⟨⟨x, h1⟩, e1, e⟩ := bind_some' e
  obtain ⟨⟨y, h2⟩, e2, e⟩ := bind_some' e
  cases e
  refine ⟨m, τ, h, x, h1, R, S, e1, fun m1 H1 v1 L1 S1 r1 _ => ?_⟩
  refine ⟨m1, τ, h1, y, h2, R.mono S.cl L1.toLw, S1, e2, fun m2 H2 v2 L2 S2 r2 => ?_⟩
  exact q m2 H2 (v1 :: v2) (L1.trans L2) S2 (.cons (r1.mono S1.cl L2) r2)
/-- a new tuple with its object known -/
def FzN (H : Hp) (vs : List V) (Q : VK) : Prop := ∀ (p : Addr) (o : Obj), H p = none → o.cls = .type "tuple" → o.dict = none → Q (.ref p) (upd H p (.frz o (.tup vs)))
theorem inv_newT {X : Cx} {pins : List (Addr × Obj)} {σ : L2.St} {H : Hp} {s : Shared} {vs : List V} {us : List Value} {Q : VK} (I : Inv X pins σ H s) (r : Vals vs us) (z : vs.length ≤ sizeLine) (q : FzN H vs Q) {d : Array Value} (hd : d = us.toArray) :
    EP X pins σ Q (.ref s.heap.objs.size) { s with heap := s.heap.push { cls := .type "tuple", data := .seq d } } := by
  subst hd
  have new := q s.heap.objs.size { cls := .type "tuple", data := .seq us.toArray } (I.hok.fresh (Nat.le_refl _)) rfl rfl
  refine ⟨.ref s.heap.objs.size, _, I.laid (t' := s.toks) (fun b u e => Heap.get?_push_of_some _ e) (Nat.le_refl _) ?_, rfl, new⟩
  refine ⟨Heap.get?_push_size _ rfl, z, us, r, ?_⟩
  exact ⟨_, Heap.get?_push_size _ rfl, rfl, _, rfl⟩
theorem pe_tupF {k} {t : TA} (h : PA X es t) : PE X (.Tuple es k pos) (fun σ H Q => t σ H fun xs H1 => xs.length ≤ sizeLine ∧ FzN H1 xs Q) := by
  refine ⟨fun pins s σ H Q I hq => ?_⟩
  refine wpAny_Tuple_spliced (thn (h.run pos pins s σ H _ I hq) fun us s1 ⟨xs, H1, I1, r, z, q⟩ => ?_)
  exact ⟨by rw [← r.length]; exact z, inv_newT I1 r z q rfl⟩
theorem je_tup {k} (ha : JA X es fr) : JE X (.Tuple es k pos) (mTup fr) := by
  refine pe_weak (pe_tupF ha) fun σ H Q ⟨m, τ, h, d, h', R, S, e, q⟩ => ?_
  obtain ⟨⟨x, h1⟩, e1, e⟩ := bind_some' e
  obtain ⟨ds, e2, e⟩ := bind_some' e
  obtain ⟨hz, e⟩ := ite_some' e
  cases e
  refine ⟨m, τ, h, x, h1, R, S, e1, fun m1 H1 v1 L1 S1 r1 => ?_⟩
  have r2 := r1.plain e2
  refine ⟨?_, fun p o hp hc hd => ?_⟩
  · rw [r2.length, sizeLine_eq]; exact hz
  · exact q m1 _ _ (L1.trans (Le.upd S1.cl hp _)) (S1.upd hp _) (.val (RV.tupN S1 hp hc hd r2)) (nwV _ _ _)
/-- a new list at p, held by nobody -/
theorem RQ.newN {K : PySem.W.Frag} {m : List Addr} {h : AH} {H : Hp} (S : Sim K m h H) {p : Addr} (hp : H p = none) {vs : List V} {ds : List D} (r : RVs K m H vs ds) (z : ds.length ≤ 16777216) : RQ K m (upd H p (.lst vs)) (.ref p) (.new ds) :=
  .new (S.cl.non hp) upd_same (r.mono S.cl (Le.upd S.cl hp _).toLw) z
theorem je_lst (ha : JA X es fr) : JE X (.List es pos) (mLst fr) := by
  refine pe_weak (pe_lst ha) fun σ H Q ⟨m, τ, h, d, h', R, S, e, q⟩ => ?_
  obtain ⟨⟨x, h1⟩, e1, e⟩ := bind_some' e
  obtain ⟨ds, e2, e⟩ := bind_some' e
  obtain ⟨hz, e⟩ := ite_some' e
  cases e
  refine ⟨m, τ, h, x, h1, R, S, e1, fun m1 H1 v1 L1 S1 r1 => ?_⟩
  have r2 := r1.plain e2
  refine ⟨?_, fun p hp => ?_⟩
  · rw [r2.length, sizeLine_eq]; exact hz
  · exact q m1 _ _ (L1.trans (Le.upd S1.cl hp _)) (S1.upd hp _) (RQ.newN S1 hp r2 hz) (fresh_back S1.cl L1 hp)
/-- what nobody holds is tracked from now on -/
theorem hold {K : PySem.W.Frag} {m m1 : List Addr} {h1 : AH} {H H1 : Hp} {v : V} {q : LV} (S : Sim K m1 h1 H1) (L : Le m H m1 H1) (r : RQ K m1 H1 v q) (n : Nw H v q) :
    ∃ m2, Le m H m2 H1 ∧ Sim K m2 (lay q h1).2 H1 ∧ RV K m2 H1 v (lay q h1).1 := by
  cases r with
  | val r => exact ⟨m1, L, S, r⟩
  | @new p vs ds hn hv rv z =>
    have Lg : Lw m1 H1 (m1 ++ [p]) H1 := ⟨⟨[p], rfl⟩, fun a o z _ => z⟩
    refine ⟨m1 ++ [p], ⟨⟨?_, L.fr⟩, fun a h1 h2 => ?_⟩, ?_, RV.new S⟩
    · obtain ⟨t, rfl⟩ := L.pre
      exact ⟨t ++ [p], by simp⟩
    · rcases List.mem_append.mp h1 with w | w
      · exact L.nw a w h2
      · rw [List.mem_singleton.mp w]; exact n
    · refine ⟨by simp [lay, S.len], nodup_add S.nd hn, fun i a ob e1 e2 => ?_⟩
      rcases get_add e1 with z | ⟨z, rfl⟩
      · have hi : i < m1.length := by
          rcases Nat.lt_or_ge i m1.length with w | w
          · exact w
          · rw [List.getElem?_eq_none w] at z
            cases z
        unfold lay at e2
        rw [List.getElem?_append_left (by rw [← S.len]; exact hi)] at e2
        exact (S.ob i a ob z e2).mono S.cl Lg rfl
      · unfold lay at e2
        rw [z, S.len, List.getElem?_append_right (Nat.le_refl _), Nat.sub_self] at e2
        cases e2
        exact ⟨vs, hv, rv.mono S.cl Lg⟩
theorem je_ad {e : Expr} (ha : JE X e fa) : JE X e (mAd fa) := by
  refine pe_weak ha fun σ H Q ⟨m, τ, h, d, h', R, S, e, q⟩ => ?_
  obtain ⟨⟨x, h1⟩, e1, e⟩ := bind_some' e
  cases e
  refine ⟨m, τ, h, x, h1, R, S, e1, fun m1 H1 v L1 S1 r1 n1 => ?_⟩
  obtain ⟨m2, L2, S2, r2⟩ := hold S1 L1 r1 n1
  exact q m2 H1 v L2 S2 (.val r2) (nwV _ _ _)
/-! tests -/
theorem jt_val {e : Expr} (h : JE X e fa) (he : ∀ whole, isTrue e X.env whole = (do let v ← whole; standAt e.pos; holding [v] (truthy v)) := by intro _; rfl) : JT X e (mB fa) := by
  refine pt_weak (pt_val h he) fun σ H Q ⟨m, τ, h, d, h', R, S, e, q⟩ => ?_
  obtain ⟨⟨x, h1⟩, e1, e⟩ := bind_some' e
  refine ⟨m, τ, h, x, h1, R, S, e1, fun m1 H1 v L1 S1 r1 n1 => ?_⟩
  dsimp only at e
  split at e
  · cases e
    cases r1 with
    | val r =>
      cases r
      exact ⟨_, rfl, q m1 H1 L1 S1⟩
  · cases e
theorem jw_and1 (ha : JT X a ft) : JW X (.BoolOp .And [a] pos) ft := pw_and1 ha
theorem jw_or1 (ha : JT X a ft) : JW X (.BoolOp .Or [a] pos) ft := pw_or1 ha
theorem jw_and (ha : JT X a ft) (hb : JW X (.BoolOp .And (b :: es) pos) fu) : JW X (.BoolOp .And (a :: b :: es) pos) (mAnd ft fu) := by
  refine pw_weak (pw_and ha hb) fun σ H Q ⟨m, τ, h, d, h', R, S, e, q⟩ => ?_
  obtain ⟨⟨x, h1⟩, e1, e⟩ := bind_some' e
  refine ⟨m, τ, h, x, h1, R, S, e1, fun m1 H1 L1 S1 => ?_⟩
  cases x with
  | true => exact ⟨m1, τ, h1, d, h', R.mono S.cl L1.toLw, S1, e, fun m2 H2 L2 S2 => q m2 H2 (L1.trans L2) S2⟩
  | false => cases e; exact q m1 H1 L1 S1
theorem jw_or (ha : JT X a ft) (hb : JW X (.BoolOp .Or (b :: es) pos) fu) : JW X (.BoolOp .Or (a :: b :: es) pos) (mOr ft fu) := by
  refine pw_weak (pw_or ha hb) fun σ H Q ⟨m, τ, h, d, h', R, S, e, q⟩ => ?_
  obtain ⟨⟨x, h1⟩, e1, e⟩ := bind_some' e
  refine ⟨m, τ, h, x, h1, R, S, e1, fun m1 H1 L1 S1 => ?_⟩
  cases x with
  | false => exact ⟨m1, τ, h1, d, h', R.mono S.cl L1.toLw, S1, e, fun m2 H2 L2 S2 => q m2 H2 (L1.trans L2) S2⟩
  | true => cases e; exact q m1 H1 L1 S1
theorem JW.t {e : Expr} (h : JW X e ft) : JT X e ft := PW.pt h
theorem jt_not (ha : JT X a ft) : JT X (.UnaryOp .Not a pos) (mNot ft) := by
  refine pt_weak (pt_not ha) fun σ H Q ⟨m, τ, h, d, h', R, S, e, q⟩ => ?_
  obtain ⟨⟨x, h1⟩, e1, e⟩ := bind_some' e
  cases e
  exact ⟨m, τ, h, x, h1, R, S, e1, fun m1 H1 L1 S1 => q m1 H1 L1 S1⟩
theorem je_if (hc : JT X c ft) (ha : JE X a fa) (hb : JE X b fb) : JE X (.IfExp c a b pos) (mIf ft fa fb) := by
  refine pe_weak (pe_ifExp hc ha hb) fun σ H Q ⟨m, τ, h, d, h', R, S, e, q⟩ => ?_
  obtain ⟨⟨x, h1⟩, e1, e⟩ := bind_some' e
  refine ⟨m, τ, h, x, h1, R, S, e1, fun m1 H1 L1 S1 => ?_⟩
  cases x with
  | true => exact ⟨m1, τ, h1, d, h', R.mono S.cl L1.toLw, S1, e, fun m2 H2 v L2 S2 r2 n2 => q m2 H2 v (L1.trans L2) S2 r2 (n2.back S1.cl L1)⟩
  | false => exact ⟨m1, τ, h1, d, h', R.mono S.cl L1.toLw, S1, e, fun m2 H2 v L2 S2 r2 n2 => q m2 H2 v (L1.trans L2) S2 r2 (n2.back S1.cl L1)⟩
/-! and, or, not as values -/
def mAndV (fa fb : SE) : SE := fun τ h => (fa τ h).bind fun p => match p.1 with
  | .val (.bl true) => fb τ p.2
  | .val (.bl false) => some (.val (.bl false), p.2)
  | _ => none
def mOrV (fa fb : SE) : SE := fun τ h => (fa τ h).bind fun p => match p.1 with
  | .val (.bl false) => fb τ p.2
  | .val (.bl true) => some (.val (.bl true), p.2)
  | _ => none
def mNotV (fa : SE) : SE := fun τ h => (fa τ h).bind fun p => match p.1 with
  | .val (.bl b) => some (.val (.bl (!b)), p.2)
  | _ => none
theorem je_and1 {op} (ha : JE X a fa) : JE X (.BoolOp op [a] pos) fa := pe_one ha
theorem je_and (ha : JE X a fa) (hb : JE X (.BoolOp .And (b :: es) pos) fb) : JE X (.BoolOp .And (a :: b :: es) pos) (mAndV fa fb) := by
  refine pe_weak (pe_and ha hb) fun σ H Q ⟨m, τ, h, d, h', R, S, e, q⟩ => ?_
  obtain ⟨⟨x, h1⟩, e1, e⟩ := bind_some' e
  refine ⟨m, τ, h, x, h1, R, S, e1, fun m1 H1 v L1 S1 r1 n1 => ?_⟩
  dsimp only at e
  split at e
  · cases r1 with
    | val r => cases r; exact ⟨true, rfl, ⟨m1, τ, h1, d, h', R.mono S.cl L1.toLw, S1, e, fun m2 H2 v L2 S2 r2 n2 => q m2 H2 v (L1.trans L2) S2 r2 (n2.back S1.cl L1)⟩⟩
  · cases e
    cases r1 with
    | val r => cases r; exact ⟨false, rfl, q m1 H1 _ L1 S1 (.val (.bl false)) (nwV _ _ _)⟩
  · cases e
theorem je_or (ha : JE X a fa) (hb : JE X (.BoolOp .Or (b :: es) pos) fb) : JE X (.BoolOp .Or (a :: b :: es) pos) (mOrV fa fb) := by
  refine pe_weak (pe_or ha hb) fun σ H Q ⟨m, τ, h, d, h', R, S, e, q⟩ => ?_
  obtain ⟨⟨x, h1⟩, e1, e⟩ := bind_some' e
  refine ⟨m, τ, h, x, h1, R, S, e1, fun m1 H1 v L1 S1 r1 n1 => ?_⟩
  dsimp only at e
  split at e
  · cases r1 with
    | val r => cases r; exact ⟨false, rfl, ⟨m1, τ, h1, d, h', R.mono S.cl L1.toLw, S1, e, fun m2 H2 v L2 S2 r2 n2 => q m2 H2 v (L1.trans L2) S2 r2 (n2.back S1.cl L1)⟩⟩
  · cases e
    cases r1 with
    | val r => cases r; exact ⟨true, rfl, q m1 H1 _ L1 S1 (.val (.bl true)) (nwV _ _ _)⟩
  · cases e
theorem je_not (ha : JE X a fa) : JE X (.UnaryOp .Not a pos) (mNotV fa) := by
  refine pe_weak (pe_not ha) fun σ H Q ⟨m, τ, h, d, h', R, S, e, q⟩ => ?_
  obtain ⟨⟨x, h1⟩, e1, e⟩ := bind_some' e
  refine ⟨m, τ, h, x, h1, R, S, e1, fun m1 H1 v L1 S1 r1 n1 => ?_⟩
  dsimp only at e
  split at e
  · cases e
    cases r1 with
    | val r => cases r; exact ⟨_, rfl, q m1 H1 _ L1 S1 (.val (.bl _)) (nwV _ _ _)⟩
  · cases e
/-! calls of the program's own defs -/
def spF (K : PySem.W.Frag) (n : Nat) (F : SF) : Sp := fun vs H Q _ => ∃ m h ds d h', Sim K m h H ∧ RVs K m H vs ds ∧ ds.length = n ∧ F ds h = some (d, h') ∧ ∀ m' H' v, Le m H m' H' → Sim K m' h' H' → RV K m' H' v d → Q v H'
theorem call_sem {K : PySem.W.Frag} {n : Nat} {F : SF} {ps : List Str} (hl : ps.length = n) {fr : SA} {σ : L2.St} {H : Hp} {Q : VK} (hn : ∀ τ h qs h', fr τ h = some (qs, h') → qs.length = n) (h : tE K (mCall F fr) σ H Q) : tA K fr σ H fun vs H1 => spF K n F vs H1 Q E0 := by
  obtain ⟨m, τ, h, d, h', R, S, e, q⟩ := h
  obtain ⟨⟨x, h1⟩, e1, e⟩ := bind_some' e
  obtain ⟨ds, e2, e⟩ := bind_some' e
  obtain ⟨⟨y, h2⟩, e3, e⟩ := bind_some' e
  cases e
  refine ⟨m, τ, h, x, h1, R, S, e1, fun m1 H1 v1 L1 S1 r1 => ?_⟩
  have r2 := r1.plain e2
  refine ⟨m1, h1, ds, y, h2, S1, r2, ?_, e3, fun m' H' v L' S' r' => q m' H' v (L1.trans L') S' (.val r') (nwV _ _ _)⟩
  have e4 := hn _ _ _ _ e1
  have : ∀ (qs : List LV) (ds : List D), plain qs = some ds → ds.length = qs.length := by
    intro qs
    induction qs with
    | nil => intro ds z; cases z; rfl
    | cons a r ih =>
      intro ds z
      cases a with
      | new _ => cases z
      | val d =>
        obtain ⟨s, z1, z2⟩ := bind_some' z
        cases z2
        rw [List.length_cons, List.length_cons, ih _ z1]
  rw [this _ _ e2]
  exact e4
/-- an argument list of a known length -/
def LenA (fr : SA) (n : Nat) : Prop := ∀ τ h qs h', fr τ h = some (qs, h') → qs.length = n
theorem lenA_nil : LenA mNil 0 := fun τ h qs h' e => by cases e; rfl
theorem lenA_cons {fa : SE} {fr : SA} {n : Nat} (h : LenA fr n) : LenA (mCons fa fr) (n + 1) := fun τ h0 qs h' e => by
  obtain ⟨⟨x, h1⟩, e1, e⟩ := bind_some' e
  obtain ⟨⟨y, h2⟩, e2, e⟩ := bind_some' e
  cases e
  rw [List.length_cons, h _ _ _ _ e2]
theorem je_call {x : Str} {p : Pos} {k n : Nat} {f : Addr} {fd : FuncData} {ps : List Str} {F : SF} (G : FnOk X.prog X.w X.K X.mg X.base CX0 k f fd ps (spF X.K n F)) (hr : Room k X.A) (hg : Gl X x) (hm : X.mg x = some (.ref f)) (hk : PySem.W.keepIn X.K (.ref f) = true) (hb : Binds X.K fd ps [])
    (ha : JA X (a :: es) fr) (hl : LenA fr n) (hp : ps.length = n) (hdb : (x == ("__debug__" : Str)) = false := by decide) (he : starEach (a :: es) X.env = (false, eval a X.env) :: starEach es X.env := by rfl) (hpl : (backTo pos (starEach es X.env)).any (·.1) = false := by rfl) :
    JE X (.Call (.Name x p) (a :: es) [] pos) (mCall F fr) := by
  refine pe_weak (pe_call G hr hg hm hk hb .nil pass0 ha hdb he hpl) fun σ H Q h => ?_
  obtain ⟨m, τ, h, qs, h', R, S, e, q⟩ := call_sem hp hl h
  exact ⟨m, τ, h, qs, h', R, S, e, fun m' H' vs L' S' r' => by
    show spF X.K n F (vs ++ []) H' Q E0
    rw [List.append_nil]
    exact q m' H' vs L' S' r'⟩
end
end Sm
namespace Sm
open PySem PySem.Spec PyProof.Rows L2

/-! ## statements -/
abbrev SG := D → AT → AH → Option (AT × AH)
abbrev SGs := List D → AT → AH → Option (AT × AH)
def tG (K : PySem.W.Frag) (vs : List Nat) (g : SG) : TG := fun v σ H Q => ∃ m d τ h τ' h', RV K m H v d ∧ RSt K m H σ τ ∧ Sim K m h H ∧ g d τ h = some (τ', h') ∧ ∀ m' H' σ', Le m H m' H' → Sim K m' h' H' → RSt K m' H' σ' τ' → wipe σ' vs = wipe σ vs → Q σ' H'
def tGs (K : PySem.W.Frag) (vs : List Nat) (g : SGs) : TGs := fun us σ H Q => ∃ m ds τ h τ' h', RVs K m H us ds ∧ RSt K m H σ τ ∧ Sim K m h H ∧ g ds τ h = some (τ', h') ∧ ∀ m' H' σ', Le m H m' H' → Sim K m' h' H' → RSt K m' H' σ' τ' → wipe σ' vs = wipe σ vs → Q σ' H'
def JG (X : Cx) (vs : List Nat) (e : Expr) (g : SG) : Prop := PG X e (tG X.K vs g)
def JGs (X : Cx) (vs : List Nat) (es : List Expr) (g : SGs) : Prop := PGs X es (tGs X.K vs g)
theorem pg_weak {X : Cx} {e : Expr} {t t' : TG} (h : PG X e t) (hw : ∀ v σ H Q, t' v σ H Q → t v σ H Q) : PG X e t' := ⟨fun pins s σ H v u Q I r q => h.run pins s σ H v u Q I r (hw _ _ _ _ q)⟩
theorem pgs_weak {X : Cx} {e : List Expr} {t t' : TGs} (h : PGs X e t) (hw : ∀ v σ H Q, t' v σ H Q → t v σ H Q) : PGs X e t' := ⟨fun pins s σ H v u Q I r q => h.run pins s σ H v u Q I r (hw _ _ _ _ q)⟩
def gN (i : Nat) : SG := fun d τ h => some (τ.set i (some d), h)
def gT (n : Nat) (gs : SGs) : SG := fun d τ h => match d with
  | .tup ds => if ds.length = n then gs ds τ h else none
  | .zt ds => if ds.length = n then gs ds τ h else none
  | .fl ds => if ds.length = n then gs ds τ h else none
  | .ref a => match h[a]? with
    | some (.lst ds) => if ds.length = n then gs ds τ h else none
    | _ => none
  | _ => none
def gsN : SGs := fun ds τ h => match ds with
  | [] => some (τ, h)
  | _ => none
def gsC (g : SG) (gs : SGs) : SGs := fun ds τ h => match ds with
  | d :: r => (g d τ h).bind fun p => gs r p.1 p.2
  | _ => none
theorem wipe_set {σ : L2.St} {i : Nat} {x : Option V} : ∀ {vs : List Nat}, i ∈ vs → wipe (σ.set i x) vs = wipe σ vs
  | v :: vs, h => by
    unfold wipe
    by_cases hv : i ∈ vs
    · rw [wipe_set hv]
    · have e : v = i := by
        rcases List.mem_cons.mp h with z | z
        · exact z.symm
        · exact absurd z hv
      subst e
      have : ∀ (us : List Nat) (σ : L2.St), v ∉ us → wipe (σ.set v x) us = (wipe σ us).set v x := by
        intro us
        induction us with
        | nil => intro σ _; rfl
        | cons u us ih =>
          intro σ hn
          unfold wipe
          rw [ih σ (fun z => hn (List.mem_cons_of_mem _ z)), List.set_comm _ _ (fun z => hn (by rw [z]; exact List.mem_cons_self))]
      rw [this vs σ hv, List.set_set]
section
variable {X : Cx} {pos : Pos} {vs : List Nat} {e o : Expr} {es : List Expr} {fa fb fo : SE} {fr : SA} {ft : ST} {st : Stmt} {rest sts sts2 : List Stmt} {f f1 f2 : SS} {g : SG} {gs : SGs}
theorem jg_name {i : Nat} {x : Str} (hN : X.N.Nodup) (hi : X.N[i]? = some x) (hx : Loc X.env.scope x) (hv : i ∈ vs) (hf : X.fn x = true ∨ X.env.scope.names.lookup x = some .local := by first | exact .inl rfl | exact .inr rfl | assumption) : JG X vs (.Name x pos) (gN i) := by
  refine pg_weak (pg_name hN hi hx hf) fun v σ H Q ⟨m, d, τ, h, τ', h', r, R, S, e, q⟩ => ?_
  cases e
  exact q m H _ (Le.refl m H) S (R.set r i) (wipe_set hv)
theorem jgs_nil : JGs X vs [] gsN := by
  refine pgs_weak pgs_nil fun v σ H Q ⟨m, d, τ, h, τ', h', r, R, S, e, q⟩ => ?_
  cases d with
  | nil =>
    cases r
    cases e
    exact ⟨rfl, q m H _ (Le.refl m H) S R rfl⟩
  | cons _ _ => cases e
theorem jgs_cons (h1 : JG X vs e g) (h2 : JGs X vs es gs) (hs : (assignEach (e :: es) X.env).map (·.2) = assign e X.env :: (assignEach es X.env).map (·.2) := by rfl) : JGs X vs (e :: es) (gsC g gs) := by
  refine pgs_weak (pgs_cons h1 h2 hs) fun v σ H Q ⟨m, d, τ, h, τ', h', r, R, S, e, q⟩ => ?_
  cases r with
  | nil => cases e
  | cons r rr =>
    obtain ⟨⟨x, hx⟩, e1, e⟩ := bind_some' e
    refine ⟨_, _, rfl, m, _, τ, h, x, hx, r, R, S, e1, fun m1 H1 σ1 L1 S1 R1 w1 => ?_⟩
    exact ⟨m1, _, x, hx, τ', h', rr.mono S.cl L1.toLw, R1, S1, e, fun m2 H2 σ2 L2 S2 R2 w2 => q m2 H2 σ2 (L1.trans L2) S2 R2 (w2.trans w1)⟩
theorem pg_orr {e : Expr} {t t' : TG} (a : PG X e t) (b : PG X e t') : PG X e (fun v σ H Q => t v σ H Q ∨ t' v σ H Q) :=
  ⟨fun pins s σ H v u Q I r q => q.elim (a.run pins s σ H v u Q I r) (b.run pins s σ H v u Q I r)⟩
theorem jg_tup {k n : Nat} (hc : X.calm = true) (h : JGs X vs es gs) (hn : (assignEach es X.env).length = n := by rfl) (hst : (assignEach es X.env).findIdx? (·.1) = none := by rfl) : JG X vs (.Tuple es k pos) (gT n gs) := by
  refine pg_weak (pg_orr (pg_tup hc h hn hst) (pg_lst hc h hn hst)) fun v σ H Q ⟨m, d, τ, h, τ', h', r, R, S, e, q⟩ => ?_
  have fin : ∀ {a : Addr} {us : List V} {ds : List D}, SqT X.K H a us → RVs X.K m H us ds → (if ds.length = n then gs ds τ h else none) = some (τ', h') → gTup X.K n (tGs X.K vs gs) (.ref a) σ H Q := fun {a us ds} hq rr e => by
    obtain ⟨hl, e⟩ := ite_some' e
    exact ⟨a, us, rfl, hq, rr.length.trans hl, m, ds, τ, h, τ', h', rr, R, S, e, q⟩
  have fin2 : ∀ {a : Addr} {us : List V} {ds : List D}, SqL X.K H a us → RVs X.K m H us ds → (if ds.length = n then gs ds τ h else none) = some (τ', h') → gLst X.K n (tGs X.K vs gs) (.ref a) σ H Q := fun {a us ds} hq rr e => by
    obtain ⟨hl, e⟩ := ite_some' e
    exact ⟨a, us, rfl, hq, rr.length.trans hl, m, ds, τ, h, τ', h', rr, R, S, e, q⟩
  cases r with
  | tup hq rr => exact .inl (fin hq.sq rr e)
  | zt hq rr => exact .inl (fin hq rr e)
  | fl hq rr => exact .inr (fin2 hq.sq rr e)
  | ref em =>
    unfold gT at e
    dsimp only at e
    split at e
    · rename_i ds hh
      obtain ⟨us, e2, rr⟩ := S.lst em hh
      exact .inr (fin2 (SqL.of e2) rr e)
    · cases e
  | _ => cases e
/-- o[i] = .. over a list -/
def setD : LV → LV → D → AH → Option AH
  | .val (.ref a), .val (.int k), d, h => match h[a]? with
    | some (.lst xs) => (ixN xs.length k).bind fun j => some (h.set a (.lst (xs.set j d)))
    | _ => none
  | _, _, _, _ => none
def gS (fo fi : SE) : SG := fun d τ h => (fo τ h).bind fun p => (fi τ p.2).bind fun q => (setD p.1 q.1 d q.2).bind fun h' => some (τ, h')
theorem jg_sub {i : Expr} {fi : SE} (ho : JE X o fo) (hi : JE X i fi) (ha : ∀ v, assign (.Subscript o i pos) X.env v = (do
      let ov ← holding [v] (eval o X.env)
      let iv ← holding [v, ov] (eval i X.env)
      standAt pos
      holding [v, ov, iv] (setItem ov iv v)
      release [v, ov, iv] []) := by intro _; rfl) : JG X vs (.Subscript o i pos) (gS fo fi) := by
  refine pg_weak (pg_sub ho hi set_list ha) fun v σ H Q ⟨m, d, τ, h, τ', h', r, R, S, e, q⟩ => ?_
  obtain ⟨⟨x, h1⟩, e1, e⟩ := bind_some' e
  obtain ⟨⟨y, h2⟩, e2, e⟩ := bind_some' e
  obtain ⟨h3, e3, e⟩ := bind_some' e
  cases e
  refine ⟨m, τ, h, x, h1, R, S, e1, fun m1 H1 v1 L1 S1 r1 _ => ⟨m1, τ, h1, y, h2, R.mono S.cl L1.toLw, S1, e2, fun m2 H2 v2 L2 S2 r2 _ => ?_⟩⟩
  have r1' := r1.mono S1.cl L2
  have rv := (r.mono S.cl L1.toLw).mono S1.cl L2.toLw
  dsimp only at e3
  unfold setD at e3
  split at e3
  · split at e3
    · rename_i xs hx
      obtain ⟨j, hj, e3⟩ := bind_some' e3
      cases e3
      cases r1' with
      | val r1' =>
        cases r1' with
        | ref ea =>
          cases r2 with
          | val r2 =>
            cases r2
            obtain ⟨us, hu, ru⟩ := S2.lst ea hx
            refine ⟨_, us, _, j, rfl, rfl, hu, by rw [ru.length]; exact hj, ?_⟩
            exact q m2 _ σ (L1.trans (L2.trans (Le.put S2 ea _))) (S2.putL ea (ru.set rv j)) (((R.mono S.cl L1.toLw).mono S1.cl L2.toLw).mono S2.cl (Le.put S2 ea _).toLw) rfl
    · cases e3
  · cases e3

def mAsg (g : SG) (fa : SE) : SS := fun τ h => (fa τ h).bind fun p => (g (lay p.1 p.2).1 τ (lay p.1 p.2).2).bind fun q => some (.nx q.1 q.2)
def mExpr (fa : SE) : SS := fun τ h => (fa τ h).bind fun p => some (.nx τ p.2)
def mRet (fa : SE) : SS := fun τ h => (fa τ h).bind fun p => some (.rt (lay p.1 p.2).1 (lay p.1 p.2).2)
def mRetN : SS := fun _ h => some (.rt .non h)
def mPass : SS := fun τ h => some (.nx τ h)
def mBrk : SS := fun τ h => some (.bk τ h)
def mCnt : SS := fun τ h => some (.ct τ h)
def mNever : SS := fun _ _ => none
def mSeq (f1 f2 : SS) : SS := fun τ h => (f1 τ h).bind fun r => match r with
  | .nx τ' h' => f2 τ' h'
  | r => some r
def mIfS (ft : ST) (f1 f2 : SS) : SS := fun τ h => (ft τ h).bind fun p => if p.1 = true then f1 τ p.2 else f2 τ p.2

theorem asg_sem {K : PySem.W.Frag} (D : Ends) (σ : L2.St) (H : Hp) (h : tS K (mAsg g fa) D σ H) : tAsg (tE K fa) (tG K vs g) D σ H := by
  obtain ⟨m, τ, h, r, R, S, e, q⟩ := h
  obtain ⟨⟨x, h1⟩, e1, e⟩ := bind_some' e
  obtain ⟨⟨τ', h'⟩, e2, e⟩ := bind_some' e
  cases e
  refine ⟨m, τ, h, x, h1, R, S, e1, fun m1 H1 v1 L1 S1 r1 n1 => ?_⟩
  obtain ⟨m2, L2, S2, r2⟩ := hold S1 L1 r1 n1
  exact ⟨m2, _, τ, _, τ', h', r2, R.mono S.cl L2.toLw, S2, e2, fun m3 H3 σ3 L3 S3 R3 _ => q m3 H3 σ3 (L2.trans L3) S3 R3⟩
theorem js_asg {tg : Expr} (he : JE X e fa) (hg : JG X vs tg g) (hs : swapsWithSole [tg] e pos.line X.env = pure false := by rfl) (hw : swappedStores [tg] e X.env = pure none := by rfl)
    (h1 : (assignEach [tg] X.env).map (·.2) = [assign tg X.env] := by rfl) : JS X (.Assign [tg] e pos) (mAsg g fa) := ps_weak (ps_asg he hg hs hw h1) asg_sem
theorem js_set {i : Nat} {x : Str} {pos' : Pos} (hN : X.N.Nodup) (hi : X.N[i]? = some x) (hx : Loc X.env.scope x) (he : JE X e fa) (hs : swapsWith e (some (.Name x pos')) pos.line X.env = pure false := by rfl) (hf : X.fn x = true ∨ X.env.scope.names.lookup x = some .local := by first | exact .inl rfl | exact .inr rfl | assumption) :
    JS X (.Assign [.Name x pos'] e pos) (mAsg (gN i) fa) := by
  refine ps_weak (ps_set hN hi hx he hs hf) fun D σ H h => ?_
  obtain ⟨m, τ, h, r, R, S, e, q⟩ := h
  obtain ⟨⟨x, h1⟩, e1, e⟩ := bind_some' e
  cases e
  refine ⟨m, τ, h, x, h1, R, S, e1, fun m1 H1 v1 L1 S1 r1 n1 => ?_⟩
  obtain ⟨m2, L2, S2, r2⟩ := hold S1 L1 r1 n1
  exact q m2 H1 _ L2 S2 ((R.mono S.cl L2.toLw).set r2 i)
theorem js_expr (he : JE X e fa) (hs : swapsWith e none pos.line X.env = pure false := by rfl) : JS X (.Expr e pos) (mExpr fa) := by
  refine ps_weak (ps_expr he hs) fun D σ H ⟨m, τ, h, r, R, S, e, q⟩ => ?_
  obtain ⟨⟨x, h1⟩, e1, e⟩ := bind_some' e
  cases e
  exact ⟨m, τ, h, x, h1, R, S, e1, fun m1 H1 v1 L1 S1 r1 n1 => q m1 H1 σ L1 S1 (R.mono S.cl L1.toLw)⟩
theorem js_ret (he : JE X e fa) : JS X (.Return (some e) pos) (mRet fa) := by
  refine ps_weak (ps_ret he) fun D σ H ⟨m, τ, h, r, R, S, e, q⟩ => ?_
  obtain ⟨⟨x, h1⟩, e1, e⟩ := bind_some' e
  cases e
  refine ⟨m, τ, h, x, h1, R, S, e1, fun m1 H1 v1 L1 S1 r1 n1 => ?_⟩
  obtain ⟨m2, L2, S2, r2⟩ := hold S1 L1 r1 n1
  exact q m2 H1 v1 L2 S2 r2
theorem js_retN : JS X (.Return none pos) mRetN := by
  refine ps_weak ps_retN fun D σ H ⟨m, τ, h, r, R, S, e, q⟩ => ?_
  cases e
  exact q m H _ (Le.refl m H) S .non
theorem js_pass : JS X (.Pass pos) mPass := by
  refine ps_weak ps_pass fun D σ H ⟨m, τ, h, r, R, S, e, q⟩ => ?_
  cases e
  exact q m H _ (Le.refl m H) S R
theorem js_brk : JS X (.Break pos) mBrk := by
  refine ps_weak ps_break fun D σ H ⟨m, τ, h, r, R, S, e, q⟩ => ?_
  cases e
  exact q m H _ (Le.refl m H) S R
theorem js_cnt : JS X (.Continue pos) mCnt := by
  refine ps_weak ps_continue fun D σ H ⟨m, τ, h, r, R, S, e, q⟩ => ?_
  cases e
  exact q m H _ (Le.refl m H) S R
theorem js_never : JS X st mNever := by
  refine ps_weak ps_never fun D σ H ⟨m, τ, h, r, R, S, e, q⟩ => ?_
  cases e
theorem jb_nil : JB X [] mPass := by
  refine pss_weak pss_nil fun D σ H ⟨m, τ, h, r, R, S, e, q⟩ => ?_
  cases e
  exact q m H _ (Le.refl m H) S R
theorem jb_one (h : JS X st f) : JB X [st] f := pss_one h
theorem jb_cons (h1 : JS X st f1) (h2 : JB X rest f2) : JB X (st :: rest) (mSeq f1 f2) := by
  refine pss_weak (pss_cons h1 h2) fun D σ H ⟨m, τ, h, r, R, S, e, q⟩ => ?_
  obtain ⟨r1, e1, e⟩ := bind_some' e
  refine ⟨m, τ, h, r1, R, S, e1, ?_⟩
  cases r1 with
  | nx τ' h' => exact fun m' H' σ' L' S' R' => ⟨m', τ', h', r, R', S', e, q.le L'⟩
  | rt d h' => cases e; exact q
  | bk τ' h' => cases e; exact q
  | ct τ' h' => cases e; exact q
theorem js_if {c : Expr} (hc : JT X c ft) (ha : JB X sts f1) (hb : JB X sts2 f2) : JS X (.If c sts sts2 pos) (mIfS ft f1 f2) := by
  refine ps_weak (ps_if hc ha hb) fun D σ H ⟨m, τ, h, r, R, S, e, q⟩ => ?_
  obtain ⟨⟨b, h1⟩, e1, e⟩ := bind_some' e
  refine ⟨m, τ, h, b, h1, R, S, e1, fun m1 H1 L1 S1 => ?_⟩
  cases b with
  | true => exact ⟨m1, τ, h1, r, R.mono S.cl L1.toLw, S1, e, q.le L1⟩
  | false => exact ⟨m1, τ, h1, r, R.mono S.cl L1.toLw, S1, e, q.le L1⟩
end
end Sm
namespace Sm
open PySem PySem.Spec PyProof.Rows L2

/-! ## what is walked -/
structure ItD where
  items : List D
  grd : List (Nat × List D)
abbrev SI := AT → AH → Option (ItD × AH)
def grdOk (g : List (Nat × List D)) (h : AH) : Bool := g.all fun p => decide (h[p.1]? = some (.lst p.2))
def ItOk (K : PySem.W.Frag) (J : It) (m0 : List Addr) (H0 : Hp) (it : ItD) : Prop :=
  ∀ (i : Nat) (m : List Addr) (h : AH) (H : Hp), Le m0 H0 m H → Sim K m h H → grdOk it.grd h = true →
    (∀ d, it.items[i]? = some d → J.go i H ∧ ∀ x H', J.yld i H x H' → Le m H m H' ∧ Sim K m h H' ∧ RV K m H' x d) ∧ (i = it.items.length → J.stop i H)
def tI (K : PySem.W.Frag) (f : SI) : TI := fun σ H R => ∃ m τ h it h', RSt K m H σ τ ∧ Sim K m h H ∧ f τ h = some (it, h') ∧ ∀ m' H' J, Le m H m' H' → Sim K m' h' H' → ItOk K J m' H' it → R J H'
def JI (X : Cx) (tg e : Expr) (f : SI) : Prop := PI X tg e (tI X.K f)
theorem pi_weak {X : Cx} {tg e : Expr} {t t' : TI} (h : PI X tg e t) (hw : ∀ σ H R, t' σ H R → t σ H R) : PI X tg e t' := ⟨fun pins s σ H R I q => h.run pins s σ H R I (hw _ _ _ q)⟩
theorem pi_or {X : Cx} {tg e : Expr} {t t' : TI} (h : PI X tg e t) (h' : PI X tg e t') : PI X tg e (fun σ H R => t σ H R ∨ t' σ H R) := ⟨fun pins s σ H R I q => q.elim (h.run pins s σ H R I) (h'.run pins s σ H R I)⟩
/-- over a list or a tuple -/
def iterOf : LV → AH → Option ItD
  | .new ds, _ => some ⟨ds, []⟩
  | .val (.tup ds), _ => some ⟨ds, []⟩
  | .val (.zt ds), _ => some ⟨ds, []⟩
  | .val (.fl ds), _ => some ⟨ds, []⟩
  | .val (.ref a), h => match h[a]? with
    | some (.lst ds) => some ⟨ds, [(a, ds)]⟩
    | _ => none
  | _, _ => none
def mIter (fa : SE) : SI := fun τ h => (fa τ h).bind fun p => (iterOf p.1 p.2).bind fun it => some (it, p.2)
theorem RVs.atd {K : PySem.W.Frag} {m : List Addr} {H : Hp} {vs : List V} {ds : List D} (r : RVs K m H vs ds) {i : Nat} {d : D} (e : ds[i]? = some d) : ∃ v, vs[i]? = some v ∧ RV K m H v d := r.get e
section
variable {K : PySem.W.Frag} {m : List Addr} {h : AH} {H : Hp}
theorem itOk_list {a : Addr} {ds : List D} {g : List (Nat × List D)} (hs : ∀ m' h' H', Le m H m' H' → Sim K m' h' H' → grdOk g h' = true → ∃ us, SqL K H' a us ∧ RVs K m' H' us ds) : ItOk K (Itl K a) m H ⟨ds, g⟩ := fun i m1 h1 H1 L S G => by
  obtain ⟨us, hq, r⟩ := hs m1 h1 H1 L S G
  refine ⟨fun d e => ?_, fun e => ⟨us, hq, by rw [r.length, e]; exact Nat.le_refl _⟩⟩
  obtain ⟨v, e1, r1⟩ := r.get e
  refine ⟨⟨us, v, hq, e1⟩, fun x H2 ⟨e2, y⟩ => ?_⟩
  subst e2
  have := y us hq
  rw [e1] at this
  cases this
  exact ⟨Le.refl _ _, S, r1⟩
theorem itOk_tup {a : Addr} {ds : List D} {g : List (Nat × List D)} (hs : ∀ m' h' H', Le m H m' H' → Sim K m' h' H' → grdOk g h' = true → ∃ us, SqT K H' a us ∧ RVs K m' H' us ds) : ItOk K (Itt K a) m H ⟨ds, g⟩ := fun i m1 h1 H1 L S G => by
  obtain ⟨us, hq, r⟩ := hs m1 h1 H1 L S G
  refine ⟨fun d e => ?_, fun e => ⟨us, hq, by rw [r.length, e]; exact Nat.le_refl _⟩⟩
  obtain ⟨v, e1, r1⟩ := r.get e
  refine ⟨⟨us, v, hq, e1⟩, fun x H2 ⟨e2, y⟩ => ?_⟩
  subst e2
  have := y us hq
  rw [e1] at this
  cases this
  exact ⟨Le.refl _ _, S, r1⟩
/-- what an expression that is walked stands for -/
inductive SrcL (K : PySem.W.Frag) (m : List Addr) (H : Hp) (h : AH) : V → LV → List D → List (Nat × List D) → Prop
  | new {p : Addr} {vs : List V} {ds : List D} : p ∉ m → H p = some (.lst vs) → RVs K m H vs ds → SrcL K m H h (.ref p) (.new ds) ds []
  | fl {p : Addr} {vs : List V} {ds : List D} : FzL K H p vs → RVs K m H vs ds → SrcL K m H h (.ref p) (.val (.fl ds)) ds []
  | ref {p : Addr} {i : Nat} {ds : List D} : m[i]? = some p → h[i]? = some (.lst ds) → SrcL K m H h (.ref p) (.val (.ref i)) ds [(i, ds)]
theorem SrcL.stays (S : Sim K m h H) {v : V} {q : LV} {ds : List D} {g : List (Nat × List D)} (s : SrcL K m H h v q ds g) : ∃ p, v = .ref p ∧ (∃ us, SqL K H p us ∧ RVs K m H us ds) ∧ ∀ m' h' H', Le m H m' H' → Sim K m' h' H' → grdOk g h' = true → ∃ us, SqL K H' p us ∧ RVs K m' H' us ds := by
  cases s with
  | new hn e r => exact ⟨_, rfl, ⟨_, SqL.of e, r⟩, fun m' h' H' L' S' _ => ⟨_, SqL.of (L'.fr _ _ e hn), r.mono S.cl L'.toLw⟩⟩
  | fl f r => exact ⟨_, rfl, ⟨_, f.sq, r⟩, fun m' h' H' L' S' _ => ⟨_, (fzL_mono S.cl L'.toLw f).sq, r.mono S.cl L'.toLw⟩⟩
  | ref e1 e2 =>
    refine ⟨_, rfl, ?_, fun m' h' H' L' S' G => ?_⟩
    · obtain ⟨vs, q, r⟩ := S.lst e1 e2
      exact ⟨vs, SqL.of q, r⟩
    · have e3 := L'.get e1
      have e4 := of_decide_eq_true (List.all_eq_true.mp G _ List.mem_cons_self)
      obtain ⟨vs, q, r⟩ := S'.lst e3 e4
      exact ⟨vs, SqL.of q, r⟩
theorem srcL_of (S : Sim K m h H) {v : V} {q : LV} {it : ItD} (r : RQ K m H v q) (e : iterOf q h = some it) : SrcL K m H h v q it.items it.grd ∨ (∃ p us, v = .ref p ∧ SqT K H p us ∧ RVs K m H us it.items ∧ it.grd = [] ∧ ((∃ ds, q = .val (.tup ds)) ∨ ∃ ds, q = .val (.zt ds))) := by
  unfold iterOf at e
  split at e
  · cases e
    cases r with
    | new a b c d => exact .inl (.new a b c)
  · cases e
    cases r with
    | val r =>
      cases r with
      | tup f r => exact .inr ⟨_, _, rfl, f.sq, r, rfl, .inl ⟨_, rfl⟩⟩
  · cases e
    cases r with
    | val r =>
      cases r with
      | zt f r => exact .inr ⟨_, _, rfl, f, r, rfl, .inr ⟨_, rfl⟩⟩
  · cases e
    cases r with
    | val r =>
      cases r with
      | fl f r => exact .inl (.fl f r)
  · split at e
    · rename_i hh
      cases e
      cases r with
      | val r =>
        cases r with
        | ref e1 => exact .inl (.ref e1 hh)
    · cases e
  · cases e
end
section
variable {X : Cx} {tg e a b : Expr} {fa fb : SE} {fr : SA} {p pos : Pos}
theorem ji_seq (he : JE X e fa) : JI X tg e (mIter fa) := by
  refine pi_weak (pi_or (pi_list he) (pi_tup he)) fun σ H R ⟨m, τ, h, it, h', Rs, S, e, q⟩ => ?_
  obtain ⟨⟨x, h1⟩, e1, e⟩ := bind_some' e
  obtain ⟨it', e2, e⟩ := bind_some' e
  cases e
  have key : ∀ m1 H1 v1, Le m H m1 H1 → Sim X.K m1 h1 H1 → RQ X.K m1 H1 v1 x →
      (∃ p, v1 = .ref p ∧ (∃ us, SqL X.K H1 p us) ∧ R (Itl X.K p) H1) ∨ (∃ p, v1 = .ref p ∧ (∃ us, SqT X.K H1 p us) ∧ R (Itt X.K p) H1 ∧ ((∃ ds, x = .val (.tup ds)) ∨ ∃ ds, x = .val (.zt ds))) := fun m1 H1 v1 L1 S1 r1 => by
    rcases srcL_of S1 r1 e2 with s | ⟨p, us, rfl, hq, rr, hg, ht⟩
    · obtain ⟨p, rfl, ⟨us, hq, _⟩, st⟩ := s.stays S1
      exact .inl ⟨p, rfl, ⟨us, hq⟩, q m1 H1 _ L1 S1 (itOk_list st)⟩
    · refine .inr ⟨p, rfl, ⟨us, hq⟩, q m1 H1 _ L1 S1 (itOk_tup fun m' h' H' L' S' _ => ⟨us, sqT_mono S1.cl L'.toLw hq, rr.mono S1.cl L'.toLw⟩), ht⟩
  by_cases ht : (∃ ds, x = .val (.tup ds)) ∨ ∃ ds, x = .val (.zt ds)
  · refine .inr ⟨m, τ, h, x, h1, Rs, S, e1, fun m1 H1 v1 L1 S1 r1 _ => ?_⟩
    rcases srcL_of S1 r1 e2 with s | ⟨p, us, rfl, hq, rr, hg, _⟩
    · rcases ht with ⟨ds, rfl⟩ | ⟨ds, rfl⟩ <;> cases s
    · exact ⟨p, rfl, ⟨us, hq⟩, q m1 H1 _ L1 S1 (itOk_tup fun m' h' H' L' S' _ => ⟨us, sqT_mono S1.cl L'.toLw hq, rr.mono S1.cl L'.toLw⟩)⟩
  · refine .inl ⟨m, τ, h, x, h1, Rs, S, e1, fun m1 H1 v1 L1 S1 r1 _ => ?_⟩
    rcases key m1 H1 v1 L1 S1 r1 with k | ⟨_, _, _, _, k⟩
    · exact k
    · exact absurd k ht
/-- range -/
def rngD (lo : Int) (n : Nat) : List D := (List.range n).map fun (i : Nat) => D.int (lo + i)
theorem rngD_get {lo : Int} {n i : Nat} {d : D} (h : (rngD lo n)[i]? = some d) : i < n ∧ d = .int (lo + i) := by
  unfold rngD at h
  rw [List.getElem?_map] at h
  by_cases hi : i < n
  · rw [List.getElem?_eq_getElem (by simpa using hi)] at h
    simp at h
    exact ⟨hi, h.symm⟩
  · rw [List.getElem?_eq_none (by simpa using hi)] at h
    cases h
theorem itOk_rng {K : PySem.W.Frag} {m : List Addr} {H : Hp} {lo : Int} {n : Nat} : ItOk K (Itr lo n) m H ⟨rngD lo n, []⟩ := fun i m1 h1 H1 L S G => by
  refine ⟨fun d e => ?_, fun e => by show n ≤ i; rw [e]; simp [rngD]⟩
  obtain ⟨h1, h2⟩ := rngD_get e
  subst h2
  refine ⟨h1, fun x H2 ⟨e2, y⟩ => ?_⟩
  subst e2
  subst y
  exact ⟨Le.refl _ _, S, .int _⟩
def rng1 : List LV → Option ItD
  | [.val (.int j)] => if j.natAbs < 4611686018427387904 then some ⟨rngD 0 j.toNat, []⟩ else none
  | _ => none
def rng2 : List LV → Option ItD
  | [.val (.int i), .val (.int j)] => if i.natAbs < 4611686018427387904 ∧ j.natAbs < 4611686018427387904 then some ⟨rngD i (j - i).toNat, []⟩ else none
  | _ => none
def mRng1 (fr : SA) : SI := fun τ h => (fr τ h).bind fun p => (rng1 p.1).bind fun it => some (it, p.2)
def mRng2 (fr : SA) : SI := fun τ h => (fr τ h).bind fun p => (rng2 p.1).bind fun it => some (it, p.2)
theorem two62 : (2 : Int) ^ 62 = 4611686018427387904 := by decide
theorem ji_rng1 (hg : Gl X "range") (hm : X.mg "range" = none) (ha : JA X [a] fr) (hs : starEach [a] X.env = [(false, eval a X.env)] := by rfl) : JI X tg (.Call (.Name "range" p) [a] [] pos) (mRng1 fr) := by
  refine pi_weak (pi_range1 hg hm ha hs) fun σ H R ⟨m, τ, h, it, h', Rs, S, e, q⟩ => ?_
  obtain ⟨⟨x, h1⟩, e1, e⟩ := bind_some' e
  obtain ⟨it', e2, e⟩ := bind_some' e
  cases e
  refine ⟨m, τ, h, x, h1, Rs, S, e1, fun m1 H1 v1 L1 S1 r1 => ?_⟩
  dsimp only at e2
  unfold rng1 at e2
  split at e2
  · obtain ⟨b1, e2⟩ := ite_some' e2
    cases e2
    cases r1 with
    | cons r1 r2 =>
      cases r2
      cases r1 with
      | val r1 =>
        cases r1
        exact ⟨_, rfl, by rw [two62]; omega, by rw [two62]; omega, q m1 H1 _ L1 S1 itOk_rng⟩
  · cases e2
theorem ji_rng2 (hg : Gl X "range") (hm : X.mg "range" = none) (ha : JA X [a, b] fr) (hs : starEach [a, b] X.env = [(false, eval a X.env), (false, eval b X.env)] := by rfl) (hs2 : starEach [b] X.env = [(false, eval b X.env)] := by rfl) : JI X tg (.Call (.Name "range" p) [a, b] [] pos) (mRng2 fr) := by
  refine pi_weak (pi_range2 hg hm ha hs hs2) fun σ H R ⟨m, τ, h, it, h', Rs, S, e, q⟩ => ?_
  obtain ⟨⟨x, h1⟩, e1, e⟩ := bind_some' e
  obtain ⟨it', e2, e⟩ := bind_some' e
  cases e
  refine ⟨m, τ, h, x, h1, Rs, S, e1, fun m1 H1 v1 L1 S1 r1 => ?_⟩
  dsimp only at e2
  unfold rng2 at e2
  split at e2
  · obtain ⟨⟨b1, b2⟩, e2⟩ := ite_some' e2
    cases e2
    cases r1 with
    | cons r1 r2 =>
      cases r2 with
      | cons r2 r3 =>
        cases r3
        cases r1 with
        | val r1 =>
          cases r2 with
          | val r2 =>
            cases r1
            cases r2
            exact ⟨_, _, rfl, by rw [two62]; omega, q m1 H1 _ L1 S1 itOk_rng⟩
  · cases e2
end

/-! ## for -/
def forL (grd : List (Nat × List D)) (g : SG) (body : SS) : List D → AT → AH → Option Res
  | [], τ, h => if grdOk grd h = true then some (.nx τ h) else none
  | x :: xs, τ, h => if grdOk grd h = true then (g x τ h).bind fun p => (body p.1 p.2).bind fun r => match r with
    | .nx τ' h' => forL grd g body xs τ' h'
    | .ct τ' h' => forL grd g body xs τ' h'
    | .bk τ' h' => some (.nx τ' h')
    | .rt d h' => some (.rt d h') else none
def mFor (fi : SI) (g : SG) (body : SS) : SS := fun τ h => (fi τ h).bind fun p => forL p.1.grd g body p.1.items τ p.2
section
variable {X : Cx} {pos : Pos} {vs : List Nat} {tg iter : Expr} {fi : SI} {g : SG} {f : SS} {sts : List Stmt}
theorem js_for (hp : PassesOwn (model X.prog X.w) X.A X.env X.xe) (hc : X.calm = true) (hi : JI X tg iter fi) (hg : JG X vs tg g) (hb : JB X sts f)
    (hs : ∀ x, foldedSetIterable iter X.env x = pure x := by intro _; rfl) : JS X (.For tg iter sts [] pos) (mFor fi g f) := by
  refine ps_weak (ps_for hp hc hi hg hb hs) fun D σ H ⟨m, τ, h, r, R, S, e, q⟩ => ?_
  obtain ⟨⟨it, h1⟩, e1, e⟩ := bind_some' e
  refine ⟨m, τ, h, it, h1, R, S, e1, fun m1 H1 J L1 S1 J1 => ?_⟩
  refine ⟨fun i n σ2 H2 => ∃ m2 τ2 h2, n = (it.items.drop i).length ∧ i ≤ it.items.length ∧ Le m1 H1 m2 H2 ∧ Sim X.K m2 h2 H2 ∧ RSt X.K m2 H2 σ2 τ2 ∧ forL it.grd g f (it.items.drop i) τ2 h2 = some r,
    ⟨_, m1, τ, h1, rfl, Nat.zero_le _, Le.refl _ _, S1, R.mono S.cl L1.toLw, e⟩, ?_⟩
  rintro i n σ2 H2 ⟨m2, τ2, h2, rfl, hi2, L2, S2, R2, e2⟩
  cases hd : it.items.drop i with
  | nil =>
    rw [hd] at e2
    unfold forL at e2
    obtain ⟨G, e2⟩ := ite_some' e2
    cases e2
    have hi3 : i = it.items.length := by
      have := congrArg List.length hd
      rw [List.length_drop, List.length_nil] at this
      omega
    exact .inl ⟨(J1 i m2 h2 H2 L2 S2 G).2 hi3, q m2 H2 σ2 (L1.trans L2) S2 R2⟩
  | cons x xs =>
    rw [hd] at e2
    unfold forL at e2
    obtain ⟨G, e2⟩ := ite_some' e2
    obtain ⟨⟨τ3, h3⟩, e3, e2⟩ := bind_some' e2
    obtain ⟨r4, e4, e2⟩ := bind_some' e2
    have hx : it.items[i]? = some x := by
      have := congrArg (fun l => l[0]?) hd
      simpa using this
    have hlt : i < it.items.length := (List.getElem?_eq_some_iff.mp hx).1
    have hxs : it.items.drop (i + 1) = xs := by
      rw [← List.drop_drop, hd]
      rfl
    obtain ⟨go, yl⟩ := (J1 i m2 h2 H2 L2 S2 G).1 x hx
    refine .inr ⟨go, fun σ' H' => ∃ m' τ' h', Le m1 H1 m' H' ∧ Sim X.K m' h' H' ∧ RSt X.K m' H' σ' τ' ∧ forL it.grd g f xs τ' h' = some r, fun σ' H' ⟨m', τ', h', L', S', R', e'⟩ => ?_, fun v H' y => ?_⟩
    · exact ⟨xs.length, by rw [List.length_cons]; exact Nat.lt_succ_self _, m', τ', h', by rw [hxs], hlt, L', S', R', by rw [hxs]; exact e'⟩
    · obtain ⟨L3, S3, rv⟩ := yl v H' y
      refine ⟨m2, x, τ2, h2, τ3, h3, rv, R2.mono S2.cl L3.toLw, S3, e3, fun m5 H5 σ5 L5 S5 R5 _ => ?_⟩
      refine ⟨m5, τ3, h3, r4, R5, S5, e4, ?_⟩
      have L6 := L2.trans (L3.trans L5)
      cases r4 with
      | nx τ' h' => exact fun m' H' σ' L' S' R' => ⟨m', τ', h', L6.trans L', S', R', e2⟩
      | ct τ' h' => exact fun m' H' σ' L' S' R' => ⟨m', τ', h', L6.trans L', S', R', e2⟩
      | bk τ' h' => cases e2; exact fun m' H' σ' L' S' R' => q m' H' σ' (L1.trans (L6.trans L')) S' R'
      | rt d h' => cases e2; exact fun m' H' v L' S' R' => q m' H' v (L1.trans (L6.trans L')) S' R'
end

/-! ## while -/
def whN (ft : ST) (body : SS) : Nat → AT → AH → Option Res
  | 0, _, _ => none
  | n + 1, τ, h => (ft τ h).bind fun p => if p.1 = true then (body τ p.2).bind fun r => match r with
    | .nx τ' h' => whN ft body n τ' h'
    | .ct τ' h' => whN ft body n τ' h'
    | .bk τ' h' => some (.nx τ' h')
    | .rt d h' => some (.rt d h') else some (.nx τ p.2)
theorem whN_more {ft : ST} {body : SS} : ∀ {n : Nat} {τ : AT} {h : AH} {r : Res} (k : Nat), whN ft body n τ h = some r → whN ft body (n + k) τ h = some r
  | 0, _, _, _, _, e => by cases e
  | n + 1, τ, h, r, k, e => by
    rw [show n + 1 + k = (n + k) + 1 by omega]
    unfold whN at e ⊢
    obtain ⟨⟨b, h1⟩, e1, e⟩ := bind_some' e
    rw [e1]
    show (if b = true then _ else _) = _
    dsimp only at e
    cases b with
    | false => exact e
    | true =>
      obtain ⟨r2, e2, e⟩ := bind_some' e
      rw [if_pos rfl]
      dsimp only
      rw [e2]
      rw [Option.bind_some]
      cases r2 with
      | nx τ' h' => exact whN_more k e
      | ct τ' h' => exact whN_more k e
      | bk τ' h' => exact e
      | rt d h' => exact e
open Classical in
noncomputable def mWhile (ft : ST) (body : SS) : SS := fun τ h => if H : ∃ n, (whN ft body n τ h).isSome = true then whN ft body H.choose τ h else none
theorem mWhile_of {ft : ST} {body : SS} {n : Nat} {τ : AT} {h : AH} {r : Res} (e : whN ft body n τ h = some r) : mWhile ft body τ h = some r := by
  have H : ∃ n, (whN ft body n τ h).isSome = true := ⟨n, by rw [e]; rfl⟩
  unfold mWhile
  rw [dif_pos H]
  obtain ⟨r2, e2⟩ := Option.isSome_iff_exists.mp H.choose_spec
  rw [e2]
  have a1 := whN_more n e2
  have a2 := whN_more H.choose e
  rw [Nat.add_comm] at a1
  rw [a1] at a2
  exact a2
theorem mWhile_n {ft : ST} {body : SS} {τ : AT} {h : AH} {r : Res} (e : mWhile ft body τ h = some r) : ∃ n, whN ft body n τ h = some r := by
  unfold mWhile at e
  split at e
  · exact ⟨_, e⟩
  · cases e
theorem js_while {X : Cx} {pos : Pos} {c : Expr} {sts : List Stmt} {ft : ST} {f : SS} (hp : PassesOwn (model X.prog X.w) X.A X.env X.xe) (hc : JT X c ft) (hb : JB X sts f) : JS X (.While c sts [] pos) (mWhile ft f) := by
  refine ps_weak (ps_while hp hc hb) fun D σ H ⟨m, τ, h, r, R, S, e, q⟩ => ?_
  obtain ⟨n, e⟩ := mWhile_n e
  refine ⟨fun n σ2 H2 => ∃ m2 τ2 h2, Le m H m2 H2 ∧ Sim X.K m2 h2 H2 ∧ RSt X.K m2 H2 σ2 τ2 ∧ whN ft f n τ2 h2 = some r, ⟨n, m, τ, h, Le.refl _ _, S, R, e⟩, ?_⟩
  rintro n σ2 H2 ⟨m2, τ2, h2, L2, S2, R2, e2⟩
  cases n with
  | zero => cases e2
  | succ n =>
    unfold whN at e2
    obtain ⟨⟨b, h3⟩, e3, e2⟩ := bind_some' e2
    refine ⟨m2, τ2, h2, b, h3, R2, S2, e3, fun m3 H3 L3 S3 => ?_⟩
    dsimp only at e2
    cases b with
    | false =>
      rw [if_neg Bool.false_ne_true] at e2 ⊢
      cases e2
      exact q m3 H3 σ2 (L2.trans L3) S3 (R2.mono S2.cl L3.toLw)
    | true =>
      rw [if_pos rfl] at e2 ⊢
      obtain ⟨r4, e4, e2⟩ := bind_some' e2
      refine ⟨fun σ' H' => ∃ m' τ' h', Le m H m' H' ∧ Sim X.K m' h' H' ∧ RSt X.K m' H' σ' τ' ∧ whN ft f n τ' h' = some r, fun σ' H' w => ⟨n, Nat.lt_succ_self n, w⟩, ?_⟩
      refine ⟨m3, τ2, h3, r4, R2.mono S2.cl L3.toLw, S3, e4, ?_⟩
      have L6 := L2.trans L3
      cases r4 with
      | nx τ' h' => exact fun m' H' σ' L' S' R' => ⟨m', τ', h', L6.trans L', S', R', e2⟩
      | ct τ' h' => exact fun m' H' σ' L' S' R' => ⟨m', τ', h', L6.trans L', S', R', e2⟩
      | bk τ' h' => cases e2; exact fun m' H' σ' L' S' R' => q m' H' σ' (L6.trans L') S' R'
      | rt d h' => cases e2; exact fun m' H' v L' S' R' => q m' H' v (L6.trans L') S' R'
end Sm
namespace Sm
open PySem PySem.Spec PyProof.Rows L2

/-! ## list comprehensions -/
def wipeA (τ : AT) : List Nat → AT
  | [] => τ
  | v :: vs => (wipeA τ vs).set v none
theorem RSt.wipe {K : PySem.W.Frag} {m : List Addr} {H : Hp} {σ : L2.St} {τ : AT} (r : RSt K m H σ τ) : ∀ vs : List Nat, RSt K m H (L2.wipe σ vs) (wipeA τ vs)
  | [] => r
  | v :: vs => by
    have q := RSt.wipe r vs
    unfold L2.wipe wipeA
    refine ⟨by simp [q.1], fun j e h => ?_⟩
    by_cases hij : v = j
    · subst hij
      by_cases hl : v < (wipeA τ vs).length
      · rw [List.getElem?_set_self hl] at h
        cases h
      · rw [List.getElem?_eq_none (by simpa using hl)] at h
        cases h
    · rw [List.getElem?_set_ne hij] at h ⊢
      exact q.2 j e h
def compL (grd : List (Nat × List D)) (g : SG) (ft : ST) (fe : SE) (τ : AT) : List D → AH → Option (List D × AH)
  | [], h => if grdOk grd h = true then some ([], h) else none
  | x :: xs, h => if grdOk grd h = true then (g x τ h).bind fun p => (ft p.1 p.2).bind fun b => if b.1 = true then
      (fe p.1 b.2).bind fun y => (compL grd g ft fe τ xs (lay y.1 y.2).2).bind fun z => some ((lay y.1 y.2).1 :: z.1, z.2)
    else compL grd g ft fe τ xs b.2 else none
def mYes : ST := fun _ h => some (true, h)
def mComp (fi : SI) (g : SG) (ft : ST) (fe : SE) (vs : List Nat) : SE := fun τ h => (fi τ h).bind fun p => (compL p.1.grd g ft fe (wipeA τ vs) p.1.items p.2).bind fun z =>
  if z.1.length ≤ 16777216 then some (.new z.1, z.2) else none
def JTs (X : Cx) (es : List Expr) (f : ST) : Prop := PTs X es (tT X.K f)
theorem pts_weak {X : Cx} {e : List Expr} {t t' : TT} (h : PTs X e t) (hw : ∀ σ H Q, t' σ H Q → t σ H Q) : PTs X e t' := ⟨fun pins s σ H Q I q => h.run pins s σ H Q I (hw _ _ _ q)⟩
theorem jts_nil {X : Cx} : JTs X [] mYes := pts_weak pts_nil fun σ H Q ⟨m, τ, h, b, h', R, S, e, q⟩ => by
  cases e
  exact q m H (Le.refl m H) S
theorem jts_one {X : Cx} {c : Expr} {ft : ST} (h : JT X c ft) : JTs X [c] ft := pts_one h
theorem wipe_none {σ : L2.St} {i : Nat} : ∀ {vs : List Nat}, i ∈ vs → (wipe σ vs).set i none = wipe σ vs
  | v :: vs, h => by
    unfold wipe
    by_cases e : v = i
    · rw [e, List.set_set]
    · rw [List.set_comm _ _ e, wipe_none (List.mem_of_ne_of_mem (fun z => e z.symm) h)]
theorem wipe_wipe_aux (σ : L2.St) (us : List Nat) : ∀ vs : List Nat, (∀ v ∈ vs, v ∈ us) → wipe (wipe σ us) vs = wipe σ us
  | [], _ => rfl
  | v :: vs, h => by
    show (wipe (wipe σ us) vs).set v none = wipe σ us
    rw [wipe_wipe_aux σ us vs (fun w hw => h w (List.mem_cons_of_mem _ hw)), wipe_none (h v List.mem_cons_self)]
theorem wipe_wipe (σ : L2.St) (vs : List Nat) : wipe (wipe σ vs) vs = wipe σ vs := wipe_wipe_aux σ vs vs fun _ h => h
section
variable {X : Cx} {elt tg iter : Expr} {ifs : List Expr} {scope : Scope} {own : List (Str × Nat)} {pos : Pos} {fi : SI} {g : SG} {ft : ST} {fe : SE}
theorem comp_sem {K : PySem.W.Frag} {vs : List Nat} (σ : L2.St) (H : Hp) (Q : VK) (h : tE K (mComp fi g ft fe vs) σ H Q) : tLc (tI K fi) (tG K vs g) (tT K ft) (tE K (mAd fe)) vs σ H Q := by
  obtain ⟨m, τ, h, r, h', R, S, e, q⟩ := h
  obtain ⟨⟨it, h1⟩, e1, e⟩ := bind_some' e
  obtain ⟨⟨total, hf⟩, e2, e⟩ := bind_some' e
  obtain ⟨hz, e⟩ := ite_some' e
  obtain ⟨e8, e9⟩ := Prod.mk.inj (Option.some.inj e)
  dsimp only at e8 e9 hz e2
  subst e8
  subst e9
  refine ⟨m, τ, h, it, h1, R, S, e1, fun m1 H1 J L1 S1 J1 => ?_⟩
  intro Dn hD
  have hD0 : H Dn = none := fresh_back S1.cl L1 hD
  have LD := Le.upd S1.cl hD (.lst [])
  refine ⟨fun i n H2 => ∃ m2 h2 acc accV rest', n = (it.items.drop i).length ∧ i ≤ it.items.length ∧ Le m1 H1 m2 H2 ∧ Sim K m2 h2 H2 ∧ Dn ∉ m2 ∧ H2 Dn = some (.lst accV) ∧ RVs K m2 H2 accV acc ∧
      compL it.grd g ft fe (wipeA τ vs) (it.items.drop i) h2 = some (rest', hf) ∧ acc ++ rest' = total,
    ⟨_, m1, h1, [], [], total, rfl, Nat.zero_le _, LD, S1.upd hD _, S1.cl.non hD, upd_same, .nil, e2, rfl⟩, ?_⟩
  rintro i n H2 ⟨m2, h2, acc, accV, rest', rfl, hi2, L2, S2, hn2, hD2, rv2, e3, et⟩
  cases hd : it.items.drop i with
  | nil =>
    rw [hd] at e3
    unfold compL at e3
    obtain ⟨G, e3⟩ := ite_some' e3
    cases e3
    have hi3 : i = it.items.length := by
      have := congrArg List.length hd
      rw [List.length_drop, List.length_nil] at this
      omega
    rw [List.append_nil] at et
    subst et
    exact .inl ⟨(J1 i m2 _ H2 L2 S2 G).2 hi3, q m2 H2 _ (L1.trans L2) S2 (.new hn2 hD2 rv2 hz) hD0⟩
  | cons x xs =>
    rw [hd] at e3
    unfold compL at e3
    obtain ⟨G, e3⟩ := ite_some' e3
    obtain ⟨⟨τ3, h3⟩, e4, e3⟩ := bind_some' e3
    obtain ⟨⟨b, h4⟩, e5, e3⟩ := bind_some' e3
    have hx : it.items[i]? = some x := by
      have := congrArg (fun l => l[0]?) hd
      simpa using this
    have hlt : i < it.items.length := (List.getElem?_eq_some_iff.mp hx).1
    have hxs : it.items.drop (i + 1) = xs := by
      rw [← List.drop_drop, hd]
      rfl
    obtain ⟨go, yl⟩ := (J1 i m2 h2 H2 L2 S2 G).1 x hx
    refine .inr ⟨go, fun H' => ∃ m' h' acc' accV' rest'', Le m1 H1 m' H' ∧ Sim K m' h' H' ∧ Dn ∉ m' ∧ H' Dn = some (.lst accV') ∧ RVs K m' H' accV' acc' ∧
        compL it.grd g ft fe (wipeA τ vs) xs h' = some (rest'', hf) ∧ acc' ++ rest'' = total, fun H' ⟨m', h', acc', accV', rest'', L', S', n', d', r', e', t'⟩ => ?_, fun v H' y => ?_⟩
    · exact ⟨xs.length, by rw [List.length_cons]; exact Nat.lt_succ_self _, m', h', acc', accV', rest'', by rw [hxs], hlt, L', S', n', d', r', by rw [hxs]; exact e', t'⟩
    · obtain ⟨L3, S3, rv⟩ := yl v H' y
      have Rw := (((R.mono S.cl L1.toLw).mono S1.cl L2.toLw).mono S2.cl L3.toLw).wipe vs
      have keepD : ∀ {m3 H3}, Le m2 H2 m3 H3 → Dn ∉ m3 ∧ H3 Dn = some (.lst accV) := fun {m3 H3} L => by
        refine ⟨fun z => ?_, L.fr _ _ hD2 hn2⟩
        have w := L.nw _ z hn2
        rw [hD2] at w
        cases w
      refine ⟨m2, x, _, h2, τ3, h3, rv, Rw, S3, e4, fun m5 H5 σ5 L5 S5 R5 w5 => ⟨w5.trans (wipe_wipe σ vs), m5, τ3, h3, b, h4, R5, S5, e5, fun m6 H6 L6 S6 => ?_⟩⟩
      have L7 := L3.trans (L5.trans L6)
      dsimp only at e3
      cases b with
      | false =>
        rw [if_neg Bool.false_ne_true] at e3
        refine iteF ?_
        obtain ⟨n', d'⟩ := keepD L7
        exact ⟨m6, h4, acc, accV, rest', L2.trans L7, S6, n', d', rv2.mono S2.cl L7.toLw, e3, et⟩
      | true =>
        rw [if_pos rfl] at e3
        refine iteT ?_
        obtain ⟨⟨y, h5⟩, e6, e3⟩ := bind_some' e3
        obtain ⟨⟨zs, h6⟩, e7, e3⟩ := bind_some' e3
        obtain ⟨e8, e9⟩ := Prod.mk.inj (Option.some.inj e3)
        dsimp only at e8 e9 e7
        subst e9
        subst e8
        refine ⟨m6, τ3, h4, .val (lay y h5).1, (lay y h5).2, R5.mono S5.cl L6.toLw, S6, ?_, fun m7 H7 v7 L8 S7 r7 _ => ?_⟩
        · unfold mAd
          rw [e6]
          rfl
        · have L9 := L7.trans L8
          obtain ⟨n', d'⟩ := keepD L9
          cases r7 with
          | val r7 =>
            have ru : RVs K m7 H7 (accV ++ [v7]) (acc ++ [(lay y h5).1]) := (rv2.mono S2.cl L9.toLw).append (.one r7)
            refine ⟨accV, d', ?_, m7, (lay y h5).2, acc ++ [(lay y h5).1], accV ++ [v7], zs, (L2.trans L9).side _ hD, S7.side _ d' n', n', upd_same, ru.monoS (Ls.side d'), e7, by rw [← et]; simp⟩
            have z1 := rv2.length
            have z2 := congrArg List.length et
            rw [List.length_append, List.length_cons] at z2
            rw [sizeLine_eq]
            omega
/-- [elt for tg in iter if ..] -/
theorem je_comp (hc : X.calm = true) (hN : X.N.Nodup) (hi : JI X tg iter fi) (ok : BlkOk X.N X.env.scope scope own)
    (hg : ∀ (s : Shared) (H : Hp) (C : Addr) (cl : List (Str × Addr)) (fp : List Addr), JG (X.blk s H scope (compEnvC scope cl C X.env) fp) (own.map (·.2)) tg g)
    (ht : ∀ (s : Shared) (H : Hp) (C : Addr) (cl : List (Str × Addr)) (fp : List Addr), JTs (X.blk s H scope (compEnvC scope cl C X.env) fp) ifs ft)
    (he : ∀ (s : Shared) (H : Hp) (C : Addr) (cl : List (Str × Addr)) (fp : List Addr), JE (X.blk s H scope (compEnvC scope cl C X.env) fp) elt fe) (hs : ∀ x, foldedSetIterable iter X.env x = pure x := by intro _; rfl) :
    JE X (.ListComp elt [⟨tg, iter, ifs, 0⟩] scope pos) (mComp fi g ft fe (own.map (·.2))) :=
  pe_weak (pe_lc (g := tG X.K (own.map fun x : Str × Nat => x.2) g) (tt := tT X.K ft) (te := tE X.K (mAd fe)) hc hN hi ok hg ht (fun s H C cl fp => je_ad (he s H C cl fp)) hs) comp_sem
/-- y = [..] -/
theorem js_setComp {i : Nat} {y : Str} {py spos : Pos} (hc : X.calm = true) (hN : X.N.Nodup) (hy : X.N[i]? = some y) (hyl : X.env.scope.names.lookup y = some .local)
    (hsw : swapsWith (.ListComp elt [⟨tg, iter, ifs, 0⟩] scope pos) (some (.Name y py)) spos.line X.env = pure true) (hi : JI X tg iter fi) (ok : BlkOk X.N X.env.scope scope own)
    (hg : ∀ (s : Shared) (H : Hp) (C : Addr) (cl : List (Str × Addr)) (fp : List Addr), JG (X.blk s H scope (compEnvC scope cl C X.env) fp) (own.map (·.2)) tg g)
    (ht : ∀ (s : Shared) (H : Hp) (C : Addr) (cl : List (Str × Addr)) (fp : List Addr), JTs (X.blk s H scope (compEnvC scope cl C X.env) fp) ifs ft)
    (he : ∀ (s : Shared) (H : Hp) (C : Addr) (cl : List (Str × Addr)) (fp : List Addr), JE (X.blk s H scope (compEnvC scope cl C X.env) fp) elt fe) (hs : ∀ x, foldedSetIterable iter X.env x = pure x := by intro _; rfl) :
    JS X (.Assign [.Name y py] (.ListComp elt [⟨tg, iter, ifs, 0⟩] scope pos) spos) (mAsg (gN i) (mComp fi g ft fe (own.map (·.2)))) := by
  refine ps_weak (ps_setLc (g := tG X.K (own.map fun x : Str × Nat => x.2) g) (tt := tT X.K ft) (te := tE X.K (mAd fe)) hc hN hy hyl hsw hi ok hg ht (fun s H C cl fp => je_ad (he s H C cl fp)) hs) fun D σ H h => ?_
  obtain ⟨m, τ, h, r, R, S, e, q⟩ := h
  obtain ⟨⟨x, h1⟩, e1, e⟩ := bind_some' e
  cases e
  refine comp_sem σ H _ ⟨m, τ, h, x, h1, R, S, e1, fun m1 H1 v1 L1 S1 r1 n1 => ?_⟩
  obtain ⟨m2, L2, S2, r2⟩ := hold S1 L1 r1 n1
  exact q m2 H1 _ L2 S2 ((R.mono S.cl L2.toLw).set r2 i)
end

/-! ## defs -/
mutual
def D.low (n : Nat) : D → Bool
  | .tup ds => D.lows n ds
  | .zt ds => D.lows n ds
  | .fl ds => D.lows n ds
  | .ref a => decide (a < n)
  | _ => true
def D.lows (n : Nat) : List D → Bool
  | [] => true
  | d :: r => D.low n d && D.lows n r
end
def O.low (n : Nat) : O → Bool
  | .lst ds => D.lows n ds
  | .dic kvs => kvs.all fun p => p.1.low n && p.2.low n
/-- the objects that stood ahead of the call stand, or hold nothing new -/
def oldOk (n : Nat) : AH → AH → Bool
  | [], _ => true
  | o :: r, o' :: r' => (decide (o = o') || o'.low n) && oldOk n r r'
  | _ :: _, [] => false
/-- what a call hands back: what it has made and no one can reach is forgotten -/
def gc (h : AH) (d : D) (h' : AH) : D × AH :=
  if oldOk h.length h h' = true then
    if d.low h.length = true then (d, h'.take h.length)
    else match d with
      | .ref k => match h'[k]? with
        | some (.lst ds) => if D.lows h.length ds = true then (.ref h.length, h'.take h.length ++ [.lst ds]) else (d, h')
        | _ => (d, h')
      | _ => (d, h')
  else (d, h')
section
variable {K : PySem.W.Frag} {m m' : List Addr} {H : Hp} {h : AH}
theorem get_take {m : List Addr} {n i : Nat} {a : Addr} (h : i < n) (e : m[i]? = some a) : (m.take n)[i]? = some a := by
  rw [List.getElem?_take_of_lt h]
  exact e
mutual
theorem RV.cut (n : Nat) : ∀ {v : V} {d : D}, RV K m H v d → d.low n = true → RV K (m.take n) H v d
  | _, _, .non, _ => .non
  | _, _, .bl b, _ => .bl b
  | _, _, .int i, _ => .int i
  | _, _, .str x, _ => .str x
  | _, _, .tup f r, b => .tup f (RVs.cut n r (by unfold D.low at b; exact b))
  | _, _, .zt f r, b => .zt f (RVs.cut n r (by unfold D.low at b; exact b))
  | _, _, .fl f r, b => .fl f (RVs.cut n r (by unfold D.low at b; exact b))
  | _, _, .ref e, b => .ref (get_take (by unfold D.low at b; exact of_decide_eq_true b) e)
  | _, _, .ty n, _ => .ty n
theorem RVs.cut (n : Nat) : ∀ {vs : List V} {ds : List D}, RVs K m H vs ds → D.lows n ds = true → RVs K (m.take n) H vs ds
  | _, _, .nil, _ => .nil
  | _, _, .cons r t, b => by
    unfold D.lows at b
    rw [Bool.and_eq_true] at b
    exact .cons (RV.cut n r b.1) (RVs.cut n t b.2)
end
end
end Sm
namespace Sm
open PySem PySem.Spec PyProof.Rows L2
section
variable {K : PySem.W.Frag} {m m' : List Addr} {H H' : Hp} {h h' : AH}
theorem RKs.cut (n : Nat) : ∀ {ks : List (Key × V)} {kvs : List (D × D)}, RKs K m H ks kvs → (kvs.all fun p => p.1.low n && p.2.low n) = true → RKs K (m.take n) H ks kvs
  | _, _, .nil, _ => .nil
  | _, _, .int r t, b => by
    rw [List.all_cons, Bool.and_eq_true, Bool.and_eq_true] at b
    exact .int (RV.cut n r b.1.2) (RKs.cut n t b.2)
  | _, _, .str r t, b => by
    rw [List.all_cons, Bool.and_eq_true, Bool.and_eq_true] at b
    exact .str (RV.cut n r b.1.2) (RKs.cut n t b.2)
theorem RO.cut (n : Nat) {a : Addr} {o : O} (r : RO K m H a o) (b : o.low n = true) : RO K (m.take n) H a o := by
  cases o with
  | lst ds => obtain ⟨vs, e, r⟩ := r; exact ⟨vs, e, RVs.cut n r b⟩
  | dic ds => obtain ⟨vs, e, r⟩ := r; exact ⟨vs, e, RKs.cut n r b⟩
mutual
theorem RV.lowOf : ∀ {v : V} {d : D}, RV K m H v d → d.low m.length = true
  | _, _, .non => rfl
  | _, _, .bl b => rfl
  | _, _, .int i => rfl
  | _, _, .str x => rfl
  | _, _, .tup f r => by unfold D.low; exact RVs.lowOf r
  | _, _, .zt f r => by unfold D.low; exact RVs.lowOf r
  | _, _, .fl f r => by unfold D.low; exact RVs.lowOf r
  | _, _, .ref e => by unfold D.low; exact decide_eq_true (List.getElem?_eq_some_iff.mp e).1
  | _, _, .ty n => rfl
theorem RVs.lowOf : ∀ {vs : List V} {ds : List D}, RVs K m H vs ds → D.lows m.length ds = true
  | _, _, .nil => rfl
  | _, _, .cons r t => by
    unfold D.lows
    rw [RV.lowOf r, RVs.lowOf t]
    rfl
end
theorem RKs.lowOf : ∀ {ks : List (Key × V)} {kvs : List (D × D)}, RKs K m H ks kvs → (kvs.all fun p => p.1.low m.length && p.2.low m.length) = true
  | _, _, .nil => rfl
  | _, _, .int r t => by rw [List.all_cons, RKs.lowOf t, r.lowOf]; rfl
  | _, _, .str r t => by rw [List.all_cons, RKs.lowOf t, r.lowOf]; rfl
theorem RO.lowOf {a : Addr} {o : O} (r : RO K m H a o) : o.low m.length = true := by
  cases o with
  | lst ds => obtain ⟨vs, e, r⟩ := r; exact r.lowOf
  | dic ds => obtain ⟨vs, e, r⟩ := r; exact r.lowOf
theorem oldOk_get {n : Nat} : ∀ {h h' : AH} {i : Nat} {o : O}, oldOk n h h' = true → h[i]? = some o → ∃ o', h'[i]? = some o' ∧ (o' = o ∨ o'.low n = true)
  | [], _, _, _, _, e => by simp at e
  | _ :: _, [], _, _, b, _ => by cases b
  | a :: r, a' :: r', 0, o, b, e => by
    unfold oldOk at b
    rw [Bool.and_eq_true, Bool.or_eq_true] at b
    have e' : a = o := Option.some.inj e
    subst e'
    refine ⟨a', rfl, ?_⟩
    rcases b.1 with z | z
    · exact .inl (of_decide_eq_true z).symm
    · exact .inr z
  | a :: r, a' :: r', i + 1, o, b, e => by
    unfold oldOk at b
    rw [Bool.and_eq_true] at b
    exact oldOk_get (i := i) b.2 (by simpa using e)
theorem oldOk_len {n : Nat} : ∀ {h h' : AH}, oldOk n h h' = true → h.length ≤ h'.length
  | [], _, _ => Nat.zero_le _
  | _ :: _, [], b => by cases b
  | a :: r, a' :: r', b => by
    unfold oldOk at b
    rw [Bool.and_eq_true] at b
    exact Nat.succ_le_succ (oldOk_len b.2)
/-- the objects that stood ahead, told without what is new -/
theorem sim_cut (S0 : Sim K m h H) (L : Le m H m' H') (S : Sim K m' h' H') (b : oldOk h.length h h' = true) : Sim K m (h'.take h.length) H' := by
  have hm : m'.take h.length = m := by
    obtain ⟨t, rfl⟩ := L.pre
    rw [← S0.len]
    exact List.take_left
  refine ⟨by rw [List.length_take, S0.len]; have := oldOk_len b; omega, S0.nd, fun i a o e1 e2 => ?_⟩
  have hi : i < m.length := (List.getElem?_eq_some_iff.mp e1).1
  rw [List.getElem?_take_of_lt (by rw [← S0.len]; exact hi)] at e2
  have r := S.ob i a o (L.get e1) e2
  have hl : o.low h.length = true := by
    obtain ⟨o', e3, z⟩ := oldOk_get b (List.getElem?_eq_getElem (by rw [← S0.len]; exact hi))
    rw [e2] at e3
    cases e3
    rcases z with z | z
    · have w := (S0.ob i a _ e1 (List.getElem?_eq_getElem (by rw [← S0.len]; exact hi))).lowOf
      rw [← z] at w
      rw [← S0.len]
      exact w
    · exact z
  have r2 := r.cut h.length hl
  rw [hm] at r2
  exact r2
theorem gc_ok (S0 : Sim K m h H) (L : Le m H m' H') (S : Sim K m' h' H') {v : V} {d : D} (r : RV K m' H' v d) : ∃ m2, Le m H m2 H' ∧ Sim K m2 (gc h d h').2 H' ∧ RV K m2 H' v (gc h d h').1 := by
  have hm : m'.take h.length = m := by
    obtain ⟨t, rfl⟩ := L.pre
    rw [← S0.len]
    exact List.take_left
  unfold gc
  by_cases b : oldOk h.length h h' = true
  · rw [if_pos b]
    have S1 := sim_cut S0 L S b
    by_cases c : d.low h.length = true
    · rw [if_pos c]
      refine ⟨m, ⟨⟨⟨[], by simp⟩, L.fr⟩, fun a h1 h2 => absurd h1 h2⟩, S1, ?_⟩
      have r2 := RV.cut h.length r c
      rw [hm] at r2
      exact r2
    · rw [if_neg c]
      cases d with
      | ref k =>
        dsimp only
        cases hk : h'[k]? with
        | none => exact ⟨m', L, S, r⟩
        | some o =>
          cases o with
          | dic _ => exact ⟨m', L, S, r⟩
          | lst ds =>
            dsimp only
            by_cases c2 : D.lows h.length ds = true
            · rw [if_pos c2]
              cases r with
              | @ref p i e =>
                obtain ⟨vs, ev, rv⟩ := S.lst e hk
                have hkn : h.length ≤ k := by
                  unfold D.low at c
                  rcases Nat.lt_or_ge k h.length with z | z
                  · exact absurd (decide_eq_true z) c
                  · exact z
                have hp : p ∉ m := fun z => by
                  obtain ⟨j, hj, ej⟩ := List.getElem_of_mem z
                  have e5 : m'[j]? = some p := L.get (by rw [List.getElem?_eq_getElem hj, ej])
                  have hk' : k < m'.length := (List.getElem?_eq_some_iff.mp e).1
                  have hj' : j < m'.length := (List.getElem?_eq_some_iff.mp e5).1
                  rw [List.getElem?_eq_getElem hk'] at e
                  rw [List.getElem?_eq_getElem hj'] at e5
                  have := (List.getElem_inj S.nd).mp ((Option.some.inj e).trans (Option.some.inj e5).symm)
                  have := S0.len
                  omega
                have rv2 := RVs.cut h.length rv c2
                rw [hm] at rv2
                have Lg : Lw m H' (m ++ [p]) H' := ⟨⟨[p], rfl⟩, fun a o z _ => z⟩
                refine ⟨m ++ [p], ⟨⟨⟨[p], rfl⟩, L.fr⟩, fun a h1 h2 => ?_⟩, ?_, ?_⟩
                · rcases List.mem_append.mp h1 with w | w
                  · exact absurd w h2
                  · rw [List.mem_singleton.mp w]
                    exact L.nw p (List.mem_of_getElem? e) hp
                · refine ⟨by simp [S1.len], nodup_add S1.nd hp, fun i a ob e1 e2 => ?_⟩
                  rcases get_add e1 with z | ⟨z, rfl⟩
                  · have hi : i < m.length := (List.getElem?_eq_some_iff.mp z).1
                    rw [List.getElem?_append_left (by rw [← S1.len]; exact hi)] at e2
                    exact (S1.ob i a ob z e2).mono S1.cl Lg rfl
                  · rw [z, S1.len, List.getElem?_append_right (Nat.le_refl _), Nat.sub_self] at e2
                    cases e2
                    exact ⟨vs, ev, rv2.mono S1.cl Lg⟩
                · refine .ref ?_
                  rw [← S0.len, List.getElem?_append_right (Nat.le_refl _), Nat.sub_self]
                  rfl
            · rw [if_neg c2]
              exact ⟨m', L, S, r⟩
      | _ => exact ⟨m', L, S, r⟩
  · rw [if_neg b]
    exact ⟨m', L, S, r⟩
end
/-- what a def does: n parameters, nn names -/
def runDef (n nn : Nat) (body : SS) : SF := fun ds h => if ds.length = n then (body (ds.map some ++ List.replicate (nn - n) none) h).bind fun r => match r with
  | .nx _ h' => some (gc h .non h')
  | .rt d h' => some (gc h d h')
  | _ => none else none
theorem rst_start {K : PySem.W.Frag} {m : List Addr} {H : Hp} {vs : List V} {ds : List D} (r : RVs K m H vs ds) (k : Nat) : RSt K m H (vs.map some ++ List.replicate k none) (ds.map some ++ List.replicate k none) := by
  refine ⟨by simp [r.length], fun i d e => ?_⟩
  by_cases hi : i < ds.length
  · have hi2 : i < vs.length := by rw [r.length]; exact hi
    rw [List.getElem?_append_left (by simpa using hi)] at e
    rw [List.getElem?_append_left (by simpa using hi2)]
    rw [List.getElem?_map] at e ⊢
    rw [List.getElem?_eq_getElem hi] at e
    cases e
    obtain ⟨v, e1, r1⟩ := r.get (List.getElem?_eq_getElem hi)
    exact ⟨v, by rw [e1]; rfl, r1⟩
  · rw [List.getElem?_append_right (by simpa using hi)] at e
    rw [List.getElem?_replicate] at e
    split at e <;> cases e
theorem fn_sem {P : Program} {w : World} {K : PySem.W.Frag} {mg : Str → Option Value} {base : Heap} {x qual : Str} {st : Stmt} {f : Addr} {fd : FuncData} {N ps : List Str} {k n nn : Nat} {body : SS}
    (F : Fun K x qual st f fd) (Sc : FnScope N ps (defScope st)) (hn : ps.length = n) (hN : N.length = nn)
    (hb : ∀ (cdv : Value) (A : Around) (outer : List Env) (s : Shared) (H : Hp) (E : XK), Room k (A.deeper (envOfC qual (defScope st) s.heap.objs.size f cdv)) →
      JB (cxOf CX0 P w K mg base N qual (defScope st) f cdv A outer s H E).nox (defBody st) body) : FnOk P w K mg base CX0 (k + 1) f fd ps (spF K n (runDef n nn body)) := by
  refine F.ok Sc (fun vs H Q E ⟨m, h, ds, d, h', S, r, hl, _⟩ => by rw [r.length, hl, hn]) fun cdv A outer s H vs Q E hr hsp => ?_
  obtain ⟨m, h, ds, d, h', S, r, hl, e, q⟩ := hsp
  refine ⟨_, hb cdv A outer s H E hr, ?_⟩
  unfold runDef at e
  rw [if_pos hl] at e
  obtain ⟨r1, e1, e⟩ := bind_some' e
  have R := rst_start r (nn - n)
  refine ⟨m, _, h, r1, ?_, S, e1, ?_⟩
  · unfold L2.start
    rw [hN, r.length, hl]
    exact R
  · cases r1 with
    | nx τ' h1 =>
      intro m' H' σ' L' S' R'
      obtain ⟨m2, L2, S2, r2⟩ := gc_ok S L' S' (RV.non (K := K) (m := m') (H := H'))
      have e2 := Option.some.inj e
      rw [e2] at S2 r2
      exact q m2 H' _ L2 S2 r2
    | rt d1 h1 =>
      intro m' H' v L' S' r'
      obtain ⟨m2, L2, S2, r2⟩ := gc_ok S L' S' r'
      have e2 := Option.some.inj e
      rw [e2] at S2 r2
      exact q m2 H' v L2 S2 r2
    | bk τ' h1 => cases e
    | ct τ' h1 => cases e
theorem fn_none {P : Program} {w : World} {K : PySem.W.Frag} {mg : Str → Option Value} {base : Heap} {CX : CXT} {k : Nat} {f : Addr} {fd : FuncData} {ps : List Str} {sp : Sp} (no : ∀ vs H Q E, ¬ sp vs H Q E) : FnOk P w K mg base CX k f fd ps sp :=
  ⟨fun vs H Q E h => absurd h (no vs H Q E), fun A outer s H args us vs Q E _ _ _ _ h => absurd h (no vs H Q E)⟩
end Sm
namespace Sm
open PySem PySem.Spec PyProof.Rows L2

/-! ## lists and tuples as what they hold -/
/-- a list that may be changed -/
def asM : LV → AH → Option (List D)
  | .new ds, _ => some ds
  | .val (.ref a), h => match h[a]? with
    | some (.lst ds) => some ds
    | _ => none
  | _, _ => none
def asL : LV → AH → Option (List D)
  | .val (.fl ds), _ => some ds
  | q, h => asM q h
def asT : LV → Option (List D)
  | .val (.tup ds) => some ds
  | .val (.zt ds) => some ds
  | _ => none
def asQ : LV → AH → Option (List D)
  | .val (.tup ds), _ => some ds
  | .val (.zt ds), _ => some ds
  | q, h => asL q h
section
variable {K : PySem.W.Frag} {m : List Addr} {h : AH} {H : Hp} {v : V} {q : LV} {ds : List D}
theorem asM_ok (S : Sim K m h H) (r : RQ K m H v q) (e : asM q h = some ds) : ∃ p vs, v = .ref p ∧ H p = some (.lst vs) ∧ RVs K m H vs ds := by
  cases r with
  | new hn e1 r z => cases e; exact ⟨_, _, rfl, e1, r⟩
  | val r =>
    cases r with
    | ref e1 =>
      unfold asM at e
      dsimp only at e
      split at e
      · rename_i hh
        cases e
        obtain ⟨vs, e2, r2⟩ := S.lst e1 hh
        exact ⟨_, vs, rfl, e2, r2⟩
      · cases e
    | _ => cases e
theorem asL_ok (S : Sim K m h H) (r : RQ K m H v q) (e : asL q h = some ds) : ∃ p vs, v = .ref p ∧ SqL K H p vs ∧ RVs K m H vs ds := by
  have gen : asM q h = some ds → ∃ p vs, v = .ref p ∧ SqL K H p vs ∧ RVs K m H vs ds := fun e => by
    obtain ⟨p, vs, e1, e2, r2⟩ := asM_ok S r e
    exact ⟨p, vs, e1, SqL.of e2, r2⟩
  cases r with
  | new hn e1 r z => exact gen e
  | val r =>
    cases r with
    | fl f r => cases e; exact ⟨_, _, rfl, f.sq, r⟩
    | _ => exact gen e
theorem asT_ok (r : RQ K m H v q) (e : asT q = some ds) : ∃ p vs, v = .ref p ∧ SqT K H p vs ∧ RVs K m H vs ds := by
  cases r with
  | new hn e1 r z => cases e
  | val r =>
    cases r with
    | tup f r => cases e; exact ⟨_, _, rfl, f.sq, r⟩
    | zt f r => cases e; exact ⟨_, _, rfl, f, r⟩
    | _ => cases e
theorem asQ_ok (S : Sim K m h H) (r : RQ K m H v q) (e : asQ q h = some ds) : ∃ p vs, v = .ref p ∧ (SqL K H p vs ∨ SqT K H p vs) ∧ RVs K m H vs ds := by
  have gen : asL q h = some ds → ∃ p vs, v = .ref p ∧ (SqL K H p vs ∨ SqT K H p vs) ∧ RVs K m H vs ds := fun e => by
    obtain ⟨p, vs, e1, e2, r2⟩ := asL_ok S r e
    exact ⟨p, vs, e1, .inl e2, r2⟩
  cases r with
  | new hn e1 r z => exact gen e
  | val r =>
    cases r with
    | tup f r => cases e; exact ⟨_, _, rfl, .inr f.sq, r⟩
    | zt f r => cases e; exact ⟨_, _, rfl, .inr f, r⟩
    | fl f r => exact gen e
    | ref f => exact gen e
    | _ => cases e
end
theorem szL {n : Nat} (h : n ≤ 16777216) : n ≤ sizeLine := by rw [sizeLine_eq]; exact h

/-! ## ints -/
def opII (C : Int → Int → Bool) (f : Int → Int → D) : Op2
  | .val (.int i), .val (.int j), h => if C i j = true then some (.val (f i j), h) else none
  | _, _, _ => none
theorem inv_int {K : PySem.W.Frag} {m : List Addr} {H : Hp} {v : V} {i : Int} (r : RQ K m H v (.val (.int i))) : v = .int i := by
  cases r with
  | val r => cases r; rfl
theorem inv_str {K : PySem.W.Frag} {m : List Addr} {H : Hp} {v : V} {i : Str} (r : RQ K m H v (.val (.str i))) : v = .str i := by
  cases r with
  | val r => cases r; rfl
theorem inv_bl {K : PySem.W.Frag} {m : List Addr} {H : Hp} {v : V} {i : Bool} (r : RQ K m H v (.val (.bl i))) : v = .bl i := by
  cases r with
  | val r => cases r; rfl
theorem simII {K : PySem.W.Frag} {C : Int → Int → Bool} {P : Int → Int → Prop} {f : Int → Int → D} {g : Int → Int → V} (hC : ∀ i j, C i j = true → P i j) (hf : ∀ m H i j, RV K m H (g i j) (f i j)) : SimR K (rI P g) (opII C f) := by
  intro m h H x y dx dy d h' Q S rx ry e q
  unfold opII at e
  split at e
  · obtain ⟨c, e⟩ := ite_some' e
    cases e
    exact ⟨_, _, inv_int rx, inv_int ry, hC _ _ c, q m H _ (Le.refl _ _) S (.val (hf _ _ _ _)) (nwV _ _ _)⟩
  · cases e
theorem simII0 {K : PySem.W.Frag} {f : Int → Int → D} {g : Int → Int → V} (hf : ∀ m H i j, RV K m H (g i j) (f i j)) : SimR K (rI0 g) (opII (fun _ _ => true) f) := by
  intro m h H x y dx dy d h' Q S rx ry e q
  unfold opII at e
  split at e
  · obtain ⟨c, e⟩ := ite_some' e
    cases e
    exact ⟨_, _, inv_int rx, inv_int ry, q m H _ (Le.refl _ _) S (.val (hf _ _ _ _)) (nwV _ _ _)⟩
  · cases e
def mulC (i j : Int) : Bool := decide (i.natAbs < 18446744073709551616) || decide (j.natAbs < 18446744073709551616)
def oSub : Op2 := opII (fun _ _ => true) fun i j => .int (i - j)
def oMulI : Op2 := opII mulC fun i j => .int (i * j)
def oDiv : Op2 := opII (fun _ j => decide (j ≠ 0) && decide (j.natAbs < 1073741824)) fun i j => .int (i.fdiv j)
def oMod : Op2 := opII (fun _ j => decide (j ≠ 0)) fun i j => .int (i.fmod j)
def oPow : Op2 := opII (fun i j => decide (0 ≤ j) && decide (j ≤ 1000000) && decide (i.natAbs < 18446744073709551616)) fun i j => .int (i ^ j.toNat)
def oLt : Op2 := opII (fun _ _ => true) fun i j => .bl (decide (i < j))
def oLe : Op2 := opII (fun _ _ => true) fun i j => .bl (decide (i ≤ j))
def oGt : Op2 := opII (fun _ _ => true) fun i j => .bl (decide (j < i))
def oGe : Op2 := opII (fun _ _ => true) fun i j => .bl (decide (j ≤ i))
section
variable {X : Cx} {a b : Expr} {es : List Expr} {fa fb : SE} {fr : SA} {pos : Pos}
theorem je_sub (ha : JE X a fa) (hb : JE X b fb) : JE X (.BinOp a .Sub b pos) (mBin oSub fa fb) := je_bin op_sub (simII0 fun _ _ _ _ => .int _) ha hb
theorem two64 : (2 : Int) ^ 64 = 18446744073709551616 := by decide
theorem je_div (ha : JE X a fa) (hb : JE X b fb) : JE X (.BinOp a .FloorDiv b pos) (mBin oDiv fa fb) := je_bin op_fdivN (simII (fun i j c => by
  rw [Bool.and_eq_true] at c
  exact ⟨of_decide_eq_true c.1, of_decide_eq_true c.2⟩) fun _ _ _ _ => .int _) ha hb
theorem je_mod (ha : JE X a fa) (hb : JE X b fb) : JE X (.BinOp a .Mod b pos) (mBin oMod fa fb) := je_bin op_modN (simII (fun i j c => of_decide_eq_true c) fun _ _ _ _ => .int _) ha hb
theorem je_pow (ha : JE X a fa) (hb : JE X b fb) : JE X (.BinOp a .Pow b pos) (mBin oPow fa fb) := je_bin op_pow (simII (fun i j c => by
  rw [Bool.and_eq_true, Bool.and_eq_true] at c
  exact ⟨of_decide_eq_true c.1.1, of_decide_eq_true c.1.2, of_decide_eq_true c.2⟩) fun _ _ _ _ => .int _) ha hb
theorem je_lt (ha : JE X a fa) (hb : JE X b fb) : JE X (.Compare a [.Lt] [b] pos) (mBin oLt fa fb) := je_cmp op_lt (simII0 fun _ _ _ _ => .bl _) ha hb (nomark _)
theorem je_le (ha : JE X a fa) (hb : JE X b fb) : JE X (.Compare a [.LtE] [b] pos) (mBin oLe fa fb) := je_cmp op_le (simII0 fun _ _ _ _ => .bl _) ha hb (nomark _)
theorem je_gt (ha : JE X a fa) (hb : JE X b fb) : JE X (.Compare a [.Gt] [b] pos) (mBin oGt fa fb) := je_cmp op_gt (simII0 fun _ _ _ _ => .bl _) ha hb (nomark _)
theorem je_ge (ha : JE X a fa) (hb : JE X b fb) : JE X (.Compare a [.GtE] [b] pos) (mBin oGe fa fb) := je_cmp op_ge (simII0 fun _ _ _ _ => .bl _) ha hb (nomark _)
def oNeg : Op1
  | .val (.int i), h => some (.val (.int (-i)), h)
  | _, _ => none
theorem je_neg (ha : JE X a fa) : JE X (.UnaryOp .USub a pos) (mUn oNeg fa) := je_un un_neg (fun m h H x dx d h' Q S rx e q => by
  unfold oNeg at e
  split at e
  · cases e
    exact ⟨_, inv_int rx, q m H _ (Le.refl _ _) S (.val (.int _)) (nwV _ _ _)⟩
  · cases e) ha
end

/-! ## + -/
def rCatF (K : PySem.W.Frag) : R2 := fun x y H Q => ∃ a b xs ys, x = .ref a ∧ y = .ref b ∧ SqT K H a xs ∧ SqT K H b ys ∧ xs.length + ys.length ≤ sizeLine ∧
  (xs = [] → Q (.ref b) H) ∧ (xs ≠ [] → ys = [] → Q (.ref a) H) ∧ (xs ≠ [] → ys ≠ [] → FzN H (xs ++ ys) Q)
theorem op_catF {X : Cx} : OpR X (binaryOp .Add) (rCatF X.K) := by
  intro pins s σ H x y v u Q I rx ry h
  obtain ⟨a, b, xs, ys, rfl, rfl, ha, hb, hz, q0, q1, q2⟩ := h
  cases rx
  cases ry
  obtain ⟨us, r1, t1, _⟩ := I.tuple ha
  obtain ⟨ws, r2, t2, _⟩ := I.tuple hb
  by_cases hx : xs = []
  · subst hx
    cases r1
    exact cat_tup0 t1 t2 ⟨.ref b, H, I, rfl, q0 rfl⟩
  · have hx' : us ≠ [] := fun z => hx (r1.nil_iff.mp z)
    refine HT.cat_tup t1 t2 hx' (fun z => ⟨.ref a, H, I, rfl, q1 hx (r2.nil_iff.mp z)⟩) (fun z => ?_) (by rw [← r1.length, ← r2.length]; exact hz)
    exact inv_newT I (r1.append r2) (by rw [List.length_append]; exact hz) (q2 hx fun w => z (r2.nil_iff.mpr w)) rfl
def oAdd : Op2
  | .val (.int i), .val (.int j), h => some (.val (.int (i + j)), h)
  | .val (.str x), .val (.str y), h => if x.length + y.length ≤ 16777216 then some (.val (.str (x ++ y)), h) else none
  | .val (.tup xs), .val (.tup ys), h => if xs.length + ys.length ≤ 16777216 then some (.val (.tup (xs ++ ys)), h) else none
  | p, q, h => (asM p h).bind fun xs => (asM q h).bind fun ys => if xs.length + ys.length ≤ 16777216 then some (.new (xs ++ ys), h) else none
theorem sim_add {K : PySem.W.Frag} : SimR K (fun x y H Q => rI0 (fun i j => .int (i + j)) x y H Q ∨ ((∃ i j, x = .str i ∧ y = .str j ∧ i.length + j.length ≤ sizeLine ∧ Q (.str (i ++ j)) H) ∨ (rCatF K x y H Q ∨ rCat x y H Q))) oAdd := by
  intro m h H x y dx dy d h' Q S rx ry e q
  unfold oAdd at e
  split at e
  · cases e
    exact .inl ⟨_, _, inv_int rx, inv_int ry, q m H _ (Le.refl _ _) S (.val (.int _)) (nwV _ _ _)⟩
  · obtain ⟨z, e⟩ := ite_some' e
    cases e
    exact .inr (.inl ⟨_, _, inv_str rx, inv_str ry, szL z, q m H _ (Le.refl _ _) S (.val (.str _)) (nwV _ _ _)⟩)
  · obtain ⟨z, e⟩ := ite_some' e
    cases e
    cases rx with
    | val rx =>
      cases ry with
      | val ry =>
        cases rx with
        | tup f1 r1 =>
          cases ry with
          | tup f2 r2 =>
            refine .inr (.inr (.inl ⟨_, _, _, _, rfl, rfl, f1.sq, f2.sq, by rw [r1.length, r2.length]; exact szL z, fun w => ?_, fun w1 w2 => ?_, fun _ _ p o hp hc hd => ?_⟩))
            · subst w
              cases r1
              exact q m H _ (Le.refl _ _) S (.val (.tup f2 r2)) (nwV _ _ _)
            · subst w2
              cases r2
              rw [List.append_nil] at q
              exact q m H _ (Le.refl _ _) S (.val (.tup f1 r1)) (nwV _ _ _)
            · exact q m _ _ (Le.upd S.cl hp _) (S.upd hp _) (.val (RV.tupN S hp hc hd (r1.append r2))) (nwV _ _ _)
  · obtain ⟨xs, e1, e⟩ := bind_some' e
    obtain ⟨ys, e2, e⟩ := bind_some' e
    obtain ⟨z, e⟩ := ite_some' e
    cases e
    obtain ⟨p1, vs1, rfl, a1, r1⟩ := asM_ok S rx e1
    obtain ⟨p2, vs2, rfl, a2, r2⟩ := asM_ok S ry e2
    refine .inr (.inr (.inr ⟨_, _, _, _, rfl, rfl, a1, a2, by rw [r1.length, r2.length]; exact szL z, fun p hp => ?_⟩))
    exact q m _ _ (Le.upd S.cl hp _) (S.upd hp _) (RQ.newN S hp (r1.append r2) (by rw [List.length_append]; exact z)) hp
theorem je_add {X : Cx} {a b : Expr} {fa fb : SE} {pos : Pos} (ha : JE X a fa) (hb : JE X b fb) : JE X (.BinOp a .Add b pos) (mBin oAdd fa fb) :=
  je_bin (op_add.or (op_add_str.or (op_catF.or op_cat))) sim_add ha hb

/-! ## * : ints, a list by an int -/
def oMul : Op2
  | .val (.int i), .val (.int j), h => if mulC i j = true then some (.val (.int (i * j)), h) else none
  | p, .val (.int k), h => (asM p h).bind fun xs => if (decide (k.natAbs < 9223372036854775808) && decide (xs.length * k.toNat ≤ 16777216)) = true then some (.new (List.replicate k.toNat xs).flatten, h) else none
  | _, _, _ => none
theorem two63 : (2 : Int) ^ 63 = 9223372036854775808 := by decide
theorem mulC_ok {i j : Int} (c : mulC i j = true) : CMul i j := by
  unfold mulC at c
  unfold CMul
  rw [two64]
  rw [Bool.or_eq_true] at c
  rcases c with c1 | c1
  · have z := of_decide_eq_true c1
    exact .inl (by omega)
  · have z := of_decide_eq_true c1
    exact .inr (by omega)
theorem len_rep {α : Type} (xs : List α) (k : Nat) : (List.replicate k xs).flatten.length = xs.length * k := by
  induction k with
  | zero => simp
  | succ k ih => rw [List.replicate_succ, List.flatten_cons, List.length_append, ih, Nat.mul_succ, Nat.add_comm]
theorem sim_mul {K : PySem.W.Frag} : SimR K (fun x y H Q => rI CMul (fun i j => .int (i * j)) x y H Q ∨ rRep x y H Q) oMul := by
  intro m h H x y dx dy d h' Q S rx ry e q
  unfold oMul at e
  split at e
  · obtain ⟨c, e⟩ := ite_some' e
    cases e
    exact .inl ⟨_, _, inv_int rx, inv_int ry, mulC_ok c, q m H _ (Le.refl _ _) S (.val (.int _)) (nwV _ _ _)⟩
  · obtain ⟨xs, e1, e⟩ := bind_some' e
    obtain ⟨c, e⟩ := ite_some' e
    cases e
    rw [Bool.and_eq_true] at c
    obtain ⟨p1, vs1, rfl, a1, r1⟩ := asM_ok S rx e1
    have z := of_decide_eq_true c.2
    have z1 := of_decide_eq_true c.1
    refine .inr ⟨_, _, _, rfl, inv_int ry, a1, by rw [two63]; omega, by rw [two63]; omega, by rw [r1.length]; exact szL z, fun p hp => ?_⟩
    exact q m _ _ (Le.upd S.cl hp _) (S.upd hp _) (RQ.newN S hp (r1.replicate _) (by rw [len_rep]; exact z)) hp
  · cases e
theorem je_mul {X : Cx} {a b : Expr} {fa fb : SE} {pos : Pos} (ha : JE X a fa) (hb : JE X b fb) : JE X (.BinOp a .Mult b pos) (mBin oMul fa fb) :=
  je_bin (op_mul.or op_rep) sim_mul ha hb
end Sm
namespace Sm
open PySem PySem.Spec PyProof.Rows L2

/-! ## == and != -/
mutual
/-- data without truths, objects, classes; texts of true signs -/
def D.nb : D → Bool
  | .non => true
  | .int _ => true
  | .str x => PyData.strOk x
  | .tup ds => D.nbs ds
  | .fl ds => D.nbs ds
  | _ => false
def D.nbs : List D → Bool
  | [] => true
  | d :: r => D.nb d && D.nbs r
end
mutual
def D.dep : D → Nat
  | .tup ds => D.deps ds + 1
  | .fl ds => D.deps ds + 1
  | _ => 0
def D.deps : List D → Nat
  | [] => 0
  | d :: r => max (D.dep d) (D.deps r)
end
mutual
def D.toP : D → PyData
  | .int i => .int i
  | .str x => .str x
  | .tup ds => .tuple (D.toPs ds)
  | .fl ds => .list (D.toPs ds)
  | _ => .none
def D.toPs : List D → List PyData
  | [] => []
  | d :: r => D.toP d :: D.toPs r
end
mutual
theorem toP_lay : ∀ d : D, d.nb = true → d.toP.canLay0 = true
  | .non, _ => rfl
  | .int _, _ => rfl
  | .str x, h => by unfold D.nb at h; unfold D.toP PyData.canLay0; exact h
  | .tup ds, h => by unfold D.nb at h; unfold D.toP PyData.canLay0; exact toPs_lay ds h
  | .fl ds, h => by unfold D.nb at h; unfold D.toP PyData.canLay0; exact toPs_lay ds h
theorem toPs_lay : ∀ ds : List D, D.nbs ds = true → PyData.canLayAll0 (D.toPs ds) = true
  | [], _ => rfl
  | d :: r, h => by
    unfold D.nbs at h
    rw [Bool.and_eq_true] at h
    unfold D.toPs PyData.canLayAll0
    rw [toP_lay d h.1, toPs_lay r h.2]
    rfl
end
mutual
theorem toP_dep : ∀ d : D, d.toP.depth = d.dep
  | .non => rfl
  | .bl _ => rfl
  | .int _ => rfl
  | .str x => rfl
  | .tup ds => by unfold D.toP PyData.depth D.dep; rw [toPs_dep ds]
  | .zt ds => rfl
  | .fl ds => by unfold D.toP PyData.depth D.dep; rw [toPs_dep ds]
  | .ref _ => rfl
  | .ty _ => rfl
theorem toPs_dep : ∀ ds : List D, PyData.depthAll (D.toPs ds) = D.deps ds
  | [] => rfl
  | d :: r => by unfold D.toPs PyData.depthAll D.deps; rw [toP_dep d, toPs_dep r]
end
mutual
theorem toP_eqv : ∀ a b : D, a.nb = true → b.nb = true → PyData.eqv a.toP b.toP = decide (a = b)
  | .non, b, _, hb => by cases b <;> first | rfl | cases hb
  | .int i, b, _, hb => by
    cases b with
    | int j =>
      unfold D.toP PyData.eqv
      rw [Bool.eq_iff_iff]
      simp
    | _ => first | rfl | cases hb
  | .str x, b, _, hb => by
    cases b with
    | str y =>
      unfold D.toP PyData.eqv
      rw [Bool.eq_iff_iff]
      simp
    | _ => first | rfl | cases hb
  | .tup ds, b, ha, hb => by
    unfold D.nb at ha
    cases b with
    | tup es =>
      unfold D.nb at hb
      unfold D.toP PyData.eqv
      rw [toPs_eqv ds es ha hb, Bool.eq_iff_iff]
      simp
    | _ => first | rfl | cases hb
  | .fl ds, b, ha, hb => by
    unfold D.nb at ha
    cases b with
    | fl es =>
      unfold D.nb at hb
      unfold D.toP PyData.eqv
      rw [toPs_eqv ds es ha hb, Bool.eq_iff_iff]
      simp
    | _ => first | rfl | cases hb
theorem toPs_eqv : ∀ a b : List D, D.nbs a = true → D.nbs b = true → PyData.eqvAll (D.toPs a) (D.toPs b) = decide (a = b)
  | [], [], _, _ => by simp [D.toPs, PyData.eqvAll]
  | [], _ :: _, _, _ => by simp [D.toPs, PyData.eqvAll]
  | _ :: _, [], _, _ => by simp [D.toPs, PyData.eqvAll]
  | d :: r, e :: s, ha, hb => by
    unfold D.nbs at ha hb
    rw [Bool.and_eq_true] at ha hb
    unfold D.toPs PyData.eqvAll
    rw [toP_eqv d e ha.1 hb.1, toPs_eqv r s ha.2 hb.2, Bool.eq_iff_iff]
    simp
end
section
variable {K : PySem.W.Frag} {m : List Addr} {h : AH} {H : Hp}
mutual
theorem RV.dp : ∀ {v : V} {d : D}, RV K m H v d → d.nb = true → Dp K H v d.toP
  | _, _, .non, _ => .non
  | _, _, .int i, _ => .int i
  | _, _, .str x, _ => .str x
  | _, _, .tup f r, b => .tup f.sq (RVs.dp r (by unfold D.nb at b; exact b))
  | _, _, .fl f r, b => .lst f.sq (RVs.dp r (by unfold D.nb at b; exact b))
  | _, _, .bl _, b => by simp [D.nb] at b
  | _, _, .ty _, b => by simp [D.nb] at b
  | _, _, .zt _ _, b => by simp [D.nb] at b
  | _, _, .ref _, b => by simp [D.nb] at b
theorem RVs.dp : ∀ {vs : List V} {ds : List D}, RVs K m H vs ds → D.nbs ds = true → DpAll K H vs (D.toPs ds)
  | _, _, .nil, _ => .nil
  | _, _, .cons r t, b => by
    unfold D.nbs at b
    rw [Bool.and_eq_true] at b
    exact .cons (RV.dp r b.1) (RVs.dp t b.2)
end
/-- what == sees -/
def dat : LV → AH → D
  | .new ds, _ => .fl ds
  | .val (.ref a), h => match h[a]? with
    | some (.lst ds) => .fl ds
    | _ => .ref a
  | .val d, _ => d
theorem dat_dp (S : Sim K m h H) {v : V} {q : LV} (r : RQ K m H v q) (b : (dat q h).nb = true) : Dp K H v (dat q h).toP := by
  cases r with
  | new hn e r z => exact .lst (SqL.of e) (r.dp (by unfold dat D.nb at b; exact b))
  | val r =>
    cases r with
    | ref e =>
      unfold dat at b ⊢
      dsimp only at b ⊢
      split at b
      · rename_i ds hh
        obtain ⟨vs, e2, r2⟩ := S.lst e hh
        exact .lst (SqL.of e2) (r2.dp (by unfold D.nb at b; exact b))
      · cases b
    | non => exact .non
    | bl _ => cases b
    | ty _ => cases b
    | zt _ _ => cases b
    | int i => exact .int i
    | str x => exact .str x
    | tup f r => exact (RV.tup f r).dp b
    | fl f r => exact (RV.fl f r).dp b
end
def okEq (a b : D) : Bool := a.nb && b.nb && decide (a.dep ≤ 64) && decide (b.dep ≤ 64)
def eqC (neg : Bool) : Op2
  | .val (.str x), .val (.str y), h => some (.val (.bl (if neg then !decide (x = y) else decide (x = y))), h)
  | .val (.bl x), .val (.bl y), h => some (.val (.bl (if neg then !decide (x = y) else decide (x = y))), h)
  | p, q, h => if okEq (dat p h) (dat q h) = true then some (.val (.bl (if neg then !decide (dat p h = dat q h) else decide (dat p h = dat q h))), h) else none
def oEq : Op2 := eqC false
def oNe : Op2 := eqC true
theorem sim_eq {K : PySem.W.Frag} : SimR K (fun x y H Q => rEq x y H Q ∨ rEqD K x y H Q) oEq := by
  intro m h H x y dx dy d h' Q S rx ry e q
  unfold oEq eqC at e
  split at e
  · cases e
    refine .inl ?_
    rw [inv_str rx, inv_str ry]
    refine ⟨rfl, ?_⟩
    have w := q m H _ (Le.refl _ _) S (.val (.bl _)) (nwV _ _ _)
    rw [dec_str]
    exact w
  · cases e
    refine .inl ?_
    rw [inv_bl rx, inv_bl ry]
    refine ⟨rfl, ?_⟩
    have w := q m H _ (Le.refl _ _) S (.val (.bl _)) (nwV _ _ _)
    rw [dec_bl]
    exact w
  · obtain ⟨c, e⟩ := ite_some' e
    cases e
    unfold okEq at c
    rw [Bool.and_eq_true, Bool.and_eq_true, Bool.and_eq_true] at c
    obtain ⟨⟨⟨c1, c2⟩, c3⟩, c4⟩ := c
    refine .inr ⟨_, _, dat_dp S rx c1, dat_dp S ry c2, ?_, ?_, ?_⟩
    · unfold SeqAt.shaped; rw [toP_lay _ c1, toP_dep, c3]; rfl
    · unfold SeqAt.shaped; rw [toP_lay _ c2, toP_dep, c4]; rfl
    · rw [toP_eqv _ _ c1 c2]
      exact q m H _ (Le.refl _ _) S (.val (.bl _)) (nwV _ _ _)
theorem sim_ne {K : PySem.W.Frag} : SimR K (fun x y H Q => rNe x y H Q ∨ rNeD K x y H Q) oNe := by
  intro m h H x y dx dy d h' Q S rx ry e q
  unfold oNe eqC at e
  split at e
  · cases e
    refine .inl ?_
    rw [inv_str rx, inv_str ry]
    refine ⟨rfl, ?_⟩
    have w := q m H _ (Le.refl _ _) S (.val (.bl _)) (nwV _ _ _)
    rw [dec_str]
    exact w
  · cases e
    refine .inl ?_
    rw [inv_bl rx, inv_bl ry]
    refine ⟨rfl, ?_⟩
    have w := q m H _ (Le.refl _ _) S (.val (.bl _)) (nwV _ _ _)
    rw [dec_bl]
    exact w
  · obtain ⟨c, e⟩ := ite_some' e
    cases e
    unfold okEq at c
    rw [Bool.and_eq_true, Bool.and_eq_true, Bool.and_eq_true] at c
    obtain ⟨⟨⟨c1, c2⟩, c3⟩, c4⟩ := c
    refine .inr ⟨_, _, dat_dp S rx c1, dat_dp S ry c2, ?_, ?_, ?_⟩
    · unfold SeqAt.shaped; rw [toP_lay _ c1, toP_dep, c3]; rfl
    · unfold SeqAt.shaped; rw [toP_lay _ c2, toP_dep, c4]; rfl
    · rw [toP_eqv _ _ c1 c2]
      exact q m H _ (Le.refl _ _) S (.val (.bl _)) (nwV _ _ _)
section
variable {X : Cx} {a b : Expr} {es : List Expr} {fa fb : SE} {fr : SA} {pos : Pos} {k : Nat}
theorem je_eq (hr : Room k X.A) (ha : JE X a fa) (hb : JE X b fb) : JE X (.Compare a [.Eq] [b] pos) (mBin oEq fa fb) := je_cmp (op_eq.or (op_eqD hr.units)) sim_eq ha hb (nomark _)
theorem je_ne (hr : Room k X.A) (ha : JE X a fa) (hb : JE X b fb) : JE X (.Compare a [.NotEq] [b] pos) (mBin oNe fa fb) := je_cmp (op_ne.or (op_neD hr.units)) sim_ne ha hb (nomark _)

/-! ## is None -/
def isN : LV → Bool
  | .val .non => true
  | _ => false
def oIs : Op2
  | p, .val .non, h => some (.val (.bl (isN p)), h)
  | _, _, _ => none
def oIsNot : Op2
  | p, .val .non, h => some (.val (.bl (!isN p)), h)
  | _, _, _ => none
theorem isN_ok {K : PySem.W.Frag} {m : List Addr} {H : Hp} {v : V} {q : LV} (r : RQ K m H v q) : decide (v = .non) = isN q := by
  cases r with
  | new _ _ _ _ => rfl
  | val r => cases r <;> rfl
theorem inv_non {K : PySem.W.Frag} {m : List Addr} {H : Hp} {v : V} (r : RQ K m H v (.val .non)) : v = .non := by
  cases r with
  | val r => cases r; rfl
theorem je_is (ha : JE X a fa) (hb : JE X b fb) : JE X (.Compare a [.Is] [b] pos) (mBin oIs fa fb) := je_cmp op_isN (fun m h H x y dx dy d h' Q S rx ry e q => by
  unfold oIs at e
  split at e
  · cases e
    refine ⟨inv_non ry, ?_⟩
    rw [isN_ok rx]
    exact q m H _ (Le.refl _ _) S (.val (.bl _)) (nwV _ _ _)
  · cases e) ha hb (nomark _)
theorem je_isnot (ha : JE X a fa) (hb : JE X b fb) : JE X (.Compare a [.IsNot] [b] pos) (mBin oIsNot fa fb) := je_cmp op_notN (fun m h H x y dx dy d h' Q S rx ry e q => by
  unfold oIsNot at e
  split at e
  · cases e
    refine ⟨inv_non ry, ?_⟩
    rw [isN_ok rx]
    exact q m H _ (Le.refl _ _) S (.val (.bl _)) (nwV _ _ _)
  · cases e) ha hb (nomark _)

/-! ## in, over flat things -/
def D.flat : D → Bool
  | .non => true
  | .int _ => true
  | .str _ => true
  | _ => false
theorem RV.flat {K : PySem.W.Frag} {m : List Addr} {H : Hp} {v : V} {d : D} (r : RV K m H v d) (b : d.flat = true) : flatV v = true := by
  cases r <;> first | rfl | cases b
theorem RVs.flat {K : PySem.W.Frag} {m : List Addr} {H : Hp} : ∀ {vs : List V} {ds : List D}, RVs K m H vs ds → ds.all D.flat = true → vs.all flatV = true
  | _, _, .nil, _ => rfl
  | _, _, .cons r t, b => by
    rw [List.all_cons, Bool.and_eq_true] at b ⊢
    exact ⟨r.flat b.1, RVs.flat t b.2⟩
theorem RV.eqf {K : PySem.W.Frag} {m : List Addr} {H : Hp} {v w : V} {d e : D} (r : RV K m H v d) (s : RV K m H w e) (b : d.flat = true) (c : e.flat = true) : eqV v w = decide (d = e) := by
  cases r <;> (try cases b) <;> (cases s <;> (try cases c)) <;> first
    | rfl
    | (show (_ == _) = _
       rw [Bool.eq_iff_iff]
       simp)
theorem RVs.inf {K : PySem.W.Frag} {m : List Addr} {H : Hp} {w : V} {e : D} (s : RV K m H w e) (c : e.flat = true) : ∀ {vs : List V} {ds : List D}, RVs K m H vs ds → ds.all D.flat = true → inV w vs = ds.contains e
  | _, _, .nil, _ => rfl
  | _, _, .cons (v := v) (vs := vs) (d := d) (ds := ds) r t, b => by
    rw [List.all_cons, Bool.and_eq_true] at b
    unfold inV
    rw [List.any_cons, r.eqf s b.1 c, List.contains_cons]
    have := RVs.inf s c t b.2
    unfold inV at this
    rw [this]
    congr 1
    rw [Bool.eq_iff_iff]
    simp
    exact eq_comm
def inC (neg : Bool) : Op2
  | .val d, q, h => (asQ q h).bind fun ds => if (d.flat && ds.all D.flat) = true then some (.val (.bl (if neg then !ds.contains d else ds.contains d)), h) else none
  | _, _, _ => none
def oIn : Op2 := inC false
def oNotIn : Op2 := inC true
theorem sim_in {K : PySem.W.Frag} (neg : Bool) : SimR K (rIn K neg) (inC neg) := by
  intro m h H x y dx dy d h' Q S rx ry e q
  unfold inC at e
  split at e
  · obtain ⟨ds, e1, e⟩ := bind_some' e
    obtain ⟨c, e⟩ := ite_some' e
    cases e
    rw [Bool.and_eq_true] at c
    obtain ⟨p, vs, rfl, hq, rv⟩ := asQ_ok S ry e1
    cases rx with
    | val rx =>
      refine ⟨p, vs, rfl, hq, rx.flat c.1, rv.flat c.2, ?_⟩
      rw [RVs.inf rx c.1 rv c.2]
      exact q m H _ (Le.refl _ _) S (.val (.bl _)) (nwV _ _ _)
  · cases e
theorem je_in (ha : JE X a fa) (hb : JE X b fb) (hm : behindInMarks .In b = false := by rfl) : JE X (.Compare a [.In] [b] pos) (mBin oIn fa fb) := je_cmp op_in_seq (sim_in false) ha hb hm
theorem je_notin (ha : JE X a fa) (hb : JE X b fb) (hm : behindInMarks .NotIn b = false := by rfl) : JE X (.Compare a [.NotIn] [b] pos) (mBin oNotIn fa fb) := je_cmp op_notIn_seq (sim_in true) ha hb hm

/-! ## comparisons as values and as tests -/
def CmpOk (X : Cx) (o : CmpOp) (op : Op2) (b : Expr) : Prop := ∃ r : R2, OpR X (compareOp o) r ∧ SimR X.K r op ∧ behindInMarks o b = false
theorem je_c {o : CmpOp} {op : Op2} (c : CmpOk X o op b) (ha : JE X a fa) (hb : JE X b fb) : JE X (.Compare a [o] [b] pos) (mBin op fa fb) := by
  obtain ⟨r, h1, h2, h3⟩ := c
  exact je_cmp h1 h2 ha hb h3
theorem jt_c {o : CmpOp} {op : Op2} (c : CmpOk X o op b) (ha : JE X a fa) (hb : JE X b fb) : JT X (.Compare a [o] [b] pos) (mB (mBin op fa fb)) := by
  obtain ⟨r, h1, h2, h3⟩ := c
  refine pt_weak (pt_cmpR h1 ha hb h3) fun σ H Q ⟨m, τ, h, d, h', R, S, e, q⟩ => ?_
  obtain ⟨⟨x, h4⟩, e1, e⟩ := bind_some' e
  refine two h2 σ H _ ⟨m, τ, h, x, h4, R, S, e1, fun m1 H1 v L1 S1 r1 n1 => ?_⟩
  dsimp only at e
  split at e
  · cases e
    exact ⟨_, inv_bl r1, q m1 H1 L1 S1⟩
  · cases e
theorem c_eq (hr : Room k X.A) : CmpOk X .Eq oEq b := ⟨_, op_eq.or (op_eqD hr.units), sim_eq, nomark _⟩
theorem c_ne (hr : Room k X.A) : CmpOk X .NotEq oNe b := ⟨_, op_ne.or (op_neD hr.units), sim_ne, nomark _⟩
theorem c_lt : CmpOk X .Lt oLt b := ⟨_, op_lt, simII0 fun _ _ _ _ => .bl _, nomark _⟩
theorem c_le : CmpOk X .LtE oLe b := ⟨_, op_le, simII0 fun _ _ _ _ => .bl _, nomark _⟩
theorem c_gt : CmpOk X .Gt oGt b := ⟨_, op_gt, simII0 fun _ _ _ _ => .bl _, nomark _⟩
theorem c_ge : CmpOk X .GtE oGe b := ⟨_, op_ge, simII0 fun _ _ _ _ => .bl _, nomark _⟩
theorem sim_is {K : PySem.W.Frag} : SimR K (fun x y H Q => y = .non ∧ Q (.bl (decide (x = .non))) H) oIs := by
  intro m h H x y dx dy d h' Q S rx ry e q
  unfold oIs at e
  split at e
  · cases e
    refine ⟨inv_non ry, ?_⟩
    rw [isN_ok rx]
    exact q m H _ (Le.refl _ _) S (.val (.bl _)) (nwV _ _ _)
  · cases e
theorem sim_isnot {K : PySem.W.Frag} : SimR K (fun x y H Q => y = .non ∧ Q (.bl (!decide (x = .non))) H) oIsNot := by
  intro m h H x y dx dy d h' Q S rx ry e q
  unfold oIsNot at e
  split at e
  · cases e
    refine ⟨inv_non ry, ?_⟩
    rw [isN_ok rx]
    exact q m H _ (Le.refl _ _) S (.val (.bl _)) (nwV _ _ _)
  · cases e
theorem c_is : CmpOk X .Is oIs b := ⟨_, op_isN, sim_is, nomark _⟩
theorem c_isnot : CmpOk X .IsNot oIsNot b := ⟨_, op_notN, sim_isnot, nomark _⟩
theorem c_in (hm : behindInMarks .In b = false := by rfl) : CmpOk X .In oIn b := ⟨_, op_in_seq, sim_in false, hm⟩
theorem c_notin (hm : behindInMarks .NotIn b = false := by rfl) : CmpOk X .NotIn oNotIn b := ⟨_, op_notIn_seq, sim_in true, hm⟩

/-! ## x[i] -/
theorem RVs.atI {K : PySem.W.Frag} {m : List Addr} {H : Hp} {vs : List V} {ds : List D} (r : RVs K m H vs ds) {i : Int} {d : D} (e : L2.atI ds i = some d) : ∃ v, L2.atI vs i = some v ∧ RV K m H v d := by
  unfold L2.atI at e ⊢
  obtain ⟨j, e1, e⟩ := bind_some' e
  obtain ⟨v, e2, r2⟩ := r.get e
  rw [r.length, e1]
  exact ⟨v, e2, r2⟩
def oIx : Op2
  | .val (.str z), .val (.int i), h => if z.length ≤ 16777216 then (L2.atI z.cps.toList i).bind fun c => some (.val (.str ⟨#[c]⟩), h) else none
  | q, .val (.int i), h => (asQ q h).bind fun ds => (L2.atI ds i).bind fun d => some (.val d, h)
  | _, _, _ => none
theorem sim_ix {K : PySem.W.Frag} : SimR K (rIx K) oIx := by
  intro m h H x y dx dy d h' Q S rx ry e q
  unfold oIx at e
  split at e
  · obtain ⟨z, e⟩ := ite_some' e
    obtain ⟨c, e1, e⟩ := bind_some' e
    cases e
    exact .inr (.inr ⟨_, _, _, inv_str rx, inv_int ry, szL z, e1, q m H _ (Le.refl _ _) S (.val (.str _)) (nwV _ _ _)⟩)
  · obtain ⟨ds, e1, e⟩ := bind_some' e
    obtain ⟨d1, e2, e⟩ := bind_some' e
    cases e
    obtain ⟨p, vs, rfl, hq, rv⟩ := asQ_ok S rx e1
    obtain ⟨v, e3, r3⟩ := rv.atI e2
    rcases hq with hq | hq
    · exact .inl ⟨p, vs, _, v, rfl, inv_int ry, hq, e3, q m H _ (Le.refl _ _) S (.val r3) (nwV _ _ _)⟩
    · exact .inr (.inl ⟨p, vs, _, v, rfl, inv_int ry, hq, e3, q m H _ (Le.refl _ _) S (.val r3) (nwV _ _ _)⟩)
  · cases e
theorem je_at (ha : JE X a fa) (hb : JE X b fb) (hp : PlainIx b := by exact fun _ _ => rfl) : JE X (.Subscript a b pos) (mBin oIx fa fb) := je_ix ix_seq sim_ix ha hb hp
end
end Sm
namespace Sm
open PySem PySem.Spec PyProof.Rows L2

/-! ## slices -/
abbrev SO := AT → AH → Option (Option Int × AH)
def tO (K : PySem.W.Frag) (f : SO) : TO := fun σ H Q => ∃ m τ h i h', RSt K m H σ τ ∧ Sim K m h H ∧ f τ h = some (i, h') ∧ ∀ m' H', Le m H m' H' → Sim K m' h' H' → Q i H'
def JO (X : Cx) (e : Option Expr) (f : SO) : Prop := PO X e (tO X.K f)
theorem po_weak {X : Cx} {e : Option Expr} {t t' : TO} (h : PO X e t) (hw : ∀ σ H Q, t' σ H Q → t σ H Q) : PO X e t' := ⟨fun pins s σ H Q I q => h.run pins s σ H Q I (hw _ _ _ q)⟩
def mNoP : SO := fun _ h => some (none, h)
def mPart (fa : SE) : SO := fun τ h => (fa τ h).bind fun p => match p.1 with
  | .val (.int i) => some (some i, p.2)
  | _ => none
def cutA {α : Type} (xs : List α) (lo hi : Option Int) : List α := (xs.drop (HT.sIx xs.length 0 lo)).take (HT.sIx xs.length xs.length hi - HT.sIx xs.length 0 lo)
def oSl (q : LV) (lo hi : Option Int) (h : AH) : Option (LV × AH) := match q with
  | .val (.str z) => if z.length ≤ 16777216 then some (.val (.str (cutS z lo hi)), h) else none
  | .val (.tup ds) => some (.val (.tup (cutA ds lo hi)), h)
  | q => (asL q h).bind fun ds => if ds.length ≤ 16777216 then some (.new (cutA ds lo hi), h) else none
def mSl (fa : SE) (fl fu : SO) : SE := fun τ h => (fa τ h).bind fun p => (fl τ p.2).bind fun l => (fu τ l.2).bind fun u => oSl p.1 l.1 u.1 u.2
theorem cut_whole {α : Type} {xs : List α} {lo hi : Option Int} (h : HT.sIx xs.length 0 lo = 0 ∧ HT.sIx xs.length xs.length hi = xs.length) : cutA xs lo hi = xs := by
  unfold cutA
  rw [h.1, h.2]
  simp
theorem cut_len {α : Type} (xs : List α) (lo hi : Option Int) : (cutA xs lo hi).length ≤ xs.length := by
  unfold cutA
  rw [List.length_take, List.length_drop]
  omega
section
variable {X : Cx} {a b e : Expr} {es : List Expr} {fa fb fo : SE} {fr : SA} {lo hi : Option Expr} {fl fu : SO} {p p2 pos : Pos}
theorem jo_none : JO X none mNoP := po_weak po_none fun σ H Q ⟨m, τ, h, i, h', R, S, e, q⟩ => by
  cases e
  exact q m H (Le.refl m H) S
theorem jo_some (h : JE X e fa) : JO X (some e) (mPart fa) := by
  refine po_weak (po_some h) fun σ H Q ⟨m, τ, h, i, h', R, S, e, q⟩ => ?_
  obtain ⟨⟨x, h1⟩, e1, e⟩ := bind_some' e
  refine ⟨m, τ, h, x, h1, R, S, e1, fun m1 H1 v1 L1 S1 r1 _ => ?_⟩
  dsimp only at e
  split at e
  · cases e
    exact ⟨_, inv_int r1, q m1 H1 L1 S1⟩
  · cases e
def rSlF (K : PySem.W.Frag) : V → Option Int → Option Int → Hp → VK → Prop := fun x lo hi H Q => ∃ a xs, x = .ref a ∧ SqT K H a xs ∧
  ((HT.sIx xs.length 0 lo = 0 ∧ HT.sIx xs.length xs.length hi = xs.length) → Q (.ref a) H) ∧ (¬ (HT.sIx xs.length 0 lo = 0 ∧ HT.sIx xs.length xs.length hi = xs.length) → FzN H (cutV xs lo hi) Q)
theorem sl_tupF : SlR X (rSlF X.K) := by
  intro pins s σ H x v vl vu lo hi sl Q I rx hs pl pu h
  obtain ⟨a, xs, rfl, hx, q1, q2⟩ := h
  cases rx
  obtain ⟨us, r, ht, hz⟩ := I.tuple hx
  have hn : us.toArray.size = xs.length := by rw [List.size_toArray]; exact r.length.symm
  refine ⟨"tuple", _, PyProof.Rows.slot_tuple_getitem.lookup, ht.typeIs, ?_⟩
  by_cases hw : HT.sIx xs.length 0 lo = 0 ∧ HT.sIx xs.length xs.length hi = xs.length
  · exact getItem_tuple_whole ht hs pl pu (by rw [hn]; exact hw) ⟨.ref a, H, I, rfl, q1 hw⟩
  · refine HT.getItem_tuple_cut ht hs pl pu (by rw [hn]; exact hw) ?_ (by rw [hn]; exact hz)
    rw [hn]
    exact inv_newT I ((r.drop _).take _) (Nat.le_trans (cutV_length xs lo hi) hz) (q2 hw) rfl
theorem je_sl (ha : JE X a fa) (hl : JO X lo fl) (hu : JO X hi fu) : JE X (.Subscript a (.Slice lo hi none p2) pos) (mSl fa fl fu) := by
  refine pe_weak (pe_slice (sl_str.or (sl_tupF.or sl_list)) ha hl hu) fun σ H Q ⟨m, τ, h, d, h', R, S, e, q⟩ => ?_
  obtain ⟨⟨x, h1⟩, e1, e⟩ := bind_some' e
  obtain ⟨⟨l, h2⟩, e2, e⟩ := bind_some' e
  obtain ⟨⟨u, h3⟩, e3, e⟩ := bind_some' e
  refine ⟨m, τ, h, x, h1, R, S, e1, fun m1 H1 v1 L1 S1 r1 _ => ⟨m1, τ, h1, l, h2, R.mono S.cl L1.toLw, S1, e2, fun m2 H2 L2 S2 => ⟨m2, τ, h2, u, h3, (R.mono S.cl L1.toLw).mono S1.cl L2.toLw, S2, e3, fun m3 H3 L3 S3 => ?_⟩⟩⟩
  have r := (r1.mono S1.cl L2).mono S2.cl L3
  have L := L1.trans (L2.trans L3)
  dsimp only at e
  unfold oSl at e
  split at e
  · obtain ⟨z, e⟩ := ite_some' e
    cases e
    exact .inl ⟨_, inv_str r, szL z, q m3 H3 _ L S3 (.val (.str _)) (nwV _ _ _)⟩
  · cases e
    cases r with
    | val r =>
      cases r with
      | tup f r =>
        refine .inr (.inl ⟨_, _, rfl, f.sq, fun w => ?_, fun _ p o hp hc hd => ?_⟩)
        · rw [r.length] at w
          rw [cut_whole w] at q
          exact q m3 H3 _ L S3 (.val (.tup f r)) (nwV _ _ _)
        · refine q m3 _ _ (L.trans (Le.upd S3.cl hp _)) (S3.upd hp _) (.val (RV.tupN S3 hp hc hd ?_)) (nwV _ _ _)
          unfold cutA cutV
          rw [r.length]
          exact (r.drop _).take _
  · obtain ⟨ds, e4, e⟩ := bind_some' e
    obtain ⟨z, e⟩ := ite_some' e
    cases e
    obtain ⟨pp, vs, rfl, hq, rv⟩ := asL_ok S3 r e4
    refine .inr (.inr ⟨pp, vs, rfl, hq, fun p hp => ?_⟩)
    refine q m3 _ _ (L.trans (Le.upd S3.cl hp _)) (S3.upd hp _) (RQ.newN S3 hp ?_ (Nat.le_trans (cut_len _ _ _) z)) (fresh_back S3.cl L hp)
    unfold cutA cutV
    rw [rv.length]
    exact (rv.drop _).take _
/-- xs[::-1] -/
def oRev : Op1 := fun q h => (asL q h).bind fun ds => if ds.length ≤ 16777216 then some (.new ds.reverse, h) else none
theorem je_rev {k : Nat} {p1 p2 p3 : Pos} (ha : JE X a fa) : JE X (.Subscript a (.Slice none none (some (.UnaryOp .USub (.Constant (.int 1) k p1) p2)) p3) pos) (mUn oRev fa) := by
  refine pe_weak (pe_revL ha) fun σ H Q h => one (r := fun x H1 Q => ∃ a xs, x = .ref a ∧ SqL X.K H1 a xs ∧ ∀ p, H1 p = none → Q (.ref p) (upd H1 p (.lst xs.reverse))) (fun m h H x dx d h' Q S rx e q => ?_) σ H Q h
  unfold oRev at e
  obtain ⟨ds, e4, e⟩ := bind_some' e
  obtain ⟨z, e⟩ := ite_some' e
  cases e
  obtain ⟨pp, vs, rfl, hq, rv⟩ := asL_ok S rx e4
  exact ⟨pp, vs, rfl, hq, fun p hp => q m _ _ (Le.upd S.cl hp _) (S.upd hp _) (RQ.newN S hp rv.reverse (by rw [List.length_reverse]; exact z)) hp⟩

/-! ## built-in functions -/
def oLen : OpN
  | [.val (.str z)], h => if z.length ≤ 16777216 then some (.val (.int z.length), h) else none
  | [q], h => (asQ q h).bind fun ds => some (.val (.int ds.length), h)
  | _, _ => none
theorem inv1 {K : PySem.W.Frag} {m : List Addr} {H : Hp} {vs : List V} {q : LV} (r : RQs K m H vs [q]) : ∃ v, vs = [v] ∧ RQ K m H v q := by
  cases r with
  | cons r t => cases t; exact ⟨_, rfl, r⟩
theorem inv2 {K : PySem.W.Frag} {m : List Addr} {H : Hp} {vs : List V} {q q' : LV} (r : RQs K m H vs [q, q']) : ∃ v v', vs = [v, v'] ∧ RQ K m H v q ∧ RQ K m H v' q' := by
  cases r with
  | cons r t =>
    obtain ⟨v, rfl, r2⟩ := inv1 t
    exact ⟨_, _, rfl, r, r2⟩
theorem sim_len {K : PySem.W.Frag} : SimN K (fun xs H Q => ∃ x n, xs = [x] ∧ LenV K x H n ∧ Q (.int n) H) oLen := by
  intro m h H xs dxs d h' Q S r e q
  unfold oLen at e
  split at e
  · obtain ⟨z, e⟩ := ite_some' e
    cases e
    obtain ⟨v, rfl, r1⟩ := inv1 r
    rw [inv_str r1]
    exact ⟨_, _, rfl, ⟨szL z, rfl⟩, q m H _ (Le.refl _ _) S (.val (.int _)) (nwV _ _ _)⟩
  · obtain ⟨ds, e1, e⟩ := bind_some' e
    cases e
    obtain ⟨v, rfl, r1⟩ := inv1 r
    obtain ⟨p, vs, rfl, hq, rv⟩ := asQ_ok S r1 e1
    refine ⟨_, vs.length, rfl, ?_, by rw [rv.length]; exact q m H _ (Le.refl _ _) S (.val (.int _)) (nwV _ _ _)⟩
    rcases hq with hq | hq
    · exact .inl ⟨vs, hq, rfl⟩
    · exact .inr ⟨vs, hq, rfl⟩
  · cases e
theorem je_len (hg : Gl X "len") (hm : X.mg "len" = none) (ha : JA X (a :: es) fr) (he : starEach (a :: es) X.env = (false, eval a X.env) :: starEach es X.env := by rfl) (hpl : (backTo pos (starEach es X.env)).any (·.1) = false := by rfl) : JE X (.Call (.Name "len" p) (a :: es) [] pos) (mFn oLen fr) :=
  je_fnB call_len sim_len hg hm PySem.boot_len ha (by decide) (by decide) he hpl
def oInt : OpN
  | [.val (.int i)], h => some (.val (.int i), h)
  | [.val (.bl b)], h => some (.val (.int (if b then 1 else 0)), h)
  | _, _ => none
theorem sim_int {K : PySem.W.Frag} : SimN K (fun xs H Q => (∃ i, xs = [.int i] ∧ Q (.int i) H) ∨ ∃ k, xs = [.bl k] ∧ Q (.int (if k then 1 else 0)) H) oInt := by
  intro m h H xs dxs d h' Q S r e q
  unfold oInt at e
  split at e
  · cases e
    obtain ⟨v, rfl, r1⟩ := inv1 r
    rw [inv_int r1]
    exact .inl ⟨_, rfl, q m H _ (Le.refl _ _) S (.val (.int _)) (nwV _ _ _)⟩
  · cases e
    obtain ⟨v, rfl, r1⟩ := inv1 r
    rw [inv_bl r1]
    exact .inr ⟨_, rfl, q m H _ (Le.refl _ _) S (.val (.int _)) (nwV _ _ _)⟩
  · cases e
theorem je_intc (hg : Gl X "int") (hm : X.mg "int" = none) (ha : JA X (a :: es) fr) (he : starEach (a :: es) X.env = (false, eval a X.env) :: starEach es X.env := by rfl) (hpl : (backTo pos (starEach es X.env)).any (·.1) = false := by rfl) : JE X (.Call (.Name "int" p) (a :: es) [] pos) (mFn oInt fr) :=
  je_fnT call_int1 sim_int hg hm PyProof.Rows.boot_int ha (by decide) (by decide) he hpl
/-- tuple(x) -/
theorem call_tupF : CallR X (.type "tuple") (fun xs H Q => ∃ p ys, xs = [.ref p] ∧ ((SqL X.K H p ys ∧ FzN H ys Q) ∨ (SqT X.K H p ys ∧ Q (.ref p) H))) := by
  intro pins s σ H xs us Q I r h
  obtain ⟨p, ys, rfl, h⟩ := h
  obtain ⟨u, rfl, rx⟩ := vals1 r
  cases rx
  rcases h with ⟨hq, q⟩ | ⟨hq, q⟩
  · obtain ⟨ws, rw', pl, hz⟩ := I.list hq
    have hlen := rw'.length
    refine call_tuple_list pl.isList (fun h' kp => ?_) (by rw [List.size_toArray]; omega)
    exact inv_newT (I.kept (t' := s.toks) kp) rw' hz q rfl
  · obtain ⟨ws, rw', pl, hz⟩ := I.tuple hq
    exact call_tuple_same pl ⟨.ref p, H, I, rfl, q⟩
def oTuple : OpN
  | [.val (.tup ds)], h => some (.val (.tup ds), h)
  | [q], h => (asL q h).bind fun ds => some (.val (.tup ds), h)
  | _, _ => none
theorem sim_tuple {K : PySem.W.Frag} : SimN K (fun xs H Q => ∃ p ys, xs = [.ref p] ∧ ((SqL K H p ys ∧ FzN H ys Q) ∨ (SqT K H p ys ∧ Q (.ref p) H))) oTuple := by
  intro m h H xs dxs d h' Q S r e q
  unfold oTuple at e
  split at e
  · cases e
    obtain ⟨v, rfl, r1⟩ := inv1 r
    cases r1 with
    | val r2 =>
      cases r2 with
      | tup f r => exact ⟨_, _, rfl, .inr ⟨f.sq, q m H _ (Le.refl _ _) S (.val (.tup f r)) (nwV _ _ _)⟩⟩
  · obtain ⟨ds, e1, e⟩ := bind_some' e
    cases e
    obtain ⟨v, rfl, r1⟩ := inv1 r
    obtain ⟨p, vs, rfl, hq, rv⟩ := asL_ok S r1 e1
    exact ⟨_, _, rfl, .inl ⟨hq, fun p o hp hc hd => q m _ _ (Le.upd S.cl hp _) (S.upd hp _) (.val (RV.tupN S hp hc hd rv)) (nwV _ _ _)⟩⟩
  · cases e
theorem je_tuple (hg : Gl X "tuple") (hm : X.mg "tuple" = none) (ha : JA X (a :: es) fr) (he : starEach (a :: es) X.env = (false, eval a X.env) :: starEach es X.env := by rfl) (hpl : (backTo pos (starEach es X.env)).any (·.1) = false := by rfl) : JE X (.Call (.Name "tuple" p) (a :: es) [] pos) (mFn oTuple fr) :=
  je_fnT call_tupF sim_tuple hg hm PyProof.Rows.boot_tuple ha (by decide) (by decide) he hpl
/-- list(x) -/
def oList : OpN
  | [q], h => (asQ q h).bind fun ds => if ds.length ≤ 16777216 then some (.new ds, h) else none
  | _, _ => none
theorem sim_list {K : PySem.W.Frag} : SimN K (fun xs H Q => ∃ p ys, xs = [.ref p] ∧ (SqL K H p ys ∨ SqT K H p ys) ∧ ∀ l, H l = none → Q (.ref l) (upd H l (.lst ys))) oList := by
  intro m h H xs dxs d h' Q S r e q
  unfold oList at e
  split at e
  · obtain ⟨ds, e1, e⟩ := bind_some' e
    obtain ⟨z, e⟩ := ite_some' e
    cases e
    obtain ⟨v, rfl, r1⟩ := inv1 r
    obtain ⟨p, vs, rfl, hq, rv⟩ := asQ_ok S r1 e1
    exact ⟨_, _, rfl, hq, fun l hl => q m _ _ (Le.upd S.cl hl _) (S.upd hl _) (RQ.newN S hl rv z) hl⟩
  · cases e
theorem je_list (hg : Gl X "list") (hm : X.mg "list" = none) (ha : JA X (a :: es) fr) (he : starEach (a :: es) X.env = (false, eval a X.env) :: starEach es X.env := by rfl) (hpl : (backTo pos (starEach es X.env)).any (·.1) = false := by rfl) : JE X (.Call (.Name "list" p) (a :: es) [] pos) (mFn oList fr) :=
  je_fnT call_list_of sim_list hg hm PyProof.Rows.boot_list ha (by decide) (by decide) he hpl
/-! tuple(range(..)) -/
def rgA (f : SA) : AT → AH → Option (Int × Int × AH) := fun τ h => (f τ h).bind fun p => match p.1 with
  | [.val (.int n)] => some (0, n, p.2)
  | [.val (.int i), .val (.int j)] => some (i, j, p.2)
  | _ => none
def rgOkB (a b : Int) : Bool := decide (a.natAbs < 4611686018427387904) && decide (b.natAbs < 4611686018427387904) && decide ((b - a).toNat ≤ 16777216)
def mTupRg (f : SA) : SE := fun τ h => (rgA f τ h).bind fun p => if rgOkB p.1 p.2.1 = true then some (.val (.tup (rngD p.1 (p.2.1 - p.1).toNat)), p.2.2) else none
def mLstRg (f : SA) : SE := fun τ h => (rgA f τ h).bind fun p => if rgOkB p.1 p.2.1 = true then some (.new (rngD p.1 (p.2.1 - p.1).toNat), p.2.2) else none
theorem rgOk_of {a b : Int} (h : rgOkB a b = true) : RgOk a b := by
  unfold rgOkB at h
  rw [Bool.and_eq_true, Bool.and_eq_true] at h
  obtain ⟨⟨h1, h2⟩, h5⟩ := h
  have z := of_decide_eq_true h5
  have z1 := of_decide_eq_true h1
  have z2 := of_decide_eq_true h2
  exact ⟨by rw [two62]; omega, by rw [two62]; omega, by rw [two62]; omega, by rw [two62]; omega, by simpa using z⟩
theorem rv_rg {K : PySem.W.Frag} {m : List Addr} {H : Hp} (a b : Int) : RVs K m H (rgV a b) (rngD a (b - a).toNat) := by
  unfold rgV rngD
  generalize List.range (b - a).toNat = l
  induction l with
  | nil => exact .nil
  | cons x r ih => exact .cons (.int _) ih
theorem pe_tupRgF {te : L2.St → Hp → (Int → Int → Hp → Prop) → Prop} (hc : X.calm = true) (hg : Gl X "tuple") (hm : X.mg "tuple" = none) (he : PRg X e te) (na : starEach [e] X.env = (false, eval e X.env) :: starEach [] X.env) :
    PE X (.Call (.Name "tuple" p) [e] [] pos) (fun σ H Q => te σ H fun a b H1 => RgOk a b ∧ FzN H1 (rgV a b) Q) := by
  refine ⟨fun pins s σ H Q I h => ?_⟩
  refine Call_ (ld_blt I hg hm boot_tuple (PyProof.Rows.callWith_type1 (args_cons (thn (he pins s σ H _ I h) fun x s1 hx => args_nil ?_) na) na))
  obtain ⟨r, a, b, t, u, v, H1, rfl, hr, I1, ok, q⟩ := hx
  obtain ⟨b1, b2, b3, b4, b5⟩ := ok
  refine call_tuple_range (n := (b - a).toNat) (I1.ok.hd hc) hr (small_one b1 b2 b3 b4) (rangeSize_nat a b) b5 fun h' tk acc hk hi => ?_
  exact inv_newT (I1.kept (h' := h') (t' := tk) hk) (vals_rg hi) (by rw [rgV_length, sizeLine_eq]; simpa using b5) q (by simp)
theorem rg1_sem {K : PySem.W.Frag} {Q : Int → Int → Hp → Prop} {σ : L2.St} {H : Hp} (h : ∃ m τ h i j h', RSt K m H σ τ ∧ Sim K m h H ∧ rgA (mCons fa mNil) τ h = some (i, j, h') ∧ ∀ m' H', Le m H m' H' → Sim K m' h' H' → Q i j H') : tRg1 (tE K fa) σ H Q := by
  obtain ⟨m, τ, h, i, j, h', R, S, e, q⟩ := h
  obtain ⟨⟨xs, h1⟩, e1, e⟩ := bind_some' e
  obtain ⟨⟨x, h2⟩, e2, e1⟩ := bind_some' e1
  cases e1
  refine ⟨m, τ, h, x, _, R, S, e2, fun m1 H1 v1 L1 S1 r1 _ => ?_⟩
  dsimp only at e
  split at e
  · rename_i hh
    cases hh
    cases e
    exact ⟨_, inv_int r1, q m1 H1 L1 S1⟩
  · rename_i hh
    cases hh
  · cases e
theorem rg2_sem {K : PySem.W.Frag} {Q : Int → Int → Hp → Prop} {σ : L2.St} {H : Hp} (h : ∃ m τ h i j h', RSt K m H σ τ ∧ Sim K m h H ∧ rgA (mCons fa (mCons fb mNil)) τ h = some (i, j, h') ∧ ∀ m' H', Le m H m' H' → Sim K m' h' H' → Q i j H') : tRg2 (tE K fa) (tE K fb) σ H Q := by
  obtain ⟨m, τ, h, i, j, h', R, S, e, q⟩ := h
  obtain ⟨⟨xs, h1⟩, e1, e⟩ := bind_some' e
  obtain ⟨⟨x, h2⟩, e2, e1⟩ := bind_some' e1
  obtain ⟨⟨ys, h3⟩, e3, e1⟩ := bind_some' e1
  obtain ⟨⟨y, h4⟩, e4, e3⟩ := bind_some' e3
  cases e3
  cases e1
  refine ⟨m, τ, h, x, _, R, S, e2, fun m1 H1 v1 L1 S1 r1 _ => ⟨m1, τ, _, y, _, R.mono S.cl L1.toLw, S1, e4, fun m2 H2 v2 L2 S2 r2 _ => ?_⟩⟩
  dsimp only at e
  split at e
  · rename_i hh
    cases hh
  · rename_i hh
    cases hh
    cases e
    have w := r1.mono S1.cl L2
    exact ⟨_, _, inv_int w, inv_int r2, q m2 H2 (L1.trans L2) S2⟩
  · cases e
theorem je_tupRg1 {p1 q1 : Pos} (hc : X.calm = true) (hg : Gl X "tuple") (hm : X.mg "tuple" = none) (hg2 : Gl X "range") (hm2 : X.mg "range" = none) (ha : JE X a fa) (na : starEach [a] X.env = (false, eval a X.env) :: starEach [] X.env := by rfl)
    (nb : starEach [.Call (.Name "range" p1) [a] [] q1] X.env = (false, eval (.Call (.Name "range" p1) [a] [] q1) X.env) :: starEach [] X.env := by rfl) : JE X (.Call (.Name "tuple" p) [.Call (.Name "range" p1) [a] [] q1] [] pos) (mTupRg (mCons fa mNil)) := by
  refine pe_weak (pe_tupRgF hc hg hm (prg_1 hg2 hm2 ha na) nb) fun σ H Q ⟨m, τ, h, d, h', R, S, e, q⟩ => rg1_sem ?_
  obtain ⟨⟨i, j, h1⟩, e1, e⟩ := bind_some' e
  obtain ⟨c, e⟩ := ite_some' e
  cases e
  exact ⟨m, τ, h, i, j, h1, R, S, e1, fun m1 H1 L1 S1 => ⟨rgOk_of c, fun p o hp hc hd => q m1 _ _ (L1.trans (Le.upd S1.cl hp _)) (S1.upd hp _) (.val (RV.tupN S1 hp hc hd (rv_rg i j))) (nwV _ _ _)⟩⟩
theorem je_tupRg2 {p1 q1 : Pos} (hc : X.calm = true) (hg : Gl X "tuple") (hm : X.mg "tuple" = none) (hg2 : Gl X "range") (hm2 : X.mg "range" = none) (ha : JE X a fa) (hb : JE X b fb) (na : starEach [a, b] X.env = (false, eval a X.env) :: starEach [b] X.env := by rfl)
    (nb2 : starEach [b] X.env = (false, eval b X.env) :: starEach [] X.env := by rfl) (hp : (backTo q1 (starEach [b] X.env)).any (·.1) = false := by rfl)
    (nb : starEach [.Call (.Name "range" p1) [a, b] [] q1] X.env = (false, eval (.Call (.Name "range" p1) [a, b] [] q1) X.env) :: starEach [] X.env := by rfl) : JE X (.Call (.Name "tuple" p) [.Call (.Name "range" p1) [a, b] [] q1] [] pos) (mTupRg (mCons fa (mCons fb mNil))) := by
  refine pe_weak (pe_tupRgF hc hg hm (prg_2 hg2 hm2 ha hb na nb2 hp) nb) fun σ H Q ⟨m, τ, h, d, h', R, S, e, q⟩ => rg2_sem ?_
  obtain ⟨⟨i, j, h1⟩, e1, e⟩ := bind_some' e
  obtain ⟨c, e⟩ := ite_some' e
  cases e
  exact ⟨m, τ, h, i, j, h1, R, S, e1, fun m1 H1 L1 S1 => ⟨rgOk_of c, fun p o hp hc hd => q m1 _ _ (L1.trans (Le.upd S1.cl hp _)) (S1.upd hp _) (.val (RV.tupN S1 hp hc hd (rv_rg i j))) (nwV _ _ _)⟩⟩
end
end Sm
namespace Sm
open PySem PySem.Spec PyProof.Rows L2
section
variable {X : Cx} {a b e o : Expr} {es : List Expr} {fa fb fo : SE} {fr : SA} {p pos : Pos}
/-! ## isinstance(x, T), T a built-in class -/
theorem je_ty {x : Str} {n : String} (hg : Gl X x) (hm : X.mg x = none) (hv : bootBuiltins x = some (.type n)) (hn : x ≠ "__name__" := by decide) (hd : (x == ("__debug__" : Str)) = false := by decide) : JE X (.Name x pos) (mC (.ty n)) :=
  je_const (v := .ty n) (pe_bltn hg hm hv rfl hn hd) fun _ _ => .ty n
def isList (h : AH) (a : Nat) : Bool := match h[a]? with
  | some (.lst _) => true
  | _ => false
def tyN : LV → AH → Option String
  | .new _, _ => some "list"
  | .val .non, _ => some "NoneType"
  | .val (.bl _), _ => some "bool"
  | .val (.int _), _ => some "int"
  | .val (.str _), _ => some "str"
  | .val (.tup _), _ => some "tuple"
  | .val (.zt _), _ => some "tuple"
  | .val (.ref a), h => match h[a]? with
    | some (.lst _) => some "list"
    | some (.dic _) => some "dict"
    | none => none
  | _, _ => none
def tys : List String := ["list", "NoneType", "bool", "int", "str", "tuple", "dict"]
def isTyB (a b : String) : Bool := a == b || (a == "bool" && b == "int")
theorem kit_tab : (tys.all fun a => tys.all fun b => kitB a b == some (isTyB a b)) = true := by decide +kernel
theorem tyN_mem {q : LV} {h : AH} {n : String} (e : tyN q h = some n) : n ∈ tys := by
  unfold tyN at e
  split at e <;> first | (cases e; decide) | cases e | skip
  · split at e <;> first | (cases e; decide) | cases e
theorem tyN_ok {K : PySem.W.Frag} {m : List Addr} {h : AH} {H : Hp} {v : V} {q : LV} {n : String} (S : Sim K m h H) (r : RQ K m H v q) (e : tyN q h = some n) : TyX K H v (.type n) := by
  cases r with
  | new hn e1 r z => cases e; exact .base (.lst e1)
  | val r =>
    cases r with
    | non => cases e; exact .base .non
    | bl b => cases e; exact .base (.bl b)
    | int i => cases e; exact .base (.int i)
    | str x => cases e; exact .base (.str x)
    | tup f r =>
      cases e
      rcases f with ⟨ob, e1, _, _⟩ | ⟨ob, _, _, e1, e2, _⟩
      · exact .fTuple e1
      · exact .kTuple e1 e2
    | zt f r =>
      cases e
      rcases f with (e1 | ⟨ob, e1⟩) | ⟨ob, _, _, e1, e2, _⟩
      · exact .base (.tup e1)
      · exact .fTuple e1
      · exact .kTuple e1 e2
    | fl f r => cases e
    | ty n => cases e
    | ref e1 =>
      unfold tyN at e
      dsimp only at e
      split at e
      · rename_i hh
        cases e
        obtain ⟨vs, e2, _⟩ := S.lst e1 hh
        exact .base (.lst e2)
      · rename_i hh
        cases e
        obtain ⟨vs, e2, _⟩ := S.ob _ _ _ e1 hh
        exact .base (.dK e2)
      · cases e
def oIsi : OpN
  | [q, .val (.ty T)], h => (tyN q h).bind fun n => if tys.contains T = true then some (.val (.bl (isTyB n T)), h) else none
  | _, _ => none
theorem sim_isi {K : PySem.W.Frag} : SimN K (rIsi K) oIsi := by
  intro m h H xs dxs d h' Q S r e q
  unfold oIsi at e
  split at e
  · obtain ⟨n, e1, e⟩ := bind_some' e
    obtain ⟨c, e⟩ := ite_some' e
    cases e
    obtain ⟨v, v', rfl, r1, r2⟩ := inv2 r
    cases r2 with
    | val r2 =>
      cases r2
      refine ⟨v, _, _, _, _, rfl, .ty _, tyN_ok S r1 e1, ?_, q m H _ (Le.refl _ _) S (.val (.bl _)) (nwV _ _ _)⟩
      have w := List.all_eq_true.mp (List.all_eq_true.mp kit_tab n (tyN_mem e1)) _ (List.contains_iff_mem.mp c)
      exact kit_ty (eq_of_beq w)
  · cases e
theorem je_isi (hg : Gl X "isinstance") (hm : X.mg "isinstance" = none) (ha : JA X (a :: es) fr) (he : starEach (a :: es) X.env = (false, eval a X.env) :: starEach es X.env := by rfl) (hpl : (backTo pos (starEach es X.env)).any (·.1) = false := by rfl) : JE X (.Call (.Name "isinstance" p) (a :: es) [] pos) (mFn oIsi fr) :=
  je_fnB call_isi sim_isi hg hm PyProof.Rows.boot_isinstance ha (by decide) (by decide) he hpl

/-! ## max, min, any, all, abs, sum -/
def intsD : List D → Option (List Int)
  | [] => some []
  | .int i :: r => (intsD r).bind fun s => some (i :: s)
  | _ => none
theorem intsD_map : ∀ {ds : List D} {ns : List Int}, intsD ds = some ns → ds = ns.map D.int
  | [], _, h => by cases h; rfl
  | .int i :: r, _, h => by
    obtain ⟨s, e, h⟩ := bind_some' h
    cases h
    rw [intsD_map e]
    rfl
def bls : List D → Option (List Bool)
  | [] => some []
  | .bl i :: r => (bls r).bind fun s => some (i :: s)
  | _ => none
theorem bls_map : ∀ {ds : List D} {ns : List Bool}, bls ds = some ns → ds = ns.map D.bl
  | [], _, h => by cases h; rfl
  | .bl i :: r, _, h => by
    obtain ⟨s, e, h⟩ := bind_some' h
    cases h
    rw [bls_map e]
    rfl
def imax (i j : Int) : Int := if j > i then j else i
def imin (i j : Int) : Int := if j < i then j else i
def maxL : List Int → Int
  | [] => 0
  | [x] => x
  | x :: r => imax x (maxL r)
def minL : List Int → Int
  | [] => 0
  | [x] => x
  | x :: r => imin x (minL r)
theorem maxL_mem : ∀ {ns : List Int}, 0 < ns.length → maxL ns ∈ ns ∧ ∀ y ∈ ns, y ≤ maxL ns
  | [], h => absurd h (by decide)
  | [x], _ => by simp [maxL]
  | x :: y :: r, _ => by
    obtain ⟨h1, h2⟩ := maxL_mem (ns := y :: r) (by simp)
    show imax x (maxL (y :: r)) ∈ _ ∧ ∀ z ∈ x :: y :: r, z ≤ imax x (maxL (y :: r))
    unfold imax
    split
    · exact ⟨List.mem_cons_of_mem _ h1, fun z hz => by
        rcases List.mem_cons.mp hz with e | e
        · omega
        · exact h2 z e⟩
    · exact ⟨List.mem_cons_self, fun z hz => by
        rcases List.mem_cons.mp hz with e | e
        · omega
        · have := h2 z e; omega⟩
theorem minL_mem : ∀ {ns : List Int}, 0 < ns.length → minL ns ∈ ns ∧ ∀ y ∈ ns, minL ns ≤ y
  | [], h => absurd h (by decide)
  | [x], _ => by simp [minL]
  | x :: y :: r, _ => by
    obtain ⟨h1, h2⟩ := minL_mem (ns := y :: r) (by simp)
    show imin x (minL (y :: r)) ∈ _ ∧ ∀ z ∈ x :: y :: r, imin x (minL (y :: r)) ≤ z
    unfold imin
    split
    · exact ⟨List.mem_cons_of_mem _ h1, fun z hz => by
        rcases List.mem_cons.mp hz with e | e
        · omega
        · exact h2 z e⟩
    · exact ⟨List.mem_cons_self, fun z hz => by
        rcases List.mem_cons.mp hz with e | e
        · omega
        · have := h2 z e; omega⟩
def oMax : OpN
  | [.val (.int i), .val (.int j)], h => some (.val (.int (imax i j)), h)
  | [q], h => (asL q h).bind fun ds => (intsD ds).bind fun ns => if 0 < ns.length then some (.val (.int (maxL ns)), h) else none
  | _, _ => none
def oMin : OpN
  | [.val (.int i), .val (.int j)], h => some (.val (.int (imin i j)), h)
  | [q], h => (asL q h).bind fun ds => (intsD ds).bind fun ns => if 0 < ns.length then some (.val (.int (minL ns)), h) else none
  | _, _ => none
theorem sim_max {K : PySem.W.Frag} : SimN K (fun xs H Q => (∃ i j, xs = [.int i, .int j] ∧ Q (.int (if j > i then j else i)) H) ∨ rMax K xs H Q) oMax := by
  intro m h H xs dxs d h' Q S r e q
  unfold oMax at e
  split at e
  · cases e
    obtain ⟨v, v', rfl, r1, r2⟩ := inv2 r
    rw [inv_int r1, inv_int r2]
    exact .inl ⟨_, _, rfl, q m H _ (Le.refl _ _) S (.val (.int _)) (nwV _ _ _)⟩
  · obtain ⟨ds, e1, e⟩ := bind_some' e
    obtain ⟨ns, e2, e⟩ := bind_some' e
    obtain ⟨c, e⟩ := ite_some' e
    cases e
    obtain ⟨v, rfl, r1⟩ := inv1 r
    obtain ⟨pp, vs, rfl, hq, rv⟩ := asL_ok S r1 e1
    rw [intsD_map e2] at rv
    have e3 := rv.ints
    subst e3
    refine .inr ⟨pp, ns, rfl, hq, c, fun mx h1 h2 => ?_⟩
    obtain ⟨g1, g2⟩ := maxL_mem c
    have : mx = maxL ns := by
      have := h2 _ g1
      have := g2 _ h1
      omega
    subst this
    exact q m H _ (Le.refl _ _) S (.val (.int _)) (nwV _ _ _)
  · cases e
theorem sim_min {K : PySem.W.Frag} : SimN K (fun xs H Q => (∃ i j, xs = [.int i, .int j] ∧ Q (.int (if j < i then j else i)) H) ∨ rMin K xs H Q) oMin := by
  intro m h H xs dxs d h' Q S r e q
  unfold oMin at e
  split at e
  · cases e
    obtain ⟨v, v', rfl, r1, r2⟩ := inv2 r
    rw [inv_int r1, inv_int r2]
    exact .inl ⟨_, _, rfl, q m H _ (Le.refl _ _) S (.val (.int _)) (nwV _ _ _)⟩
  · obtain ⟨ds, e1, e⟩ := bind_some' e
    obtain ⟨ns, e2, e⟩ := bind_some' e
    obtain ⟨c, e⟩ := ite_some' e
    cases e
    obtain ⟨v, rfl, r1⟩ := inv1 r
    obtain ⟨pp, vs, rfl, hq, rv⟩ := asL_ok S r1 e1
    rw [intsD_map e2] at rv
    have e3 := rv.ints
    subst e3
    refine .inr ⟨pp, ns, rfl, hq, c, fun mx h1 h2 => ?_⟩
    obtain ⟨g1, g2⟩ := minL_mem c
    have : mx = minL ns := by
      have := h2 _ g1
      have := g2 _ h1
      omega
    subst this
    exact q m H _ (Le.refl _ _) S (.val (.int _)) (nwV _ _ _)
  · cases e
theorem je_max (hc : X.calm = true) (hg : Gl X "max") (hm : X.mg "max" = none) (ha : JA X (a :: es) fr) (he : starEach (a :: es) X.env = (false, eval a X.env) :: starEach es X.env := by rfl) (hpl : (backTo pos (starEach es X.env)).any (·.1) = false := by rfl) : JE X (.Call (.Name "max" p) (a :: es) [] pos) (mFn oMax fr) :=
  je_fnB ((call_max2 hc).or (cr_max hc)) sim_max hg hm (by decide +kernel) ha (by decide) (by decide) he hpl
theorem je_min (hc : X.calm = true) (hg : Gl X "min") (hm : X.mg "min" = none) (ha : JA X (a :: es) fr) (he : starEach (a :: es) X.env = (false, eval a X.env) :: starEach es X.env := by rfl) (hpl : (backTo pos (starEach es X.env)).any (·.1) = false := by rfl) : JE X (.Call (.Name "min" p) (a :: es) [] pos) (mFn oMin fr) :=
  je_fnB ((call_min2 hc).or (cr_min hc)) sim_min hg hm (by decide +kernel) ha (by decide) (by decide) he hpl
def oAny : OpN
  | [q], h => (asL q h).bind fun ds => (bls ds).bind fun bs => some (.val (.bl (bs.any id)), h)
  | _, _ => none
def oAll : OpN
  | [q], h => (asL q h).bind fun ds => (bls ds).bind fun bs => some (.val (.bl (bs.all id)), h)
  | _, _ => none
theorem sim_any {K : PySem.W.Frag} : SimN K (rAny K) oAny := by
  intro m h H xs dxs d h' Q S r e q
  unfold oAny at e
  split at e
  · obtain ⟨ds, e1, e⟩ := bind_some' e
    obtain ⟨ns, e2, e⟩ := bind_some' e
    cases e
    obtain ⟨v, rfl, r1⟩ := inv1 r
    obtain ⟨pp, vs, rfl, hq, rv⟩ := asL_ok S r1 e1
    rw [bls_map e2] at rv
    have e3 := rv.bls
    subst e3
    exact ⟨pp, ns, rfl, hq, q m H _ (Le.refl _ _) S (.val (.bl _)) (nwV _ _ _)⟩
  · cases e
theorem sim_all {K : PySem.W.Frag} : SimN K (rAll K) oAll := by
  intro m h H xs dxs d h' Q S r e q
  unfold oAll at e
  split at e
  · obtain ⟨ds, e1, e⟩ := bind_some' e
    obtain ⟨ns, e2, e⟩ := bind_some' e
    cases e
    obtain ⟨v, rfl, r1⟩ := inv1 r
    obtain ⟨pp, vs, rfl, hq, rv⟩ := asL_ok S r1 e1
    rw [bls_map e2] at rv
    have e3 := rv.bls
    subst e3
    exact ⟨pp, ns, rfl, hq, q m H _ (Le.refl _ _) S (.val (.bl _)) (nwV _ _ _)⟩
  · cases e
theorem je_any (hc : X.calm = true) (hg : Gl X "any") (hm : X.mg "any" = none) (ha : JA X (a :: es) fr) (he : starEach (a :: es) X.env = (false, eval a X.env) :: starEach es X.env := by rfl) (hpl : (backTo pos (starEach es X.env)).any (·.1) = false := by rfl) : JE X (.Call (.Name "any" p) (a :: es) [] pos) (mFn oAny fr) :=
  je_fnB (cr_any hc) sim_any hg hm (by decide +kernel) ha (by decide) (by decide) he hpl
theorem je_all (hc : X.calm = true) (hg : Gl X "all") (hm : X.mg "all" = none) (ha : JA X (a :: es) fr) (he : starEach (a :: es) X.env = (false, eval a X.env) :: starEach es X.env := by rfl) (hpl : (backTo pos (starEach es X.env)).any (·.1) = false := by rfl) : JE X (.Call (.Name "all" p) (a :: es) [] pos) (mFn oAll fr) :=
  je_fnB (cr_all hc) sim_all hg hm (by decide +kernel) ha (by decide) (by decide) he hpl

/-! ## methods of lists and tuples -/
def mMeth (chk : LV → AH → Bool) (op : Op2) (fo fa : SE) : SE := fun τ h => (fo τ h).bind fun p => if chk p.1 p.2 = true then (fa τ p.2).bind fun q => op p.1 q.1 q.2 else none
def isLs (q : LV) (h : AH) : Bool := (asL q h).isSome
theorem meth_sem {K : PySem.W.Frag} {T : String} {chk : LV → AH → Bool} {op : Op2} {r : V → List V → Hp → VK → Prop}
    (hc : ∀ m h H v q, Sim K m h H → RQ K m H v q → chk q h = true → tyV K T v H)
    (hs : SimR K (fun x y H Q => r x [y] H Q) op) (σ : L2.St) (H : Hp) (Q : VK) (h : tE K (mMeth chk op fo fa) σ H Q) : tBM K T r (tE K fo) (tA K (mCons fa mNil)) σ H Q := by
  obtain ⟨m, τ, h, d, h', R, S, e, q⟩ := h
  obtain ⟨⟨x, h1⟩, e1, e⟩ := bind_some' e
  obtain ⟨c, e⟩ := ite_some' e
  obtain ⟨⟨y, h2⟩, e2, e⟩ := bind_some' e
  refine ⟨m, τ, h, x, h1, R, S, e1, fun m1 H1 v1 L1 S1 r1 _ => ⟨hc _ _ _ _ _ S1 r1 c, m1, τ, h1, [y], h2, R.mono S.cl L1.toLw, S1, ?_, fun m2 H2 v2 L2 S2 r2 => ?_⟩⟩
  · unfold mCons mNil
    dsimp only at e2 ⊢
    rw [e2]
    rfl
  · obtain ⟨w, rfl, r3⟩ := inv1 r2
    exact hs m2 h2 H2 v1 w x y d h' Q S2 (r1.mono S1.cl L2) r3 e fun m' H' v L' S' r' n' => q m' H' v (L1.trans (L2.trans L')) S' r' (n'.back S2.cl (L1.trans L2))
theorem isLs_ok {K : PySem.W.Frag} {m : List Addr} {h : AH} {H : Hp} {v : V} {q : LV} (S : Sim K m h H) (r : RQ K m H v q) (c : isLs q h = true) : tyV K "list" v H := by
  obtain ⟨ds, e⟩ := Option.isSome_iff_exists.mp c
  obtain ⟨pp, vs, rfl, hq, rv⟩ := asL_ok S r e
  exact .inl ⟨rfl, vs, hq⟩
def oApp : Op2
  | .val (.ref a), .val d, h => match h[a]? with
    | some (.lst ds) => if ds.length < 16777216 then some (.val .non, h.set a (.lst (ds ++ [d]))) else none
    | _ => none
  | _, _, _ => none
theorem sim_app {K : PySem.W.Frag} : SimR K (fun x y H Q => rAppend x [y] H Q) oApp := by
  intro m h H x y dx dy d h' Q S rx ry e q
  unfold oApp at e
  split at e
  · split at e
    · rename_i hh
      obtain ⟨z, e⟩ := ite_some' e
      cases e
      cases rx with
      | val rx =>
        cases ry with
        | val ry =>
          cases rx with
          | ref e1 =>
            obtain ⟨vs, e2, rv⟩ := S.lst e1 hh
            exact ⟨_, vs, y, rfl, rfl, e2, by rw [rv.length, sizeLine_eq]; exact z, q m _ _ (Le.put S e1 _) (S.putL e1 (rv.append (.one ry))) (.val .non) (nwV _ _ _)⟩
    · cases e
  · cases e
theorem je_append {apos : Pos} (ho : JE X o fo) (ha : JE X a fa)
    (hbase : attributeBase o "append" X.env (eval o X.env) = eval o X.env := by rfl)
    (hfew : ((backTo pos (starEach (a :: []) X.env)).all (fun x => !x.1) && (backToKw pos (keywordEach [] X.env)).all (fun x => x.1.isSome)
      && decide ((a :: []).length + ([] : List Keyword).length + (if ([] : List Keyword).isEmpty then 0 else 1) < 30)) = true := by rfl)
    (hline : (apos.endLine == pos.line) = true := by rfl) (hs : starEach (a :: []) X.env = (false, eval a X.env) :: starEach [] X.env := by rfl) (hplain : (backTo pos (starEach [] X.env)).any (·.1) = false := by rfl) :
    JE X (.Call (.Attribute o "append" apos) [a] [] pos) (mMeth isLs oApp fo fa) :=
  pe_weak (pe_bm PySem.F.plainAttrs_list PySem.F.slot_list_append PySem.F.type_list_append mt_append ho (ja_cons ha ja_nil hs) hbase hfew hline hs hplain) (meth_sem (fun _ _ _ _ _ => isLs_ok) sim_app)
/-! name += e -/
def oIAdd : Op2
  | .val (.int i), .val (.int j), h => some (.val (.int (i + j)), h)
  | .val (.str x), .val (.str y), h => if x.length + y.length ≤ 16777216 then some (.val (.str (x ++ y)), h) else none
  | .val (.ref a), q, h => match h[a]? with
    | some (.lst xs) => (asM q h).bind fun ys => if xs.length + ys.length ≤ 16777216 then some (.val (.ref a), h.set a (.lst (xs ++ ys))) else none
    | _ => none
  | _, _, _ => none
theorem sim_iadd {K : PySem.W.Frag} : SimR K (fun x y H Q => rI0 (fun i j => .int (i + j)) x y H Q ∨ ((∃ i j, x = .str i ∧ y = .str j ∧ i.length + j.length ≤ sizeLine ∧ Q (.str (i ++ j)) H) ∨ rExt2 x y H Q)) oIAdd := by
  intro m h H x y dx dy d h' Q S rx ry e q
  unfold oIAdd at e
  split at e
  · cases e
    exact .inl ⟨_, _, inv_int rx, inv_int ry, q m H _ (Le.refl _ _) S (.val (.int _)) (nwV _ _ _)⟩
  · obtain ⟨z, e⟩ := ite_some' e
    cases e
    exact .inr (.inl ⟨_, _, inv_str rx, inv_str ry, szL z, q m H _ (Le.refl _ _) S (.val (.str _)) (nwV _ _ _)⟩)
  · split at e
    · rename_i hh
      obtain ⟨ys, e2, e⟩ := bind_some' e
      obtain ⟨z, e⟩ := ite_some' e
      cases e
      cases rx with
      | val rx =>
        cases rx with
        | ref e1 =>
          obtain ⟨vs, e3, rv⟩ := S.lst e1 hh
          obtain ⟨p2, ws, rfl, e4, rw'⟩ := asM_ok S ry e2
          exact .inr (.inr ⟨_, _, vs, ws, rfl, rfl, e3, e4, by rw [rv.length, rw'.length]; exact szL z, q m _ _ (Le.put S e1 _) (S.putL e1 (rv.append rw')) (.val (.ref e1)) (nwV _ _ _)⟩)
    · cases e
  · cases e
def mAug (i : Nat) (op : Op2) (fa : SE) : SS := fun τ h => match τ[i]? with
  | some (some d) => (fa τ h).bind fun p => (op (.val d) p.1 p.2).bind fun q => some (.nx (τ.set i (some (lay q.1 q.2).1)) (lay q.1 q.2).2)
  | _ => none
theorem js_aug {i : Nat} {x : Str} {op : Operator} {pos' : Pos} {r : R2} {f : Op2} (hN : X.N.Nodup) (hi : X.N[i]? = some x) (hx : Loc X.env.scope x) (he : JE X e fa) (ho : OpR X (inplaceOp op) r) (hs : SimR X.K r f) (hf : X.fn x = true ∨ X.env.scope.names.lookup x = some .local := by first | exact .inl rfl | exact .inr rfl | assumption) :
    JS X (.AugAssign (.Name x pos') op e pos) (mAug i f fa) := by
  refine ps_weak (ps_aug hN hi hx he ho hf) fun D σ H ⟨m, τ, h, r, R, S, e, q⟩ => ?_
  unfold mAug at e
  split at e
  · rename_i d hd
    obtain ⟨⟨x, h1⟩, e1, e⟩ := bind_some' e
    obtain ⟨⟨y, h2⟩, e2, e⟩ := bind_some' e
    cases e
    obtain ⟨v, hv, rv⟩ := R.2 i d hd
    refine ⟨v, hv, m, τ, h, x, h1, R, S, e1, fun m1 H1 v1 L1 S1 r1 _ => ?_⟩
    refine hs m1 h1 H1 v v1 (.val d) x y h2 _ S1 (.val (rv.mono S.cl L1.toLw)) r1 e2 fun m2 H2 v2 L2 S2 r2 n2 => ?_
    obtain ⟨m3, L3, S3, r3⟩ := hold S2 (L1.trans L2) r2 (n2.back S1.cl L1)
    exact q m3 H2 _ L3 S3 ((R.mono S.cl L3.toLw).set r3 i)
  · cases e
theorem js_iadd {i : Nat} {x : Str} {pos' : Pos} (hN : X.N.Nodup) (hi : X.N[i]? = some x) (hx : Loc X.env.scope x) (he : JE X e fa) (hf : X.fn x = true ∨ X.env.scope.names.lookup x = some .local := by first | exact .inl rfl | exact .inr rfl | assumption) :
    JS X (.AugAssign (.Name x pos') .Add e pos) (mAug i oIAdd fa) := js_aug hN hi hx he (iop_add.or (iop_add_str.or iop_ext)) sim_iadd hf
end
end Sm
namespace Sm
open PySem PySem.Spec PyProof.Rows L2

/-! ## x.index(y) -/
theorem mt_tupIdx {X : Cx} : MtR X "tuple.index" (fun x xs H Q => ∃ (a : Addr) (ys : List V) (y : V) (j : Nat) (z : V), x = V.ref a ∧ xs = [y] ∧ SqT X.K H a ys ∧ flatV y = true ∧ ys.all flatV = true ∧ ys[j]? = some z ∧ eqV z y = true ∧
    (∀ (m : Nat) (z' : V), m < j → ys[m]? = some z' → eqV z' y = false) ∧ Q (.int (j : Nat)) H) := by
  intro pins s σ H x xs v us Q I rx rxs h
  obtain ⟨a, ys, y, j, z, rfl, rfl, hs, fy, fys, hz, hzj, hno, q⟩ := h
  cases rx
  obtain ⟨uy, rfl, ry⟩ := rxs.one
  obtain ⟨ws, rv, ⟨ob, ho, hc, n, hd⟩, hlen⟩ := I.tuple hs
  obtain ⟨cls, dd, dt, sl⟩ := ob
  dsimp only at hc hd
  cases hc
  cases hd
  obtain ⟨u, hu, ru⟩ := rv.get hz
  obtain ⟨hjl, hje⟩ := List.getElem?_eq_some_iff.mp hu
  have hvl := rv.length
  have hj : j < ws.toArray.size := by simpa using hjl
  refine call_meets PySem.F.slot_tuple_index ⟨_, ho, rfl⟩ PySem.F.entry_tuple_index (PySem.F.args_tuple_index_2 _ _) (TI.tuple_indexAt a ws.toArray n dd sl uy (eqU y) j hj ?_ fun k hk hkj => ?_)
    ⟨ho, fun u' hu' => mem_eqAt ry fy rv fys u' (by simpa using hu'), ⟨.int (j : Nat), H, I.tok _, ⟨_, rfl⟩, q⟩⟩
  · have e1 : ws.toArray[j] = u := by simpa using hje
    rw [e1, eqU_of ru (flat_at fys hz)]
    exact hzj
  · have hkl : k < ws.length := by simpa using hk
    have hky : k < ys.length := by omega
    have hy' : ys[k]? = some ys[k] := List.getElem?_eq_getElem hky
    obtain ⟨u2, hu2, ru2⟩ := rv.get hy'
    have e1 : ws.toArray[k] = u2 := by simpa using (List.getElem?_eq_some_iff.mp hu2).2
    rw [e1, eqU_of ru2 (flat_at fys hy')]
    exact hno k _ hkj hy'
/-- a method of a tuple that is known to have no dict -/
def tBT (K : PySem.W.Frag) (r : V → List V → Hp → VK → Prop) (to : TE) (t : TA) : TE := fun σ H Q => to σ H fun x H1 => (∃ p vs, x = .ref p ∧ FzT K H1 p vs) ∧ t σ H1 fun xs H2 => r x xs H2 Q
theorem pe_bmF {X : Cx} {o e : Expr} {es : List Expr} {to : TE} {t : TA} {name : Str} {apos cpos : Pos} {id : String} {r : V → List V → Hp → VK → Prop}
    (pa : PlainAttrs "tuple") (slot : Slot "tuple" name id) (hty : typeOf (.builtin id) = pure (.type "method_descriptor")) (hm : MtR X id r) (ho : PE X o to) (ha : PA X (e :: es) t)
    (hbase : attributeBase o name X.env (eval o X.env) = eval o X.env)
    (hfew : ((backTo cpos (starEach (e :: es) X.env)).all (fun x => !x.1) && (backToKw cpos (keywordEach [] X.env)).all (fun x => x.1.isSome)
      && decide ((e :: es).length + ([] : List Keyword).length + (if ([] : List Keyword).isEmpty then 0 else 1) < 30)) = true)
    (hline : (apos.endLine == cpos.line) = true) (hs : starEach (e :: es) X.env = (false, eval e X.env) :: starEach es X.env) (hplain : (backTo cpos (starEach es X.env)).any (·.1) = false) :
    PE X (.Call (.Attribute o name apos) (e :: es) [] cpos) (tBT X.K r to t) := by
  refine ⟨fun pins s σ H Q I h => ?_⟩
  refine wpAny_Call_method_late hbase hfew hline rfl ?_
  refine thn (ho.run pins s σ H _ I h) fun v s1 ⟨x, H1, I1, r1, ⟨p, vs, ex, hf⟩, q1⟩ => ?_
  subst ex
  cases r1
  have key : ∃ ob, s1.heap.get? p = some ob ∧ ob.cls = .type "tuple" ∧ ob.dict = none := by
    rcases hf with ⟨ob, e1, e2, e3⟩ | ⟨ob, its, n, e1, e2, e3, _⟩
    · exact ⟨ob, (I1.hok _ _ e1).1, e2, e3⟩
    · exact ⟨ob, I1.kIn _ _ e1, e2, e3⟩
  obtain ⟨ob, e1, e2, e3⟩ := key
  refine ⟨"tuple", id, pa, slot, hty, ⟨ob, e1, e2⟩, fun b eb => ?_, ?_⟩
  · cases eb
    exact ⟨ob, e1, e3⟩
  · have hA := ha.run cpos pins s1 σ H1 _ I1 q1
    rw [hs] at hA ⊢
    refine Calls.callWith_builtin (by show (false || (backTo cpos (starEach es X.env)).any (·.1)) = false; rw [hplain]; rfl) ?_
    refine Calls.evalArgs_plain (thn hA fun us s2 ⟨ws, H2, I2, r2, q2⟩ => ?_)
    exact hm pins s2 σ H2 (.ref p) ws (.ref p) us Q I2 rfl r2 q2
theorem pe_or {X : Cx} {e : Expr} {t t' : TE} (h : PE X e t) (h' : PE X e t') : PE X e (fun σ H Q => t σ H Q ∨ t' σ H Q) := ⟨fun pins s σ H Q I q => q.elim (h.run pins s σ H Q I) (h'.run pins s σ H Q I)⟩
/-- the first place -/
def idxD (d : D) : List D → Option Nat
  | [] => none
  | x :: r => if x = d then some 0 else (idxD d r).map (· + 1)
theorem idxD_ok {d : D} : ∀ {ds : List D} {j : Nat}, idxD d ds = some j → ds[j]? = some d ∧ ∀ k x, k < j → ds[k]? = some x → x ≠ d
  | [], _, h => by cases h
  | x :: r, j, h => by
    unfold idxD at h
    split at h
    · rename_i e
      cases h
      exact ⟨by rw [e]; rfl, fun k _ hk => absurd hk (Nat.not_lt_zero k)⟩
    · rename_i e
      cases q : idxD d r with
      | none => rw [q] at h; cases h
      | some i =>
        rw [q] at h
        cases h
        obtain ⟨h1, h2⟩ := idxD_ok q
        refine ⟨by simpa using h1, fun k y hk hy => ?_⟩
        cases k with
        | zero => simp at hy; rw [← hy]; exact e
        | succ k => exact h2 k y (Nat.lt_of_succ_lt_succ hk) (by simpa using hy)
def oIdx : Op2
  | q, .val d, h => (asQ q h).bind fun ds => if (d.flat && ds.all D.flat) = true then (idxD d ds).bind fun j => some (.val (.int (j : Nat)), h) else none
  | _, _, _ => none
def isTp (q : LV) (_ : AH) : Bool := match q with
  | .val (.tup _) => true
  | _ => false
theorem idx_ok {K : PySem.W.Frag} {m : List Addr} {H : Hp} {vs : List V} {ds : List D} {y : V} {d : D} {j : Nat} (r : RVs K m H vs ds) (ry : RV K m H y d) (c : (d.flat && ds.all D.flat) = true) (e : idxD d ds = some j) :
    ∃ z, flatV y = true ∧ vs.all flatV = true ∧ vs[j]? = some z ∧ eqV z y = true ∧ ∀ (k : Nat) (z' : V), k < j → vs[k]? = some z' → eqV z' y = false := by
  rw [Bool.and_eq_true] at c
  obtain ⟨h1, h2⟩ := idxD_ok e
  obtain ⟨z, hz, rz⟩ := r.get h1
  refine ⟨z, ry.flat c.1, r.flat c.2, hz, by rw [rz.eqf ry c.1 c.1]; simp, fun k z' hk hz' => ?_⟩
  have hl : k < ds.length := by rw [← r.length]; exact (List.getElem?_eq_some_iff.mp hz').1
  obtain ⟨z2, hz2, rz2⟩ := r.get (List.getElem?_eq_getElem hl)
  rw [hz'] at hz2
  cases hz2
  rw [rz2.eqf ry (List.all_eq_true.mp c.2 _ (List.getElem_mem hl)) c.1]
  exact decide_eq_false (h2 k _ hk (List.getElem?_eq_getElem hl))
section
variable {X : Cx} {a b e o : Expr} {es : List Expr} {fa fb fo : SE} {fr : SA} {p pos : Pos}
def mIdx (fo fa : SE) : SE := mMeth (fun q h => isTp q h || isLs q h) oIdx fo fa
theorem je_index {apos : Pos} (ho : JE X o fo) (ha : JE X a fa)
    (hbase : attributeBase o "index" X.env (eval o X.env) = eval o X.env := by rfl)
    (hfew : ((backTo pos (starEach (a :: []) X.env)).all (fun x => !x.1) && (backToKw pos (keywordEach [] X.env)).all (fun x => x.1.isSome)
      && decide ((a :: []).length + ([] : List Keyword).length + (if ([] : List Keyword).isEmpty then 0 else 1) < 30)) = true := by rfl)
    (hline : (apos.endLine == pos.line) = true := by rfl) (hs : starEach (a :: []) X.env = (false, eval a X.env) :: starEach [] X.env := by rfl) (hplain : (backTo pos (starEach [] X.env)).any (·.1) = false := by rfl) :
    JE X (.Call (.Attribute o "index" apos) [a] [] pos) (mIdx fo fa) := by
  refine pe_weak (pe_or (pe_bm PySem.F.plainAttrs_list PySem.F.slot_list_index PySem.F.type_list_index mt_index ho (ja_cons ha ja_nil hs) hbase hfew hline hs hplain)
    (pe_bmF PySem.F.plainAttrs_tuple PySem.F.slot_tuple_index PySem.F.type_tuple_index mt_tupIdx ho (ja_cons ha ja_nil hs) hbase hfew hline hs hplain)) fun σ H Q ⟨m, τ, h, d, h', R, S, e, q⟩ => ?_
  obtain ⟨⟨x, h1⟩, e1, e⟩ := bind_some' e
  obtain ⟨c, e⟩ := ite_some' e
  obtain ⟨⟨y, h2⟩, e2, e⟩ := bind_some' e
  dsimp only at e c e2
  have argR : mCons fa mNil τ h1 = some ([y], h2) := by
    unfold mCons mNil
    rw [e2]
    rfl
  unfold oIdx at e
  split at e
  · obtain ⟨ds, e3, e⟩ := bind_some' e
    obtain ⟨c2, e⟩ := ite_some' e
    obtain ⟨j, e4, e⟩ := bind_some' e
    cases e
    by_cases ht : isTp x h1 = true
    · refine .inr ⟨m, τ, h, x, h1, R, S, e1, fun m1 H1 v1 L1 S1 r1 _ => ⟨?_, m1, τ, h1, [.val _], h', R.mono S.cl L1.toLw, S1, argR, fun m2 H2 v2 L2 S2 r2 => ?_⟩⟩
      · unfold isTp at ht
        split at ht
        · cases r1 with
          | val r1 =>
            cases r1 with
            | tup f r => exact ⟨_, _, rfl, f⟩
        · cases ht
      · obtain ⟨w, rfl, r3⟩ := inv1 r2
        have r1' := r1.mono S1.cl L2
        unfold isTp at ht
        split at ht
        · cases e3
          cases r1' with
          | val r1' =>
            cases r1' with
            | tup f r =>
              cases r3 with
              | val r3 =>
                obtain ⟨z, k1, k2, k3, k4, k5⟩ := idx_ok r r3 c2 e4
                exact ⟨_, _, _, j, z, rfl, rfl, f.sq, k1, k2, k3, k4, k5, q m2 H2 _ (L1.trans L2) S2 (.val (.int _)) (nwV _ _ _)⟩
        · cases ht
    · have hl : isLs x h1 = true := by
        rw [Bool.or_eq_true] at c
        rcases c with c | c
        · exact absurd c ht
        · exact c
      refine .inl ⟨m, τ, h, x, h1, R, S, e1, fun m1 H1 v1 L1 S1 r1 _ => ⟨isLs_ok S1 r1 hl, m1, τ, h1, [.val _], h', R.mono S.cl L1.toLw, S1, argR, fun m2 H2 v2 L2 S2 r2 => ?_⟩⟩
      obtain ⟨w, rfl, r3⟩ := inv1 r2
      have r1' := r1.mono S1.cl L2
      have e5 : asL x h' = some ds := by
        unfold asQ at e3
        split at e3
        · exact absurd rfl ht
        · unfold isLs asL asM at hl
          cases hl
        · exact e3
      obtain ⟨pp, vs, rfl, hq, rv⟩ := asL_ok S2 r1' e5
      cases r3 with
      | val r3 =>
        obtain ⟨z, k1, k2, k3, k4, k5⟩ := idx_ok rv r3 c2 e4
        exact ⟨_, _, _, j, z, rfl, rfl, hq, k1, k2, k3, k4, k5, q m2 H2 _ (L1.trans L2) S2 (.val (.int _)) (nwV _ _ _)⟩
  · cases e
end
end Sm
namespace Sm
open PySem PySem.Spec PyProof.Rows L2

/-! ## zip of two, lists or tuples in any mix -/
def SqX (K : PySem.W.Frag) (H : Hp) (k : Bool) (a : Addr) (xs : List V) : Prop := match k with
  | true => SqL K H a xs
  | false => SqT K H a xs
def IterX (h : Heap) (k : Bool) (it a : Addr) (i : Nat) : Prop := match k with
  | true => h.IsListIter it a i
  | false => h.IsTupleIter it a i
def SeqX (h : Heap) (k : Bool) (a : Addr) (us : List Value) : Prop := match k with
  | true => h.IsList a us.toArray
  | false => h.IsTuple a us.toArray
theorem seqX {X : Cx} {pins : List (Addr × Obj)} {σ : L2.St} {H : Hp} {s : Shared} {k : Bool} {a : Addr} {xs : List V} (I : Inv X pins σ H s) (h : SqX X.K H k a xs) : ∃ us, Vals xs us ∧ SeqX s.heap k a us := by
  cases k with
  | true =>
    obtain ⟨us, r, pl, _⟩ := I.list h
    exact ⟨us, r, pl.isList⟩
  | false =>
    obtain ⟨us, r, pl, _⟩ := I.tuple h
    exact ⟨us, r, pl⟩
theorem seqX_inj {X : Cx} {pins : List (Addr × Obj)} {σ : L2.St} {H : Hp} {s : Shared} {k : Bool} {a : Addr} {xs ys : List V} (I : Inv X pins σ H s) (h : SqX X.K H k a xs) (h' : SqX X.K H k a ys) : xs = ys := by
  cases k with
  | true => exact I.list_inj h h'
  | false => exact I.tuple_inj h h'
theorem IterX.at {h h' : Heap} {k : Bool} {it a : Addr} {i : Nat} (x : IterX h k it a i) (e : ∀ o, h.get? it = some o → h'.get? it = some o) : IterX h' k it a i := by
  cases k with
  | true => exact Heap.IsListIter.at x e
  | false => exact Heap.IsTupleIter.at x e
theorem IterX.obj {h : Heap} {k : Bool} {it a : Addr} {i : Nat} (x : IterX h k it a i) : ∃ o, h.get? it = some o ∧ ∀ v, o.data ≠ .cell v := by
  cases k with
  | true =>
    obtain ⟨o, e, _, d⟩ := x
    exact ⟨o, e, fun v q => by rw [d] at q; cases q⟩
  | false =>
    obtain ⟨o, e, _, d⟩ := x
    exact ⟨o, e, fun v q => by rw [d] at q; cases q⟩
theorem SeqX.lt {h : Heap} {k : Bool} {a : Addr} {us : List Value} (x : SeqX h k a us) : a < h.objs.size := by
  cases k with
  | true =>
    obtain ⟨o, e, _⟩ := x
    exact Heap.lt_size e
  | false =>
    obtain ⟨o, e, _⟩ := x
    exact Heap.lt_size e
theorem drawsX {prog : Program} {w : World} {A : Around} (hh : A.handled = none) (k : Bool) (it a : Addr) (hne : a ≠ it) (us : List Value) :
    Draws prog w A it [it, a] us.length (fun i v => us[i]? = some v) (fun i h => IterX h k it a i ∧ SeqX h k a us) := by
  cases k with
  | true =>
    have q := Draws.list (prog := prog) (w := w) hh it a hne us.toArray
    simp only [List.size_toArray, List.getElem?_toArray] at q
    exact q
  | false =>
    have q := Draws.tuple (prog := prog) (w := w) hh it a hne us.toArray
    simp only [List.size_toArray, List.getElem?_toArray] at q
    exact q
def ItzM (K : PySem.W.Frag) (k1 k2 : Bool) (a b : Addr) : It :=
  ⟨fun i H => ∃ (xs ys : List V) (x y : V), SqX K H k1 a xs ∧ SqX K H k2 b ys ∧ xs[i]? = some x ∧ ys[i]? = some y,
    fun i H v H' => ∃ T x y, v = .ref T ∧ H T = none ∧ H' = upd H T (.tup [x, y]) ∧ (∀ xs, SqX K H k1 a xs → xs[i]? = some x) ∧ ∀ ys, SqX K H k2 b ys → ys[i]? = some y,
    fun i H => ∃ xs ys : List V, SqX K H k1 a xs ∧ SqX K H k2 b ys ∧ i ≤ xs.length ∧ i ≤ ys.length ∧ (i = xs.length ∨ i = ys.length)⟩
structure Ap (z TI TO i1 i2 a b : Addr) : Prop where
  sep : ZipSep2 z TI TO i1 i2 [i1, a] [i2, b]
  a1 : a ≠ i1
  b2 : b ≠ i2
  TIi1 : i1 ≠ TI
  z1 : i1 ≠ z
  z2 : i2 ≠ z
theorem turn_zipM {P : Program} {w : World} {K : PySem.W.Frag} {elts : List Expr} {kk : Nat} {tpos : Pos} {k1 k2 : Bool} {a b z TI TO i1 i2 : Addr} (D : Ap z TI TO i1 i2 a b) :
    Turn P w K (.Tuple elts kk tpos) (ItzM K k1 k2 a b) [z, TI, TO, i1, i2] z (fun i h => IsZip h z TI TO .none ∧ IsTupOf2 h TI (.ref i1) (.ref i2) ∧ (∃ x y, IsTupOf2 h TO x y) ∧ IterX h k1 i1 a i ∧ IterX h k2 i2 b i) where
  mem := List.mem_cons_self
  obj := fun i h st c hc => by
    obtain ⟨hz, hTI, ⟨x, y, hTO⟩, j1, j2⟩ := st
    have five : c = z ∨ c = TI ∨ c = TO ∨ c = i1 ∨ c = i2 := by simpa using hc
    rcases five with q | q | q | q | q
    · rw [q]
      exact ⟨_, hz, fun v q => nomatch q⟩
    · rw [q]
      exact ⟨_, hTI, fun v q => nomatch q⟩
    · rw [q]
      exact ⟨_, hTO, fun v q => nomatch q⟩
    · rw [q]
      exact j1.obj
    · rw [q]
      exact j2.obj
  keep := fun i h h' st k => by
    obtain ⟨hz, hTI, ⟨x, y, hTO⟩, j1, j2⟩ := st
    refine ⟨k z (by simp) _ hz, k TI (by simp) _ hTI, ⟨x, y, k TO (by simp) _ hTO⟩, ?_, ?_⟩
    · exact j1.at fun o q => k i1 (by simp) o q
    · exact j2.at fun o q => k i2 (by simp) o q
  item := by
    intro X hP hw hK hc i pins s σ H E I hf st hg
    subst hP hw hK
    obtain ⟨hz, hTI, ⟨x0, y0, hTO⟩, j1, j2⟩ := st
    obtain ⟨xs, ys, x, y, hqx, hqy, hx, hy⟩ := hg
    obtain ⟨us, rv, p1⟩ := seqX I hqx
    obtain ⟨ws, rv2, p2⟩ := seqX I hqy
    obtain ⟨u, hu, ru⟩ := rv.get hx
    obtain ⟨u2, hu2, ru2⟩ := rv2.get hy
    have hd : X.A.in1.handled = none := I.ok.hd hc
    refine wpAny_pyNext_zipD2_item D.sep (drawsX hd k1 i1 a D.a1 us) (drawsX hd k2 i2 b D.b2 ws) hz hTI hTO ⟨j1, p1⟩ ⟨j2, p2⟩ (List.getElem?_eq_some_iff.mp hu).1 (List.getElem?_eq_some_iff.mp hu2).1 fun x1 x2 h' tk e1 e2 z' TO' g1 g2 hT hsz hk => ?_
    rw [hu] at e1
    rw [hu2] at e2
    cases e1
    cases e2
    have hzl : z < s.heap.objs.size := Heap.lt_size hz
    refine ⟨_, rfl, wpAny_letOwnedTupleGo_zip (s := { s with heap := h', toks := tk }) z' fun h'' z'' sb => ?_⟩
    have all : ∀ (c : Addr) (o : Obj), c ∉ [z, TI, TO, i1, i2] → s.heap.get? c = some o → h''.get? c = some o := fun c o hb q => by
      have n1 : c ≠ z := fun q' => hb (by simp [q'])
      exact (sb.2 c n1).trans (hk c o n1 (fun q' => hb (by simp [q'])) (fun q' => hb (by simp [q'])) (fun q' => hb (by simp [q'])) q)
    have hT2 : h''.get? s.heap.objs.size = some { cls := .type "tuple", data := .seq #[u, u2] } := (sb.2 _ (Nat.ne_of_gt hzl)).trans hT
    have nw : ObjOk X.prog X.w (upd H s.heap.objs.size (.tup [x, y])) h'' s.heap.objs.size (.tup [x, y]) := by
      refine ⟨(show 2 ≤ sizeLine by decide), [u, u2], .cons ru (.cons ru2 .nil), ?_⟩
      exact ⟨_, hT2, rfl, _, rfl⟩
    have I1 : Inv X pins σ (upd H s.heap.objs.size (.tup [x, y])) { s with heap := h'', toks := tk } := I.turnedNew (t' := tk) (ch := [z, TI, TO, i1, i2]) all hf (Nat.le_refl _) nw
    refine ⟨.ref s.heap.objs.size, _, I1, rfl, ⟨_, x, y, rfl, I.hok.fresh (Nat.le_refl _), rfl, fun l hl => by rw [seqX_inj I hl hqx]; exact hx, fun l hl => by rw [seqX_inj I hl hqy]; exact hy⟩, ?_, fun c hcm => ?_⟩
    · refine ⟨z'', (sb.2 _ D.sep.TIz).trans (hk _ _ D.sep.TIz D.sep.TITO D.sep.TIi1 D.sep.TIi2 hTI), ⟨u, u2, (sb.2 _ D.sep.TOz).trans TO'⟩, ?_, ?_⟩
      · exact g1.1.at fun o q => (sb.2 _ D.z1).trans q
      · exact g2.1.at fun o q => (sb.2 _ D.z2).trans q
    · have hlt : c < s.heap.objs.size := by
        have five : c = z ∨ c = TI ∨ c = TO ∨ c = i1 ∨ c = i2 := by simpa using hcm
        rcases five with q | q | q | q | q
        · rw [q]; exact hzl
        · rw [q]; exact Heap.lt_size hTI
        · rw [q]; exact Heap.lt_size hTO
        · obtain ⟨_, e1, _⟩ := j1.obj
          rw [q]; exact Heap.lt_size e1
        · obtain ⟨_, e2, _⟩ := j2.obj
          rw [q]; exact Heap.lt_size e2
      rw [upd_ne (Nat.ne_of_lt hlt)]
      exact (hf c hcm).1
  done := by
    intro X hP hw hK hc i pins s σ H E I hf st hg
    subst hP hw hK
    obtain ⟨hz, hTI, ⟨x0, y0, hTO⟩, j1, j2⟩ := st
    obtain ⟨xs, ys, hqx, hqy, l1, l2, hend⟩ := hg
    obtain ⟨us, rv, p1⟩ := seqX I hqx
    obtain ⟨ws, rv2, p2⟩ := seqX I hqy
    have q1 := rv.length
    have q2 := rv2.length
    have hd : X.A.in1.handled = none := I.ok.hd hc
    refine wpAny_pyNext_zipD2_end D.sep (drawsX hd k1 i1 a D.a1 us) (drawsX hd k2 i2 b D.b2 ws) hz hTI hTO ⟨j1, p1⟩ ⟨j2, p2⟩ (by rw [← q1]; exact l1) (by rw [← q2]; exact l2) (by rw [← q1, ← q2]; exact hend) fun h' tk hk => ?_
    refine ⟨rfl, I.turnedL (t' := tk) (ch := [z, TI, TO, i1, i2]) (fun c o hb q => ?_) hf⟩
    exact hk c o (fun q' => hb (by simp [q'])) (fun q' => hb (by simp [q'])) (fun q' => hb (by simp [q'])) (fun q' => hb (by simp [q'])) q
  self := fun A i s Q E st h => wpAny_pyIter_zip st.1 h
def iZipM (K : PySem.W.Frag) (ta : TA) : TI := fun σ H R => ta σ H fun vs H1 => ∃ a b xs ys k1 k2, vs = [.ref a, .ref b] ∧ SqX K H1 k1 a xs ∧ SqX K H1 k2 b ys ∧ R (ItzM K k1 k2 a b) H1
theorem nin2 {x y a : Nat} (h1 : x ≠ y) (h2 : x ≠ a) : x ∉ [y, a] := fun h => by
  rcases List.mem_cons.mp h with z | z
  · exact h1 z
  · exact h2 (List.mem_singleton.mp z)
theorem ap_new (n a b : Nat) (ha : a < n) (hb : b < n) : Ap (n + 4) (n + 2) (n + 3) n (n + 1) a b := by
  have e1 : n + 2 ≠ n + 4 := by omega
  have e2 : n + 3 ≠ n + 4 := by omega
  have e3 : n + 2 ≠ n + 3 := by omega
  have e4 : n + 2 ≠ n := by omega
  have e5 : n + 4 ≠ n := by omega
  have e6 : n + 4 ≠ a := by omega
  have e7 : n + 3 ≠ n := by omega
  have e8 : n + 3 ≠ a := by omega
  have e9 : n + 2 ≠ n + 1 := by omega
  have f1 : n + 4 ≠ n + 1 := by omega
  have f2 : n + 4 ≠ b := by omega
  have f3 : n + 3 ≠ n + 1 := by omega
  have f4 : n + 3 ≠ b := by omega
  have f5 : n ≠ n + 1 := by omega
  have f6 : n ≠ b := by omega
  have f7 : n + 1 ≠ a := by omega
  have f8 : a ≠ n := by omega
  have f9 : b ≠ n + 1 := by omega
  exact ⟨⟨e1, e2, e3, e4, List.mem_cons_self, nin2 e5 e6, nin2 e7 e8, e9, List.mem_cons_self, nin2 f1 f2, nin2 f3 f4, nin2 f5 f6, nin2 f5.symm f7⟩, f8, f9, e4.symm, e5.symm, f1.symm⟩
/-- what zip begins with -/
def begX (k : Bool) (a : Addr) : Obj := match k with
  | true => { cls := .type "list_iterator", data := .fields #[.ref a, .int 0 0] }
  | false => { cls := .type "tuple_iterator", data := .fields #[.ref a, .int 0 0] }
theorem beginsX (k : Bool) (a : Addr) (us : List Value) : Begins (.ref a) (begX k a) fun h => SeqX h k a us := by
  cases k with
  | true => exact begins_list a us.toArray
  | false => exact begins_tuple a us.toArray
theorem iterX_new {h : Heap} {k : Bool} {it a : Addr} (e : h.get? it = some (begX k a)) : IterX h k it a 0 := by
  cases k with
  | true => exact ⟨_, e, rfl, rfl⟩
  | false => exact ⟨_, e, rfl, rfl⟩
theorem pi_zipM {X : Cx} {e e2 : Expr} {ta : TA} {p pos tpos : Pos} {elts : List Expr} {kk : Nat} (hg : Gl X "zip") (hm : X.mg "zip" = none) (ha : PA X [e, e2] ta)
    (hs : starEach [e, e2] X.env = (false, eval e X.env) :: starEach [e2] X.env) (hpl : (backTo pos (starEach [e2] X.env)).any (·.1) = false) :
    PI X (.Tuple elts kk tpos) (.Call (.Name "zip" p) [e, e2] [] pos) (iZipM X.K ta) := by
  refine ⟨fun pins s σ H R I h => ?_⟩
  refine Call_ (ld_blt I hg hm PyProof.Rows.boot_zip (PyProof.Rows.callWith_type1 (thn (ha.run pos pins s σ H _ I h) fun us s1 hq => ?_) hs hpl))
  obtain ⟨vs, H1, I1, r1, a, b, xs, ys, k1, k2, rfl, hqx, hqy, q⟩ := hq
  obtain ⟨u1, u2, rfl, w1, w2⟩ := r1.two
  cases w1
  cases w2
  obtain ⟨us, rv, p1⟩ := seqX I1 hqx
  obtain ⟨ws, rv2, p2⟩ := seqX I1 hqy
  refine zip_begins2 (beginsX k1 a us) (beginsX k2 b ws) p1 p2 fun h' hz hTI hTO o1 o2 hsz hk => wpAny_pyIter_zip hz ?_
  have I2 : Inv X pins σ H1 { s1 with heap := h' } := I1.kept (t' := s1.toks) hk
  refine ⟨s1.heap.objs.size + 4, [s1.heap.objs.size + 4, s1.heap.objs.size + 2, s1.heap.objs.size + 3, s1.heap.objs.size, s1.heap.objs.size + 1], _, _, H1, rfl, I2, turn_zipM (ap_new s1.heap.objs.size a b p1.lt p2.lt), ⟨hz, hTI, ⟨_, _, hTO⟩, iterX_new o1, iterX_new o2⟩, fun c hcm => ?_, q⟩
  have hle : s1.heap.objs.size ≤ c := by
    have five : c = s1.heap.objs.size + 4 ∨ c = s1.heap.objs.size + 2 ∨ c = s1.heap.objs.size + 3 ∨ c = s1.heap.objs.size ∨ c = s1.heap.objs.size + 1 := by simpa using hcm
    rcases five with z | z | z | z | z <;> rw [z] <;> first | exact Nat.le_refl _ | exact Nat.le_add_right _ _
  exact I1.fpOk hle (I1.hok.fresh hle)

/-- one of two that are walked -/
inductive SrcX (K : PySem.W.Frag) (m : List Addr) (H : Hp) (h : AH) (v : V) (q : LV) (it : ItD) : Prop
  | mk (k : Bool) (p : Addr) (us : List V) : v = .ref p → SqX K H k p us → RVs K m H us it.items →
      (∀ m' h' H', Le m H m' H' → Sim K m' h' H' → grdOk it.grd h' = true → ∃ us, SqX K H' k p us ∧ RVs K m' H' us it.items) → SrcX K m H h v q it
theorem srcX_of {K : PySem.W.Frag} {m : List Addr} {h : AH} {H : Hp} (S : Sim K m h H) {v : V} {q : LV} {it : ItD} (r : RQ K m H v q) (e : iterOf q h = some it) : SrcX K m H h v q it := by
  rcases srcL_of S r e with s | ⟨p, us, rfl, hq, rr, hg, _⟩
  · obtain ⟨p, rfl, ⟨us, hq, rr⟩, st⟩ := s.stays S
    exact .mk true p us rfl hq rr st
  · exact .mk false p us rfl hq rr fun m' h' H' L' S' _ => ⟨us, sqT_mono S.cl L'.toLw hq, rr.mono S.cl L'.toLw⟩
def zipD : List D → List D → List D
  | x :: xs, y :: ys => .zt [x, y] :: zipD xs ys
  | _, _ => []
theorem zipD_get : ∀ {xs ys : List D} {i : Nat} {d : D}, (zipD xs ys)[i]? = some d → ∃ x y, xs[i]? = some x ∧ ys[i]? = some y ∧ d = .zt [x, y]
  | x :: xs, y :: ys, 0, d, h => ⟨x, y, rfl, rfl, by simpa [zipD] using h.symm⟩
  | x :: xs, y :: ys, i + 1, d, h => by
    obtain ⟨a, b, h1, h2, h3⟩ := zipD_get (xs := xs) (ys := ys) (i := i) (d := d) (by simpa [zipD] using h)
    exact ⟨a, b, by simpa using h1, by simpa using h2, h3⟩
  | [], _, i, d, h => by simp [zipD] at h
  | _ :: _, [], i, d, h => by simp [zipD] at h
theorem zipD_len : ∀ (xs ys : List D), (zipD xs ys).length = min xs.length ys.length
  | x :: xs, y :: ys => by simp [zipD, zipD_len xs ys]
  | [], ys => by simp [zipD]
  | x :: xs, [] => by simp [zipD]
def zipOf : List LV → AH → Option ItD
  | [p, q], h => (iterOf p h).bind fun a => (iterOf q h).bind fun b => some ⟨zipD a.items b.items, a.grd ++ b.grd⟩
  | _, _ => none
def mZip (fr : SA) : SI := fun τ h => (fr τ h).bind fun p => (zipOf p.1 p.2).bind fun it => some (it, p.2)
theorem grd_app {g1 g2 : List (Nat × List D)} {h : AH} (G : grdOk (g1 ++ g2) h = true) : grdOk g1 h = true ∧ grdOk g2 h = true := by
  unfold grdOk at *
  rw [List.all_append, Bool.and_eq_true] at G
  exact G
theorem ji_zip {X : Cx} {e e2 : Expr} {fr : SA} {p pos tpos : Pos} {elts : List Expr} {kk : Nat} (hg : Gl X "zip") (hm : X.mg "zip" = none) (ha : JA X [e, e2] fr)
    (hs : starEach [e, e2] X.env = (false, eval e X.env) :: starEach [e2] X.env := by rfl) (hpl : (backTo pos (starEach [e2] X.env)).any (·.1) = false := by rfl) :
    JI X (.Tuple elts kk tpos) (.Call (.Name "zip" p) [e, e2] [] pos) (mZip fr) := by
  refine pi_weak (pi_zipM hg hm ha hs hpl) fun σ H R ⟨m, τ, h, it, h', Rs, S, e, q⟩ => ?_
  obtain ⟨⟨x, h1⟩, e1, e⟩ := bind_some' e
  obtain ⟨it', e2, e⟩ := bind_some' e
  cases e
  refine ⟨m, τ, h, x, h1, Rs, S, e1, fun m1 H1 v1 L1 S1 r1 => ?_⟩
  dsimp only at e2
  unfold zipOf at e2
  split at e2
  · obtain ⟨A, ea, e2⟩ := bind_some' e2
    obtain ⟨B, eb, e2⟩ := bind_some' e2
    cases e2
    obtain ⟨v, v', rfl, ra, rb⟩ := inv2 r1
    obtain ⟨k1, pa, us, rfl, qa, wa, sa⟩ := srcX_of S1 ra ea
    obtain ⟨k2, pb, ws, rfl, qb, wb, sb⟩ := srcX_of S1 rb eb
    refine ⟨pa, pb, us, ws, k1, k2, rfl, qa, qb, q m1 H1 _ L1 S1 fun i m2 h2 H2 L2 S2 G => ?_⟩
    obtain ⟨G1, G2⟩ := grd_app G
    obtain ⟨us2, qa2, wa2⟩ := sa m2 h2 H2 L2 S2 G1
    obtain ⟨ws2, qb2, wb2⟩ := sb m2 h2 H2 L2 S2 G2
    refine ⟨fun d hd => ?_, fun hi => ?_⟩
    · obtain ⟨x, y, hx, hy, rfl⟩ := zipD_get hd
      obtain ⟨vx, gx, rx⟩ := wa2.get hx
      obtain ⟨vy, gy, ry⟩ := wb2.get hy
      refine ⟨⟨us2, ws2, vx, vy, qa2, qb2, gx, gy⟩, fun v H3 hy3 => ?_⟩
      obtain ⟨T, x3, y3, rfl, hT, rfl, fx, fy⟩ := hy3
      have z1 := fx us2 qa2
      have z2 := fy ws2 qb2
      rw [gx] at z1
      rw [gy] at z2
      cases z1
      cases z2
      exact ⟨Le.upd S2.cl hT _, S2.upd hT _, RV.ztN S2 hT (.cons rx (.one ry))⟩
    · dsimp only at hi
      rw [zipD_len] at hi
      have z1 := wa2.length
      have z2 := wb2.length
      exact ⟨us2, ws2, qa2, qb2, by omega, by omega, by omega⟩
  · cases e2
end Sm
namespace Sm
open PySem PySem.Spec PyProof.Rows L2
/-! ## chains of two comparisons -/
def mChain (op op' : Op2) (fa fb fc : SE) : SE := fun τ h => (fa τ h).bind fun p => (fb τ p.2).bind fun q => (op p.1 q.1 q.2).bind fun r => match r.1 with
  | .val (.bl true) => (fc τ r.2).bind fun s => op' q.1 s.1 s.2
  | .val (.bl false) => some (.val (.bl false), r.2)
  | _ => none
section
variable {X : Cx} {a b c : Expr} {es rest : List Expr} {fa fb fc : SE} {pos : Pos}
theorem chain_sem {K : PySem.W.Frag} {r r' : R2} {op op' : Op2} (hs : SimR K r op) (hs' : SimR K r' op') (σ : L2.St) (H : Hp) (Q : VK) (h : tE K (mChain op op' fa fb fc) σ H Q) :
    tChain r r' (tE K fa) (tE K fb) (tE K fc) σ H Q := by
  obtain ⟨m, τ, h, d, h', R, S, e, q⟩ := h
  obtain ⟨⟨x, h1⟩, e1, e⟩ := bind_some' e
  obtain ⟨⟨y, h2⟩, e2, e⟩ := bind_some' e
  obtain ⟨⟨z, h3⟩, e3, e⟩ := bind_some' e
  refine ⟨m, τ, h, x, h1, R, S, e1, fun m1 H1 v1 L1 S1 r1 _ => ?_⟩
  refine ⟨m1, τ, h1, y, h2, R.mono S.cl L1.toLw, S1, e2, fun m2 H2 v2 L2 S2 r2 _ => ?_⟩
  refine hs m2 h2 H2 v1 v2 x y z h3 _ S2 (r1.mono S1.cl L2) r2 e3 fun m3 H3 v3 L3 S3 r3 n3 => ?_
  dsimp only at e
  have L13 := L1.trans (L2.trans L3)
  split at e
  · cases r3 with
    | val r =>
      cases r
      refine ⟨true, rfl, ?_⟩
      rw [if_pos rfl]
      obtain ⟨⟨w, h4⟩, e4, e⟩ := bind_some' e
      refine ⟨m3, τ, h3, w, h4, R.mono S.cl L13.toLw, S3, e4, fun m4 H4 v4 L4 S4 r4 _ => ?_⟩
      exact hs' m4 h4 H4 v2 v4 y w d h' Q S4 (r2.mono S2.cl (L3.trans L4)) r4 e fun m' H' v L' S' r' n' => q m' H' v (L13.trans (L4.trans L')) S' r' (n'.back S4.cl (L13.trans L4))
  · cases e
    cases r3 with
    | val r =>
      cases r
      refine ⟨false, rfl, ?_⟩
      rw [if_neg (by decide)]
      exact q m3 H3 _ L13 S3 (.val (.bl false)) (nwV _ _ _)
  · cases e
theorem je_chain {o o' : CmpOp} {op op' : Op2} (c1 : CmpOk X o op b) (c2 : CmpOk X o' op' c) (ha : JE X a fa) (hb : JE X b fb) (hc : JE X c fc) (hm : lastMarks [o, o'] [b, c] = false := by with_unfolding_all rfl) : JE X (.Compare a [o, o'] [b, c] pos) (mChain op op' fa fb fc) := by
  obtain ⟨r, h1, h2, _⟩ := c1
  obtain ⟨r', h1', h2', _⟩ := c2
  exact pe_weak (pe_chain h1 h1' ha hb hc hm) (chain_sem h2 h2')
theorem jt_chain {o o' : CmpOp} {op op' : Op2} (c1 : CmpOk X o op b) (c2 : CmpOk X o' op' c) (ha : JE X a fa) (hb : JE X b fb) (hc : JE X c fc) (hm : lastMarks [o, o'] [b, c] = false := by with_unfolding_all rfl) : JT X (.Compare a [o, o'] [b, c] pos) (mB (mChain op op' fa fb fc)) := by
  obtain ⟨r, h1, h2, _⟩ := c1
  obtain ⟨r', h1', h2', _⟩ := c2
  refine pt_weak (pt_chain h1 h1' ha hb hc hm) fun σ H Q ⟨m, τ, h, d, h', R, S, e, q⟩ => ?_
  obtain ⟨⟨x, h4⟩, e1, e⟩ := bind_some' e
  refine chain_sem h2 h2' σ H _ ⟨m, τ, h, x, h4, R, S, e1, fun m1 H1 v L1 S1 r1 n1 => ?_⟩
  dsimp only at e
  split at e
  · cases e
    cases r1 with
    | val r => cases r; exact ⟨_, rfl, q m1 H1 L1 S1⟩
  · cases e
/-! ## the truth of a value -/
def tru (q : LV) (h : AH) : Option Bool := match q with
  | .val .non => some false
  | .val (.bl b) => some b
  | .val (.int i) => some (i != 0)
  | q => (asQ q h).map fun ds => !ds.isEmpty
theorem tru_sem {K : PySem.W.Frag} {m : List Addr} {h : AH} {H : Hp} {v : V} {q : LV} {k : Bool} (S : Sim K m h H) (r : RQ K m H v q) (e : tru q h = some k) : TruV K v H k := by
  unfold tru at e
  split at e
  · cases e
    cases r with
    | val r => cases r; exact rfl
  · cases e
    cases r with
    | val r => cases r; exact rfl
  · cases e
    cases r with
    | val r => cases r; exact rfl
  · obtain ⟨ds, e1, e2⟩ := Option.map_eq_some_iff.mp e
    obtain ⟨p, vs, rfl, hS, rv⟩ := asQ_ok S r e1
    have hl := rv.length
    have he : (!vs.isEmpty) = !ds.isEmpty := by
      cases vs <;> cases ds <;> first | rfl | (simp at hl)
    rcases hS with hS | hS
    · exact .inl ⟨vs, hS, by rw [he, e2]⟩
    · exact .inr (.inl ⟨vs, hS, by rw [he, e2]⟩)
def mTr (fa : SE) : ST := fun τ h => (fa τ h).bind fun p => (tru p.1 p.2).bind fun k => some (k, p.2)
theorem jt_tr (ha : JE X a fa) (he : ∀ whole, isTrue a X.env whole = (do let v ← whole; standAt a.pos; holding [v] (truthy v)) := by intro _; rfl) : JT X a (mTr fa) := by
  refine pt_weak (pt_truth ha he) fun σ H Q ⟨m, τ, h, d, h', R, S, e, q⟩ => ?_
  obtain ⟨⟨x, h1⟩, e1, e⟩ := bind_some' e
  obtain ⟨k, e2, e⟩ := bind_some' e
  cases e
  exact ⟨m, τ, h, x, h1, R, S, e1, fun m1 H1 v L1 S1 r1 n1 => ⟨d, tru_sem S1 r1 e2, q m1 H1 L1 S1⟩⟩
def mOrX (fa fb : SE) : SE := fun τ h => (fa τ h).bind fun p => (tru p.1 p.2).bind fun k => if k = true then some p else fb τ p.2
def mAndX (fa fb : SE) : SE := fun τ h => (fa τ h).bind fun p => (tru p.1 p.2).bind fun k => if k = true then fb τ p.2 else some p
def mNotX (fa : SE) : SE := fun τ h => (fa τ h).bind fun p => (tru p.1 p.2).bind fun k => some (.val (.bl (!k)), p.2)
theorem je_orX (ha : JE X a fa) (hb : JE X (.BoolOp .Or (b :: rest) pos) fb) : JE X (.BoolOp .Or (a :: b :: rest) pos) (mOrX fa fb) := by
  refine pe_weak (pe_orT ha hb) fun σ H Q ⟨m, τ, h, d, h', R, S, e, q⟩ => ?_
  obtain ⟨⟨x, h1⟩, e1, e⟩ := bind_some' e
  obtain ⟨k, e2, e⟩ := bind_some' e
  refine ⟨m, τ, h, x, h1, R, S, e1, fun m1 H1 v L1 S1 r1 n1 => ⟨k, tru_sem S1 r1 e2, ?_⟩⟩
  cases k with
  | true =>
    rw [if_pos rfl] at e ⊢
    cases e
    exact q m1 H1 v L1 S1 r1 n1
  | false =>
    rw [if_neg (by decide)] at e ⊢
    exact ⟨m1, τ, h1, d, h', R.mono S.cl L1.toLw, S1, e, fun m2 H2 v L2 S2 r2 n2 => q m2 H2 v (L1.trans L2) S2 r2 (n2.back S1.cl L1)⟩
theorem je_andX (ha : JE X a fa) (hb : JE X (.BoolOp .And (b :: rest) pos) fb) : JE X (.BoolOp .And (a :: b :: rest) pos) (mAndX fa fb) := by
  refine pe_weak (pe_andT ha hb) fun σ H Q ⟨m, τ, h, d, h', R, S, e, q⟩ => ?_
  obtain ⟨⟨x, h1⟩, e1, e⟩ := bind_some' e
  obtain ⟨k, e2, e⟩ := bind_some' e
  refine ⟨m, τ, h, x, h1, R, S, e1, fun m1 H1 v L1 S1 r1 n1 => ⟨k, tru_sem S1 r1 e2, ?_⟩⟩
  cases k with
  | false =>
    rw [if_neg (by decide)] at e ⊢
    cases e
    exact q m1 H1 v L1 S1 r1 n1
  | true =>
    rw [if_pos rfl] at e ⊢
    exact ⟨m1, τ, h1, d, h', R.mono S.cl L1.toLw, S1, e, fun m2 H2 v L2 S2 r2 n2 => q m2 H2 v (L1.trans L2) S2 r2 (n2.back S1.cl L1)⟩
theorem je_notX (ha : JE X a fa) : JE X (.UnaryOp .Not a pos) (mNotX fa) := by
  refine pe_weak (pe_notT ha) fun σ H Q ⟨m, τ, h, d, h', R, S, e, q⟩ => ?_
  obtain ⟨⟨x, h1⟩, e1, e⟩ := bind_some' e
  obtain ⟨k, e2, e⟩ := bind_some' e
  cases e
  exact ⟨m, τ, h, x, h1, R, S, e1, fun m1 H1 v L1 S1 r1 n1 => ⟨k, tru_sem S1 r1 e2, q m1 H1 _ L1 S1 (.val (.bl _)) (nwV _ _ _)⟩⟩
end
end Sm
namespace Sm
open PySem PySem.Spec PyProof.Rows L2
/-! ## enumerate of a list or a tuple -/
set_option maxHeartbeats 1000000 in
theorem newEnum {v : Value} {o : Obj} {G : Heap → Prop} (B : Begins v o G) :
    Meets (Builtin.«enumerate.__new__» ⟨[.type "enumerate", v], []⟩) fun _ R s => G s.heap ∧
      R (.ok (.ret (.ref (s.heap.push o).objs.size))) { s with heap := (s.heap.push o).push { cls := .type "enumerate", data := .fields #[.none, .bool false, .ref s.heap.objs.size, rawInt 0, .none, .none] } } :=
  .of_wp fun prog w A R s h => by
    obtain ⟨hp, gens, dd, tk, os⟩ := s
    obtain ⟨g1, h⟩ := h
    have isub := sub_enumerate
    have go : ∀ {A' : Around} {E Q : Value → Shared → Prop}, Q (.ref hp.objs.size) ⟨hp.push o, gens, dd, tk, os⟩ → wpAny (model prog w) A' (pyIter v) Q E ⟨hp, gens, dd, tk, os⟩ :=
      fun z => B.iter prog w _ _ ⟨hp, gens, dd, tk, os⟩ _ g1 z
    wp_walk using go
    refine wpAny_stack_any fun st => wpAny_pure ?_
    split
    · rename_i c _ _ _ _ _
      cases (c == Value.type "enumerate") <;> (wp_walk using go; exact ⟨_, rfl, h⟩)
    · wp_walk using go
      exact ⟨_, rfl, h⟩
theorem enumBegins {prog : Program} {w : World} {A : Around} {E : Value → Shared → Prop} {s : Shared} {v : Value} {o : Obj} {G : Heap → Prop} {Q : Value → Shared → Prop} (B : Begins v o G) (g1 : G s.heap)
    (h : ∀ h', IsEnum h' (s.heap.objs.size + 1) s.heap.objs.size 0 .none → h'.get? s.heap.objs.size = some o → (∀ b o, s.heap.get? b = some o → h'.get? b = some o) → Q (.ref (s.heap.objs.size + 1)) { s with heap := h' }) :
    wpAny (model prog w) A (call (.type "enumerate") [v]) Q E s := by
  refine callType_new F.called_enumerate (by decide) (F.typeCall_enumerate_1 _) (F.newCall_enumerate_1 _) (fun ob => F.args_object_init_2 ob _) F.entry_enumerate_new (newEnum B) ⟨g1, ?_⟩
  have hz : (s.heap.push o).objs.size = s.heap.objs.size + 1 := Heap.size_push ..
  show _ ∧ _
  rw [hz]
  have e1 : IsEnum ((s.heap.push o).push { cls := .type "enumerate", data := .fields #[.none, .bool false, .ref s.heap.objs.size, rawInt 0, .none, .none] }) (s.heap.objs.size + 1) s.heap.objs.size 0 .none := by
    have z := Heap.get?_push_size (s.heap.push o) (o := { cls := .type "enumerate", data := .fields #[.none, .bool false, .ref s.heap.objs.size, rawInt 0, .none, .none] }) rfl
    rwa [hz] at z
  exact ⟨⟨_, e1, rfl⟩, h _ e1 (Heap.get?_push_of_some _ (Heap.get?_push_size _ B.free)) fun b o' x => Heap.get?_push_of_some _ (Heap.get?_push_of_some _ x)⟩
def ItnM (K : PySem.W.Frag) (k : Bool) (a : Addr) : It :=
  ⟨fun i H => ∃ (xs : List V) (x : V), SqX K H k a xs ∧ xs[i]? = some x,
    fun i H v H' => ∃ T x, v = .ref T ∧ H T = none ∧ H' = upd H T (.tup [.int (i : Nat), x]) ∧ ∀ xs, SqX K H k a xs → xs[i]? = some x,
    fun i H => ∃ xs : List V, SqX K H k a xs ∧ i = xs.length⟩
theorem turn_enumM {P : Program} {w : World} {K : PySem.W.Frag} {elts : List Expr} {kk : Nat} {tpos : Pos} {k : Bool} {a e it : Addr} (hne : e ≠ it) (hea : e ≠ a) (hai : a ≠ it) :
    Turn P w K (.Tuple elts kk tpos) (ItnM K k a) [e, it] e (fun i h => (∃ old, IsEnum h e it ((i : Nat) : Int) old) ∧ IterX h k it a i) where
  mem := List.mem_cons_self
  obj := fun i h st c hc => by
    obtain ⟨⟨old, he⟩, j⟩ := st
    have two : c = e ∨ c = it := by simpa using hc
    rcases two with q | q
    · rw [q]; exact ⟨_, he, fun v z => nomatch z⟩
    · rw [q]; exact j.obj
  keep := fun i h h' st kp => by
    obtain ⟨⟨old, he⟩, j⟩ := st
    exact ⟨⟨old, kp e (by simp) _ he⟩, j.at fun o q => kp it (by simp) o q⟩
  item := by
    intro X hP hw hK hc i pins s σ H E I hf st hg
    subst hP hw hK
    obtain ⟨⟨old, he⟩, j⟩ := st
    obtain ⟨xs, x, hq, hx⟩ := hg
    obtain ⟨us, rv, p1⟩ := seqX I hq
    obtain ⟨u, hu, ru⟩ := rv.get hx
    have hd : X.A.in1.handled = none := I.ok.hd hc
    have hel : e < s.heap.objs.size := Heap.lt_size he
    refine wpAny_pyNext_enum_itemC (drawsX hd k it a hai us) he ⟨j, p1⟩ (List.getElem?_eq_some_iff.mp hu).1 hne (nin2 hne hea) fun x1 h' tk e1 ho st2 hT hsz hk => ?_
    rw [hu] at e1
    cases e1
    refine ⟨_, rfl, wpAny_letOwnedTupleGo_enum (s := { s with heap := h', toks := tk + 1 }) ho fun h'' he' sb => ?_⟩
    have all : ∀ (c : Addr) (o : Obj), c ∉ [e, it] → s.heap.get? c = some o → h''.get? c = some o := fun c o hb q => by
      have n1 : c ≠ e := fun z => hb (by simp [z])
      exact (sb.2 c n1).trans (hk c o n1 (fun z => hb (by simp [z])) q)
    have hT2 : h''.get? s.heap.objs.size = some { cls := .type "tuple", data := .seq #[.int i tk, u] } := (sb.2 _ (Nat.ne_of_gt hel)).trans hT
    have nw : ObjOk X.prog X.w (upd H s.heap.objs.size (.tup [.int (i : Nat), x])) h'' s.heap.objs.size (.tup [.int (i : Nat), x]) :=
      ⟨(show 2 ≤ sizeLine by decide), [.int i tk, u], .cons ⟨_, rfl⟩ (.cons ru .nil), _, hT2, rfl, _, rfl⟩
    have I1 : Inv X pins σ (upd H s.heap.objs.size (.tup [.int (i : Nat), x])) { s with heap := h'', toks := tk + 1 } := I.turnedNew (t' := tk + 1) (ch := [e, it]) all hf (Nat.le_refl _) nw
    refine ⟨.ref s.heap.objs.size, _, I1, rfl, ⟨_, x, rfl, I.hok.fresh (Nat.le_refl _), rfl, fun l hl => by rw [seqX_inj I hl hq]; exact hx⟩, ⟨⟨u, ?_⟩, st2.1.at fun o q => (sb.2 _ (Ne.symm hne)).trans q⟩, fun c hcm => ?_⟩
    · rw [show ((i + 1 : Nat) : Int) = (i : Int) + 1 by omega]
      exact he'
    · have hlt : c < s.heap.objs.size := by
        have two : c = e ∨ c = it := by simpa using hcm
        rcases two with q | q
        · rw [q]; exact hel
        · obtain ⟨_, e2, _⟩ := j.obj
          rw [q]; exact Heap.lt_size e2
      rw [upd_ne (Nat.ne_of_lt hlt)]
      exact (hf c hcm).1
  done := by
    intro X hP hw hK hc i pins s σ H E I hf st hg
    subst hP hw hK
    obtain ⟨⟨old, he⟩, j⟩ := st
    obtain ⟨xs, hq, hi⟩ := hg
    obtain ⟨us, rv, p1⟩ := seqX I hq
    have q1 := rv.length
    have hd : X.A.in1.handled = none := I.ok.hd hc
    have hi' : i = us.length := hi.trans q1
    subst hi'
    refine wpAny_pyNext_enum_endD (drawsX hd k it a hai us) he ⟨j, p1⟩ fun h' hk => ?_
    exact ⟨rfl, I.turnedL (t' := s.toks) (ch := [e, it]) (fun c o hb q => hk c o (fun z => hb (by simp [z])) q) hf⟩
  self := fun A i s Q E st h => by
    obtain ⟨⟨old, he⟩, _⟩ := st
    exact wpAny_pyIter_enum he h
def iEnumM (K : PySem.W.Frag) (ta : TA) : TI := fun σ H R => ta σ H fun vs H1 => ∃ a xs k, vs = [.ref a] ∧ SqX K H1 k a xs ∧ R (ItnM K k a) H1
theorem pi_enumM {X : Cx} {e : Expr} {ta : TA} {p pos tpos : Pos} {elts : List Expr} {kk : Nat} (hg : Gl X "enumerate") (hm : X.mg "enumerate" = none) (ha : PA X [e] ta) (hs : starEach [e] X.env = [(false, eval e X.env)] := by rfl) :
    PI X (.Tuple elts kk tpos) (.Call (.Name "enumerate" p) [e] [] pos) (iEnumM X.K ta) := by
  refine ⟨fun pins s σ H R I h => ?_⟩
  refine Call_ (ld_blt I hg hm boot_enumerate (PyProof.Rows.callWith_type1 (thn (ha.run pos pins s σ H _ I h) fun us s1 hq => ?_) hs rfl))
  obtain ⟨vs, H1, I1, r1, a, xs, k, rfl, hqx, q⟩ := hq
  cases r1 with
  | cons w1 rr =>
    cases rr
    cases w1
    obtain ⟨us, rv, p1⟩ := seqX I1 hqx
    have alt := p1.lt
    refine enumBegins (beginsX k a us) p1 fun h' he o1 hk => wpAny_pyIter_enum he ?_
    have I2 : Inv X pins σ H1 { s1 with heap := h' } := I1.kept (t' := s1.toks) hk
    refine ⟨s1.heap.objs.size + 1, [s1.heap.objs.size + 1, s1.heap.objs.size], _, _, H1, rfl, I2, turn_enumM (Nat.succ_ne_self _) (Nat.ne_of_gt (Nat.lt_succ_of_lt alt)) (Nat.ne_of_lt alt), ⟨⟨_, he⟩, iterX_new o1⟩, fun c hcm => ?_, q⟩
    have hle : s1.heap.objs.size ≤ c := by
      have two : c = s1.heap.objs.size + 1 ∨ c = s1.heap.objs.size := by simpa using hcm
      rcases two with z | z <;> rw [z]
      · exact Nat.le_succ _
      · exact Nat.le_refl _
    exact I1.fpOk hle (I1.hok.fresh hle)
def numD (ds : List D) : Nat → List D := fun n => match ds with
  | [] => []
  | d :: r => .zt [.int (n : Int), d] :: numD r (n + 1)
theorem numD_get : ∀ {ds : List D} {n i : Nat} {d : D}, (numD ds n)[i]? = some d → ∃ x, ds[i]? = some x ∧ d = .zt [.int ((n + i : Nat) : Int), x]
  | x :: r, n, 0, d, h => ⟨x, rfl, by
    unfold numD at h
    simpa using h.symm⟩
  | x :: r, n, i + 1, d, h => by
    unfold numD at h
    obtain ⟨y, h1, h2⟩ := numD_get (ds := r) (n := n + 1) (i := i) (d := d) (by simpa using h)
    exact ⟨y, by simpa using h1, by rw [h2, show n + 1 + i = n + (i + 1) by omega]⟩
  | [], n, i, d, h => by
    unfold numD at h
    simp at h
theorem numD_len : ∀ (ds : List D) (n : Nat), (numD ds n).length = ds.length
  | [], n => by unfold numD; rfl
  | x :: r, n => by unfold numD; rw [List.length_cons, List.length_cons, numD_len r]
def enumOf : List LV → AH → Option ItD
  | [p], h => (iterOf p h).bind fun a => some ⟨numD a.items 0, a.grd⟩
  | _, _ => none
def mEnum (fr : SA) : SI := fun τ h => (fr τ h).bind fun p => (enumOf p.1 p.2).bind fun it => some (it, p.2)
theorem ji_enum {X : Cx} {e : Expr} {fr : SA} {p pos tpos : Pos} {elts : List Expr} {kk : Nat} (hg : Gl X "enumerate") (hm : X.mg "enumerate" = none) (ha : JA X [e] fr) (hs : starEach [e] X.env = [(false, eval e X.env)] := by rfl) :
    JI X (.Tuple elts kk tpos) (.Call (.Name "enumerate" p) [e] [] pos) (mEnum fr) := by
  refine pi_weak (pi_enumM hg hm ha hs) fun σ H R ⟨m, τ, h, it, h', Rs, S, e, q⟩ => ?_
  obtain ⟨⟨x, h1⟩, e1, e⟩ := bind_some' e
  obtain ⟨it', e2, e⟩ := bind_some' e
  cases e
  refine ⟨m, τ, h, x, h1, Rs, S, e1, fun m1 H1 v1 L1 S1 r1 => ?_⟩
  dsimp only at e2
  unfold enumOf at e2
  split at e2
  · obtain ⟨A, ea, e2⟩ := bind_some' e2
    cases e2
    cases r1 with
    | cons ra rr =>
      cases rr
      obtain ⟨k1, pa, us, rfl, qa, wa, sa⟩ := srcX_of S1 ra ea
      refine ⟨pa, us, k1, rfl, qa, q m1 H1 _ L1 S1 fun i m2 h2 H2 L2 S2 G => ?_⟩
      obtain ⟨us2, qa2, wa2⟩ := sa m2 h2 H2 L2 S2 G
      refine ⟨fun d hd => ?_, fun hi => ?_⟩
      · obtain ⟨x, hx, rfl⟩ := numD_get hd
        obtain ⟨vx, gx, rx⟩ := wa2.get hx
        refine ⟨⟨us2, vx, qa2, gx⟩, fun v H3 hy3 => ?_⟩
        obtain ⟨T, x3, rfl, hT, rfl, fx⟩ := hy3
        have z1 := fx us2 qa2
        rw [gx] at z1
        cases z1
        refine ⟨Le.upd S2.cl hT _, S2.upd hT _, ?_⟩
        rw [Nat.zero_add]
        exact RV.ztN S2 hT (.cons (.int _) (.cons rx .nil))
      · exact ⟨us2, qa2, by rw [hi, wa2.length]; exact numD_len _ _⟩
  · cases e2
end Sm
namespace Sm
open PySem PySem.Spec PyProof.Rows L2
/-! ## a def that is called where no repr is under way -/
structure FnG (P : Program) (w : World) (K : PySem.W.Frag) (mg : Str → Option Value) (base : Heap) (k : Nat) (f : Addr) (fd : FuncData) (ps : List Str) (sp : Sp) : Prop where
  len : ∀ vs H Q E, sp vs H Q E → vs.length = ps.length
  run : ∀ (A : Around) (outer : List Env) (s : Shared) (H : Hp) (args : Args) (us : List Value) (vs : List V) (Q : VK) (E : XK), Room k A → A.guards = some [] → Env0 P w K mg base A outer s H → BindsTo s fd args (ps.zip us) → Vals vs us → sp vs H Q E →
    codeAny (model P w) A (.call (.ref f) args) (CR CX0 outer P w H s Q E) s
theorem FnG.of {P : Program} {w : World} {K : PySem.W.Frag} {mg : Str → Option Value} {base : Heap} {k : Nat} {f : Addr} {fd : FuncData} {ps : List Str} {sp : Sp} (G : FnOk P w K mg base CX0 k f fd ps sp) : FnG P w K mg base k f fd ps sp :=
  ⟨G.len, fun A o s H a us vs Q E hr _ e0 hb hv hs => G.run A o s H a us vs Q E hr e0 hb hv hs⟩
section
variable {P : Program} {w : World} {K : PySem.W.Frag} {mg : Str → Option Value} {base : Heap}
theorem fnG_of {x qual : Str} {st : Stmt} {f : Addr} {fd : FuncData} {N ps : List Str} {k : Nat} {sp : Sp} (F : Fun K x qual st f fd) (S : FnScope N ps (defScope st)) (len : ∀ vs H Q E, sp vs H Q E → vs.length = ps.length)
    (hbody : ∀ (cdv : Value) (A : Around) (outer : List Env) (s : Shared) (H : Hp) (vs : List V) (Q : VK) (E : XK), Room k (A.deeper (envOfC qual (defScope st) s.heap.objs.size f cdv)) → A.guards = some [] → sp vs H Q E →
      ∃ t, PSs (cxOf CX0 P w K mg base N qual (defScope st) f cdv A outer s H E).nox (defBody st) t ∧ t { nx := fun _ H' => Q .non H', rt := Q } (start N vs) H) : FnG P w K mg base (k + 1) f fd ps sp := by
  obtain ⟨oc, od, kV, doc, pm, an, cdv, ct, osl, rfl, lk, hcd⟩ := F.ex
  refine ⟨len, fun A outer s H args us vs Q E hr hgu e0 hb r hsp => ?_⟩
  have vl := len _ _ _ _ hsp
  have kin : K.In s.heap := e0.mod.kin.keeps fun b o z => (e0.bs b o z).1
  have nol : s.heap.NoLimit := e0.mod.nolimit.keeps fun b o z => (e0.bs b o z).1
  refine codeAny_call_function hr.depth (kin _ _ lk) rfl S.co S.gen rfl (PySem.W.codeRec_of kin hcd) (hb _ _ _ _ ?_)
  refine wpAny_newFunctionEnv_cells S.kind (fun y hy => ?_) fun env he s1 xx => ?_
  · obtain ⟨n, v⟩ := y
    rcases S.par n (List.of_mem_zip hy).1 with z | z
    · exact .inl z
    · exact .inr ⟨z, PySem.W.cellsFrom_some _ _ _ (.inl z)⟩
  · subst he
    refine ⟨nol.keeps xx.toInCall.keep, codeAny_func ?_⟩
    obtain ⟨t, ht, hq⟩ := hbody cdv A outer s H vs Q E (hr.deeper _) hgu hsp
    have I := inv_start (CX := CX0) (E := E) S hr.hd e0 vl r xx
    refine wpAny_mono (ht.nox.run [] s1 (start N vs) H _ I hq) (fun fl s' hs => ?_) fun e s' hs => hs
    cases fl with
    | ret u =>
      obtain ⟨v, σ', H', J, rv, z⟩ := hs
      exact ⟨v, H', J.os, J.bare, J.base, J.hok, rv, z⟩
    | next =>
      obtain ⟨σ', H', J, z⟩ := hs
      exact ⟨.non, H', J.os, J.bare, J.base, J.hok, rfl, z⟩
    | brk =>
      obtain ⟨_, _, _, z⟩ := hs
      exact z.elim
    | cont =>
      obtain ⟨_, _, _, z⟩ := hs
      exact z.elim
end
section
variable {X : Cx} {a : Expr} {es : List Expr} {fr : SA} {pos : Pos}
theorem run_fnG {pins : List (Addr × Obj)} {σ : L2.St} {H : Hp} {s : Shared} {Q : VK} {us : List Value} {vs : List V} {k : Nat} {f : Addr} {fd : FuncData} {ps : List Str} {sp : Sp} {E : XK} (G : FnG X.prog X.w X.K X.mg X.base k f fd ps sp) (hr : Room k X.A) (hgu : X.A.guards = some []) (hb : Binds X.K fd ps []) (hx : Passes CX0 X E)
    (I : Inv X pins σ H s) (r : Vals vs us) (h : sp vs H Q E) : wpAny (model X.prog X.w) X.A (call (.ref f) us) (EP X pins σ Q) X.xe s := by
  have ul : us.length = ps.length := by rw [← r.length]; exact G.len _ _ _ _ h
  have bb := hb s us I.kIn (by rw [List.append_nil]; exact ul)
  rw [List.append_nil] at bb
  refine wpAny_call (codeAny_mono (G.run X.A X.stack s H ⟨us, []⟩ us vs Q E hr hgu I.env0 bb r h) fun res s' hq => ?_)
  cases res with
  | error e => exact hx pins σ H s e s' I hq
  | ok fl =>
    cases fl <;> first | exact I.after hq | exact hq.elim
theorem je_callG {x : Str} {p : Pos} {k n : Nat} {f : Addr} {fd : FuncData} {ps : List Str} {F : SF} (G : FnG X.prog X.w X.K X.mg X.base k f fd ps (spF X.K n F)) (hr : Room k X.A) (hgu : X.A.guards = some []) (hg : Gl X x) (hm : X.mg x = some (.ref f)) (hk : PySem.W.keepIn X.K (.ref f) = true) (hb : Binds X.K fd ps [])
    (ha : JA X (a :: es) fr) (hl : LenA fr n) (hp : ps.length = n) (hdb : (x == ("__debug__" : Str)) = false := by decide) (he : starEach (a :: es) X.env = (false, eval a X.env) :: starEach es X.env := by rfl) (hpl : (backTo pos (starEach es X.env)).any (·.1) = false := by rfl) :
    JE X (.Call (.Name x p) (a :: es) [] pos) (mCall F fr) := by
  refine ⟨fun pins s σ H Q I h => ?_⟩
  obtain ⟨m, τ, h0, qs, h', R, S, e, q⟩ := call_sem hp hl h
  refine wpAny_Call_Name_kw (ld_glob I hg hm ?_ hdb)
  refine PySem.W.callWith_K (h₀ := X.base) I.ok.mod.kin hk (thn (ha.run pos pins s σ H (fun vs H' => spF X.K n F vs H' Q E0) I ⟨m, τ, h0, qs, h', R, S, e, q⟩) fun us s1 ⟨vs, H1, I1, r, z⟩ => ⟨I1.kIn, ?_⟩) he hpl
  exact run_fnG G hr hgu hb pass0 I1 r z
end
theorem fn_semG {P : Program} {w : World} {K : PySem.W.Frag} {mg : Str → Option Value} {base : Heap} {x qual : Str} {st : Stmt} {f : Addr} {fd : FuncData} {N ps : List Str} {k n nn : Nat} {body : SS}
    (F : Fun K x qual st f fd) (Sc : FnScope N ps (defScope st)) (hn : ps.length = n) (hN : N.length = nn)
    (hb : ∀ (cdv : Value) (A : Around) (outer : List Env) (s : Shared) (H : Hp) (E : XK), Room k (A.deeper (envOfC qual (defScope st) s.heap.objs.size f cdv)) → A.guards = some [] →
      JB (cxOf CX0 P w K mg base N qual (defScope st) f cdv A outer s H E).nox (defBody st) body) : FnG P w K mg base (k + 1) f fd ps (spF K n (runDef n nn body)) := by
  refine fnG_of F Sc (fun vs H Q E ⟨m, h, ds, d, h', S, r, hl, _⟩ => by rw [r.length, hl, hn]) fun cdv A outer s H vs Q E hr hgu hsp => ?_
  obtain ⟨m, h, ds, d, h', S, r, hl, e, q⟩ := hsp
  refine ⟨_, hb cdv A outer s H E hr hgu, ?_⟩
  unfold runDef at e
  rw [if_pos hl] at e
  obtain ⟨r1, e1, e⟩ := bind_some' e
  have R := rst_start r (nn - n)
  refine ⟨m, _, h, r1, ?_, S, e1, ?_⟩
  · unfold L2.start
    rw [hN, r.length, hl]
    exact R
  · cases r1 with
    | nx τ' h1 =>
      intro m' H' σ' L' S' R'
      obtain ⟨m2, L2, S2, r2⟩ := gc_ok S L' S' (RV.non (K := K) (m := m') (H := H'))
      have e2 := Option.some.inj e
      rw [e2] at S2 r2
      exact q m2 H' _ L2 S2 r2
    | rt d1 h1 =>
      intro m' H' v L' S' r'
      obtain ⟨m2, L2, S2, r2⟩ := gc_ok S L' S' r'
      have e2 := Option.some.inj e
      rw [e2] at S2 r2
      exact q m2 H' v L2 S2 r2
    | bk τ' h1 => cases e
    | ct τ' h1 => cases e
end Sm
namespace Sm
open PySem PySem.Spec PyProof.Rows L2
/-! ## the law's call, where no repr is under way -/
/-- one list is known, nothing else -/
def OneL (H : Hp) (a : Addr) (ob : Obj) (xs : List V) : Prop := (∀ b, H b = none) ∨ ∀ b, H b = if b = a then some (.frz ob (.lst xs)) else none
theorem lawG_core {P : Program} {w : World} {K : PySem.W.Frag} {mg mb : Str → Option Value} {k : Nat} {fa a : Addr} {fd : FuncData} {x : Str} {sp : Sp} {s₁ : Shared} {vs : List Value} {xs : List V} {H : Hp}
    (KX : K.In s₁.heap) (hns : s₁.heap.Ns mainGlobals mg) (hb : s₁.heap.Ns builtinsNs mb) (hbb : ∀ x : Str, x ≠ "__name__" → mb x = bootBuiltins x) (hlim : s₁.heap.NoLimit) (hg : s₁.gens = #[])
    (ha : s₁.heap.get? a = some { cls := .type "list", data := .seq vs.toArray }) (hr : Room k callerA)
    (F : ∀ base : Heap, K.In base → base.Ns mainGlobals mg → FnG P w K mg base k fa fd [x] sp) (hbind : ∀ (s : Shared) (u : Value), BindsTo s fd ⟨[u], []⟩ [(x, u)])
    (one : OneL H a { cls := .type "list", data := .seq vs.toArray } xs) (hok : HOk P w H s₁.heap) (free : H a ≠ none → K.lookup a = none) (hsp : sp [.ref a] H (fun v _ => v = .bl true) E0) :
    codeAny (model P w) callerA (.call (.ref fa) ⟨[.ref a], []⟩) (fun r s' => r = .ok (.ret (.bool true)) ∧ OldK s₁.heap s'.heap ∧ s'.os = s₁.os ∧ AllBare s'.gens) s₁ := by
  have off : ∀ b, b ≠ a → H b = none := fun b hn => by
    rcases one with z | z
    · exact z b
    · rw [z, if_neg hn]
  have low : ∀ {b : Addr} {o : Obj}, s₁.heap.get? b = some o → H b = none → (hidT s₁.heap H).get? b = some o := fun e n => hidT_get e n
  have ns2 : ∀ {b : Addr} {m : Str → Option Value}, s₁.heap.Ns b m → (hidT s₁.heap H).Ns b m := fun {b m} hn => by
    obtain ⟨o, es, ep, e, dd, rr⟩ := hn
    refine ⟨o, es, ep, low e (off b fun z => ?_), dd, rr⟩
    subst z
    rw [ha] at e
    cases e
    cases dd
  have kin : K.In (hidT s₁.heap H) := fun b o e => by
    refine low (KX b o e) ?_
    cases z : H b with
    | none => rfl
    | some u =>
      have hba : b = a := Classical.byContradiction fun hn => by rw [off b hn] at z; cases z
      subst hba
      rw [free (by rw [z]; exact fun q => nomatch q)] at e
      cases e
  have nl : (hidT s₁.heap H).NoLimit := by
    obtain ⟨mc, n1, n2⟩ := hlim
    exact ⟨mc, ns2 n1, n2⟩
  have e0 : Env0 P w K mg (hidT s₁.heap H) callerA [] s₁ H := ⟨rfl, ⟨kin, ns2 hns, ⟨mb, ns2 hb, hbb⟩, nl⟩, fun b o e => of_hidT e, Nat.le_of_eq (hidT_size _ _), trivial, fun b q => (by cases q), hok, .of_eq hg⟩
  refine codeAny_mono ((F _ kin (ns2 hns)).run callerA [] s₁ H ⟨[.ref a], []⟩ [.ref a] [.ref a] _ _ hr rfl e0 (hbind s₁ (.ref a)) (.cons rfl .nil) hsp) fun r s' z => ?_
  cases r with
  | error e => exact (show False from z).elim
  | ok fl =>
    cases fl with
    | next => exact z.elim
    | brk => exact z.elim
    | cont => exact z.elim
    | ret u =>
      obtain ⟨v, H', os, bare, un, hok', rv, q⟩ := z
      have q : v = .bl true := q
      subst q
      have rv : u = Value.bool true := rv
      subst rv
      refine ⟨rfl, OldK.of_keep fun b o e => ?_, os, bare⟩
      cases zb : H b with
      | none => exact un.keep b o e zb (fun q => nomatch q) (fun q => nomatch q)
      | some u =>
        have hba : b = a := Classical.byContradiction fun hn => by rw [off b hn] at zb; cases zb
        rcases one with o1 | o1
        · rw [o1 b] at zb; cases zb
        · have hb2 := o1 b
          rw [if_pos hba] at hb2
          have w1 := (hok b _ hb2).1
          have w2 := (hok' b _ (un.frzs b _ _ hb2)).1
          rw [e] at w1
          rw [w1]
          exact w2
theorem walk_ofG {l : PySem.W.OpenLaw} {n k : Nat} {q : Program} {loose : List Str} {XP : (Str → Option Value) → Heap → Prop} {YP : World → Heap → Prop} {d : DefRec} {K : Params → PySem.W.Frag} {sp : World → Sp} {x : Str}
    (hn : l.most = some n) (hn2 : n ≤ sizeLine) (hdf : d.params.defaults = []) (hr : Room k callerA) (hY : ∀ (w : World) (h : Heap), YP w h → (K w.params).In h)
    (F : ∀ (w : World) (mg : Str → Option Value) (fa : Addr) (h : Heap), (K w.params).In h → h.Ns mainGlobals mg → mg d.name = some (.ref fa) →
      ∃ fd : FuncData, (∀ (s : Shared) (u : Value), BindsTo s fd ⟨[u], []⟩ [(x, u)]) ∧ ∀ base : Heap, (K w.params).In base → base.Ns mainGlobals mg → FnG l.prog w (K w.params) mg base k fa fd [x] (sp w))
    (hsp : ∀ (w : World) (H : Hp) (a : Addr) (ns : List Int), ns.length ≤ n → L2.Only H → SqL (K w.params) H a (ns.map V.int) → sp w [.ref a] H (fun v _ => v = .bl true) E0) :
    PySem.W.WalkO q loose XP YP l.row.toRowW d [] (fun f vs => PySem.call f vs) := by
  refine Att.attach_call hn hdf fun w s₀ s₁ mg mb fa o pm cd doc a vs ns G Y ho hd hcd hmg hobj hints hlen hg => ?_
  have KX := hY w _ Y
  obtain ⟨fd, hb, hF⟩ := F w mg fa _ KX G.T.g hmg
  have rv := vals_ints hints
  have lenV := hints.length
  cases hk : (K w.params).lookup a with
  | some ob =>
    have e := KX a ob hk
    rw [hobj] at e
    cases e
    refine lawG_core (xs := []) (H := fun _ => none) KX G.T.g G.T.b G.T.builtins G.T.nolimit hg hobj hr hF hb (.inl fun _ => rfl) (fun b u z => nomatch z) (fun z => absurd rfl z) (hsp w _ a ns hlen (fun _ => .inl rfl) (.inr ⟨_, vs.toArray, _, hk, rfl, rfl, rfl, ?_, by simpa using rv⟩))
    rw [List.size_toArray, lenV]
    exact Nat.le_trans hlen hn2
  | none =>
    refine lawG_core (xs := ns.map V.int) (H := fun b => if b = a then some (.frz { cls := .type "list", data := .seq vs.toArray } (.lst (ns.map V.int))) else none) KX G.T.g G.T.b G.T.builtins G.T.nolimit hg hobj hr hF hb (.inr fun _ => rfl) (fun b u z => ?_) (fun _ => hk) (hsp w _ a ns hlen (fun b => ?_) (.inl (.inr ⟨_, if_pos rfl⟩)))
    · by_cases hba : b = a
      · have z2 := (if_pos hba).symm.trans z
        cases z2
        subst hba
        exact ⟨hobj, by rw [List.length_map]; exact Nat.le_trans hlen hn2, vs, _, rv, hobj⟩
      · have z2 := (if_neg hba).symm.trans z
        cases z2
    · by_cases hba : b = a
      · exact .inr ⟨_, _, if_pos hba⟩
      · exact .inl (if_neg hba)
end Sm
namespace Sm
open PySem PySem.Spec PyProof.Rows L2
/-! ## repr -/
def rRepr (K : PySem.W.Frag) : List V → Hp → VK → Prop := fun xs H Q => ∃ x d, xs = [x] ∧ Dp K H x d ∧ d.showable = true ∧ d.hasDict = false ∧ d.depth ≤ 64 ∧ d.shown.length ≤ sizeLine ∧ Q (.str d.shown) H
theorem call_reprD {X : Cx} {k : Nat} (hr : Room k X.A) (hgu : X.A.guards = some []) : CallR X (.builtin "repr") (rRepr X.K) := by
  intro pins s σ H xs us Q I r h
  obtain ⟨x, d, rfl, D, hs, hd, dp, sz, q⟩ := h
  cases r with
  | cons rx rr =>
    cases rr
    obtain ⟨as, R⟩ := Dp.reads I _ _ _ D rx
    have un := hr.un
    have fin : ∀ (a : Addr), Reads s.heap (.ref a) d as → wpAny (model X.prog X.w) X.A (call (.builtin "repr") [.ref a]) (EP X pins σ Q) X.xe s := fun a R =>
      PySem.repr_of_reads' R hs (fun z => by rw [hd] at z; cases z) hgu (by omega) (fun b o z => z) (fun h' u tk hk => ⟨.str d.shown, H, I.kept (t' := tk) hk, ⟨u, rfl⟩, q⟩) sz
    cases R with
    | none => exact PySem.P.repr_of_none ⟨.str _, H, I.tok _, ⟨_, rfl⟩, q⟩
    | bool b => exact PySem.P.repr_of_bool ⟨.str _, H, I.tok _, ⟨_, rfl⟩, q⟩
    | int i t => exact PySem.P.repr_of_int (of_decide_eq_true hs) ⟨.str _, H, I.tok _, ⟨_, rfl⟩, q⟩
    | str y t => exact PySem.P.repr_of_str ⟨.str _, H, I.tok _, ⟨_, rfl⟩, q⟩ sz
    | list a1 a2 a3 a4 => exact fin _ (.list a1 a2 a3 a4)
    | tuple a1 a2 a3 a4 => exact fin _ (.tuple a1 a2 a3 a4)
    | dict a1 a2 a3 a4 a5 => cases D
end Sm
namespace Sm
open PySem PySem.Spec PyProof.Rows L2
/-! ## in, over data of any depth -/
def inDC (neg : Bool) : Op2 := fun p q h => match dat q h with
  | .fl ds => if ((dat p h).nb && (D.fl ds).nb && decide ((dat p h).dep ≤ 64) && decide ((D.fl ds).dep ≤ 64)) = true then some (.val (.bl (if neg then !ds.contains (dat p h) else ds.contains (dat p h))), h) else none
  | _ => none
theorem any_eqv {d : D} (hd : d.nb = true) : ∀ {ds : List D}, D.nbs ds = true → ((D.toPs ds).any fun z => PyData.eqv z d.toP) = ds.contains d
  | [], _ => rfl
  | x :: r, h => by
    unfold D.nbs at h
    rw [Bool.and_eq_true] at h
    unfold D.toPs
    rw [List.any_cons, List.contains_cons, any_eqv hd h.2, toP_eqv x d h.1 hd]
    congr 1
    rw [Bool.eq_iff_iff]
    simp
    exact eq_comm
theorem sim_inD {K : PySem.W.Frag} : SimR K (rInD K) (inDC false) := by
  intro m h H x y dx dy d h' Q S rx ry e q
  unfold inDC at e
  split at e
  · rename_i ds hds
    obtain ⟨c, e⟩ := ite_some' e
    cases e
    rw [Bool.and_eq_true, Bool.and_eq_true, Bool.and_eq_true] at c
    obtain ⟨⟨⟨c1, c2⟩, c3⟩, c4⟩ := c
    have ry' := dat_dp S ry (by rw [hds]; exact c2)
    rw [hds] at ry'
    refine ⟨_, D.toPs ds, dat_dp S rx c1, by unfold D.toP at ry'; exact ry', ?_, ?_, ?_⟩
    · unfold SeqAt.shaped; rw [toP_lay _ c1, toP_dep, c3]; rfl
    · have z1 := toP_lay _ c2
      have z2 := toP_dep (D.fl ds)
      unfold D.toP at z1 z2
      unfold SeqAt.shaped; rw [z1, z2, c4]; rfl
    · rw [any_eqv c1 (by unfold D.nb at c2; exact c2)]
      exact q m H _ (Le.refl _ _) S (.val (.bl _)) (nwV _ _ _)
  · cases e
theorem sim_notinD {K : PySem.W.Frag} : SimR K (rNotInD K) (inDC true) := by
  intro m h H x y dx dy d h' Q S rx ry e q
  unfold inDC at e
  split at e
  · rename_i ds hds
    obtain ⟨c, e⟩ := ite_some' e
    cases e
    rw [Bool.and_eq_true, Bool.and_eq_true, Bool.and_eq_true] at c
    obtain ⟨⟨⟨c1, c2⟩, c3⟩, c4⟩ := c
    have ry' := dat_dp S ry (by rw [hds]; exact c2)
    rw [hds] at ry'
    refine ⟨_, D.toPs ds, dat_dp S rx c1, by unfold D.toP at ry'; exact ry', ?_, ?_, ?_⟩
    · unfold SeqAt.shaped; rw [toP_lay _ c1, toP_dep, c3]; rfl
    · have z1 := toP_lay _ c2
      have z2 := toP_dep (D.fl ds)
      unfold D.toP at z1 z2
      unfold SeqAt.shaped; rw [z1, z2, c4]; rfl
    · rw [any_eqv c1 (by unfold D.nb at c2; exact c2)]
      exact q m H _ (Le.refl _ _) S (.val (.bl _)) (nwV _ _ _)
  · cases e
def oInD : Op2 := inDC false
def oNotInD : Op2 := inDC true
section
variable {X : Cx} {a b : Expr} {es : List Expr} {fa fb : SE} {fr : SA} {pos : Pos} {k : Nat}
theorem c_inD (hr : Room k X.A) (hm : behindInMarks .In b = false := by rfl) : CmpOk X .In oInD b := ⟨_, op_inD (by have := hr.un; omega), sim_inD, hm⟩
theorem c_notinD (hr : Room k X.A) (hm : behindInMarks .NotIn b = false := by rfl) : CmpOk X .NotIn oNotInD b := ⟨_, op_notInD (by have := hr.un; omega), sim_notinD, hm⟩
/-! ## tuple * int -/
def oTMul : Op2 := fun p q h => match asT p, q with
  | some xs, .val (.int k) => if (!xs.isEmpty && decide (2 ≤ k) && decide (k ≤ 1000) && decide (xs.length ≤ 1000)) = true then some (.val (.zt (List.replicate k.toNat xs).flatten), h) else none
  | _, _ => none
theorem sim_tmul {K : PySem.W.Frag} : SimR K (rRepT K) oTMul := by
  intro m h H x y dx dy d h' Q S rx ry e q
  unfold oTMul at e
  split at e
  · rename_i xs k hx
    obtain ⟨c, e⟩ := ite_some' e
    cases e
    rw [Bool.and_eq_true, Bool.and_eq_true, Bool.and_eq_true] at c
    obtain ⟨⟨⟨c1, c2⟩, c3⟩, c4⟩ := c
    obtain ⟨p, vs, rfl, hS, rv⟩ := asT_ok rx hx
    refine ⟨p, k, vs, rfl, inv_int ry, hS, ?_, of_decide_eq_true c2, of_decide_eq_true c3, by rw [rv.length]; exact of_decide_eq_true c4, fun p hp => ?_⟩
    · intro z
      subst z
      cases rv
      cases c1
    · exact q m _ _ (Le.upd S.cl hp _) (S.upd hp _) (.val (RV.ztN S hp (rv.replicate _))) (nwV _ _ _)
  · cases e
theorem je_tmul (ha : JE X a fa) (hb : JE X b fb) : JE X (.BinOp a .Mult b pos) (mBin oTMul fa fb) := je_bin op_repT sim_tmul ha hb
/-! ## in a dict of the module, by texts -/
def oKd (ks : List Str) (neg : Bool) : Op1 := fun p h => match p with
  | .val (.str z) => some (.val (.bl (if neg then !ks.contains z else ks.contains z)), h)
  | _ => none
theorem find_keys {P : Params} {z : Str} : ∀ {l : List DictEntry} {ks : List Str}, l.map He.keyOf = He.keysIn P ks → (l.find? (·.key.isStr z)).isSome = ks.contains z ∧ l.any (·.refKey) = false
  | [], [], _ => ⟨rfl, rfl⟩
  | [], _ :: _, h => by cases h
  | e :: r, [], h => by cases h
  | e :: r, k :: ks, h => by
    have h1 : He.keyOf e :: r.map He.keyOf = some (k, PyData.keyHash P k) :: He.keysIn P ks := h
    injection h1 with h2 h3
    obtain ⟨i1, i2⟩ := find_keys (z := z) h3
    unfold He.keyOf at h2
    split at h2
    · rename_i x t q
      obtain ⟨h5, h6⟩ := Prod.mk.inj (Option.some.inj h2)
      subst h5
      refine ⟨?_, ?_⟩
      · rw [List.find?_cons, List.contains_cons]
        have e1 : e.key.isStr z = (z == x) := by
          rw [q]
          show (_ == _) = _
          rw [Bool.eq_iff_iff]
          simp
          exact eq_comm
        rw [e1]
        cases z == x with
        | true => rfl
        | false => simpa using i1
      · rw [List.any_cons, i2]
        unfold DictEntry.refKey
        rw [q]
        rfl
    · cases h2
theorem nsIn_keys {K : PySem.W.Frag} {w : World} {a : Addr} {ks : List Str} (h : He.dicW K a = some (He.keysIn w.params ks)) (z : Str) : ∃ r, PySem.W.nsIn K a z = some r ∧ r.isSome = ks.contains z := by
  unfold He.dicW at h
  unfold PySem.W.nsIn
  split at h
  · rename_i c es n sl ho
    rw [ho]
    dsimp only
    split at h
    · obtain ⟨f1, f2⟩ := find_keys (z := z) (Option.some.inj h)
      cases e : es.toList.find? (·.key.isStr z) with
      | some en =>
        rw [e] at f1
        exact ⟨_, rfl, f1⟩
      | none =>
        rw [e] at f1
        refine ⟨none, ?_, f1⟩
        dsimp only
        rw [f2]
        rfl
    · cases h
  · cases h
theorem inKd_sem {K : PySem.W.Frag} {d : Addr} {ks : List Str} {neg : Bool} {r : R2} (hr : ∀ z H (Q : VK), Q (.bl (if neg then !ks.contains z else ks.contains z)) H → r (.str z) (.ref d) H Q) (σ : L2.St) (H : Hp) (Q : VK) (h : tE K (mUn (oKd ks neg) fa) σ H Q) : tOp r (tE K fa) (tC (.ref d)) σ H Q := by
  obtain ⟨m, τ, h, q, h', R, S, e, q0⟩ := h
  obtain ⟨⟨x, h1⟩, e1, e⟩ := bind_some' e
  refine ⟨m, τ, h, x, h1, R, S, e1, fun m1 H1 v1 L1 S1 r1 _ => ?_⟩
  show r v1 (.ref d) H1 Q
  unfold oKd at e
  split at e
  · rename_i x0 z e0
    dsimp only at e0
    subst e0
    cases e
    rw [inv_str r1]
    exact hr _ _ _ (q0 m1 H1 _ L1 S1 (.val (.bl _)) (nwV _ _ _))
  · cases e
theorem je_inKd {d : Addr} {ks : List Str} {x : Str} {p : Pos} (hd : He.dicW X.K d = some (He.keysIn X.w.params ks)) (hg : Gl X x) (hm : X.mg x = some (.ref d)) (ha : JE X a fa) (hx : (x == ("__debug__" : Str)) = false := by decide) (hb : behindInMarks .In (.Name x p) = false := by rfl) :
    JE X (.Compare a [.In] [.Name x p] pos) (mUn (oKd ks false) fa) := by
  obtain ⟨es, n, D⟩ := He.dicW_ok hd
  refine pe_weak (pe_cmpR (op_in_kd D) ha (pe_glob hg hm (v := .ref d) rfl hx) hb) (inKd_sem fun z H Q q => ?_)
  obtain ⟨r, h1, h2⟩ := nsIn_keys hd z
  exact ⟨z, r, rfl, rfl, h1, by rw [h2]; exact q⟩
theorem je_notinKd {d : Addr} {ks : List Str} {x : Str} {p : Pos} (hd : He.dicW X.K d = some (He.keysIn X.w.params ks)) (hg : Gl X x) (hm : X.mg x = some (.ref d)) (ha : JE X a fa) (hx : (x == ("__debug__" : Str)) = false := by decide) (hb : behindInMarks .NotIn (.Name x p) = false := by rfl) :
    JE X (.Compare a [.NotIn] [.Name x p] pos) (mUn (oKd ks true) fa) := by
  obtain ⟨es, n, D⟩ := He.dicW_ok hd
  refine pe_weak (pe_cmpR (op_notIn_kd D) ha (pe_glob hg hm (v := .ref d) rfl hx) hb) (inKd_sem fun z H Q q => ?_)
  obtain ⟨r, h1, h2⟩ := nsIn_keys hd z
  exact ⟨z, r, rfl, rfl, h1, by rw [h2]; exact q⟩
theorem tKd_sem {r : R2} {d : Addr} {ks : List Str} {neg : Bool} (hr : ∀ z H (Q : VK), Q (.bl (if neg then !ks.contains z else ks.contains z)) H → r (.str z) (.ref d) H Q) (σ : L2.St) (H : Hp) (Q : Bool → Hp → Prop) (h : tT X.K (mB (mUn (oKd ks neg) fa)) σ H Q) : tTest (tOp r (tE X.K fa) (tC (.ref d))) σ H Q := by
  obtain ⟨m, τ, h, d', h', R, S, e, q⟩ := h
  obtain ⟨⟨x, h1⟩, e1, e⟩ := bind_some' e
  refine inKd_sem hr σ H _ ⟨m, τ, h, x, h1, R, S, e1, fun m1 H1 v L1 S1 r1 n1 => ?_⟩
  dsimp only at e
  split at e
  · cases e
    cases r1 with
    | val r => cases r; exact ⟨_, rfl, q m1 H1 L1 S1⟩
  · cases e
theorem jt_inKd {d : Addr} {ks : List Str} {x : Str} {p : Pos} (hd : He.dicW X.K d = some (He.keysIn X.w.params ks)) (hg : Gl X x) (hm : X.mg x = some (.ref d)) (ha : JE X a fa) (hx : (x == ("__debug__" : Str)) = false := by decide) (hb : behindInMarks .In (.Name x p) = false := by rfl) :
    JT X (.Compare a [.In] [.Name x p] pos) (mB (mUn (oKd ks false) fa)) := by
  obtain ⟨es, n, D⟩ := He.dicW_ok hd
  refine pt_weak (pt_cmpR (op_in_kd D) ha (pe_glob hg hm (v := .ref d) rfl hx) hb) (tKd_sem fun z H Q q => ?_)
  obtain ⟨r, h1, h2⟩ := nsIn_keys hd z
  exact ⟨z, r, rfl, rfl, h1, by rw [h2]; exact q⟩
theorem jt_notinKd {d : Addr} {ks : List Str} {x : Str} {p : Pos} (hd : He.dicW X.K d = some (He.keysIn X.w.params ks)) (hg : Gl X x) (hm : X.mg x = some (.ref d)) (ha : JE X a fa) (hx : (x == ("__debug__" : Str)) = false := by decide) (hb : behindInMarks .NotIn (.Name x p) = false := by rfl) :
    JT X (.Compare a [.NotIn] [.Name x p] pos) (mB (mUn (oKd ks true) fa)) := by
  obtain ⟨es, n, D⟩ := He.dicW_ok hd
  refine pt_weak (pt_cmpR (op_notIn_kd D) ha (pe_glob hg hm (v := .ref d) rfl hx) hb) (tKd_sem fun z H Q q => ?_)
  obtain ⟨r, h1, h2⟩ := nsIn_keys hd z
  exact ⟨z, r, rfl, rfl, h1, by rw [h2]; exact q⟩
end
/-! ## repr -/
mutual
/-- what repr may be asked of: no objects, no classes -/
def D.rb : D → Bool
  | .non => true
  | .bl _ => true
  | .int i => decide (-999999999999 ≤ i) && decide (i ≤ 999999999999)
  | .str x => x.cps.toList.all fun c => decide (c < 16 ^ 8)
  | .tup ds => D.rbs ds
  | .zt ds => D.rbs ds
  | .fl ds => D.rbs ds
  | _ => false
def D.rbs : List D → Bool
  | [] => true
  | d :: r => D.rb d && D.rbs r
end
mutual
def D.toR : D → PyData
  | .bl b => .bool b
  | .int i => .int i
  | .str x => .str x
  | .tup ds => .tuple (D.toRs ds)
  | .zt ds => .tuple (D.toRs ds)
  | .fl ds => .list (D.toRs ds)
  | _ => .none
def D.toRs : List D → List PyData
  | [] => []
  | d :: r => D.toR d :: D.toRs r
end
mutual
/-- at most so many signs -/
def D.rsz : D → Nat
  | .str x => 10 * x.length + 2
  | .tup ds => D.rszs ds + 3
  | .zt ds => D.rszs ds + 3
  | .fl ds => D.rszs ds + 3
  | _ => 13
def D.rszs : List D → Nat
  | [] => 0
  | d :: r => D.rsz d + 2 + D.rszs r
end
mutual
def D.rdp : D → Nat
  | .tup ds => D.rdps ds + 1
  | .zt ds => D.rdps ds + 1
  | .fl ds => D.rdps ds + 1
  | _ => 0
def D.rdps : List D → Nat
  | [] => 0
  | d :: r => max (D.rdp d) (D.rdps r)
end
mutual
theorem toR_dep : ∀ d : D, d.toR.depth = d.rdp
  | .non => rfl
  | .bl _ => rfl
  | .int _ => rfl
  | .str x => rfl
  | .tup ds => by unfold D.toR PyData.depth D.rdp; rw [toRs_dep ds]
  | .zt ds => by unfold D.toR PyData.depth D.rdp; rw [toRs_dep ds]
  | .fl ds => by unfold D.toR PyData.depth D.rdp; rw [toRs_dep ds]
  | .ref _ => rfl
  | .ty _ => rfl
theorem toRs_dep : ∀ ds : List D, PyData.depthAll (D.toRs ds) = D.rdps ds
  | [] => rfl
  | d :: r => by unfold D.toRs PyData.depthAll D.rdps; rw [toR_dep d, toRs_dep r]
end
mutual
theorem toR_nd : ∀ d : D, d.toR.hasDict = false
  | .non => rfl
  | .bl _ => rfl
  | .int _ => rfl
  | .str x => rfl
  | .tup ds => by unfold D.toR PyData.hasDict; exact toRs_nd ds
  | .zt ds => by unfold D.toR PyData.hasDict; exact toRs_nd ds
  | .fl ds => by unfold D.toR PyData.hasDict; exact toRs_nd ds
  | .ref _ => rfl
  | .ty _ => rfl
theorem toRs_nd : ∀ ds : List D, PyData.hasDictAll (D.toRs ds) = false
  | [] => rfl
  | d :: r => by unfold D.toRs PyData.hasDictAll; rw [toR_nd d, toRs_nd r]; rfl
end
theorem log_small {i : Int} (h1 : -999999999999 ≤ i) (h2 : i ≤ 999999999999) : i.natAbs.log2 < 1920 := by
  rcases Nat.eq_zero_or_pos i.natAbs with z | z
  · rw [z]; decide
  · have : i.natAbs.log2 < 40 := by rw [Nat.log2_lt (by omega)]; omega
    omega
mutual
theorem toR_show : ∀ d : D, d.rb = true → d.toR.showable = true ∧ d.toR.shown.length ≤ d.rsz
  | .non, _ => ⟨rfl, by decide⟩
  | .bl b, _ => ⟨rfl, by cases b <;> decide⟩
  | .int i, h => by
    unfold D.rb at h
    rw [Bool.and_eq_true] at h
    have h1 := of_decide_eq_true h.1
    have h2 := of_decide_eq_true h.2
    exact ⟨by unfold D.toR PyData.showable; exact decide_eq_true (log_small h1 h2), PyData.shown_int_le2 h1 h2⟩
  | .str x, h => by
    unfold D.rb at h
    refine ⟨rfl, ?_⟩
    have := StrLaws.reprText_len x (fun c hc => of_decide_eq_true (List.all_eq_true.mp h c hc))
    unfold D.toR PyData.shown D.rsz
    have e2 : x.length = x.cps.size := rfl
    omega
  | .tup ds, h => by
    unfold D.rb at h
    obtain ⟨h1, h2⟩ := toRs_show ds h
    refine ⟨by unfold D.toR PyData.showable; exact h1, ?_⟩
    unfold D.toR PyData.shown D.rsz
    exact Nat.le_trans (tupleText_len_le _) (by omega)
  | .zt ds, h => by
    unfold D.rb at h
    obtain ⟨h1, h2⟩ := toRs_show ds h
    refine ⟨by unfold D.toR PyData.showable; exact h1, ?_⟩
    unfold D.toR PyData.shown D.rsz
    exact Nat.le_trans (tupleText_len_le _) (by omega)
  | .fl ds, h => by
    unfold D.rb at h
    obtain ⟨h1, h2⟩ := toRs_show ds h
    refine ⟨by unfold D.toR PyData.showable; exact h1, ?_⟩
    unfold D.toR PyData.shown D.rsz
    exact Nat.le_trans (listText_len_le _) (by omega)
  | .ref _, h => by cases h
  | .ty _, h => by cases h
theorem toRs_show : ∀ ds : List D, D.rbs ds = true → PyData.showableAll (D.toRs ds) = true ∧ ((PyData.shownAll (D.toRs ds)).map (·.length)).sum + 2 * (PyData.shownAll (D.toRs ds)).length ≤ D.rszs ds
  | [], _ => ⟨rfl, Nat.le_refl _⟩
  | d :: r, h => by
    unfold D.rbs at h
    rw [Bool.and_eq_true] at h
    obtain ⟨a1, a2⟩ := toR_show d h.1
    obtain ⟨b1, b2⟩ := toRs_show r h.2
    unfold D.toRs PyData.showableAll PyData.shownAll D.rszs
    refine ⟨by rw [a1, b1]; rfl, ?_⟩
    rw [List.map_cons, List.sum_cons, List.length_cons]
    omega
end
section
variable {K : PySem.W.Frag} {m : List Addr} {h : AH} {H : Hp}
mutual
theorem RV.dpR : ∀ {v : V} {d : D}, RV K m H v d → d.rb = true → Dp K H v d.toR
  | _, _, .non, _ => .non
  | _, _, .bl b, _ => .bl b
  | _, _, .int i, _ => .int i
  | _, _, .str x, _ => .str x
  | _, _, .tup f r, b => .tup f.sq (RVs.dpR r (by unfold D.rb at b; exact b))
  | _, _, .zt f r, b => .tup f (RVs.dpR r (by unfold D.rb at b; exact b))
  | _, _, .fl f r, b => .lst f.sq (RVs.dpR r (by unfold D.rb at b; exact b))
  | _, _, .ty _, b => by simp [D.rb] at b
  | _, _, .ref _, b => by simp [D.rb] at b
theorem RVs.dpR : ∀ {vs : List V} {ds : List D}, RVs K m H vs ds → D.rbs ds = true → DpAll K H vs (D.toRs ds)
  | _, _, .nil, _ => .nil
  | _, _, .cons r t, b => by
    unfold D.rbs at b
    rw [Bool.and_eq_true] at b
    exact .cons (RV.dpR r b.1) (RVs.dpR t b.2)
end
theorem dat_dpR (S : Sim K m h H) {v : V} {q : LV} (r : RQ K m H v q) (b : (dat q h).rb = true) : Dp K H v (dat q h).toR := by
  cases r with
  | new hn e r z => exact .lst (SqL.of e) (r.dpR (by unfold dat D.rb at b; exact b))
  | val r =>
    cases r with
    | ref e =>
      unfold dat at b ⊢
      dsimp only at b ⊢
      split at b
      · rename_i ds hh
        obtain ⟨vs, e2, r2⟩ := S.lst e hh
        exact .lst (SqL.of e2) (r2.dpR (by unfold D.rb at b; exact b))
      · cases b
    | non => exact .non
    | bl _ => exact .bl _
    | ty _ => cases b
    | zt f r => exact (RV.zt f r).dpR b
    | int i => exact .int i
    | str x => exact .str x
    | tup f r => exact (RV.tup f r).dpR b
    | fl f r => exact (RV.fl f r).dpR b
end
def okR (d : D) : Bool := d.rb && decide (d.rdp ≤ 64) && decide (d.rsz ≤ 16777216)
def oRepr : OpN
  | [q], h => if okR (dat q h) = true then some (.val (.str (dat q h).toR.shown), h) else none
  | _, _ => none
theorem sim_repr {K : PySem.W.Frag} : SimN K (rRepr K) oRepr := by
  intro m h H xs dxs d h' Q S r e q
  unfold oRepr at e
  split at e
  · rename_i q1
    obtain ⟨c, e⟩ := ite_some' e
    cases e
    unfold okR at c
    rw [Bool.and_eq_true, Bool.and_eq_true] at c
    obtain ⟨⟨c1, c2⟩, c3⟩ := c
    cases r with
    | cons r1 rr =>
      cases rr
      obtain ⟨s1, s2⟩ := toR_show _ c1
      refine ⟨_, _, rfl, dat_dpR S r1 c1, s1, toR_nd _, by rw [toR_dep]; exact of_decide_eq_true c2, by rw [sizeLine_eq]; exact Nat.le_trans s2 (of_decide_eq_true c3), ?_⟩
      exact q m H _ (Le.refl _ _) S (.val (.str _)) (nwV _ _ _)
  · cases e
section
variable {X : Cx} {a : Expr} {es : List Expr} {fr : SA} {p pos : Pos} {k : Nat}
theorem je_repr (hr : Room k X.A) (hgu : X.A.guards = some []) (hg : Gl X "repr") (hm : X.mg "repr" = none) (ha : JA X (a :: es) fr) (he : starEach (a :: es) X.env = (false, eval a X.env) :: starEach es X.env := by rfl) (hpl : (backTo pos (starEach es X.env)).any (·.1) = false := by rfl) : JE X (.Call (.Name "repr" p) (a :: es) [] pos) (mFn oRepr fr) :=
  je_fnB (call_reprD hr hgu) sim_repr hg hm boot_repr ha (by decide) (by decide) he hpl
end
/-! ## a, b = x, y -/
def mPar (i j : Nat) (fa : SA) : SS := fun τ h => (fa τ h).bind fun p => (plain p.1).bind fun ds => match ds with
  | [d, e] => some (.nx ((τ.set i (some d)).set j (some e)) p.2)
  | _ => none
theorem js_par {X : Cx} {i j : Nat} {x y : Str} {a b : Expr} {fa : SA} {px py pt pos : Pos} {kt k2 pt2} (hN : X.N.Nodup) (hi : X.N[i]? = some x) (hj : X.N[j]? = some y) (hij : i ≠ j)
    (hx : X.env.scope.names.lookup x = some .local) (hy : X.env.scope.names.lookup y = some .local) (ha : JA X [a, b] fa)
    (hc : X.calm = true := by rfl) (hw : swappedStores [.Tuple [.Name x px, .Name y py] kt pt] (.Tuple [a, b] k2 pt2) X.env = pure (some [x, y]) := by rfl)
    (hs : swapsWithSole [.Tuple [.Name x px, .Name y py] kt pt] (.Tuple [a, b] k2 pt2) pos.line X.env = pure false := by rfl) :
    JS X (.Assign [.Tuple [.Name x px, .Name y py] kt pt] (.Tuple [a, b] k2 pt2) pos) (mPar i j fa) := by
  refine ps_weak (ps_par hc hN hi hj hij hx hy ha hw hs) fun D σ H ⟨m, τ, h, r, R, S, e, q⟩ => ?_
  obtain ⟨⟨x, h1⟩, e1, e⟩ := bind_some' e
  obtain ⟨ds, e2, e⟩ := bind_some' e
  refine ⟨m, τ, h, x, h1, R, S, e1, fun m1 H1 vs L1 S1 r1 => ?_⟩
  have r2 := r1.plain e2
  split at e
  · cases e
    cases r2 with
    | cons ra rr => cases rr with
      | cons rb rr =>
        cases rr
        exact ⟨_, _, rfl, q m1 H1 _ L1 S1 (((R.mono S.cl L1.toLw).set ra i).set rb j)⟩
  · cases e
end Sm
namespace Sm
open PySem PySem.Spec PyProof.Rows L2
def ks_LEVELS : List Str := ["if", "or", "and", "not", "=", "<", "<=", "+", "-", "*"]
def l_place_in_1 : SS := (mIfS (mB (mBin oEq (mBin oIx (mVar 3) (mC (.int 1))) (mVar 1))) (mRet (mVar 2)) mPass)
def b_place_in : SS := (mSeq (mFor (mEnum (mCons (mVar 0) mNil)) (gT 2 (gsC (gN 2) (gsC (gN 3) gsN))) l_place_in_1) (mRet (mC .non)))
def F_place_in : SF := runDef 2 4 b_place_in
def b_value_of_atom : SS := (mSeq (mAsg (gN 3) (mBin oIx (mVar 2) (mC (.int 0)))) (mSeq (mIfS (mB (mBin oEq (mVar 3) (mC (.str ("int" : Str))))) (mRet (mBin oIx (mVar 2) (mC (.int 1)))) mPass) (mSeq (mIfS (mB (mBin oIn (mVar 3) (mTup (mCons (mC (.str ("true" : Str))) (mCons (mC (.str ("false" : Str))) mNil))))) (mRet (mBin oEq (mVar 3) (mC (.str ("true" : Str))))) mPass) (mSeq (mIfS (mB (mBin oEq (mVar 3) (mC (.str ("at" : Str))))) (mRet (mBin oEq (mBin oIx (mBin oIx (mVar 1) (mC (.int 0))) (mCall F_place_in (mCons (mBin oIx (mVar 0) (mC (.int 3))) (mCons (mBin oIx (mVar 2) (mC (.int 1))) mNil)))) (mBin oIx (mVar 2) (mC (.int 2))))) mPass) (mSeq (mAsg (gN 4) (mBin oIx (mBin oIx (mVar 1) (mC (.int 1))) (mCall F_place_in (mCons (mBin oIx (mVar 0) (mC (.int 2))) (mCons (mBin oIx (mVar 2) (mC (.int 1))) mNil))))) (mRet (mIf (mB (mBin oEq (mVar 3) (mC (.str ("name" : Str))))) (mVar 4) (mFn oLen (mCons (mVar 4) mNil)))))))))
def F_value_of_atom : SF := runDef 3 5 b_value_of_atom
def b_compared : SS := (mSeq (mIfS (mB (mBin oEq (mVar 0) (mC (.str ("+" : Str))))) (mRet (mBin oAdd (mVar 1) (mVar 2))) mPass) (mSeq (mIfS (mB (mBin oEq (mVar 0) (mC (.str ("-" : Str))))) (mRet (mBin oSub (mVar 1) (mVar 2))) mPass) (mSeq (mIfS (mB (mBin oEq (mVar 0) (mC (.str ("*" : Str))))) (mRet (mBin oMul (mVar 1) (mVar 2))) mPass) (mSeq (mIfS (mB (mBin oEq (mVar 0) (mC (.str ("=" : Str))))) (mRet (mBin oEq (mVar 1) (mVar 2))) mPass) (mRet (mIf (mB (mBin oEq (mVar 0) (mC (.str ("<" : Str))))) (mBin oLt (mVar 1) (mVar 2)) (mBin oLe (mVar 1) (mVar 2))))))))
def F_compared : SF := runDef 3 3 b_compared
def b_value_of (self : SF) : SS := (mSeq (mAsg (gN 3) (mBin oIx (mVar 2) (mC (.int 0)))) (mSeq (mIfS (mB (mUn (oKd ks_LEVELS true) (mVar 3))) (mRet (mCall F_value_of_atom (mCons (mVar 0) (mCons (mVar 1) (mCons (mVar 2) mNil))))) mPass) (mSeq (mAsg (gN 4) (mComp (mIter (mSl (mVar 2) (mPart (mC (.int 1))) mNoP)) (gN 5) mYes (mCall self (mCons (mVar 0) (mCons (mVar 1) (mCons (mVar 5) mNil)))) [5])) (mSeq (mIfS (mB (mBin oEq (mVar 3) (mC (.str ("if" : Str))))) (mRet (mIf (mTr (mBin oIx (mVar 4) (mC (.int 0)))) (mBin oIx (mVar 4) (mC (.int 1))) (mBin oIx (mVar 4) (mC (.int 2))))) mPass) (mSeq (mIfS (mB (mBin oEq (mVar 3) (mC (.str ("and" : Str))))) (mRet (mAndX (mBin oIx (mVar 4) (mC (.int 0))) (mBin oIx (mVar 4) (mC (.int 1))))) mPass) (mSeq (mIfS (mB (mBin oEq (mVar 3) (mC (.str ("or" : Str))))) (mRet (mOrX (mBin oIx (mVar 4) (mC (.int 0))) (mBin oIx (mVar 4) (mC (.int 1))))) mPass) (mSeq (mIfS (mB (mBin oEq (mVar 3) (mC (.str ("not" : Str))))) (mRet (mNotX (mBin oIx (mVar 4) (mC (.int 0))))) mPass) (mRet (mCall F_compared (mCons (mVar 3) (mCons (mBin oIx (mVar 4) (mC (.int 0))) (mCons (mBin oIx (mVar 4) (mC (.int 1))) mNil))))))))))))
def F_value_of : Nat → SF
  | 0 => fun _ _ => none
  | k + 1 => runDef 3 6 (b_value_of (F_value_of k))
def b_beginning : SS := (mSeq (mAsg (gN 1) (mFn oTuple (mCons (mComp (mIter (mBin oIx (mVar 0) (mC (.int 3)))) (gN 2) mYes (mBin oIx (mBin oIx (mVar 2) (mC (.int 2))) (mC (.int 0))) [2]) mNil))) (mRet (mTup (mCons (mVar 1) (mCons (mFn oTuple (mCons (mComp (mIter (mBin oIx (mVar 0) (mC (.int 2)))) (gN 3) mYes (mIf (mB (mBin oEq (mBin oIx (mVar 3) (mC (.int 0))) (mC (.str ("number" : Str))))) (mBin oIx (mVar 3) (mC (.int 4))) (mTup mNil)) [3]) mNil)) mNil)))))
def F_beginning : SF := runDef 1 4 b_beginning
def b_is_whole : SS := (mRet (mAndV (mFn oIsi (mCons (mVar 0) (mCons (mC (.ty "int")) mNil))) (mNotV (mFn oIsi (mCons (mVar 0) (mCons (mC (.ty "bool")) mNil))))))
def F_is_whole : SF := runDef 1 1 b_is_whole
def b_is_value : SS := (mSeq (mIfS (mB (mBin oEq (mBin oIx (mVar 0) (mC (.int 0))) (mC (.str ("number" : Str))))) (mRet (mAndV (mCall F_is_whole (mCons (mVar 1) mNil)) (mChain oLe oLe (mBin oIx (mVar 0) (mC (.int 2))) (mVar 1) (mBin oIx (mVar 0) (mC (.int 3)))))) mPass) (mSeq (mIfS (mOr (mNot (mB (mFn oIsi (mCons (mVar 1) (mCons (mC (.ty "tuple")) mNil))))) (mB (mBin oGt (mFn oLen (mCons (mVar 1) mNil)) (mBin oIx (mVar 0) (mC (.int 2)))))) (mRet (mC (.bl false))) mPass) (mRet (mFn oAll (mCons (mComp (mIter (mVar 1)) (gN 2) mYes (mAndV (mCall F_is_whole (mCons (mVar 2) mNil)) (mChain oLe oLe (mBin oIx (mVar 0) (mC (.int 3))) (mVar 2) (mBin oIx (mVar 0) (mC (.int 4))))) [2]) mNil)))))
def F_is_value : SF := runDef 2 3 b_is_value
def b_is_state : SS := (mSeq (mAsg (gT 2 (gsC (gN 2) (gsC (gN 3) gsN))) (mVar 1)) (mSeq (mIfS (mOr (mB (mBin oNe (mFn oLen (mCons (mVar 2) mNil)) (mFn oLen (mCons (mBin oIx (mVar 0) (mC (.int 3))) mNil)))) (mB (mBin oNe (mFn oLen (mCons (mVar 3) mNil)) (mFn oLen (mCons (mBin oIx (mVar 0) (mC (.int 2))) mNil))))) (mRet (mC (.bl false))) mPass) (mSeq (mIfS (mNot (mB (mFn oAll (mCons (mComp (mZip (mCons (mVar 2) (mCons (mBin oIx (mVar 0) (mC (.int 3))) mNil))) (gT 2 (gsC (gN 6) (gsC (gN 7) gsN))) mYes (mBin oIn (mVar 6) (mBin oIx (mVar 7) (mC (.int 2)))) [6, 7]) mNil)))) (mRet (mC (.bl false))) mPass) (mRet (mFn oAll (mCons (mComp (mZip (mCons (mBin oIx (mVar 0) (mC (.int 2))) (mCons (mVar 3) mNil))) (gT 2 (gsC (gN 4) (gsC (gN 5) gsN))) mYes (mCall F_is_value (mCons (mVar 4) (mCons (mVar 5) mNil))) [4, 5]) mNil))))))
def F_is_state : SF := runDef 2 8 b_is_state
def b_with_value : SS := (mRet (mTup (mCons (mBin oIx (mVar 0) (mC (.int 0))) (mCons (mAd (mBin oAdd (mBin oAdd (mSl (mBin oIx (mVar 0) (mC (.int 1))) mNoP (mPart (mVar 1))) (mTup (mCons (mVar 2) mNil))) (mSl (mBin oIx (mVar 0) (mC (.int 1))) (mPart (mBin oAdd (mVar 1) (mC (.int 1)))) mNoP))) mNil))))
def F_with_value : SF := runDef 3 3 b_with_value
def b_set_done : SS := (mSeq (mAsg (gN 3) (mCall F_place_in (mCons (mBin oIx (mVar 0) (mC (.int 2))) (mCons (mBin oIx (mVar 2) (mC (.int 1))) mNil)))) (mSeq (mAsg (gN 4) (mCall (F_value_of 8) (mCons (mVar 0) (mCons (mVar 1) (mCons (mBin oIx (mVar 2) (mC (.int 2))) mNil))))) (mRet (mIf (mB (mCall F_is_value (mCons (mBin oIx (mBin oIx (mVar 0) (mC (.int 2))) (mVar 3)) (mCons (mVar 4) mNil)))) (mCall F_with_value (mCons (mVar 1) (mCons (mVar 3) (mCons (mVar 4) mNil)))) (mC .non)))))
def F_set_done : SF := runDef 3 5 b_set_done
def b_put_done : SS := (mSeq (mAsg (gN 3) (mCall F_place_in (mCons (mBin oIx (mVar 0) (mC (.int 2))) (mCons (mBin oIx (mVar 2) (mC (.int 1))) mNil)))) (mSeq (mAsg (gN 4) (mBin oAdd (mBin oIx (mBin oIx (mVar 1) (mC (.int 1))) (mVar 3)) (mTup (mCons (mCall (F_value_of 8) (mCons (mVar 0) (mCons (mVar 1) (mCons (mBin oIx (mVar 2) (mC (.int 2))) mNil)))) mNil)))) (mRet (mIf (mB (mCall F_is_value (mCons (mBin oIx (mBin oIx (mVar 0) (mC (.int 2))) (mVar 3)) (mCons (mVar 4) mNil)))) (mCall F_with_value (mCons (mVar 1) (mCons (mVar 3) (mCons (mVar 4) mNil)))) (mC .non)))))
def F_put_done : SF := runDef 3 5 b_put_done
def b_take_done : SS := (mSeq (mAsg (gN 3) (mCall F_place_in (mCons (mBin oIx (mVar 0) (mC (.int 2))) (mCons (mBin oIx (mVar 2) (mC (.int 1))) mNil)))) (mSeq (mAsg (gN 4) (mCall F_place_in (mCons (mBin oIx (mVar 0) (mC (.int 2))) (mCons (mBin oIx (mVar 2) (mC (.int 2))) mNil)))) (mSeq (mAsg (gN 5) (mBin oIx (mBin oIx (mVar 1) (mC (.int 1))) (mVar 3))) (mSeq (mIfS (mOr (mNot (mTr (mVar 5))) (mNot (mB (mCall F_is_value (mCons (mBin oIx (mBin oIx (mVar 0) (mC (.int 2))) (mVar 4)) (mCons (mBin oIx (mVar 5) (mC (.int 0))) mNil)))))) (mRet (mC .non)) mPass) (mRet (mCall F_with_value (mCons (mCall F_with_value (mCons (mVar 1) (mCons (mVar 3) (mCons (mAd (mSl (mVar 5) (mPart (mC (.int 1))) mNoP)) mNil)))) (mCons (mVar 4) (mCons (mBin oIx (mVar 5) (mC (.int 0))) mNil)))))))))
def F_take_done : SF := runDef 3 6 b_take_done
def b_deed_done : SS := (mSeq (mIfS (mB (mBin oEq (mBin oIx (mVar 2) (mC (.int 0))) (mC (.str ("set" : Str))))) (mRet (mCall F_set_done (mCons (mVar 0) (mCons (mVar 1) (mCons (mVar 2) mNil))))) mPass) (mSeq (mIfS (mB (mBin oEq (mBin oIx (mVar 2) (mC (.int 0))) (mC (.str ("put" : Str))))) (mRet (mCall F_put_done (mCons (mVar 0) (mCons (mVar 1) (mCons (mVar 2) mNil))))) mPass) (mRet (mCall F_take_done (mCons (mVar 0) (mCons (mVar 1) (mCons (mVar 2) mNil)))))))
def F_deed_done : SF := runDef 3 3 b_deed_done
def l_move_done_1 : SS := (mSeq (mAsg (gN 1) (mCall F_deed_done (mCons (mVar 0) (mCons (mVar 1) (mCons (mVar 4) mNil))))) (mIfS (mB (mBin oIs (mVar 1) (mC .non))) (mRet (mC .non)) mPass))
def b_move_done : SS := (mSeq (mAsg (gT 5 (gsC (gN 5) (gsC (gN 6) (gsC (gN 7) (gsC (gN 8) (gsC (gN 9) gsN)))))) (mVar 3)) (mSeq (mIfS (mOr (mB (mBin oNe (mBin oIx (mBin oIx (mVar 1) (mC (.int 0))) (mVar 2)) (mVar 6))) (mNot (mTr (mCall (F_value_of 8) (mCons (mVar 0) (mCons (mVar 1) (mCons (mVar 8) mNil))))))) (mRet (mC .non)) mPass) (mSeq (mFor (mIter (mVar 9)) (gN 4) l_move_done_1) (mRet (mTup (mCons (mAd (mBin oAdd (mBin oAdd (mSl (mBin oIx (mVar 1) (mC (.int 0))) mNoP (mPart (mVar 2))) (mTup (mCons (mVar 7) mNil))) (mSl (mBin oIx (mVar 1) (mC (.int 0))) (mPart (mBin oAdd (mVar 2) (mC (.int 1)))) mNoP))) (mCons (mBin oIx (mVar 1) (mC (.int 1))) mNil)))))))
def F_move_done : SF := runDef 4 10 b_move_done
def l_enabled_1 : SS := (mSeq (mAsg (gN 6) (mCall F_move_done (mCons (mVar 0) (mCons (mVar 1) (mCons (mVar 3) (mCons (mVar 5) mNil)))))) (mIfS (mB (mBin oIsNot (mVar 6) (mC .non))) (mExpr (mMeth isLs oApp (mVar 2) (mTup (mCons (mTup (mCons (mBin oIx (mVar 4) (mC (.int 1))) (mCons (mBin oIx (mVar 5) (mC (.int 0))) mNil))) (mCons (mVar 6) mNil))))) mPass))
def l_enabled_2 : SS := (mFor (mIter (mBin oIx (mVar 4) (mC (.int 3)))) (gN 5) l_enabled_1)
def b_enabled : SS := (mSeq (mAsg (gN 2) (mLst mNil)) (mSeq (mFor (mEnum (mCons (mBin oIx (mVar 0) (mC (.int 3))) mNil)) (gT 2 (gsC (gN 3) (gsC (gN 4) gsN))) l_enabled_2) (mRet (mVar 2))))
def F_enabled : SF := runDef 2 7 b_enabled
def l_next_states_1 : SS := (mIfS (mB (mBin oNotInD (mVar 4) (mVar 2))) (mExpr (mMeth isLs oApp (mVar 2) (mVar 4))) mPass)
def b_next_states : SS := (mSeq (mAsg (gN 2) (mLst mNil)) (mSeq (mFor (mIter (mCall F_enabled (mCons (mVar 0) (mCons (mVar 1) mNil)))) (gT 2 (gsC (gN 3) (gsC (gN 4) gsN))) l_next_states_1) (mRet (mIf (mTr (mVar 2)) (mVar 2) (mLst (mCons (mVar 1) mNil))))))
def F_next_states : SF := runDef 2 5 b_next_states
def b_law_cell : SS := (mSeq (mIfS (mB (mBin oLt (mVar 1) (mFn oLen (mCons (mVar 0) mNil)))) (mRet (mBin oIx (mVar 0) (mVar 1))) mPass) (mRet (mC (.int 0))))
def F_law_cell : SF := runDef 2 2 b_law_cell
def l_law_digits_1 : SS := (mIfS (mB (mBin oGt (mVar 5) (mC (.int 0)))) (mSeq (mExpr (mMeth isLs oApp (mVar 3) (mBin oMod (mFn oInt (mCons (mVar 5) mNil)) (mC (.int 1009))))) (mAsg (gN 5) (mBin oDiv (mVar 5) (mC (.int 1009))))) mPass)
def l_law_digits_2 : SS := (mSeq (mAsg (gN 7) (mBin oMod (mFn oInt (mCons (mBin oAdd (mBin oAdd (mBin oMul (mVar 7) (mC (.int 16807))) (mBin oMul (mC (.int 7)) (mVar 6))) (mC (.int 1))) mNil)) (mC (.int 2147483647)))) (mExpr (mMeth isLs oApp (mVar 3) (mBin oMod (mFn oInt (mCons (mBin oDiv (mVar 7) (mC (.int 997))) mNil)) (mC (.int 1009))))))
def l_law_digits_3 : SS := (mSeq (mAsg (gN 5) (mCall F_law_cell (mCons (mVar 0) (mCons (mVar 4) mNil)))) (mSeq (mIfS (mB (mBin oLt (mVar 5) (mC (.int 0)))) (mAsg (gN 5) (mBin oSub (mC (.int 1)) (mBin oMul (mC (.int 2)) (mVar 5)))) mPass) (mIfS (mB (mBin oGe (mVar 5) (mBin oPow (mC (.int 10)) (mC (.int 18))))) (mFor (mRng1 (mCons (mC (.int 60)) mNil)) (gN 6) l_law_digits_1) (mSeq (mAsg (gN 7) (mBin oMod (mFn oInt (mCons (mBin oAdd (mBin oAdd (mBin oMul (mVar 5) (mC (.int 48271))) (mBin oMul (mVar 4) (mC (.int 69621)))) (mC (.int 11))) mNil)) (mC (.int 2147483647)))) (mFor (mRng1 (mCons (mC (.int 12)) mNil)) (gN 6) l_law_digits_2)))))
def b_law_digits : SS := (mSeq (mAsg (gN 3) (mLst mNil)) (mSeq (mFor (mRng2 (mCons (mVar 1) (mCons (mVar 2) mNil))) (gN 4) l_law_digits_3) (mRet (mVar 3))))
def F_law_digits : SF := runDef 3 8 b_law_digits
def b_law_draw : SS := (mSeq (mAsg (gN 2) (mBin oIx (mVar 0) (mC (.int 1)))) (mSeq (mAsg (gS (mVar 0) (mC (.int 1))) (mBin oAdd (mVar 2) (mC (.int 1)))) (mSeq (mIfS (mB (mBin oLt (mVar 2) (mFn oLen (mCons (mBin oIx (mVar 0) (mC (.int 0))) mNil)))) (mRet (mBin oMod (mFn oInt (mCons (mBin oIx (mBin oIx (mVar 0) (mC (.int 0))) (mVar 2)) mNil)) (mVar 1))) mPass) (mRet (mBin oMod (mFn oInt (mCons (mBin oAdd (mBin oAdd (mBin oAdd (mBin oMul (mBin oMul (mVar 2) (mVar 2)) (mC (.int 3))) (mBin oMul (mVar 2) (mC (.int 4)))) (mBin oDiv (mVar 2) (mC (.int 3)))) (mC (.int 1))) mNil)) (mVar 1))))))
def F_law_draw : SF := runDef 2 3 b_law_draw
def b_law_pick : SS := (mRet (mBin oIx (mVar 1) (mCall F_law_draw (mCons (mVar 0) (mCons (mFn oLen (mCons (mVar 1) mNil)) mNil)))))
def F_law_pick : SF := runDef 2 2 b_law_pick
def l_law_names_1 : SS := (mIfS (mB (mBin oIn (mVar 7) (mBin oAdd (mVar 3) (mVar 2)))) (mAsg (gN 7) (mBin oAdd (mVar 7) (mBin oIx (mC (.str ("qxzjkv" : Str))) (mVar 8)))) mPass)
def l_law_names_2 : SS := (mSeq (mAsg (gN 5) (mBin oIx (mC (.str ("bcghjklmprvwxyz" : Str))) (mVar 4))) (mSeq (mAsg (gN 6) (mBin oIx (mC (.str ("dfknqstbcghjlmp" : Str))) (mCall F_law_draw (mCons (mVar 0) (mCons (mC (.int 15)) mNil))))) (mSeq (mAsg (gN 7) (mBin oIx (mLst (mCons (mVar 5) (mCons (mAd (mBin oAdd (mVar 5) (mVar 6))) (mCons (mAd (mBin oAdd (mVar 6) (mVar 5))) (mCons (mAd (mBin oAdd (mBin oAdd (mVar 6) (mVar 5)) (mC (.str ("2" : Str))))) (mCons (mAd (mBin oAdd (mBin oAdd (mVar 6) (mC (.str ("0" : Str)))) (mVar 5))) mNil)))))) (mCall F_law_draw (mCons (mVar 0) (mCons (mC (.int 5)) mNil))))) (mSeq (mFor (mRng1 (mCons (mC (.int 6)) mNil)) (gN 8) l_law_names_1) (mExpr (mMeth isLs oApp (mVar 3) (mVar 7)))))))
def b_law_names : SS := (mSeq (mAsg (gN 3) (mLst mNil)) (mSeq (mFor (mRng1 (mCons (mVar 1) mNil)) (gN 4) l_law_names_2) (mRet (mVar 3))))
def F_law_names : SF := runDef 3 9 b_law_names
def l_law_place_1 : SS := (mIfS (mB (mBin oEq (mBin oIx (mBin oIx (mVar 0) (mVar 2)) (mC (.int 1))) (mVar 1))) (mRet (mVar 2)) mPass)
def b_law_place : SS := (mSeq (mFor (mRng1 (mCons (mFn oLen (mCons (mVar 0) mNil)) mNil)) (gN 2) l_law_place_1) (mRet (mUn oNeg (mC (.int 1)))))
def F_law_place : SF := runDef 2 3 b_law_place
def b_law_value (self : SF) : SS := (mSeq (mAsg (gN 3) (mBin oIx (mVar 2) (mC (.int 0)))) (mSeq (mIfS (mB (mBin oEq (mVar 3) (mC (.str ("int" : Str))))) (mRet (mBin oIx (mVar 2) (mC (.int 1)))) mPass) (mSeq (mIfS (mB (mBin oEq (mVar 3) (mC (.str ("true" : Str))))) (mRet (mC (.bl true))) mPass) (mSeq (mIfS (mB (mBin oEq (mVar 3) (mC (.str ("false" : Str))))) (mRet (mC (.bl false))) mPass) (mSeq (mIfS (mB (mBin oEq (mVar 3) (mC (.str ("at" : Str))))) (mRet (mBin oEq (mBin oIx (mBin oIx (mVar 1) (mC (.int 0))) (mCall F_law_place (mCons (mBin oIx (mVar 0) (mC (.int 3))) (mCons (mBin oIx (mVar 2) (mC (.int 1))) mNil)))) (mBin oIx (mVar 2) (mC (.int 2))))) mPass) (mSeq (mIfS (mB (mBin oEq (mVar 3) (mC (.str ("name" : Str))))) (mRet (mBin oIx (mBin oIx (mVar 1) (mC (.int 1))) (mCall F_law_place (mCons (mBin oIx (mVar 0) (mC (.int 2))) (mCons (mBin oIx (mVar 2) (mC (.int 1))) mNil))))) mPass) (mSeq (mIfS (mB (mBin oEq (mVar 3) (mC (.str ("size" : Str))))) (mRet (mFn oLen (mCons (mBin oIx (mBin oIx (mVar 1) (mC (.int 1))) (mCall F_law_place (mCons (mBin oIx (mVar 0) (mC (.int 2))) (mCons (mBin oIx (mVar 2) (mC (.int 1))) mNil)))) mNil))) mPass) (mSeq (mAsg (gN 4) (mCall self (mCons (mVar 0) (mCons (mVar 1) (mCons (mBin oIx (mVar 2) (mC (.int 1))) mNil))))) (mSeq (mIfS (mB (mBin oEq (mVar 3) (mC (.str ("not" : Str))))) (mRet (mNotX (mVar 4))) mPass) (mSeq (mIfS (mB (mBin oEq (mVar 3) (mC (.str ("if" : Str))))) (mRet (mIf (mTr (mVar 4)) (mCall self (mCons (mVar 0) (mCons (mVar 1) (mCons (mBin oIx (mVar 2) (mC (.int 2))) mNil)))) (mCall self (mCons (mVar 0) (mCons (mVar 1) (mCons (mBin oIx (mVar 2) (mC (.int 3))) mNil)))))) mPass) (mSeq (mAsg (gN 5) (mCall self (mCons (mVar 0) (mCons (mVar 1) (mCons (mBin oIx (mVar 2) (mC (.int 2))) mNil))))) (mSeq (mIfS (mB (mBin oEq (mVar 3) (mC (.str ("and" : Str))))) (mRet (mAndX (mVar 4) (mVar 5))) mPass) (mSeq (mIfS (mB (mBin oEq (mVar 3) (mC (.str ("or" : Str))))) (mRet (mOrX (mVar 4) (mVar 5))) mPass) (mSeq (mIfS (mB (mBin oEq (mVar 3) (mC (.str ("+" : Str))))) (mRet (mBin oAdd (mVar 4) (mVar 5))) mPass) (mSeq (mIfS (mB (mBin oEq (mVar 3) (mC (.str ("-" : Str))))) (mRet (mBin oSub (mVar 4) (mVar 5))) mPass) (mSeq (mIfS (mB (mBin oEq (mVar 3) (mC (.str ("*" : Str))))) (mRet (mBin oMul (mVar 4) (mVar 5))) mPass) (mSeq (mIfS (mB (mBin oEq (mVar 3) (mC (.str ("=" : Str))))) (mRet (mBin oEq (mVar 4) (mVar 5))) mPass) (mRet (mIf (mB (mBin oEq (mVar 3) (mC (.str ("<" : Str))))) (mBin oLt (mVar 4) (mVar 5)) (mBin oLe (mVar 4) (mVar 5)))))))))))))))))))))
def F_law_value : Nat → SF
  | 0 => fun _ _ => none
  | k + 1 => runDef 3 6 (b_law_value (F_law_value k))
def b_law_done : SS := (mSeq (mAsg (gN 3) (mFn oList (mCons (mBin oIx (mVar 1) (mC (.int 1))) mNil))) (mSeq (mAsg (gN 4) (mCall F_law_place (mCons (mBin oIx (mVar 0) (mC (.int 2))) (mCons (mBin oIx (mVar 2) (mC (.int 1))) mNil)))) (mSeq (mAsg (gN 5) (mBin oIx (mBin oIx (mVar 0) (mC (.int 2))) (mVar 4))) (mSeq (mIfS (mB (mBin oEq (mBin oIx (mVar 2) (mC (.int 0))) (mC (.str ("set" : Str))))) (mSeq (mAsg (gN 6) (mCall (F_law_value 8) (mCons (mVar 0) (mCons (mVar 1) (mCons (mBin oIx (mVar 2) (mC (.int 2))) mNil))))) (mSeq (mIfS (mOr (mB (mBin oLt (mVar 6) (mBin oIx (mVar 5) (mC (.int 2))))) (mB (mBin oGt (mVar 6) (mBin oIx (mVar 5) (mC (.int 3)))))) (mRet (mC .non)) mPass) (mAsg (gS (mVar 3) (mVar 4)) (mVar 6)))) (mIfS (mB (mBin oEq (mBin oIx (mVar 2) (mC (.int 0))) (mC (.str ("put" : Str))))) (mSeq (mAsg (gN 6) (mCall (F_law_value 8) (mCons (mVar 0) (mCons (mVar 1) (mCons (mBin oIx (mVar 2) (mC (.int 2))) mNil))))) (mSeq (mIfS (mOr (mB (mBin oLt (mVar 6) (mBin oIx (mVar 5) (mC (.int 3))))) (mOr (mB (mBin oGt (mVar 6) (mBin oIx (mVar 5) (mC (.int 4))))) (mB (mBin oEq (mFn oLen (mCons (mBin oIx (mVar 3) (mVar 4)) mNil)) (mBin oIx (mVar 5) (mC (.int 2))))))) (mRet (mC .non)) mPass) (mAsg (gS (mVar 3) (mVar 4)) (mBin oAdd (mBin oIx (mVar 3) (mVar 4)) (mTup (mCons (mVar 6) mNil)))))) (mSeq (mAsg (gN 7) (mCall F_law_place (mCons (mBin oIx (mVar 0) (mC (.int 2))) (mCons (mBin oIx (mVar 2) (mC (.int 2))) mNil)))) (mSeq (mIfS (mOr (mB (mBin oEq (mFn oLen (mCons (mBin oIx (mVar 3) (mVar 4)) mNil)) (mC (.int 0)))) (mOr (mB (mBin oLt (mBin oIx (mBin oIx (mVar 3) (mVar 4)) (mC (.int 0))) (mBin oIx (mBin oIx (mBin oIx (mVar 0) (mC (.int 2))) (mVar 7)) (mC (.int 2))))) (mB (mBin oGt (mBin oIx (mBin oIx (mVar 3) (mVar 4)) (mC (.int 0))) (mBin oIx (mBin oIx (mBin oIx (mVar 0) (mC (.int 2))) (mVar 7)) (mC (.int 3))))))) (mRet (mC .non)) mPass) (mSeq (mAsg (gS (mVar 3) (mVar 7)) (mBin oIx (mBin oIx (mVar 3) (mVar 4)) (mC (.int 0)))) (mAsg (gS (mVar 3) (mVar 4)) (mSl (mBin oIx (mVar 3) (mVar 4)) (mPart (mC (.int 1))) mNoP))))))) (mRet (mTup (mCons (mBin oIx (mVar 1) (mC (.int 0))) (mCons (mFn oTuple (mCons (mVar 3) mNil)) mNil))))))))
def F_law_done : SF := runDef 3 8 b_law_done
def l_law_moved_1 : SS := (mIfS (mB (mBin oIsNot (mVar 1) (mC .non))) (mAsg (gN 1) (mCall F_law_done (mCons (mVar 0) (mCons (mVar 1) (mCons (mVar 4) mNil))))) mPass)
def b_law_moved : SS := (mSeq (mIfS (mOr (mB (mBin oNe (mBin oIx (mBin oIx (mVar 1) (mC (.int 0))) (mVar 2)) (mBin oIx (mVar 3) (mC (.int 1))))) (mNot (mTr (mCall (F_law_value 8) (mCons (mVar 0) (mCons (mVar 1) (mCons (mBin oIx (mVar 3) (mC (.int 3))) mNil))))))) (mRet (mC .non)) mPass) (mSeq (mFor (mIter (mBin oIx (mVar 3) (mC (.int 4)))) (gN 4) l_law_moved_1) (mSeq (mIfS (mB (mBin oIs (mVar 1) (mC .non))) (mRet (mC .non)) mPass) (mSeq (mAsg (gN 5) (mFn oList (mCons (mBin oIx (mVar 1) (mC (.int 0))) mNil))) (mSeq (mAsg (gS (mVar 5) (mVar 2)) (mBin oIx (mVar 3) (mC (.int 2)))) (mRet (mTup (mCons (mFn oTuple (mCons (mVar 5) mNil)) (mCons (mBin oIx (mVar 1) (mC (.int 1))) mNil)))))))))
def F_law_moved : SF := runDef 4 6 b_law_moved
def l_law_enabled_1 : SS := (mSeq (mAsg (gN 5) (mCall F_law_moved (mCons (mVar 0) (mCons (mVar 1) (mCons (mVar 3) (mCons (mVar 4) mNil)))))) (mIfS (mB (mBin oIsNot (mVar 5) (mC .non))) (mExpr (mMeth isLs oApp (mVar 2) (mTup (mCons (mTup (mCons (mBin oIx (mBin oIx (mBin oIx (mVar 0) (mC (.int 3))) (mVar 3)) (mC (.int 1))) (mCons (mBin oIx (mVar 4) (mC (.int 0))) mNil))) (mCons (mVar 5) mNil))))) mPass))
def l_law_enabled_2 : SS := (mFor (mIter (mBin oIx (mBin oIx (mBin oIx (mVar 0) (mC (.int 3))) (mVar 3)) (mC (.int 3)))) (gN 4) l_law_enabled_1)
def b_law_enabled : SS := (mSeq (mAsg (gN 2) (mLst mNil)) (mSeq (mFor (mRng1 (mCons (mFn oLen (mCons (mBin oIx (mVar 0) (mC (.int 3))) mNil)) mNil)) (gN 3) l_law_enabled_2) (mRet (mVar 2))))
def F_law_enabled : SF := runDef 2 6 b_law_enabled
def b_law_beginning : SS := (mSeq (mAsg (gN 1) (mComp (mIter (mBin oIx (mVar 0) (mC (.int 2)))) (gN 2) mYes (mIf (mB (mBin oEq (mBin oIx (mVar 2) (mC (.int 0))) (mC (.str ("number" : Str))))) (mBin oIx (mVar 2) (mC (.int 4))) (mTup mNil)) [2])) (mRet (mTup (mCons (mFn oTuple (mCons (mComp (mIter (mBin oIx (mVar 0) (mC (.int 3)))) (gN 3) mYes (mBin oIx (mBin oIx (mVar 3) (mC (.int 2))) (mC (.int 0))) [3]) mNil)) (mCons (mFn oTuple (mCons (mVar 1) mNil)) mNil)))))
def F_law_beginning : SF := runDef 1 4 b_law_beginning
def b_law_number : SS := (mSeq (mAsg (gN 2) (mComp (mIter (mBin oIx (mVar 1) (mC (.int 2)))) (gN 5) (mB (mBin oEq (mBin oIx (mVar 5) (mC (.int 0))) (mC (.str ("number" : Str))))) (mTup (mCons (mC (.str ("name" : Str))) (mCons (mBin oIx (mVar 5) (mC (.int 1))) mNil))) [5])) (mSeq (mAsg (gN 2) (mBin oAdd (mVar 2) (mComp (mIter (mBin oIx (mVar 1) (mC (.int 2)))) (gN 5) (mB (mBin oEq (mBin oIx (mVar 5) (mC (.int 0))) (mC (.str ("queue" : Str))))) (mTup (mCons (mC (.str ("size" : Str))) (mCons (mBin oIx (mVar 5) (mC (.int 1))) mNil))) [5]))) (mSeq (mAsg (gN 3) (mCall F_law_pick (mCons (mVar 0) (mCons (mAd (mBin oAdd (mVar 2) (mLst (mCons (mTup (mCons (mC (.str ("int" : Str))) (mCons (mCall F_law_draw (mCons (mVar 0) (mCons (mC (.int 4)) mNil))) mNil))) mNil)))) mNil)))) (mSeq (mAsg (gN 4) (mCall F_law_draw (mCons (mVar 0) (mCons (mC (.int 8)) mNil)))) (mSeq (mIfS (mB (mBin oEq (mVar 4) (mC (.int 0)))) (mRet (mTup (mCons (mC (.str ("+" : Str))) (mCons (mVar 3) (mCons (mTup (mCons (mC (.str ("int" : Str))) (mCons (mAd (mBin oAdd (mC (.int 1)) (mCall F_law_draw (mCons (mVar 0) (mCons (mC (.int 2)) mNil))))) mNil))) mNil))))) mPass) (mSeq (mIfS (mB (mBin oEq (mVar 4) (mC (.int 1)))) (mRet (mTup (mCons (mC (.str ("-" : Str))) (mCons (mVar 3) (mCons (mCall F_law_pick (mCons (mVar 0) (mCons (mAd (mBin oAdd (mVar 2) (mLst (mCons (mTup (mCons (mC (.str ("int" : Str))) (mCons (mC (.int 1)) mNil))) mNil)))) mNil))) mNil))))) mPass) (mSeq (mIfS (mB (mBin oEq (mVar 4) (mC (.int 2)))) (mRet (mTup (mCons (mC (.str ("*" : Str))) (mCons (mVar 3) (mCons (mTup (mCons (mC (.str ("int" : Str))) (mCons (mCall F_law_draw (mCons (mVar 0) (mCons (mC (.int 3)) mNil))) mNil))) mNil))))) mPass) (mRet (mVar 3)))))))))
def F_law_number : SF := runDef 2 6 b_law_number
def b_law_truth (self : SF) : SS := (mSeq (mAsg (gN 3) (mCall F_law_draw (mCons (mVar 0) (mCons (mBin oIx (mLst (mCons (mC (.int 6)) (mCons (mC (.int 9)) mNil))) (mFn oInt (mCons (mBin oGt (mVar 2) (mC (.int 0))) mNil))) mNil)))) (mSeq (mIfS (mB (mBin oLt (mVar 3) (mC (.int 3)))) (mRet (mTup (mCons (mBin oIx (mLst (mCons (mC (.str ("=" : Str))) (mCons (mC (.str ("<" : Str))) (mCons (mC (.str ("<=" : Str))) mNil)))) (mVar 3)) (mCons (mCall F_law_number (mCons (mVar 0) (mCons (mVar 1) mNil))) (mCons (mCall F_law_number (mCons (mVar 0) (mCons (mVar 1) mNil))) mNil))))) mPass) (mSeq (mIfS (mB (mBin oLt (mVar 3) (mC (.int 6)))) (mSeq (mAsg (gN 4) (mCall F_law_pick (mCons (mVar 0) (mCons (mBin oIx (mVar 1) (mC (.int 3))) mNil)))) (mRet (mTup (mCons (mC (.str ("at" : Str))) (mCons (mBin oIx (mVar 4) (mC (.int 1))) (mCons (mCall F_law_pick (mCons (mVar 0) (mCons (mBin oIx (mVar 4) (mC (.int 2))) mNil))) mNil)))))) mPass) (mSeq (mIfS (mB (mBin oEq (mVar 3) (mC (.int 6)))) (mRet (mTup (mCons (mC (.str ("not" : Str))) (mCons (mCall self (mCons (mVar 0) (mCons (mVar 1) (mCons (mBin oSub (mVar 2) (mC (.int 1))) mNil)))) mNil)))) mPass) (mRet (mTup (mCons (mBin oIx (mLst (mCons (mC (.str ("and" : Str))) (mCons (mC (.str ("or" : Str))) mNil))) (mBin oSub (mVar 3) (mC (.int 7)))) (mCons (mCall self (mCons (mVar 0) (mCons (mVar 1) (mCons (mBin oSub (mVar 2) (mC (.int 1))) mNil)))) (mCons (mCall self (mCons (mVar 0) (mCons (mVar 1) (mCons (mBin oSub (mVar 2) (mC (.int 1))) mNil)))) mNil)))))))))
def F_law_truth : Nat → SF
  | 0 => fun _ _ => none
  | k + 1 => runDef 3 5 (b_law_truth (F_law_truth k))
def b_law_deed : SS := (mSeq (mAsg (gN 2) (mComp (mIter (mBin oIx (mVar 1) (mC (.int 2)))) (gN 5) (mB (mBin oEq (mBin oIx (mVar 5) (mC (.int 0))) (mC (.str ("queue" : Str))))) (mVar 5) [5])) (mSeq (mAsg (gN 3) (mComp (mIter (mBin oIx (mVar 1) (mC (.int 2)))) (gN 5) (mB (mBin oEq (mBin oIx (mVar 5) (mC (.int 0))) (mC (.str ("number" : Str))))) (mVar 5) [5])) (mSeq (mAsg (gN 4) (mCall F_law_draw (mCons (mVar 0) (mCons (mC (.int 8)) mNil)))) (mSeq (mIfS (mAnd (mB (mBin oLt (mVar 4) (mC (.int 2)))) (mB (mBin oGt (mFn oLen (mCons (mVar 2) mNil)) (mC (.int 0))))) (mSeq (mAsg (gN 6) (mCall F_law_pick (mCons (mVar 0) (mCons (mVar 2) mNil)))) (mSeq (mIfS (mB (mBin oEq (mVar 4) (mC (.int 0)))) (mRet (mTup (mCons (mC (.str ("put" : Str))) (mCons (mBin oIx (mVar 6) (mC (.int 1))) (mCons (mBin oIx (mLst (mCons (mCall F_law_number (mCons (mVar 0) (mCons (mVar 1) mNil))) (mCons (mTup (mCons (mC (.str ("int" : Str))) (mCons (mBin oIx (mVar 6) (mC (.int 3))) mNil))) mNil))) (mCall F_law_draw (mCons (mVar 0) (mCons (mC (.int 2)) mNil)))) mNil))))) mPass) (mRet (mTup (mCons (mC (.str ("take" : Str))) (mCons (mBin oIx (mVar 6) (mC (.int 1))) (mCons (mBin oIx (mCall F_law_pick (mCons (mVar 0) (mCons (mVar 3) mNil))) (mC (.int 1))) mNil))))))) mPass) (mSeq (mAsg (gN 5) (mCall F_law_pick (mCons (mVar 0) (mCons (mVar 3) mNil)))) (mSeq (mIfS (mB (mBin oLt (mVar 4) (mC (.int 6)))) (mRet (mTup (mCons (mC (.str ("set" : Str))) (mCons (mBin oIx (mVar 5) (mC (.int 1))) (mCons (mTup (mCons (mC (.str ("if" : Str))) (mCons (mTup (mCons (mC (.str ("<" : Str))) (mCons (mTup (mCons (mC (.str ("name" : Str))) (mCons (mBin oIx (mVar 5) (mC (.int 1))) mNil))) (mCons (mTup (mCons (mC (.str ("int" : Str))) (mCons (mBin oIx (mVar 5) (mC (.int 3))) mNil))) mNil)))) (mCons (mTup (mCons (mC (.str ("+" : Str))) (mCons (mTup (mCons (mC (.str ("name" : Str))) (mCons (mBin oIx (mVar 5) (mC (.int 1))) mNil))) (mCons (mTup (mCons (mC (.str ("int" : Str))) (mCons (mC (.int 1)) mNil))) mNil)))) (mCons (mTup (mCons (mC (.str ("int" : Str))) (mCons (mBin oIx (mVar 5) (mC (.int 2))) mNil))) mNil))))) mNil))))) mPass) (mRet (mTup (mCons (mC (.str ("set" : Str))) (mCons (mBin oIx (mVar 5) (mC (.int 1))) (mCons (mBin oIx (mLst (mCons (mCall F_law_number (mCons (mVar 0) (mCons (mVar 1) mNil))) (mCons (mTup (mCons (mC (.str ("int" : Str))) (mCons (mAd (mBin oAdd (mBin oIx (mVar 5) (mC (.int 2))) (mCall F_law_draw (mCons (mVar 0) (mCons (mAd (mBin oAdd (mBin oSub (mBin oIx (mVar 5) (mC (.int 3))) (mBin oIx (mVar 5) (mC (.int 2)))) (mC (.int 1)))) mNil))))) mNil))) mNil))) (mCall F_law_draw (mCons (mVar 0) (mCons (mC (.int 2)) mNil)))) mNil)))))))))))
def F_law_deed : SF := runDef 2 7 b_law_deed
def l_law_drawn_1 : SS := (mSeq (mAsg (gN 9) (mBin oIx (mLst (mCons (mC (.int 0)) (mCons (mC (.int 0)) (mCons (mC (.int 1)) (mCons (mUn oNeg (mC (.int 2))) mNil))))) (mCall F_law_draw (mCons (mVar 0) (mCons (mC (.int 4)) mNil))))) (mSeq (mAsg (gN 10) (mBin oAdd (mBin oAdd (mVar 9) (mC (.int 1))) (mCall F_law_draw (mCons (mVar 0) (mCons (mC (.int 3)) mNil))))) (mExpr (mMeth isLs oApp (mVar 3) (mTup (mCons (mC (.str ("number" : Str))) (mCons (mBin oIx (mVar 2) (mVar 4)) (mCons (mVar 9) (mCons (mVar 10) (mCons (mAd (mBin oAdd (mVar 9) (mCall F_law_draw (mCons (mVar 0) (mCons (mAd (mBin oAdd (mBin oSub (mVar 10) (mVar 9)) (mC (.int 1)))) mNil))))) mNil))))))))))
def l_law_drawn_2 : SS := (mExpr (mMeth isLs oApp (mVar 5) (mTup (mCons (mC (.str ("process" : Str))) (mCons (mBin oIx (mVar 2) (mBin oAdd (mC (.int 4)) (mVar 4))) (mCons (mFn oTuple (mCons (mCall F_law_names (mCons (mVar 0) (mCons (mAd (mBin oAdd (mC (.int 1)) (mCall F_law_draw (mCons (mVar 0) (mCons (mC (.int 3)) mNil))))) (mCons (mVar 2) mNil)))) mNil)) (mCons (mTup mNil) mNil)))))))
def l_law_drawn_3 : SS := (mSeq (mAsg (gN 14) (mBin oIx (mLst (mCons (mTup (mCons (mC (.str ("true" : Str))) mNil)) (mCons (mCall (F_law_truth 4) (mCons (mVar 0) (mCons (mVar 6) (mCons (mC (.int 1)) mNil)))) mNil))) (mFn oInt (mCons (mBin oGt (mCall F_law_draw (mCons (mVar 0) (mCons (mC (.int 5)) mNil))) (mC (.int 2))) mNil)))) (mSeq (mAsg (gN 15) (mFn oTuple (mCons (mComp (mRng1 (mCons (mBin oIx (mLst (mCons (mC (.int 1)) (mCons (mC (.int 0)) (mCons (mC (.int 1)) (mCons (mC (.int 2)) mNil))))) (mCall F_law_draw (mCons (mVar 0) (mCons (mC (.int 4)) mNil)))) mNil)) (gN 16) mYes (mCall F_law_deed (mCons (mVar 0) (mCons (mVar 6) mNil))) [16]) mNil))) (mIfS (mB (mBin oLt (mVar 4) (mFn oLen (mCons (mVar 12) mNil)))) (mExpr (mMeth isLs oApp (mVar 11) (mTup (mCons (mBin oIx (mVar 13) (mVar 4)) (mCons (mBin oIx (mVar 12) (mVar 4)) (mCons (mBin oIx (mVar 12) (mBin oMod (mBin oAdd (mVar 4) (mC (.int 1))) (mFn oLen (mCons (mVar 12) mNil)))) (mCons (mVar 14) (mCons (mVar 15) mNil)))))))) (mExpr (mMeth isLs oApp (mVar 11) (mTup (mCons (mBin oIx (mVar 13) (mVar 4)) (mCons (mCall F_law_pick (mCons (mVar 0) (mCons (mVar 12) mNil))) (mCons (mCall F_law_pick (mCons (mVar 0) (mCons (mVar 12) mNil))) (mCons (mVar 14) (mCons (mVar 15) mNil)))))))))))
def l_law_drawn_4 : SS := (mSeq (mAsg (gN 11) (mLst mNil)) (mSeq (mAsg (gN 12) (mBin oIx (mVar 8) (mC (.int 2)))) (mSeq (mAsg (gN 13) (mCall F_law_names (mCons (mVar 0) (mCons (mAd (mBin oAdd (mFn oLen (mCons (mVar 12) mNil)) (mCall F_law_draw (mCons (mVar 0) (mCons (mC (.int 3)) mNil))))) (mCons (mAd (mLst mNil)) mNil))))) (mSeq (mFor (mRng1 (mCons (mFn oLen (mCons (mVar 13) mNil)) mNil)) (gN 4) l_law_drawn_3) (mExpr (mMeth isLs oApp (mVar 7) (mAd (mBin oAdd (mSl (mVar 8) mNoP (mPart (mC (.int 3)))) (mTup (mCons (mFn oTuple (mCons (mVar 11) mNil)) mNil))))))))))
def b_law_drawn : SS := (mSeq (mAsg (gN 2) (mCall F_law_names (mCons (mVar 0) (mCons (mC (.int 9)) (mCons (mAd (mLst mNil)) mNil))))) (mSeq (mAsg (gN 3) (mLst mNil)) (mSeq (mFor (mRng1 (mCons (mBin oAdd (mC (.int 1)) (mCall F_law_draw (mCons (mVar 0) (mCons (mC (.int 3)) mNil)))) mNil)) (gN 4) l_law_drawn_1) (mSeq (mIfS (mB (mBin oEq (mCall F_law_draw (mCons (mVar 0) (mCons (mC (.int 3)) mNil))) (mC (.int 0)))) (mSeq (mAsg (gN 9) (mCall F_law_draw (mCons (mVar 0) (mCons (mC (.int 2)) mNil)))) (mExpr (mMeth isLs oApp (mVar 3) (mTup (mCons (mC (.str ("queue" : Str))) (mCons (mBin oIx (mVar 2) (mC (.int 3))) (mCons (mAd (mBin oAdd (mC (.int 1)) (mCall F_law_draw (mCons (mVar 0) (mCons (mC (.int 2)) mNil))))) (mCons (mVar 9) (mCons (mAd (mBin oAdd (mVar 9) (mCall F_law_draw (mCons (mVar 0) (mCons (mC (.int 2)) mNil))))) mNil))))))))) mPass) (mSeq (mAsg (gN 5) (mLst mNil)) (mSeq (mFor (mRng1 (mCons (mBin oAdd (mC (.int 2)) (mCall F_law_draw (mCons (mVar 0) (mCons (mBin oSub (mVar 1) (mC (.int 1))) mNil)))) mNil)) (gN 4) l_law_drawn_2) (mSeq (mAsg (gN 6) (mTup (mCons (mC (.str ("system" : Str))) (mCons (mBin oIx (mVar 2) (mC (.int 8))) (mCons (mFn oTuple (mCons (mVar 3) mNil)) (mCons (mFn oTuple (mCons (mVar 5) mNil)) mNil)))))) (mSeq (mAsg (gN 7) (mLst mNil)) (mSeq (mFor (mIter (mBin oIx (mVar 6) (mC (.int 3)))) (gN 8) l_law_drawn_4) (mRet (mBin oAdd (mSl (mVar 6) mNoP (mPart (mC (.int 3)))) (mTup (mCons (mFn oTuple (mCons (mVar 7) mNil)) mNil)))))))))))))
def F_law_drawn : SF := runDef 2 17 b_law_drawn
def l_law_lock_1 : SS := (mSeq (mAsg (gN 7) (mTup (mCons (mC (.str ("ent" : Str))) (mCons (mC (.str ("out" : Str))) (mCons (mC (.str ("in" : Str))) (mCons (mBin oIx (mLst (mCons (mVar 4) (mCons (mTup (mCons (mC (.str ("true" : Str))) mNil)) mNil))) (mFn oInt (mCons (mBin oEq (mVar 3) (mVar 6)) mNil))) (mCons (mTup (mCons (mTup (mCons (mC (.str ("set" : Str))) (mCons (mBin oIx (mVar 2) (mC (.int 0))) (mCons (mTup (mCons (mC (.str ("int" : Str))) (mCons (mC (.int 1)) mNil))) mNil)))) mNil)) mNil))))))) (mSeq (mAsg (gN 8) (mTup (mCons (mC (.str ("lea" : Str))) (mCons (mC (.str ("in" : Str))) (mCons (mC (.str ("out" : Str))) (mCons (mTup (mCons (mC (.str ("true" : Str))) mNil)) (mCons (mTup (mCons (mTup (mCons (mC (.str ("set" : Str))) (mCons (mBin oIx (mVar 2) (mC (.int 0))) (mCons (mTup (mCons (mC (.str ("int" : Str))) (mCons (mFn oInt (mCons (mBin oEq (mVar 3) (mC (.int 4))) mNil)) mNil))) mNil)))) mNil)) mNil))))))) (mSeq (mAsg (gN 9) (mLst (mCons (mVar 7) (mCons (mVar 8) mNil)))) (mSeq (mIfS (mB (mBin oEq (mVar 3) (mC (.int 5)))) (mAsg (gN 9) (mLst (mCons (mTup (mCons (mC (.str ("ask" : Str))) (mCons (mC (.str ("rest" : Str))) (mCons (mC (.str ("out" : Str))) (mCons (mTup (mCons (mC (.str ("true" : Str))) mNil)) (mCons (mTup mNil) mNil)))))) (mCons (mVar 7) (mCons (mTup (mCons (mC (.str ("lea" : Str))) (mCons (mC (.str ("in" : Str))) (mCons (mC (.str ("rest" : Str))) (mCons (mTup (mCons (mC (.str ("true" : Str))) mNil)) (mCons (mBin oIx (mVar 8) (mC (.int 4))) mNil)))))) mNil))))) mPass) (mExpr (mMeth isLs oApp (mVar 5) (mTup (mCons (mC (.str ("process" : Str))) (mCons (mBin oIx (mVar 2) (mBin oAdd (mC (.int 1)) (mVar 6))) (mCons (mBin oIx (mLst (mCons (mTup (mCons (mC (.str ("out" : Str))) (mCons (mC (.str ("in" : Str))) mNil))) (mCons (mTup (mCons (mC (.str ("rest" : Str))) (mCons (mC (.str ("out" : Str))) (mCons (mC (.str ("in" : Str))) mNil)))) mNil))) (mFn oInt (mCons (mBin oEq (mVar 3) (mC (.int 5))) mNil))) (mCons (mFn oTuple (mCons (mVar 9) mNil)) mNil)))))))))))
def b_law_lock : SS := (mSeq (mAsg (gN 2) (mCall F_law_names (mCons (mVar 0) (mCons (mC (.int 6)) (mCons (mAd (mLst mNil)) mNil))))) (mSeq (mAsg (gN 3) (mCall F_law_draw (mCons (mVar 0) (mCons (mC (.int 8)) mNil)))) (mSeq (mAsg (gN 4) (mTup (mCons (mC (.str ("=" : Str))) (mCons (mTup (mCons (mC (.str ("name" : Str))) (mCons (mBin oIx (mVar 2) (mC (.int 0))) mNil))) (mCons (mTup (mCons (mC (.str ("int" : Str))) (mCons (mC (.int 0)) mNil))) mNil))))) (mSeq (mAsg (gN 5) (mLst mNil)) (mSeq (mFor (mRng1 (mCons (mVar 1) mNil)) (gN 6) l_law_lock_1) (mRet (mTup (mCons (mC (.str ("system" : Str))) (mCons (mBin oIx (mVar 2) (mC (.int 5))) (mCons (mTup (mCons (mTup (mCons (mC (.str ("number" : Str))) (mCons (mBin oIx (mVar 2) (mC (.int 0))) (mCons (mC (.int 0)) (mCons (mC (.int 1)) (mCons (mC (.int 0)) mNil)))))) mNil)) (mCons (mFn oTuple (mCons (mVar 5) mNil)) mNil)))))))))))
def F_law_lock : SF := runDef 2 10 b_law_lock
def b_law_line : SS := (mSeq (mAsg (gN 2) (mCall F_law_names (mCons (mVar 0) (mCons (mC (.int 8)) (mCons (mAd (mLst mNil)) mNil))))) (mSeq (mAsg (gN 3) (mBin oAdd (mC (.int 1)) (mCall F_law_draw (mCons (mVar 0) (mCons (mC (.int 2)) mNil))))) (mSeq (mAsg (gN 4) (mTup (mCons (mTup (mCons (mC (.str ("number" : Str))) (mCons (mBin oIx (mVar 2) (mC (.int 0))) (mCons (mC (.int 0)) (mCons (mC (.int 2)) (mCons (mC (.int 0)) mNil)))))) (mCons (mTup (mCons (mC (.str ("queue" : Str))) (mCons (mBin oIx (mVar 2) (mC (.int 1))) (mCons (mVar 3) (mCons (mC (.int 0)) (mCons (mC (.int 1)) mNil)))))) (mCons (mTup (mCons (mC (.str ("queue" : Str))) (mCons (mBin oIx (mVar 2) (mC (.int 2))) (mCons (mC (.int 1)) (mCons (mC (.int 0)) (mCons (mC (.int 1)) mNil)))))) (mCons (mTup (mCons (mC (.str ("number" : Str))) (mCons (mBin oIx (mVar 2) (mC (.int 3))) (mCons (mC (.int 0)) (mCons (mC (.int 1)) (mCons (mC (.int 0)) mNil)))))) mNil)))))) (mSeq (mAsg (gN 5) (mTup (mCons (mC (.str ("put" : Str))) (mCons (mBin oIx (mVar 2) (mC (.int 1))) (mCons (mBin oIx (mLst (mCons (mTup (mCons (mC (.str ("int" : Str))) (mCons (mC (.int 1)) mNil))) (mCons (mTup (mCons (mC (.str ("name" : Str))) (mCons (mBin oIx (mVar 2) (mC (.int 3))) mNil))) mNil))) (mCall F_law_draw (mCons (mVar 0) (mCons (mC (.int 2)) mNil)))) mNil))))) (mSeq (mAsg (gN 6) (mTup (mCons (mC (.str ("process" : Str))) (mCons (mBin oIx (mVar 2) (mC (.int 4))) (mCons (mTup (mCons (mC (.str ("a" : Str))) mNil)) (mCons (mTup (mCons (mTup (mCons (mC (.str ("mk" : Str))) (mCons (mC (.str ("a" : Str))) (mCons (mC (.str ("a" : Str))) (mCons (mTup (mCons (mC (.str ("<" : Str))) (mCons (mTup (mCons (mC (.str ("name" : Str))) (mCons (mBin oIx (mVar 2) (mC (.int 0))) mNil))) (mCons (mTup (mCons (mC (.str ("int" : Str))) (mCons (mC (.int 2)) mNil))) mNil)))) (mCons (mTup (mCons (mVar 5) (mCons (mTup (mCons (mC (.str ("set" : Str))) (mCons (mBin oIx (mVar 2) (mC (.int 0))) (mCons (mTup (mCons (mC (.str ("+" : Str))) (mCons (mTup (mCons (mC (.str ("name" : Str))) (mCons (mBin oIx (mVar 2) (mC (.int 0))) mNil))) (mCons (mTup (mCons (mC (.str ("int" : Str))) (mCons (mC (.int 1)) mNil))) mNil)))) mNil)))) mNil))) mNil)))))) mNil)) mNil)))))) (mSeq (mAsg (gN 7) (mBin oIx (mLst (mCons (mTup (mCons (mC (.str ("true" : Str))) mNil)) (mCons (mTup (mCons (mC (.str ("<" : Str))) (mCons (mTup (mCons (mC (.str ("size" : Str))) (mCons (mBin oIx (mVar 2) (mC (.int 2))) mNil))) (mCons (mTup (mCons (mC (.str ("int" : Str))) (mCons (mC (.int 1)) mNil))) mNil)))) (mCons (mTup (mCons (mC (.str ("=" : Str))) (mCons (mTup (mCons (mC (.str ("name" : Str))) (mCons (mBin oIx (mVar 2) (mC (.int 3))) mNil))) (mCons (mTup (mCons (mC (.str ("int" : Str))) (mCons (mC (.int 1)) mNil))) mNil)))) mNil)))) (mCall F_law_draw (mCons (mVar 0) (mCons (mC (.int 3)) mNil))))) (mSeq (mAsg (gN 8) (mTup (mCons (mC (.str ("process" : Str))) (mCons (mBin oIx (mVar 2) (mC (.int 5))) (mCons (mTup (mCons (mC (.str ("b" : Str))) (mCons (mC (.str ("c" : Str))) mNil))) (mCons (mTup (mCons (mTup (mCons (mC (.str ("get" : Str))) (mCons (mC (.str ("b" : Str))) (mCons (mC (.str ("c" : Str))) (mCons (mTup (mCons (mC (.str ("true" : Str))) mNil)) (mCons (mTup (mCons (mTup (mCons (mC (.str ("take" : Str))) (mCons (mBin oIx (mVar 2) (mC (.int 1))) (mCons (mBin oIx (mVar 2) (mC (.int 3))) mNil)))) mNil)) mNil)))))) (mCons (mTup (mCons (mC (.str ("giv" : Str))) (mCons (mC (.str ("c" : Str))) (mCons (mC (.str ("b" : Str))) (mCons (mVar 7) (mCons (mTup (mCons (mTup (mCons (mC (.str ("put" : Str))) (mCons (mBin oIx (mVar 2) (mC (.int 2))) (mCons (mTup (mCons (mC (.str ("name" : Str))) (mCons (mBin oIx (mVar 2) (mC (.int 3))) mNil))) mNil)))) mNil)) mNil)))))) mNil))) mNil)))))) (mSeq (mAsg (gN 9) (mBin oIx (mLst (mCons (mTup (mCons (mC (.str ("set" : Str))) (mCons (mBin oIx (mVar 2) (mC (.int 0))) (mCons (mTup (mCons (mC (.str ("-" : Str))) (mCons (mTup (mCons (mC (.str ("name" : Str))) (mCons (mBin oIx (mVar 2) (mC (.int 0))) mNil))) (mCons (mTup (mCons (mC (.str ("int" : Str))) (mCons (mC (.int 1)) mNil))) mNil)))) mNil)))) (mCons (mTup (mCons (mC (.str ("set" : Str))) (mCons (mBin oIx (mVar 2) (mC (.int 0))) (mCons (mTup (mCons (mC (.str ("int" : Str))) (mCons (mC (.int 0)) mNil))) mNil)))) mNil))) (mCall F_law_draw (mCons (mVar 0) (mCons (mC (.int 2)) mNil))))) (mSeq (mAsg (gN 10) (mTup (mCons (mC (.str ("process" : Str))) (mCons (mBin oIx (mVar 2) (mC (.int 6))) (mCons (mTup (mCons (mC (.str ("d" : Str))) mNil)) (mCons (mTup (mCons (mTup (mCons (mC (.str ("end" : Str))) (mCons (mC (.str ("d" : Str))) (mCons (mC (.str ("d" : Str))) (mCons (mTup (mCons (mC (.str ("true" : Str))) mNil)) (mCons (mTup (mCons (mTup (mCons (mC (.str ("take" : Str))) (mCons (mBin oIx (mVar 2) (mC (.int 2))) (mCons (mBin oIx (mVar 2) (mC (.int 3))) mNil)))) (mCons (mVar 9) mNil))) mNil)))))) mNil)) mNil)))))) (mRet (mTup (mCons (mC (.str ("system" : Str))) (mCons (mBin oIx (mVar 2) (mC (.int 7))) (mCons (mVar 4) (mCons (mFn oTuple (mCons (mSl (mLst (mCons (mVar 6) (mCons (mVar 8) (mCons (mVar 10) mNil)))) mNoP (mPart (mFn oMax (mCons (mC (.int 2)) (mCons (mVar 1) mNil))))) mNil)) mNil)))))))))))))))
def F_law_line : SF := runDef 2 11 b_law_line
def b_law_system : SS := (mSeq (mAsg (gN 1) (mCall F_law_draw (mCons (mVar 0) (mCons (mC (.int 6)) mNil)))) (mSeq (mIfS (mB (mBin oEq (mVar 1) (mC (.int 0)))) (mRet (mCall F_law_lock (mCons (mVar 0) (mCons (mAd (mBin oAdd (mC (.int 2)) (mCall F_law_draw (mCons (mVar 0) (mCons (mC (.int 3)) mNil))))) mNil)))) mPass) (mSeq (mIfS (mB (mBin oEq (mVar 1) (mC (.int 1)))) (mRet (mCall F_law_line (mCons (mVar 0) (mCons (mAd (mBin oAdd (mC (.int 2)) (mCall F_law_draw (mCons (mVar 0) (mCons (mC (.int 2)) mNil))))) mNil)))) mPass) (mRet (mCall F_law_drawn (mCons (mVar 0) (mCons (mC (.int 3)) mNil)))))))
def F_law_system : SF := runDef 1 2 b_law_system
def b_law_same : SS := (mRet (mBin oEq (mFn oRepr (mCons (mVar 0) mNil)) (mFn oRepr (mCons (mVar 1) mNil))))
def F_law_same : SF := runDef 2 2 b_law_same
def l_law_state_1 : SS := (mIfS (mB (mBin oEq (mBin oIx (mVar 3) (mC (.int 0))) (mC (.str ("number" : Str))))) (mExpr (mMeth isLs oApp (mVar 2) (mAd (mBin oAdd (mBin oIx (mVar 3) (mC (.int 2))) (mCall F_law_draw (mCons (mVar 0) (mCons (mAd (mBin oAdd (mBin oSub (mBin oIx (mVar 3) (mC (.int 3))) (mBin oIx (mVar 3) (mC (.int 2)))) (mC (.int 1)))) mNil))))))) (mExpr (mMeth isLs oApp (mVar 2) (mFn oTuple (mCons (mComp (mRng1 (mCons (mCall F_law_draw (mCons (mVar 0) (mCons (mAd (mBin oAdd (mBin oIx (mVar 3) (mC (.int 2))) (mC (.int 1)))) mNil))) mNil)) (gN 5) mYes (mBin oAdd (mBin oIx (mVar 3) (mC (.int 3))) (mCall F_law_draw (mCons (mVar 0) (mCons (mAd (mBin oAdd (mBin oSub (mBin oIx (mVar 3) (mC (.int 4))) (mBin oIx (mVar 3) (mC (.int 3)))) (mC (.int 1)))) mNil)))) [5]) mNil)))))
def b_law_state : SS := (mSeq (mAsg (gN 2) (mLst mNil)) (mSeq (mFor (mIter (mBin oIx (mVar 1) (mC (.int 2)))) (gN 3) l_law_state_1) (mRet (mTup (mCons (mFn oTuple (mCons (mComp (mIter (mBin oIx (mVar 1) (mC (.int 3)))) (gN 4) mYes (mCall F_law_pick (mCons (mVar 0) (mCons (mBin oIx (mVar 4) (mC (.int 2))) mNil))) [4]) mNil)) (mCons (mFn oTuple (mCons (mVar 2) mNil)) mNil))))))
def F_law_state : SF := runDef 2 6 b_law_state
def b_law_spoilt : SS := (mSeq (mAsg (gN 3) (mFn oList (mCons (mBin oIx (mVar 2) (mC (.int 0))) mNil))) (mSeq (mAsg (gN 4) (mFn oList (mCons (mBin oIx (mVar 2) (mC (.int 1))) mNil))) (mSeq (mAsg (gN 5) (mCall F_law_draw (mCons (mVar 0) (mCons (mFn oLen (mCons (mVar 4) mNil)) mNil)))) (mSeq (mAsg (gN 6) (mBin oIx (mBin oIx (mVar 1) (mC (.int 2))) (mVar 5))) (mSeq (mAsg (gN 7) (mCall F_law_draw (mCons (mVar 0) (mCons (mC (.int 7)) mNil)))) (mSeq (mIfS (mB (mBin oEq (mVar 7) (mC (.int 0)))) (mRet (mLst (mCons (mTup (mCons (mFn oTuple (mCons (mSl (mVar 3) (mPart (mC (.int 1))) mNoP) mNil)) (mCons (mBin oIx (mVar 2) (mC (.int 1))) mNil))) (mCons (mC (.bl false)) mNil)))) mPass) (mSeq (mIfS (mB (mBin oEq (mVar 7) (mC (.int 1)))) (mRet (mLst (mCons (mTup (mCons (mBin oIx (mVar 2) (mC (.int 0))) (mCons (mFn oTuple (mCons (mBin oAdd (mVar 4) (mLst (mCons (mC (.int 0)) mNil))) mNil)) mNil))) (mCons (mC (.bl false)) mNil)))) mPass) (mSeq (mIfS (mB (mBin oEq (mVar 7) (mC (.int 2)))) (mSeq (mAsg (gN 8) (mCall F_law_draw (mCons (mVar 0) (mCons (mFn oLen (mCons (mVar 3) mNil)) mNil)))) (mSeq (mAsg (gS (mVar 3) (mVar 8)) (mC (.str ("no" : Str)))) (mRet (mLst (mCons (mTup (mCons (mFn oTuple (mCons (mVar 3) mNil)) (mCons (mBin oIx (mVar 2) (mC (.int 1))) mNil))) (mCons (mC (.bl false)) mNil)))))) mPass) (mSeq (mIfS (mB (mBin oEq (mBin oIx (mVar 6) (mC (.int 0))) (mC (.str ("number" : Str))))) (mAsg (gS (mVar 4) (mVar 5)) (mBin oIx (mLst (mCons (mAd (mBin oAdd (mBin oIx (mVar 6) (mC (.int 3))) (mC (.int 1)))) (mCons (mBin oSub (mBin oIx (mVar 6) (mC (.int 2))) (mC (.int 1))) (mCons (mTup mNil) (mCons (mC (.bl true)) mNil))))) (mCall F_law_draw (mCons (mVar 0) (mCons (mC (.int 4)) mNil))))) (mAsg (gS (mVar 4) (mVar 5)) (mBin oIx (mLst (mCons (mAd (mBin oTMul (mTup (mCons (mBin oIx (mVar 6) (mC (.int 3))) mNil)) (mBin oAdd (mBin oIx (mVar 6) (mC (.int 2))) (mC (.int 1))))) (mCons (mTup (mCons (mAd (mBin oAdd (mBin oIx (mVar 6) (mC (.int 4))) (mC (.int 1)))) mNil)) (mCons (mTup (mCons (mBin oSub (mBin oIx (mVar 6) (mC (.int 3))) (mC (.int 1))) mNil)) (mCons (mC (.int 0)) (mCons (mTup (mCons (mC (.bl true)) mNil)) mNil)))))) (mCall F_law_draw (mCons (mVar 0) (mCons (mC (.int 5)) mNil)))))) (mSeq (mIfS (mB (mBin oEq (mVar 7) (mC (.int 3)))) (mRet (mLst (mCons (mTup (mCons (mBin oIx (mVar 2) (mC (.int 0))) (mCons (mFn oTuple (mCons (mVar 4) mNil)) mNil))) (mCons (mC (.bl false)) mNil)))) mPass) (mRet (mLst (mCons (mVar 2) (mCons (mC (.bl true)) mNil))))))))))))))
def F_law_spoilt : SF := runDef 3 9 b_law_spoilt
def b_law_asking : SS := (mSeq (mAsg (gN 2) (mBin oIx (mBin oIx (mVar 1) (mC (.int 3))) (mC (.int 0)))) (mSeq (mAsg (gN 3) (mBin oIx (mComp (mIter (mBin oIx (mVar 1) (mC (.int 2)))) (gN 8) (mB (mBin oEq (mBin oIx (mVar 8) (mC (.int 0))) (mC (.str ("number" : Str))))) (mVar 8) [8]) (mC (.int 0)))) (mSeq (mPar 6 7 (mCons (mBin oIx (mBin oIx (mVar 2) (mC (.int 2))) (mC (.int 0))) (mCons (mBin oIx (mBin oIx (mVar 2) (mC (.int 2))) (mUn oNeg (mC (.int 1)))) mNil))) (mSeq (mAsg (gN 4) (mTup (mCons (mC (.str ("if" : Str))) (mCons (mTup (mCons (mC (.str ("at" : Str))) (mCons (mBin oIx (mVar 2) (mC (.int 1))) (mCons (mBin oIx (mLst (mCons (mVar 6) (mCons (mVar 7) mNil))) (mCall F_law_draw (mCons (mVar 0) (mCons (mC (.int 2)) mNil)))) mNil)))) (mCons (mTup (mCons (mC (.str ("int" : Str))) (mCons (mBin oIx (mVar 3) (mC (.int 3))) mNil))) (mCons (mTup (mCons (mC (.str ("int" : Str))) (mCons (mBin oIx (mVar 3) (mC (.int 2))) mNil))) mNil)))))) (mSeq (mAsg (gN 5) (mTup (mCons (mC (.str ("asks" : Str))) (mCons (mVar 6) (mCons (mVar 7) (mCons (mTup (mCons (mC (.str ("true" : Str))) mNil)) (mCons (mTup (mCons (mTup (mCons (mC (.str ("set" : Str))) (mCons (mBin oIx (mVar 3) (mC (.int 1))) (mCons (mVar 4) mNil)))) mNil)) mNil))))))) (mRet (mBin oAdd (mSl (mVar 1) mNoP (mPart (mC (.int 3)))) (mTup (mCons (mAd (mBin oAdd (mTup (mCons (mAd (mBin oAdd (mSl (mVar 2) mNoP (mPart (mC (.int 3)))) (mTup (mCons (mAd (mBin oAdd (mTup (mCons (mVar 5) mNil)) (mBin oIx (mVar 2) (mC (.int 3))))) mNil)))) mNil)) (mSl (mBin oIx (mVar 1) (mC (.int 3))) (mPart (mC (.int 1))) mNoP))) mNil)))))))))
def F_law_asking : SF := runDef 2 9 b_law_asking
def l_law_1 : SS := (mExpr (mMeth isLs oApp (mVar 4) (mCall F_law_state (mCons (mVar 1) (mCons (mVar 2) mNil)))))
def l_law_2 : SS := (mIfS (mB (mBin oNotInD (mVar 11) (mVar 8))) (mExpr (mMeth isLs oApp (mVar 8) (mVar 11))) mPass)
def l_law_3 : SS := (mSeq (mAsg (gN 7) (mCall F_law_enabled (mCons (mVar 2) (mCons (mVar 6) mNil)))) (mSeq (mIfS (mOr (mNot (mB (mCall F_law_same (mCons (mCall F_enabled (mCons (mVar 2) (mCons (mVar 6) mNil))) (mCons (mVar 7) mNil))))) (mNot (mB (mCall F_law_same (mCons (mCall F_enabled (mCons (mVar 3) (mCons (mVar 6) mNil))) (mCons (mCall F_law_enabled (mCons (mVar 3) (mCons (mVar 6) mNil))) mNil)))))) (mRet (mC (.bl false))) mPass) (mSeq (mAsg (gN 8) (mLst mNil)) (mSeq (mFor (mIter (mVar 7)) (gT 2 (gsC (gN 10) (gsC (gN 11) gsN))) l_law_2) (mSeq (mIfS (mNot (mB (mCall F_law_same (mCons (mCall F_next_states (mCons (mVar 2) (mCons (mVar 6) mNil))) (mCons (mAd (mOrX (mVar 8) (mLst (mCons (mVar 6) mNil)))) mNil))))) (mRet (mC (.bl false))) mPass) (mSeq (mAsg (gN 9) (mBin oIx (mLst (mCons (mCall (F_law_truth 4) (mCons (mVar 1) (mCons (mVar 2) (mCons (mC (.int 2)) mNil)))) (mCons (mCall F_law_number (mCons (mVar 1) (mCons (mVar 2) mNil))) mNil))) (mCall F_law_draw (mCons (mVar 1) (mCons (mC (.int 2)) mNil))))) (mSeq (mIfS (mNot (mB (mCall F_law_same (mCons (mCall (F_value_of 8) (mCons (mVar 2) (mCons (mVar 6) (mCons (mVar 9) mNil)))) (mCons (mCall (F_law_value 8) (mCons (mVar 2) (mCons (mVar 6) (mCons (mVar 9) mNil)))) mNil))))) (mRet (mC (.bl false))) mPass) (mSeq (mAsg (gT 2 (gsC (gN 12) (gsC (gN 13) gsN))) (mCall F_law_spoilt (mCons (mVar 1) (mCons (mVar 2) (mCons (mVar 6) mNil))))) (mIfS (mNot (mB (mCall F_law_same (mCons (mCall F_is_state (mCons (mVar 2) (mCons (mVar 12) mNil))) (mCons (mVar 13) mNil))))) (mRet (mC (.bl false))) mPass)))))))))
def b_law : SS := (mSeq (mAsg (gN 1) (mLst (mCons (mCall F_law_digits (mCons (mVar 0) (mCons (mC (.int 0)) (mCons (mC (.int 63)) mNil)))) (mCons (mC (.int 0)) mNil)))) (mSeq (mAsg (gN 2) (mCall F_law_system (mCons (mVar 1) mNil))) (mSeq (mAsg (gN 3) (mCall F_law_asking (mCons (mVar 1) (mCons (mVar 2) mNil)))) (mSeq (mIfS (mNot (mB (mCall F_law_same (mCons (mCall F_beginning (mCons (mVar 2) mNil)) (mCons (mCall F_law_beginning (mCons (mVar 2) mNil)) mNil))))) (mRet (mC (.bl false))) mPass) (mSeq (mAsg (gN 4) (mLst (mCons (mCall F_law_beginning (mCons (mVar 2) mNil)) mNil))) (mSeq (mFor (mRng1 (mCons (mC (.int 5)) mNil)) (gN 5) l_law_1) (mSeq (mFor (mIter (mVar 4)) (gN 6) l_law_3) (mRet (mC (.bl true))))))))))
def F_law : SF := runDef 1 14 b_law
end Sm
namespace Sm
open PySem PySem.Spec PyProof.Rows L2
/-! ## the plain semantics as rewriting -/
section
variable {τ τ' : AT} {h h' h1 h2 : AH} {fa fb fe : SE} {fr : SA} {ft fu : ST} {f1 f2 f : SS} {op : Op2} {o1 : Op1} {oN : OpN} {x y q : LV} {d : D} {ds : List D} {qs : List LV} {b : Bool} {i j n nn : Nat} {g : SG} {gs : SGs} {F : SF} {vs : List Nat} {grd : List (Nat × List D)} {fi : SI} {r : Res}
def varK (o : Option (Option D)) (h : AH) : Option (LV × AH) := match o with
  | some (some d) => some (.val d, h)
  | _ => none
@[simp] theorem mVar_eq : mVar i τ h = varK τ[i]? h := rfl
@[simp] theorem varK_some : varK (some (some d)) h = some (.val d, h) := rfl
@[simp] theorem mC_eq : mC d τ h = some (.val d, h) := rfl
def binK (o : Option (LV × AH)) (op : Op2) (fb : SE) (τ : AT) : Option (LV × AH) := o.bind fun p => (fb τ p.2).bind fun q => op p.1 q.1 q.2
def binK2 (o : Option (LV × AH)) (op : Op2) (x : LV) : Option (LV × AH) := o.bind fun q => op x q.1 q.2
@[simp] theorem mBin_eq : mBin op fa fb τ h = binK (fa τ h) op fb τ := rfl
@[simp] theorem binK_some : binK (some (x, h1)) op fb τ = binK2 (fb τ h1) op x := rfl
@[simp] theorem binK2_some : binK2 (some (y, h2)) op x = op x y h2 := rfl
def unK (o : Option (LV × AH)) (op : Op1) : Option (LV × AH) := o.bind fun p => op p.1 p.2
@[simp] theorem mUn_eq : mUn o1 fa τ h = unK (fa τ h) o1 := rfl
@[simp] theorem unK_some : unK (some (x, h1)) o1 = o1 x h1 := rfl
@[simp] theorem mNil_eq : mNil τ h = some ([], h) := rfl
def consK (o : Option (LV × AH)) (fr : SA) (τ : AT) : Option (List LV × AH) := o.bind fun p => (fr τ p.2).bind fun q => some (p.1 :: q.1, q.2)
def consK2 (o : Option (List LV × AH)) (x : LV) : Option (List LV × AH) := o.bind fun q => some (x :: q.1, q.2)
@[simp] theorem mCons_eq : mCons fa fr τ h = consK (fa τ h) fr τ := rfl
@[simp] theorem consK_some : consK (some (x, h1)) fr τ = consK2 (fr τ h1) x := rfl
@[simp] theorem consK2_some : consK2 (some (qs, h1)) x = some (x :: qs, h1) := rfl
@[simp] theorem plain_nil : plain [] = some [] := rfl
def plainK (o : Option (List D)) (d : D) : Option (List D) := o.bind fun s => some (d :: s)
@[simp] theorem plain_cons : plain (.val d :: qs) = plainK (plain qs) d := rfl
@[simp] theorem plainK_some : plainK (some ds) d = some (d :: ds) := rfl
def tupK (o : Option (List LV × AH)) : Option (LV × AH) := o.bind fun p => (plain p.1).bind fun ds => if ds.length ≤ 16777216 then some (.val (.tup ds), p.2) else none
def tupK2 (o : Option (List D)) (h : AH) : Option (LV × AH) := o.bind fun ds => if ds.length ≤ 16777216 then some (.val (.tup ds), h) else none
@[simp] theorem mTup_eq : mTup fr τ h = tupK (fr τ h) := rfl
@[simp] theorem tupK_some : tupK (some (qs, h1)) = tupK2 (plain qs) h1 := rfl
@[simp] theorem tupK2_some : tupK2 (some ds) h1 = if ds.length ≤ 16777216 then some (.val (.tup ds), h1) else none := rfl
def lstK (o : Option (List LV × AH)) : Option (LV × AH) := o.bind fun p => (plain p.1).bind fun ds => if ds.length ≤ 16777216 then some (.new ds, p.2) else none
def lstK2 (o : Option (List D)) (h : AH) : Option (LV × AH) := o.bind fun ds => if ds.length ≤ 16777216 then some (.new ds, h) else none
@[simp] theorem mLst_eq : mLst fr τ h = lstK (fr τ h) := rfl
@[simp] theorem lstK_some : lstK (some (qs, h1)) = lstK2 (plain qs) h1 := rfl
@[simp] theorem lstK2_some : lstK2 (some ds) h1 = if ds.length ≤ 16777216 then some (.new ds, h1) else none := rfl
@[simp] theorem lay_val : lay (.val d) h = (d, h) := rfl
@[simp] theorem lay_new : lay (.new ds) h = (.ref h.length, h ++ [.lst ds]) := rfl
def adK (o : Option (LV × AH)) : Option (LV × AH) := o.bind fun p => some (.val (lay p.1 p.2).1, (lay p.1 p.2).2)
@[simp] theorem mAd_eq : mAd fa τ h = adK (fa τ h) := rfl
@[simp] theorem adK_some : adK (some (x, h1)) = some (.val (lay x h1).1, (lay x h1).2) := rfl
def ifK (o : Option (Bool × AH)) (fa fb : SE) (τ : AT) : Option (LV × AH) := o.bind fun p => if p.1 = true then fa τ p.2 else fb τ p.2
@[simp] theorem mIf_eq : mIf ft fa fb τ h = ifK (ft τ h) fa fb τ := rfl
@[simp] theorem ifK_some : ifK (some (b, h1)) fa fb τ = if b = true then fa τ h1 else fb τ h1 := rfl
def bK (o : Option (LV × AH)) : Option (Bool × AH) := o.bind fun p => match p.1 with
  | .val (.bl b) => some (b, p.2)
  | _ => none
@[simp] theorem mB_eq : mB fa τ h = bK (fa τ h) := rfl
@[simp] theorem bK_some : bK (some (.val (.bl b), h1)) = some (b, h1) := rfl
def andK (o : Option (Bool × AH)) (tb : ST) (τ : AT) : Option (Bool × AH) := o.bind fun p => if p.1 = true then tb τ p.2 else some (false, p.2)
def orK (o : Option (Bool × AH)) (tb : ST) (τ : AT) : Option (Bool × AH) := o.bind fun p => if p.1 = true then some (true, p.2) else tb τ p.2
def notK (o : Option (Bool × AH)) : Option (Bool × AH) := o.bind fun p => some (!p.1, p.2)
@[simp] theorem mAnd_eq : mAnd ft fu τ h = andK (ft τ h) fu τ := rfl
@[simp] theorem mOr_eq : mOr ft fu τ h = orK (ft τ h) fu τ := rfl
@[simp] theorem mNot_eq : mNot ft τ h = notK (ft τ h) := rfl
@[simp] theorem andK_some : andK (some (b, h1)) fu τ = if b = true then fu τ h1 else some (false, h1) := rfl
@[simp] theorem orK_some : orK (some (b, h1)) fu τ = if b = true then some (true, h1) else fu τ h1 := rfl
@[simp] theorem notK_some : notK (some (b, h1)) = some (!b, h1) := rfl
def andVK (o : Option (LV × AH)) (fb : SE) (τ : AT) : Option (LV × AH) := o.bind fun p => match p.1 with
  | .val (.bl true) => fb τ p.2
  | .val (.bl false) => some (.val (.bl false), p.2)
  | _ => none
def orVK (o : Option (LV × AH)) (fb : SE) (τ : AT) : Option (LV × AH) := o.bind fun p => match p.1 with
  | .val (.bl false) => fb τ p.2
  | .val (.bl true) => some (.val (.bl true), p.2)
  | _ => none
def notVK (o : Option (LV × AH)) : Option (LV × AH) := o.bind fun p => match p.1 with
  | .val (.bl b) => some (.val (.bl (!b)), p.2)
  | _ => none
@[simp] theorem mAndV_eq : mAndV fa fb τ h = andVK (fa τ h) fb τ := rfl
@[simp] theorem mOrV_eq : mOrV fa fb τ h = orVK (fa τ h) fb τ := rfl
@[simp] theorem mNotV_eq : mNotV fa τ h = notVK (fa τ h) := rfl
@[simp] theorem andVK_some : andVK (some (.val (.bl b), h1)) fb τ = if b = true then fb τ h1 else some (.val (.bl false), h1) := by cases b <;> rfl
@[simp] theorem orVK_some : orVK (some (.val (.bl b), h1)) fb τ = if b = true then some (.val (.bl true), h1) else fb τ h1 := by cases b <;> rfl
@[simp] theorem notVK_some : notVK (some (.val (.bl b), h1)) = some (.val (.bl (!b)), h1) := rfl
def callK (F : SF) (o : Option (List LV × AH)) : Option (LV × AH) := o.bind fun p => (plain p.1).bind fun ds => (F ds p.2).bind fun q => some (.val q.1, q.2)
def callK2 (F : SF) (o : Option (List D)) (h : AH) : Option (LV × AH) := o.bind fun ds => (F ds h).bind fun q => some (.val q.1, q.2)
def valK (o : Option (D × AH)) : Option (LV × AH) := o.bind fun q => some (.val q.1, q.2)
@[simp] theorem mCall_eq : mCall F fr τ h = callK F (fr τ h) := rfl
@[simp] theorem callK_some : callK F (some (qs, h1)) = callK2 F (plain qs) h1 := rfl
@[simp] theorem callK2_some : callK2 F (some ds) h1 = valK (F ds h1) := rfl
@[simp] theorem valK_some : valK (some (d, h1)) = some (.val d, h1) := rfl
def fnK (op : OpN) (o : Option (List LV × AH)) : Option (LV × AH) := o.bind fun p => op p.1 p.2
@[simp] theorem mFn_eq : mFn oN fr τ h = fnK oN (fr τ h) := rfl
@[simp] theorem fnK_some : fnK oN (some (qs, h1)) = oN qs h1 := rfl
/-! targets, statements -/
@[simp] theorem gN_eq : gN i d τ h = some (τ.set i (some d), h) := rfl
@[simp] theorem gT_tup : gT n gs (.tup ds) τ h = if ds.length = n then gs ds τ h else none := rfl
@[simp] theorem gT_zt : gT n gs (.zt ds) τ h = if ds.length = n then gs ds τ h else none := rfl
@[simp] theorem gsN_eq : gsN [] τ h = some (τ, h) := rfl
def gsK (o : Option (AT × AH)) (gs : SGs) (ds : List D) : Option (AT × AH) := o.bind fun p => gs ds p.1 p.2
@[simp] theorem gsC_eq : gsC g gs (d :: ds) τ h = gsK (g d τ h) gs ds := rfl
@[simp] theorem gsK_some : gsK (some (τ', h1)) gs ds = gs ds τ' h1 := rfl
def gSK (o : Option (LV × AH)) (fi : SE) (d : D) (τ : AT) : Option (AT × AH) := o.bind fun p => (fi τ p.2).bind fun q => (setD p.1 q.1 d q.2).bind fun h' => some (τ, h')
def gSK2 (o : Option (LV × AH)) (x : LV) (d : D) (τ : AT) : Option (AT × AH) := o.bind fun q => (setD x q.1 d q.2).bind fun h' => some (τ, h')
def gSK3 (o : Option AH) (τ : AT) : Option (AT × AH) := o.bind fun h' => some (τ, h')
@[simp] theorem gS_eq : gS fa fb d τ h = gSK (fa τ h) fb d τ := rfl
@[simp] theorem gSK_some : gSK (some (x, h1)) fb d τ = gSK2 (fb τ h1) x d τ := rfl
@[simp] theorem gSK2_some : gSK2 (some (y, h1)) x d τ = gSK3 (setD x y d h1) τ := rfl
@[simp] theorem gSK3_some : gSK3 (some h1) τ = some (τ, h1) := rfl
def asgK (g : SG) (o : Option (LV × AH)) (τ : AT) : Option Res := o.bind fun p => (g (lay p.1 p.2).1 τ (lay p.1 p.2).2).bind fun q => some (.nx q.1 q.2)
def asgK2 (o : Option (AT × AH)) : Option Res := o.bind fun q => some (.nx q.1 q.2)
@[simp] theorem mAsg_eq : mAsg g fa τ h = asgK g (fa τ h) τ := rfl
@[simp] theorem asgK_some : asgK g (some (x, h1)) τ = asgK2 (g (lay x h1).1 τ (lay x h1).2) := rfl
@[simp] theorem asgK2_some : asgK2 (some (τ', h1)) = some (.nx τ' h1) := rfl
def exprK (o : Option (LV × AH)) (τ : AT) : Option Res := o.bind fun p => some (.nx τ p.2)
@[simp] theorem mExpr_eq : mExpr fa τ h = exprK (fa τ h) τ := rfl
@[simp] theorem exprK_some : exprK (some (x, h1)) τ = some (.nx τ h1) := rfl
def retK (o : Option (LV × AH)) : Option Res := o.bind fun p => some (.rt (lay p.1 p.2).1 (lay p.1 p.2).2)
@[simp] theorem mRet_eq : mRet fa τ h = retK (fa τ h) := rfl
@[simp] theorem retK_some : retK (some (x, h1)) = some (.rt (lay x h1).1 (lay x h1).2) := rfl
@[simp] theorem mRetN_eq : mRetN τ h = some (.rt .non h) := rfl
@[simp] theorem mPass_eq : mPass τ h = some (.nx τ h) := rfl
@[simp] theorem mBrk_eq : mBrk τ h = some (.bk τ h) := rfl
@[simp] theorem mCnt_eq : mCnt τ h = some (.ct τ h) := rfl
def seqK (o : Option Res) (f2 : SS) : Option Res := o.bind fun r => match r with
  | .nx τ' h' => f2 τ' h'
  | r => some r
@[simp] theorem mSeq_eq : mSeq f1 f2 τ h = seqK (f1 τ h) f2 := rfl
@[simp] theorem seqK_nx : seqK (some (.nx τ' h1)) f2 = f2 τ' h1 := rfl
@[simp] theorem seqK_rt : seqK (some (.rt d h1)) f2 = some (.rt d h1) := rfl
@[simp] theorem seqK_bk : seqK (some (.bk τ h1)) f2 = some (.bk τ h1) := rfl
@[simp] theorem seqK_ct : seqK (some (.ct τ h1)) f2 = some (.ct τ h1) := rfl
def ifSK (o : Option (Bool × AH)) (f1 f2 : SS) (τ : AT) : Option Res := o.bind fun p => if p.1 = true then f1 τ p.2 else f2 τ p.2
@[simp] theorem mIfS_eq : mIfS ft f1 f2 τ h = ifSK (ft τ h) f1 f2 τ := rfl
@[simp] theorem ifSK_some : ifSK (some (b, h1)) f1 f2 τ = if b = true then f1 τ h1 else f2 τ h1 := rfl
theorem toNat_inj : ∀ {a b : List Char}, a.map Char.toNat = b.map Char.toNat → a = b
  | [], [], _ => rfl
  | [], _ :: _, h => by cases h
  | _ :: _, [], h => by cases h
  | x :: r, y :: t, h => by
    rw [List.map_cons, List.map_cons] at h
    injection h with h1 h2
    rw [toNat_inj h2, Char.toNat_inj.mp h1]
@[simp] theorem ofString_iff {a b : String} : Str.ofString a = Str.ofString b ↔ a = b := by
  refine ⟨fun h => ?_, fun h => by rw [h]⟩
  rw [Str.ofString_eq_toList, Str.ofString_eq_toList] at h
  injection h with h
  exact String.toList_inj.mp (toNat_inj (by simpa using congrArg Array.toList h))
/-! an if within -/
variable {c : Prop} [Decidable c]
@[simp] theorem seqK_ite {o p : Option Res} : seqK (if c then o else p) f2 = if c then seqK o f2 else seqK p f2 := by split <;> rfl
@[simp] theorem retK_ite {o p : Option (LV × AH)} : retK (if c then o else p) = if c then retK o else retK p := by split <;> rfl
@[simp] theorem asgK_ite {o p : Option (LV × AH)} : asgK g (if c then o else p) τ = if c then asgK g o τ else asgK g p τ := by split <;> rfl
@[simp] theorem binK_ite {o p : Option (LV × AH)} : binK (if c then o else p) op fb τ = if c then binK o op fb τ else binK p op fb τ := by split <;> rfl
@[simp] theorem binK2_ite {o p : Option (LV × AH)} : binK2 (if c then o else p) op x = if c then binK2 o op x else binK2 p op x := by split <;> rfl
@[simp] theorem ifSK_ite {o p : Option (Bool × AH)} : ifSK (if c then o else p) f1 f2 τ = if c then ifSK o f1 f2 τ else ifSK p f1 f2 τ := by split <;> rfl
@[simp] theorem ifK_ite {o p : Option (Bool × AH)} : ifK (if c then o else p) fa fb τ = if c then ifK o fa fb τ else ifK p fa fb τ := by split <;> rfl
@[simp] theorem notK_ite {o p : Option (Bool × AH)} : notK (if c then o else p) = if c then notK o else notK p := by split <;> rfl
@[simp] theorem andK_ite {o p : Option (Bool × AH)} : andK (if c then o else p) fu τ = if c then andK o fu τ else andK p fu τ := by split <;> rfl
@[simp] theorem orK_ite {o p : Option (Bool × AH)} : orK (if c then o else p) fu τ = if c then orK o fu τ else orK p fu τ := by split <;> rfl
@[simp] theorem consK_ite {o p : Option (LV × AH)} : consK (if c then o else p) fr τ = if c then consK o fr τ else consK p fr τ := by split <;> rfl
@[simp] theorem consK2_ite {o p : Option (List LV × AH)} : consK2 (if c then o else p) x = if c then consK2 o x else consK2 p x := by split <;> rfl
@[simp] theorem callK_ite {o p : Option (List LV × AH)} : callK F (if c then o else p) = if c then callK F o else callK F p := by split <;> rfl
@[simp] theorem fnK_ite {o p : Option (List LV × AH)} : fnK oN (if c then o else p) = if c then fnK oN o else fnK oN p := by split <;> rfl
@[simp] theorem tupK_ite {o p : Option (List LV × AH)} : tupK (if c then o else p) = if c then tupK o else tupK p := by split <;> rfl
@[simp] theorem lstK_ite {o p : Option (List LV × AH)} : lstK (if c then o else p) = if c then lstK o else lstK p := by split <;> rfl
@[simp] theorem exprK_ite {o p : Option (LV × AH)} : exprK (if c then o else p) τ = if c then exprK o τ else exprK p τ := by split <;> rfl
@[simp] theorem bK_ite {o p : Option (LV × AH)} : bK (if c then o else p) = if c then bK o else bK p := by split <;> rfl
@[simp] theorem valK_ite {o p : Option (D × AH)} : valK (if c then o else p) = if c then valK o else valK p := by split <;> rfl
/-! operators -/
variable {k l : Int} {s t : Str}
@[simp] theorem oAdd_int : oAdd (.val (.int k)) (.val (.int l)) h = some (.val (.int (k + l)), h) := rfl
@[simp] theorem oAdd_str : oAdd (.val (.str s)) (.val (.str t)) h = if s.length + t.length ≤ 16777216 then some (.val (.str (s ++ t)), h) else none := rfl
@[simp] theorem oAdd_tup {es : List D} : oAdd (.val (.tup ds)) (.val (.tup es)) h = if ds.length + es.length ≤ 16777216 then some (.val (.tup (ds ++ es)), h) else none := rfl
def catK (o p : Option (List D)) (h : AH) : Option (LV × AH) := o.bind fun xs => p.bind fun ys => if xs.length + ys.length ≤ 16777216 then some (.new (xs ++ ys), h) else none
@[simp] theorem catK_some {es : List D} : catK (some ds) (some es) h = if ds.length + es.length ≤ 16777216 then some (.new (ds ++ es), h) else none := rfl
@[simp] theorem oAdd_nn {es : List D} : oAdd (.new ds) (.new es) h = if ds.length + es.length ≤ 16777216 then some (.new (ds ++ es), h) else none := rfl
@[simp] theorem oAdd_nr {a : Nat} : oAdd (.new ds) (.val (.ref a)) h = catK (some ds) (asM (.val (.ref a)) h) h := rfl
@[simp] theorem oAdd_rn {a : Nat} {es : List D} : oAdd (.val (.ref a)) (.new es) h = catK (asM (.val (.ref a)) h) (some es) h := rfl
@[simp] theorem oAdd_rr {a a' : Nat} : oAdd (.val (.ref a)) (.val (.ref a')) h = catK (asM (.val (.ref a)) h) (asM (.val (.ref a')) h) h := rfl
def lsK (o : Option O) : Option (List D) := match o with
  | some (.lst ds) => some ds
  | _ => none
@[simp] theorem lsK_some : lsK (some (.lst ds)) = some ds := rfl
@[simp] theorem asM_new : asM (.new ds) h = some ds := rfl
@[simp] theorem asM_ref {a : Nat} : asM (.val (.ref a)) h = lsK h[a]? := rfl
@[simp] theorem asL_new : asL (.new ds) h = some ds := rfl
@[simp] theorem asL_ref {a : Nat} : asL (.val (.ref a)) h = lsK h[a]? := rfl
@[simp] theorem asL_fl : asL (.val (.fl ds)) h = some ds := rfl
@[simp] theorem asQ_new : asQ (.new ds) h = some ds := rfl
@[simp] theorem asQ_ref {a : Nat} : asQ (.val (.ref a)) h = lsK h[a]? := rfl
@[simp] theorem asQ_fl : asQ (.val (.fl ds)) h = some ds := rfl
@[simp] theorem asQ_tup : asQ (.val (.tup ds)) h = some ds := rfl
@[simp] theorem asQ_zt : asQ (.val (.zt ds)) h = some ds := rfl
@[simp] theorem oSub_int : oSub (.val (.int k)) (.val (.int l)) h = some (.val (.int (k - l)), h) := rfl
@[simp] theorem oLt_int : oLt (.val (.int k)) (.val (.int l)) h = some (.val (.bl (decide (k < l))), h) := rfl
@[simp] theorem oLe_int : oLe (.val (.int k)) (.val (.int l)) h = some (.val (.bl (decide (k ≤ l))), h) := rfl
@[simp] theorem oGt_int : oGt (.val (.int k)) (.val (.int l)) h = some (.val (.bl (decide (l < k))), h) := rfl
@[simp] theorem oGe_int : oGe (.val (.int k)) (.val (.int l)) h = some (.val (.bl (decide (l ≤ k))), h) := rfl
@[simp] theorem oNeg_int : oNeg (.val (.int k)) h = some (.val (.int (-k)), h) := rfl
theorem oMul_int : oMul (.val (.int k)) (.val (.int l)) h = if mulC k l = true then some (.val (.int (k * l)), h) else none := rfl
theorem oMul_ok (c : mulC k l = true) : oMul (.val (.int k)) (.val (.int l)) h = some (.val (.int (k * l)), h) := by rw [oMul_int, if_pos c]
theorem mulC_left (h1 : -18446744073709551616 < k) (h2 : k < 18446744073709551616) : mulC k l = true := by unfold mulC; rw [decide_eq_true (show k.natAbs < 18446744073709551616 by omega)]; rfl
theorem mulC_right (h1 : -18446744073709551616 < l) (h2 : l < 18446744073709551616) : mulC k l = true := by unfold mulC; rw [decide_eq_true (show l.natAbs < 18446744073709551616 by omega)]; simp
@[simp] theorem oMul_left (h1 : -18446744073709551616 < k) (h2 : k < 18446744073709551616) : oMul (.val (.int k)) (.val (.int l)) h = some (.val (.int (k * l)), h) := oMul_ok (mulC_left h1 h2)
@[simp] theorem oMul_right (h1 : -18446744073709551616 < l) (h2 : l < 18446744073709551616) : oMul (.val (.int k)) (.val (.int l)) h = some (.val (.int (k * l)), h) := oMul_ok (mulC_right h1 h2)
@[simp] theorem oPow_lit (c1 : 0 ≤ l) (c2 : l ≤ 1000000) (c3 : k.natAbs < 18446744073709551616) : oPow (.val (.int k)) (.val (.int l)) h = some (.val (.int (k ^ l.toNat)), h) := by
  show (if (decide (0 ≤ l) && decide (l ≤ 1000000) && decide (k.natAbs < 18446744073709551616)) = true then _ else _) = _
  rw [decide_eq_true c1, decide_eq_true c2, decide_eq_true c3]
  rfl
@[simp] theorem oDiv_int (h1 : l ≠ 0) (h2 : l.natAbs < 1073741824) : oDiv (.val (.int k)) (.val (.int l)) h = some (.val (.int (k.fdiv l)), h) := by
  show (if (decide (l ≠ 0) && decide (l.natAbs < 1073741824)) = true then _ else _) = _
  rw [decide_eq_true h1, decide_eq_true h2]
  rfl
@[simp] theorem oMod_int (h1 : l ≠ 0) : oMod (.val (.int k)) (.val (.int l)) h = some (.val (.int (k.fmod l)), h) := by
  show (if (decide (l ≠ 0)) = true then _ else _) = _
  rw [decide_eq_true h1]
  rfl
@[simp] theorem oEq_str : oEq (.val (.str s)) (.val (.str t)) h = some (.val (.bl (decide (s = t))), h) := rfl
@[simp] theorem oEq_bl {a b : Bool} : oEq (.val (.bl a)) (.val (.bl b)) h = some (.val (.bl (decide (a = b))), h) := rfl
@[simp] theorem oEq_int : oEq (.val (.int k)) (.val (.int l)) h = some (.val (.bl (decide (k = l))), h) := by
  show (if okEq (.int k) (.int l) = true then some (LV.val (.bl (decide (D.int k = .int l))), h) else none) = _
  rw [if_pos (by rfl)]
  have : decide (D.int k = .int l) = decide (k = l) := by rw [Bool.eq_iff_iff]; simp
  rw [this]
@[simp] theorem oNe_str : oNe (.val (.str s)) (.val (.str t)) h = some (.val (.bl (!decide (s = t))), h) := rfl
@[simp] theorem oNe_int : oNe (.val (.int k)) (.val (.int l)) h = some (.val (.bl (!decide (k = l))), h) := by
  show (if okEq (.int k) (.int l) = true then some (LV.val (.bl (!decide (D.int k = .int l))), h) else none) = _
  rw [if_pos (by rfl)]
  have : decide (D.int k = .int l) = decide (k = l) := by rw [Bool.eq_iff_iff]; simp
  rw [this]
theorem oEq_dat (c : okEq (dat x h) (dat y h) = true) (n1 : ∀ s t, x = .val (.str s) → y ≠ .val (.str t)) (n2 : ∀ a b, x = .val (.bl a) → y ≠ .val (.bl b)) : oEq x y h = some (.val (.bl (decide (dat x h = dat y h))), h) := by
  unfold oEq eqC
  split
  · exact absurd rfl (n1 _ _ rfl)
  · exact absurd rfl (n2 _ _ rfl)
  · rw [if_pos c]; rfl
theorem oNe_dat (c : okEq (dat x h) (dat y h) = true) (n1 : ∀ s t, x = .val (.str s) → y ≠ .val (.str t)) (n2 : ∀ a b, x = .val (.bl a) → y ≠ .val (.bl b)) : oNe x y h = some (.val (.bl (!decide (dat x h = dat y h))), h) := by
  unfold oNe eqC
  split
  · exact absurd rfl (n1 _ _ rfl)
  · exact absurd rfl (n2 _ _ rfl)
  · rw [if_pos c]; rfl
@[simp] theorem oIs_eq : oIs x (.val .non) h = some (.val (.bl (isN x)), h) := by cases x <;> rfl
@[simp] theorem oIsNot_eq : oIsNot x (.val .non) h = some (.val (.bl (!isN x)), h) := by cases x <;> rfl
@[simp] theorem isN_non : isN (.val .non) = true := rfl
@[simp] theorem isN_int : isN (.val (.int k)) = false := rfl
@[simp] theorem isN_str : isN (.val (.str s)) = false := rfl
@[simp] theorem isN_tup : isN (.val (.tup ds)) = false := rfl
@[simp] theorem isN_bl {a : Bool} : isN (.val (.bl a)) = false := rfl
@[simp] theorem isN_ref {a : Nat} : isN (.val (.ref a)) = false := rfl
@[simp] theorem isN_new : isN (.new ds) = false := rfl
def inK (neg : Bool) (d : D) (o : Option (List D)) (h : AH) : Option (LV × AH) := o.bind fun ds => if (d.flat && ds.all D.flat) = true then some (.val (.bl (if neg then !ds.contains d else ds.contains d)), h) else none
@[simp] theorem oIn_eq : oIn (.val d) q h = inK false d (asQ q h) h := rfl
@[simp] theorem oNotIn_eq : oNotIn (.val d) q h = inK true d (asQ q h) h := rfl
theorem inK_some {neg : Bool} (c : (d.flat && ds.all D.flat) = true) : inK neg d (some ds) h = some (.val (.bl (if neg then !ds.contains d else ds.contains d)), h) := if_pos c
def ixK (o : Option (List D)) (k : Int) (h : AH) : Option (LV × AH) := o.bind fun ds => (L2.atI ds k).bind fun d => some (.val d, h)
def ixK2 (o : Option D) (h : AH) : Option (LV × AH) := o.bind fun d => some (.val d, h)
@[simp] theorem oIx_tup : oIx (.val (.tup ds)) (.val (.int k)) h = ixK2 (L2.atI ds k) h := rfl
@[simp] theorem oIx_zt : oIx (.val (.zt ds)) (.val (.int k)) h = ixK2 (L2.atI ds k) h := rfl
@[simp] theorem oIx_fl : oIx (.val (.fl ds)) (.val (.int k)) h = ixK2 (L2.atI ds k) h := rfl
@[simp] theorem oIx_new : oIx (.new ds) (.val (.int k)) h = ixK2 (L2.atI ds k) h := rfl
@[simp] theorem oIx_ref {a : Nat} : oIx (.val (.ref a)) (.val (.int k)) h = ixK (lsK h[a]?) k h := rfl
@[simp] theorem ixK_some : ixK (some ds) k h = ixK2 (L2.atI ds k) h := rfl
@[simp] theorem ixK2_some : ixK2 (some d) h = some (.val d, h) := rfl
def strIxK (o : Option Nat) (h : AH) : Option (LV × AH) := o.bind fun c => some (.val (.str ⟨#[c]⟩), h)
@[simp] theorem oIx_str : oIx (.val (.str s)) (.val (.int k)) h = if s.length ≤ 16777216 then strIxK (L2.atI s.cps.toList k) h else none := rfl
@[simp] theorem strIxK_some {c : Nat} : strIxK (some c) h = some (.val (.str ⟨#[c]⟩), h) := rfl
@[simp] theorem atI_0 {α : Type} {a : α} {l : List α} : L2.atI (a :: l) 0 = some a := by
  unfold L2.atI L2.ixN
  simp
@[simp] theorem atI_pos {α : Type} {l : List α} {k : Int} (h0 : 0 ≤ k) : L2.atI l k = l[k.toNat]? := by
  unfold L2.atI L2.ixN
  rw [if_pos h0]
  by_cases hk : k < l.length
  · rw [if_pos hk]; rfl
  · rw [if_neg hk, List.getElem?_eq_none (by omega)]; rfl
theorem atI_cast {α : Type} {l : List α} (n : Nat) : L2.atI l (n : Int) = l[n]? := by
  rw [atI_pos (by omega)]
  rfl
theorem atI_m1 {α : Type} {l : List α} : L2.atI l (-1) = l.getLast? := by
  rw [List.getLast?_eq_getElem?]
  unfold L2.atI L2.ixN
  rw [if_neg (by decide)]
  cases l with
  | nil => rfl
  | cons a r =>
    rw [if_pos (by simp; omega)]
    show (a :: r)[(-1 + ((a :: r).length : Int)).toNat]? = _
    congr 1
    rw [List.length_cons]
    omega
def setK (o : Option O) (a : Nat) (k : Int) (d : D) (h : AH) : Option AH := match o with
  | some (.lst xs) => (ixN xs.length k).bind fun j => some (h.set a (.lst (xs.set j d)))
  | _ => none
@[simp] theorem setD_eq {a : Nat} : setD (.val (.ref a)) (.val (.int k)) d h = setK h[a]? a k d h := rfl
@[simp] theorem setK_some {a : Nat} (h0 : 0 ≤ k) (h1 : k < ds.length) : setK (some (.lst ds)) a k d h = some (h.set a (.lst (ds.set k.toNat d))) := by
  unfold setK ixN
  dsimp only
  rw [if_pos h0, if_pos h1]
  rfl
/-! functions -/
def lenK (o : Option (List D)) (h : AH) : Option (LV × AH) := o.bind fun ds => some (.val (.int ds.length), h)
@[simp] theorem lenK_some : lenK (some ds) h = some (.val (.int ds.length), h) := rfl
@[simp] theorem oLen_str : oLen [.val (.str s)] h = if s.length ≤ 16777216 then some (.val (.int s.length), h) else none := rfl
@[simp] theorem oLen_tup : oLen [.val (.tup ds)] h = some (.val (.int ds.length), h) := rfl
@[simp] theorem oLen_fl : oLen [.val (.fl ds)] h = some (.val (.int ds.length), h) := rfl
@[simp] theorem oLen_new : oLen [.new ds] h = some (.val (.int ds.length), h) := rfl
@[simp] theorem oLen_ref {a : Nat} : oLen [.val (.ref a)] h = lenK (lsK h[a]?) h := rfl
@[simp] theorem oInt_int : oInt [.val (.int k)] h = some (.val (.int k), h) := rfl
@[simp] theorem oInt_bl {a : Bool} : oInt [.val (.bl a)] h = some (.val (.int (if a then 1 else 0)), h) := rfl
def toTupK (o : Option (List D)) (h : AH) : Option (LV × AH) := o.bind fun ds => some (.val (.tup ds), h)
@[simp] theorem toTupK_some : toTupK (some ds) h = some (.val (.tup ds), h) := rfl
@[simp] theorem oTuple_tup : oTuple [.val (.tup ds)] h = some (.val (.tup ds), h) := rfl
@[simp] theorem oTuple_new : oTuple [.new ds] h = some (.val (.tup ds), h) := rfl
@[simp] theorem oTuple_fl : oTuple [.val (.fl ds)] h = some (.val (.tup ds), h) := rfl
@[simp] theorem oTuple_ref {a : Nat} : oTuple [.val (.ref a)] h = toTupK (lsK h[a]?) h := rfl
def toLstK (o : Option (List D)) (h : AH) : Option (LV × AH) := o.bind fun ds => if ds.length ≤ 16777216 then some (.new ds, h) else none
@[simp] theorem toLstK_some : toLstK (some ds) h = if ds.length ≤ 16777216 then some (.new ds, h) else none := rfl
@[simp] theorem oList_eq : oList [q] h = toLstK (asQ q h) h := rfl
def appK (o : Option O) (a : Nat) (d : D) (h : AH) : Option (LV × AH) := match o with
  | some (.lst ds) => if ds.length < 16777216 then some (.val .non, h.set a (.lst (ds ++ [d]))) else none
  | _ => none
@[simp] theorem oApp_eq {a : Nat} : oApp (.val (.ref a)) (.val d) h = appK h[a]? a d h := rfl
@[simp] theorem appK_some {a : Nat} : appK (some (.lst ds)) a d h = if ds.length < 16777216 then some (.val .non, h.set a (.lst (ds ++ [d]))) else none := rfl
def methK (chk : LV → AH → Bool) (op : Op2) (o : Option (LV × AH)) (fa : SE) (τ : AT) : Option (LV × AH) := o.bind fun p => if chk p.1 p.2 = true then (fa τ p.2).bind fun q => op p.1 q.1 q.2 else none
@[simp] theorem mMeth_eq {chk : LV → AH → Bool} : mMeth chk op fa fb τ h = methK chk op (fa τ h) fb τ := rfl
@[simp] theorem methK_some {chk : LV → AH → Bool} : methK chk op (some (x, h1)) fb τ = if chk x h1 = true then binK2 (fb τ h1) op x else none := rfl
@[simp] theorem isLs_eq : isLs q h = (asL q h).isSome := rfl
@[simp] theorem mIdx_eq : mIdx fa fb τ h = methK (fun q h => isTp q h || isLs q h) oIdx (fa τ h) fb τ := rfl
@[simp] theorem isTp_tup : isTp (.val (.tup ds)) h = true := rfl
@[simp] theorem isTp_ref {a : Nat} : isTp (.val (.ref a)) h = false := rfl
def idxK (o : Option (List D)) (d : D) (h : AH) : Option (LV × AH) := o.bind fun ds => if (d.flat && ds.all D.flat) = true then (idxD d ds).bind fun j => some (.val (.int (j : Nat)), h) else none
@[simp] theorem oIdx_eq : oIdx q (.val d) h = idxK (asQ q h) d h := rfl
theorem idxK_some {j : Nat} (c : (d.flat && ds.all D.flat) = true) (e : idxD d ds = some j) : idxK (some ds) d h = some (.val (.int (j : Nat)), h) := by
  show (if (d.flat && ds.all D.flat) = true then _ else _) = _
  rw [if_pos c, e]
  rfl
def augK (o : Option (Option D)) (i : Nat) (op : Op2) (fa : SE) (τ : AT) (h : AH) : Option Res := match o with
  | some (some d) => (fa τ h).bind fun p => (op (.val d) p.1 p.2).bind fun q => some (.nx (τ.set i (some (lay q.1 q.2).1)) (lay q.1 q.2).2)
  | _ => none
def augK2 (o : Option (LV × AH)) (d : D) (i : Nat) (op : Op2) (τ : AT) : Option Res := o.bind fun p => (op (.val d) p.1 p.2).bind fun q => some (.nx (τ.set i (some (lay q.1 q.2).1)) (lay q.1 q.2).2)
def augK3 (o : Option (LV × AH)) (i : Nat) (τ : AT) : Option Res := o.bind fun q => some (.nx (τ.set i (some (lay q.1 q.2).1)) (lay q.1 q.2).2)
@[simp] theorem mAug_eq : mAug i op fa τ h = augK τ[i]? i op fa τ h := rfl
@[simp] theorem augK_some : augK (some (some d)) i op fa τ h = augK2 (fa τ h) d i op τ := rfl
@[simp] theorem augK2_some : augK2 (some (x, h1)) d i op τ = augK3 (op (.val d) x h1) i τ := rfl
@[simp] theorem augK3_some : augK3 (some (x, h1)) i τ = some (.nx (τ.set i (some (lay x h1).1)) (lay x h1).2) := rfl
@[simp] theorem oIAdd_int : oIAdd (.val (.int k)) (.val (.int l)) h = some (.val (.int (k + l)), h) := rfl
def iaddK (o : Option O) (p : Option (List D)) (a : Nat) (h : AH) : Option (LV × AH) := match o with
  | some (.lst xs) => p.bind fun ys => if xs.length + ys.length ≤ 16777216 then some (.val (.ref a), h.set a (.lst (xs ++ ys))) else none
  | _ => none
@[simp] theorem oIAdd_ref {a : Nat} : oIAdd (.val (.ref a)) q h = iaddK h[a]? (asM q h) a h := by cases q <;> rfl
@[simp] theorem iaddK_some {a : Nat} {es : List D} : iaddK (some (.lst ds)) (some es) a h = if ds.length + es.length ≤ 16777216 then some (.val (.ref a), h.set a (.lst (ds ++ es))) else none := rfl
/-! what is walked -/
def iterK (o : Option (LV × AH)) : Option (ItD × AH) := o.bind fun p => (iterOf p.1 p.2).bind fun it => some (it, p.2)
def iterK2 (o : Option ItD) (h : AH) : Option (ItD × AH) := o.bind fun it => some (it, h)
@[simp] theorem mIter_eq : mIter fa τ h = iterK (fa τ h) := rfl
@[simp] theorem iterK_some : iterK (some (x, h1)) = iterK2 (iterOf x h1) h1 := rfl
@[simp] theorem iterK2_some {it : ItD} : iterK2 (some it) h1 = some (it, h1) := id rfl
@[simp] theorem iterOf_new : iterOf (.new ds) h = some ⟨ds, []⟩ := rfl
@[simp] theorem iterOf_tup : iterOf (.val (.tup ds)) h = some ⟨ds, []⟩ := rfl
@[simp] theorem iterOf_fl : iterOf (.val (.fl ds)) h = some ⟨ds, []⟩ := rfl
def iterRK (o : Option O) (a : Nat) : Option ItD := match o with
  | some (.lst ds) => some ⟨ds, [(a, ds)]⟩
  | _ => none
@[simp] theorem iterOf_ref {a : Nat} : iterOf (.val (.ref a)) h = iterRK h[a]? a := rfl
@[simp] theorem iterRK_some {a : Nat} : iterRK (some (.lst ds)) a = some ⟨ds, [(a, ds)]⟩ := rfl
def rng1K (o : Option (List LV × AH)) : Option (ItD × AH) := o.bind fun p => (rng1 p.1).bind fun it => some (it, p.2)
def rng2K (o : Option (List LV × AH)) : Option (ItD × AH) := o.bind fun p => (rng2 p.1).bind fun it => some (it, p.2)
@[simp] theorem mRng1_eq : mRng1 fr τ h = rng1K (fr τ h) := id rfl
@[simp] theorem mRng2_eq : mRng2 fr τ h = rng2K (fr τ h) := id rfl
@[simp] theorem rng1K_some : rng1K (some (qs, h1)) = iterK2 (rng1 qs) h1 := id rfl
@[simp] theorem rng2K_some : rng2K (some (qs, h1)) = iterK2 (rng2 qs) h1 := id rfl
@[simp] theorem rng1_int (c1 : -4611686018427387904 < k) (c2 : k < 4611686018427387904) : rng1 [.val (.int k)] = some ⟨rngD 0 k.toNat, []⟩ := if_pos (by omega)
@[simp] theorem rng2_int (c1 : -4611686018427387904 < k) (c2 : k < 4611686018427387904) (c3 : -4611686018427387904 < l) (c4 : l < 4611686018427387904) : rng2 [.val (.int k), .val (.int l)] = some ⟨rngD k (l - k).toNat, []⟩ := if_pos (by omega)
def zipK (o : Option (List LV × AH)) : Option (ItD × AH) := o.bind fun p => (zipOf p.1 p.2).bind fun it => some (it, p.2)
@[simp] theorem mZip_eq : mZip fr τ h = zipK (fr τ h) := rfl
@[simp] theorem zipK_some : zipK (some (qs, h1)) = iterK2 (zipOf qs h1) h1 := rfl
def zip2K (o p : Option ItD) : Option ItD := o.bind fun a => p.bind fun b => some ⟨zipD a.items b.items, a.grd ++ b.grd⟩
@[simp] theorem zipOf_eq : zipOf [x, y] h = zip2K (iterOf x h) (iterOf y h) := rfl
@[simp] theorem zip2K_some {a b : ItD} : zip2K (some a) (some b) = some ⟨zipD a.items b.items, a.grd ++ b.grd⟩ := rfl
def forK (o : Option (ItD × AH)) (g : SG) (f : SS) (τ : AT) : Option Res := o.bind fun p => forL p.1.grd g f p.1.items τ p.2
@[simp] theorem mFor_eq : mFor fi g f τ h = forK (fi τ h) g f τ := rfl
@[simp] theorem forK_some {it : ItD} : forK (some (it, h1)) g f τ = forL it.grd g f it.items τ h1 := rfl
def compK (o : Option (ItD × AH)) (g : SG) (ft : ST) (fe : SE) (vs : List Nat) (τ : AT) : Option (LV × AH) := o.bind fun p => (compL p.1.grd g ft fe (wipeA τ vs) p.1.items p.2).bind fun z =>
  if z.1.length ≤ 16777216 then some (.new z.1, z.2) else none
def compK2 (o : Option (List D × AH)) : Option (LV × AH) := o.bind fun z => if z.1.length ≤ 16777216 then some (.new z.1, z.2) else none
@[simp] theorem mComp_eq : mComp fi g ft fe vs τ h = compK (fi τ h) g ft fe vs τ := rfl
@[simp] theorem compK_some {it : ItD} : compK (some (it, h1)) g ft fe vs τ = compK2 (compL it.grd g ft fe (wipeA τ vs) it.items h1) := rfl
@[simp] theorem compK2_some : compK2 (some (ds, h1)) = if ds.length ≤ 16777216 then some (.new ds, h1) else none := rfl
@[simp] theorem mYes_eq : mYes τ h = some (true, h) := rfl
@[simp] theorem wipeA_nil : wipeA τ [] = τ := rfl
@[simp] theorem wipeA_cons : wipeA τ (i :: vs) = (wipeA τ vs).set i none := rfl
@[simp] theorem grdOk_nil : grdOk [] h = true := rfl
@[simp] theorem grdOk_cons {a : Nat} : grdOk ((a, ds) :: grd) h = (decide (h[a]? = some (.lst ds)) && grdOk grd h) := rfl
def tupRgK (o : Option (Int × Int × AH)) : Option (LV × AH) := o.bind fun p => if rgOkB p.1 p.2.1 = true then some (.val (.tup (rngD p.1 (p.2.1 - p.1).toNat)), p.2.2) else none
def rgK (o : Option (List LV × AH)) : Option (Int × Int × AH) := o.bind fun p => match p.1 with
  | [.val (.int n)] => some (0, n, p.2)
  | [.val (.int i), .val (.int j)] => some (i, j, p.2)
  | _ => none
@[simp] theorem mTupRg_eq : mTupRg fr τ h = tupRgK (rgK (fr τ h)) := rfl
@[simp] theorem rgK_1 : rgK (some ([.val (.int k)], h1)) = some (0, k, h1) := rfl
@[simp] theorem rgK_2 : rgK (some ([.val (.int k), .val (.int l)], h1)) = some (k, l, h1) := rfl
@[simp] theorem tupRgK_some (c : rgOkB k l = true) : tupRgK (some (k, l, h1)) = some (.val (.tup (rngD k (l - k).toNat)), h1) := if_pos c
/-! slices -/
def slK (o : Option (LV × AH)) (fl fu : SO) (τ : AT) : Option (LV × AH) := o.bind fun p => (fl τ p.2).bind fun l => (fu τ l.2).bind fun u => oSl p.1 l.1 u.1 u.2
def slK2 (o : Option (Option Int × AH)) (x : LV) (fu : SO) (τ : AT) : Option (LV × AH) := o.bind fun l => (fu τ l.2).bind fun u => oSl x l.1 u.1 u.2
def slK3 (o : Option (Option Int × AH)) (x : LV) (lo : Option Int) : Option (LV × AH) := o.bind fun u => oSl x lo u.1 u.2
@[simp] theorem mSl_eq {fl fu : SO} : mSl fa fl fu τ h = slK (fa τ h) fl fu τ := rfl
@[simp] theorem slK_some {fl fu : SO} : slK (some (x, h1)) fl fu τ = slK2 (fl τ h1) x fu τ := rfl
@[simp] theorem slK2_some {fu : SO} {lo : Option Int} : slK2 (some (lo, h1)) x fu τ = slK3 (fu τ h1) x lo := rfl
@[simp] theorem slK3_some {lo hi : Option Int} : slK3 (some (hi, h1)) x lo = oSl x lo hi h1 := rfl
@[simp] theorem mNoP_eq : mNoP τ h = some (none, h) := rfl
def partK (o : Option (LV × AH)) : Option (Option Int × AH) := o.bind fun p => match p.1 with
  | .val (.int i) => some (some i, p.2)
  | _ => none
@[simp] theorem mPart_eq : mPart fa τ h = partK (fa τ h) := rfl
@[simp] theorem partK_some : partK (some (.val (.int k), h1)) = some (some k, h1) := rfl
@[simp] theorem oSl_tup {lo hi : Option Int} : oSl (.val (.tup ds)) lo hi h = some (.val (.tup (cutA ds lo hi)), h) := rfl
def slLK (o : Option (List D)) (lo hi : Option Int) (h : AH) : Option (LV × AH) := o.bind fun ds => if ds.length ≤ 16777216 then some (.new (cutA ds lo hi), h) else none
@[simp] theorem oSl_new {lo hi : Option Int} : oSl (.new ds) lo hi h = slLK (some ds) lo hi h := rfl
@[simp] theorem oSl_fl {lo hi : Option Int} : oSl (.val (.fl ds)) lo hi h = slLK (some ds) lo hi h := rfl
@[simp] theorem oSl_ref {lo hi : Option Int} {a : Nat} : oSl (.val (.ref a)) lo hi h = slLK (lsK h[a]?) lo hi h := rfl
@[simp] theorem slLK_some {lo hi : Option Int} : slLK (some ds) lo hi h = if ds.length ≤ 16777216 then some (.new (cutA ds lo hi), h) else none := rfl
/-! defs -/
def defK (o : Option Res) (h : AH) : Option (D × AH) := o.bind fun r => match r with
  | .nx _ h' => some (gc h .non h')
  | .rt d h' => some (gc h d h')
  | _ => none
theorem runDef_eq {ds : List D} (e : ds.length = n) : runDef n nn f ds h = defK (f (ds.map some ++ List.replicate (nn - n) none) h) h := by
  unfold runDef defK
  rw [if_pos e]
  all_goals (cases f (ds.map some ++ List.replicate (nn - n) none) h with
    | none => rfl
    | some r => cases r <;> rfl)
theorem runDef_if {ds : List D} : runDef n nn f ds h = if ds.length = n then defK (f (ds.map some ++ List.replicate (nn - n) none) h) h else none := by
  by_cases e : ds.length = n
  · rw [if_pos e, runDef_eq e]
  · rw [if_neg e]
    unfold runDef
    rw [if_neg e]
@[simp] theorem defK_nx : defK (some (.nx τ h1)) h = some (gc h .non h1) := rfl
@[simp] theorem defK_rt : defK (some (.rt d h1)) h = some (gc h d h1) := rfl
@[simp] theorem defK_ite {o p : Option Res} : defK (if c then o else p) h = if c then defK o h else defK p h := by split <;> rfl
end
end Sm
namespace Sm
open PySem PySem.Spec PyProof.Rows L2
section
variable {τ τ' : AT} {h h' h1 h2 : AH} {fa fb fc fe : SE} {fr : SA} {ft fu : ST} {op op' : Op2} {o1 : Op1} {oN : OpN} {x y q : LV} {d : D} {ds : List D} {qs : List LV} {b : Bool} {i j n nn : Nat} {k l : Int}
def chK (o : Option (LV × AH)) (op op' : Op2) (fb fc : SE) (τ : AT) : Option (LV × AH) := o.bind fun p => (fb τ p.2).bind fun q => (op p.1 q.1 q.2).bind fun r => match r.1 with
  | .val (.bl true) => (fc τ r.2).bind fun s => op' q.1 s.1 s.2
  | .val (.bl false) => some (.val (.bl false), r.2)
  | _ => none
def chK2 (o : Option (LV × AH)) (op op' : Op2) (x : LV) (fc : SE) (τ : AT) : Option (LV × AH) := o.bind fun q => (op x q.1 q.2).bind fun r => match r.1 with
  | .val (.bl true) => (fc τ r.2).bind fun s => op' q.1 s.1 s.2
  | .val (.bl false) => some (.val (.bl false), r.2)
  | _ => none
def chK3 (o : Option (LV × AH)) (op' : Op2) (y : LV) (fc : SE) (τ : AT) : Option (LV × AH) := o.bind fun r => match r.1 with
  | .val (.bl true) => (fc τ r.2).bind fun s => op' y s.1 s.2
  | .val (.bl false) => some (.val (.bl false), r.2)
  | _ => none
@[simp] theorem mChain_eq : mChain op op' fa fb fc τ h = chK (fa τ h) op op' fb fc τ := rfl
@[simp] theorem chK_some : chK (some (x, h1)) op op' fb fc τ = chK2 (fb τ h1) op op' x fc τ := rfl
@[simp] theorem chK2_some : chK2 (some (y, h1)) op op' x fc τ = chK3 (op x y h1) op' y fc τ := rfl
@[simp] theorem chK3_some : chK3 (some (.val (.bl b), h1)) op' y fc τ = if b = true then binK2 (fc τ h1) op' y else some (.val (.bl false), h1) := by cases b <;> rfl
def truK (o : Option (List D)) : Option Bool := o.map fun ds => !ds.isEmpty
@[simp] theorem truK_some : truK (some ds) = some (!ds.isEmpty) := rfl
@[simp] theorem tru_non : tru (.val .non) h = some false := rfl
@[simp] theorem tru_bl : tru (.val (.bl b)) h = some b := rfl
@[simp] theorem tru_int : tru (.val (.int k)) h = some (k != 0) := rfl
@[simp] theorem tru_tup : tru (.val (.tup ds)) h = some (!ds.isEmpty) := rfl
@[simp] theorem tru_zt : tru (.val (.zt ds)) h = some (!ds.isEmpty) := rfl
@[simp] theorem tru_fl : tru (.val (.fl ds)) h = some (!ds.isEmpty) := rfl
@[simp] theorem tru_new : tru (.new ds) h = some (!ds.isEmpty) := rfl
@[simp] theorem tru_ref {a : Nat} : tru (.val (.ref a)) h = truK (lsK h[a]?) := rfl
def trK (o : Option (LV × AH)) : Option (Bool × AH) := o.bind fun p => (tru p.1 p.2).bind fun k => some (k, p.2)
def trK2 (o : Option Bool) (h : AH) : Option (Bool × AH) := o.bind fun k => some (k, h)
@[simp] theorem mTr_eq : mTr fa τ h = trK (fa τ h) := rfl
@[simp] theorem trK_some : trK (some (x, h1)) = trK2 (tru x h1) h1 := rfl
@[simp] theorem trK2_some : trK2 (some b) h1 = some (b, h1) := rfl
def orXK (o : Option (LV × AH)) (fb : SE) (τ : AT) : Option (LV × AH) := o.bind fun p => (tru p.1 p.2).bind fun k => if k = true then some p else fb τ p.2
def orXK2 (o : Option Bool) (x : LV) (h : AH) (fb : SE) (τ : AT) : Option (LV × AH) := o.bind fun k => if k = true then some (x, h) else fb τ h
def andXK (o : Option (LV × AH)) (fb : SE) (τ : AT) : Option (LV × AH) := o.bind fun p => (tru p.1 p.2).bind fun k => if k = true then fb τ p.2 else some p
def andXK2 (o : Option Bool) (x : LV) (h : AH) (fb : SE) (τ : AT) : Option (LV × AH) := o.bind fun k => if k = true then fb τ h else some (x, h)
def notXK (o : Option (LV × AH)) : Option (LV × AH) := o.bind fun p => (tru p.1 p.2).bind fun k => some (.val (.bl (!k)), p.2)
def notXK2 (o : Option Bool) (h : AH) : Option (LV × AH) := o.bind fun k => some (.val (.bl (!k)), h)
@[simp] theorem mOrX_eq : mOrX fa fb τ h = orXK (fa τ h) fb τ := rfl
@[simp] theorem orXK_some : orXK (some (x, h1)) fb τ = orXK2 (tru x h1) x h1 fb τ := rfl
@[simp] theorem orXK2_some : orXK2 (some b) x h1 fb τ = if b = true then some (x, h1) else fb τ h1 := rfl
@[simp] theorem mAndX_eq : mAndX fa fb τ h = andXK (fa τ h) fb τ := rfl
@[simp] theorem andXK_some : andXK (some (x, h1)) fb τ = andXK2 (tru x h1) x h1 fb τ := rfl
@[simp] theorem andXK2_some : andXK2 (some b) x h1 fb τ = if b = true then fb τ h1 else some (x, h1) := rfl
@[simp] theorem mNotX_eq : mNotX fa τ h = notXK (fa τ h) := rfl
@[simp] theorem notXK_some : notXK (some (x, h1)) = notXK2 (tru x h1) h1 := rfl
@[simp] theorem notXK2_some : notXK2 (some b) h1 = some (.val (.bl (!b)), h1) := rfl
def enumK (o : Option (List LV × AH)) : Option (ItD × AH) := o.bind fun p => (enumOf p.1 p.2).bind fun it => some (it, p.2)
@[simp] theorem mEnum_eq : mEnum fr τ h = enumK (fr τ h) := rfl
@[simp] theorem enumK_some : enumK (some (qs, h1)) = iterK2 (enumOf qs h1) h1 := rfl
@[simp] theorem enumOf_tup : enumOf [.val (.tup ds)] h = some ⟨numD ds 0, []⟩ := rfl
@[simp] theorem oKd_str {ks : List Str} {neg : Bool} {z : Str} : oKd ks neg (.val (.str z)) h = some (.val (.bl (if neg then !ks.contains z else ks.contains z)), h) := id rfl
def parK (o : Option (List LV × AH)) (i j : Nat) (τ : AT) : Option Res := o.bind fun p => (plain p.1).bind fun ds => match ds with
  | [d, e] => some (.nx ((τ.set i (some d)).set j (some e)) p.2)
  | _ => none
@[simp] theorem mPar_eq : mPar i j fr τ h = parK (fr τ h) i j τ := rfl
@[simp] theorem parK_some {e : D} : parK (some ([.val d, .val e], h1)) i j τ = some (.nx ((τ.set i (some d)).set j (some e)) h1) := rfl
def gTK (o : Option O) (n : Nat) (gs : SGs) (τ : AT) (h : AH) : Option (AT × AH) := match o with
  | some (.lst ds) => if ds.length = n then gs ds τ h else none
  | _ => none
@[simp] theorem gT_ref {gs : SGs} {a : Nat} : gT n gs (.ref a) τ h = gTK h[a]? n gs τ h := id rfl
@[simp] theorem gT_fl {gs : SGs} : gT n gs (.fl ds) τ h = if ds.length = n then gs ds τ h else none := rfl
@[simp] theorem gTK_some {gs : SGs} : gTK (some (.lst ds)) n gs τ h = if ds.length = n then gs ds τ h else none := rfl
theorem oRepr_ok (c : okR (dat q h) = true) : oRepr [q] h = some (.val (.str (dat q h).toR.shown), h) := if_pos c
theorem oTMul_ok {xs : List D} (c : (!xs.isEmpty && decide (2 ≤ k) && decide (k ≤ 1000) && decide (xs.length ≤ 1000)) = true) : oTMul (.val (.tup xs)) (.val (.int k)) h = some (.val (.zt (List.replicate k.toNat xs).flatten), h) := if_pos c
theorem oNotInD_ok {ds : List D} (e : dat q h = .fl ds) (c : ((dat x h).nb && (D.fl ds).nb && decide ((dat x h).dep ≤ 64) && decide ((D.fl ds).dep ≤ 64)) = true) : oNotInD x q h = some (.val (.bl (!ds.contains (dat x h))), h) := by
  unfold oNotInD inDC
  rw [e]
  dsimp only
  rw [if_pos c]
  rfl
variable {c : Prop} [Decidable c]
@[simp] theorem trK_ite {o p : Option (LV × AH)} : trK (if c then o else p) = if c then trK o else trK p := by split <;> rfl
@[simp] theorem andXK_ite {o p : Option (LV × AH)} : andXK (if c then o else p) fb τ = if c then andXK o fb τ else andXK p fb τ := by split <;> rfl
@[simp] theorem orXK_ite {o p : Option (LV × AH)} : orXK (if c then o else p) fb τ = if c then orXK o fb τ else orXK p fb τ := by split <;> rfl
@[simp] theorem notXK_ite {o p : Option (LV × AH)} : notXK (if c then o else p) = if c then notXK o else notXK p := by split <;> rfl
@[simp] theorem chK3_ite {o p : Option (LV × AH)} : chK3 (if c then o else p) op' y fc τ = if c then chK3 o op' y fc τ else chK3 p op' y fc τ := by split <;> rfl
@[simp] theorem unK_ite {o p : Option (LV × AH)} : unK (if c then o else p) o1 = if c then unK o o1 else unK p o1 := by split <;> rfl
@[simp] theorem callK2_ite {F : SF} {o p : Option (List D)} : callK2 F (if c then o else p) h = if c then callK2 F o h else callK2 F p h := by split <;> rfl
end
end Sm
namespace Sm
open PySem PySem.Spec PyProof.Rows L2
/-! ## the draws -/
def bset (h : AH) (b dg : Nat) (p : Int) : AH := h.set b (.lst [.ref dg, .int p])
/-- the box of the draws stands at b, its digits at dg, p is the next place -/
structure Bx (h : AH) (b dg : Nat) (ds : List Int) (p : Int) : Prop where
  hb : h[b]? = some (.lst [.ref dg, .int p])
  hd : h[dg]? = some (.lst (ds.map D.int))
  ne : b ≠ dg
  p0 : 0 ≤ p
theorem Bx.lt {h : AH} {b dg : Nat} {ds : List Int} {p : Int} (B : Bx h b dg ds p) : b < h.length := (List.getElem?_eq_some_iff.mp B.hb).1
theorem Bx.ltd {h : AH} {b dg : Nat} {ds : List Int} {p : Int} (B : Bx h b dg ds p) : dg < h.length := (List.getElem?_eq_some_iff.mp B.hd).1
theorem Bx.set {h : AH} {b dg : Nat} {ds : List Int} {p q : Int} (B : Bx h b dg ds p) (hq : 0 ≤ q) : Bx (bset h b dg q) b dg ds q :=
  ⟨List.getElem?_set_self B.lt, by unfold bset; rw [List.getElem?_set_ne B.ne]; exact B.hd, B.ne, hq⟩
theorem Bx.app {h : AH} {b dg : Nat} {ds : List Int} {p : Int} (B : Bx h b dg ds p) (j : AH) : Bx (h ++ j) b dg ds p :=
  ⟨by rw [List.getElem?_append_left B.lt]; exact B.hb, by rw [List.getElem?_append_left B.ltd]; exact B.hd, B.ne, B.p0⟩
@[simp] theorem bset_bset {h : AH} {b dg : Nat} {p q : Int} : bset (bset h b dg p) b dg q = bset h b dg q := by unfold bset; rw [List.set_set]
@[simp] theorem bset_len {h : AH} {b dg : Nat} {p : Int} : (bset h b dg p).length = h.length := by unfold bset; rw [List.length_set]
theorem bset_app {h j : AH} {b dg : Nat} {p : Int} (hb : b < h.length) : bset (h ++ j) b dg p = bset h b dg p ++ j := by unfold bset; rw [List.set_append_left _ _ hb]
theorem Bx.same {h : AH} {b dg : Nat} {ds : List Int} {p : Int} (B : Bx h b dg ds p) : bset h b dg p = h := by
  unfold bset
  have e := B.hb
  rw [List.getElem?_eq_getElem B.lt] at e
  have := Option.some.inj e
  rw [← this, List.set_getElem_self]
/-- what a draw gives -/
def dr (ds : List Int) (p m : Int) : Int := if p < ds.length then (ds.getD p.toNat 0).fmod m else (p * p * 3 + p * 4 + p.fdiv 3 + 1).fmod m
theorem dr_lo {ds : List Int} {p m : Int} (hm : 0 < m) : 0 ≤ dr ds p m := by
  unfold dr
  split <;> exact Int.fmod_nonneg_of_pos _ hm
theorem dr_hi {ds : List Int} {p m : Int} (hm : 0 < m) : dr ds p m < m := by
  unfold dr
  split <;> exact Int.fmod_lt_of_pos _ hm
/-! ## what a call forgets -/
theorem oldOk_self (n : Nat) : ∀ (h j : AH), oldOk n h (h ++ j) = true
  | [], _ => rfl
  | o :: r, j => by
    show ((decide (o = o) || o.low n) && oldOk n r (r ++ j)) = true
    rw [oldOk_self n r j, decide_eq_true rfl]
    rfl
theorem oldOk_set {n : Nat} {o : O} (ho : o.low n = true) : ∀ {h h' : AH} (i : Nat), oldOk n h h' = true → oldOk n h (h'.set i o) = true
  | [], _, _, _ => rfl
  | _ :: _, [], _, b => by cases b
  | a :: r, a' :: r', 0, b => by
    unfold oldOk at b
    rw [Bool.and_eq_true] at b
    show ((decide (a = o) || o.low n) && oldOk n r r') = true
    rw [b.2, ho]
    simp
  | a :: r, a' :: r', i + 1, b => by
    unfold oldOk at b
    rw [Bool.and_eq_true] at b
    show ((decide (a = a') || a'.low n) && oldOk n r (r'.set i o)) = true
    rw [b.1, oldOk_set ho i b.2]
    rfl
theorem box_low {dg n : Nat} {p : Int} (hd : dg < n) : O.low n (.lst [.ref dg, .int p]) = true := by
  simp [O.low, D.lows, D.low, hd]
/-- a call that only made new things, and hands back data -/
theorem gc_pure {h j : AH} {d : D} (hd : d.low h.length = true) : gc h d (h ++ j) = (d, h) := by
  unfold gc
  rw [if_pos (oldOk_self _ h j), if_pos hd]
  simp
theorem gc_pure0 {h : AH} {d : D} (hd : d.low h.length = true) : gc h d h = (d, h) := by
  have := gc_pure (h := h) (j := []) hd
  simpa using this
theorem gc_box {h j : AH} {b dg : Nat} {ds : List Int} {p q : Int} {d : D} (B : Bx h b dg ds p) (hd : d.low h.length = true) : gc h d (bset h b dg q ++ j) = (d, bset h b dg q) := by
  have e : oldOk h.length h (bset h b dg q ++ j) = true := by
    rw [← bset_app B.lt]
    exact oldOk_set (box_low B.ltd) b (oldOk_self _ h j)
  unfold gc
  rw [if_pos e, if_pos hd]
  rw [List.take_append_of_le_length (by rw [bset_len]; exact Nat.le_refl _), List.take_of_length_le (by rw [bset_len]; exact Nat.le_refl _)]
theorem gc_box0 {h : AH} {b dg : Nat} {ds : List Int} {p q : Int} {d : D} (B : Bx h b dg ds p) (hd : d.low h.length = true) : gc h d (bset h b dg q) = (d, bset h b dg q) := by
  have := gc_box (j := []) (q := q) B hd
  simpa using this
/-- a call that hands back a list that it made, of data -/
theorem gc_list {h j : AH} {k : Nat} {ds : List D} (hk : h.length ≤ k) (hj : (h ++ j)[k]? = some (.lst ds)) (hd : D.lows h.length ds = true) : gc h (.ref k) (h ++ j) = (.ref h.length, h ++ [.lst ds]) := by
  unfold gc
  have hn : ¬ D.low h.length (.ref k) = true := by
    unfold D.low
    simp
    exact hk
  rw [if_pos (oldOk_self _ h j), if_neg hn]
  dsimp only
  rw [hj]
  dsimp only
  rw [if_pos hd, List.take_left']
  rfl
@[simp] theorem low_int {n : Nat} {i : Int} : D.low n (.int i) = true := rfl
@[simp] theorem low_str {n : Nat} {i : Str} : D.low n (.str i) = true := rfl
@[simp] theorem low_non {n : Nat} : D.low n .non = true := rfl
@[simp] theorem low_bl {n : Nat} {b : Bool} : D.low n (.bl b) = true := rfl
@[simp] theorem low_tup {n : Nat} {ds : List D} : D.low n (.tup ds) = D.lows n ds := by rw [D.low]
@[simp] theorem lows_nil {n : Nat} : D.lows n [] = true := rfl
@[simp] theorem lows_cons {n : Nat} {d : D} {ds : List D} : D.lows n (d :: ds) = (d.low n && D.lows n ds) := by rw [D.lows]
/-! ## loops and comprehensions, told by what holds between turns -/
theorem forL_inv {grd : List (Nat × List D)} {g : SG} {body : SS} (P : List D → AT → AH → Prop) (hg : ∀ rest τ h, P rest τ h → grdOk grd h = true)
    (hs : ∀ x rest τ h, P (x :: rest) τ h → ∃ τ1 h1 τ2 h2, g x τ h = some (τ1, h1) ∧ (body τ1 h1 = some (.nx τ2 h2) ∨ body τ1 h1 = some (.ct τ2 h2)) ∧ P rest τ2 h2) :
    ∀ (items : List D) (τ : AT) (h : AH), P items τ h → ∃ τ' h', forL grd g body items τ h = some (.nx τ' h') ∧ P [] τ' h'
  | [], τ, h, p => ⟨τ, h, by unfold forL; rw [if_pos (hg _ _ _ p)], p⟩
  | x :: xs, τ, h, p => by
    obtain ⟨τ1, h1, τ2, h2, e1, e2, p2⟩ := hs x xs τ h p
    obtain ⟨τ', h', e3, p3⟩ := forL_inv P hg hs xs τ2 h2 p2
    refine ⟨τ', h', ?_, p3⟩
    unfold forL
    rw [if_pos (hg _ _ _ p), e1]
    show (body τ1 h1).bind _ = _
    rcases e2 with e2 | e2 <;> rw [e2] <;> exact e3
/-- a comprehension that changes nothing -/
theorem compL_map {grd : List (Nat × List D)} {g : SG} {fe : SE} {τ : AT} {h : AH} (f : D → D) (hg : grdOk grd h = true) :
    ∀ (xs : List D), (∀ x ∈ xs, ∃ τ1, g x τ h = some (τ1, h) ∧ fe τ1 h = some (.val (f x), h)) → compL grd g mYes fe τ xs h = some (xs.map f, h)
  | [], _ => by unfold compL; rw [if_pos hg]; rfl
  | x :: xs, hs => by
    obtain ⟨τ1, e1, e2⟩ := hs x List.mem_cons_self
    unfold compL
    rw [if_pos hg, e1]
    show ((fe τ1 h).bind fun y => _) = _
    rw [e2]
    show ((compL grd g mYes fe τ xs h).bind fun z => some (f x :: z.1, z.2)) = _
    rw [compL_map f hg xs fun y hy => hs y (List.mem_cons_of_mem _ hy)]
    rfl
theorem compL_mapT {α : Type} {grd : List (Nat × List D)} {g : SG} {fe : SE} {τ : AT} {h : AH} {t : α → D} (f : α → D) (hg : grdOk grd h = true) :
    ∀ (xs : List α), (∀ x ∈ xs, ∃ τ1, g (t x) τ h = some (τ1, h) ∧ fe τ1 h = some (.val (f x), h)) → compL grd g mYes fe τ (xs.map t) h = some (xs.map f, h)
  | [], _ => by
    show compL grd g mYes fe τ [] h = _
    unfold compL
    rw [if_pos hg]
    rfl
  | x :: xs, hs => by
    obtain ⟨τ1, e1, e2⟩ := hs x List.mem_cons_self
    show compL grd g mYes fe τ (t x :: xs.map t) h = _
    unfold compL
    rw [if_pos hg, e1]
    show ((fe τ1 h).bind fun y => _) = _
    rw [e2]
    show ((compL grd g mYes fe τ (xs.map t) h).bind fun z => some (f x :: z.1, z.2)) = _
    rw [compL_mapT f hg xs fun y hy => hs y (List.mem_cons_of_mem _ hy)]
    rfl
theorem compL_filter {grd : List (Nat × List D)} {g : SG} {ft : ST} {fe : SE} {τ : AT} {h : AH} (t : D → Bool) (f : D → D) (hg : grdOk grd h = true) :
    ∀ (xs : List D), (∀ x ∈ xs, ∃ τ1, g x τ h = some (τ1, h) ∧ ft τ1 h = some (t x, h) ∧ (t x = true → fe τ1 h = some (.val (f x), h))) → compL grd g ft fe τ xs h = some ((xs.filter t).map f, h)
  | [], _ => by unfold compL; rw [if_pos hg]; rfl
  | x :: xs, hs => by
    obtain ⟨τ1, e1, e2, e3⟩ := hs x List.mem_cons_self
    have ih := compL_filter t f hg xs fun y hy => hs y (List.mem_cons_of_mem _ hy)
    unfold compL
    rw [if_pos hg, e1]
    show ((ft τ1 h).bind fun b => _) = _
    rw [e2]
    show (if t x = true then (fe τ1 h).bind fun y => _ else compL grd g ft fe τ xs h) = _
    by_cases ht : t x = true
    · rw [if_pos ht, e3 ht]
      show ((compL grd g ft fe τ xs h).bind fun z => some (f x :: z.1, z.2)) = _
      rw [ih, List.filter_cons_of_pos ht]
      rfl
    · rw [if_neg ht, ih, List.filter_cons_of_neg ht]
/-- a comprehension whose turns change the heap -/
theorem compL_inv {grd : List (Nat × List D)} {g : SG} {fe : SE} {τ : AT} (P : List D → List D → AH → Prop) (hg : ∀ rest ys h, P rest ys h → grdOk grd h = true)
    (hs : ∀ x rest ys h, P (x :: rest) ys h → ∃ τ1 h1 y h2, g x τ h = some (τ1, h1) ∧ fe τ1 h1 = some (.val y, h2) ∧ P rest (ys ++ [y]) h2) :
    ∀ (xs ys : List D) (h : AH), P xs ys h → ∃ zs h', compL grd g mYes fe τ xs h = some (zs, h') ∧ P [] (ys ++ zs) h'
  | [], ys, h, p => ⟨[], h, by unfold compL; rw [if_pos (hg _ _ _ p)], by rw [List.append_nil]; exact p⟩
  | x :: xs, ys, h, p => by
    obtain ⟨τ1, h1, y, h2, e1, e2, p2⟩ := hs x xs ys h p
    obtain ⟨zs, h', e3, p3⟩ := compL_inv P hg hs xs (ys ++ [y]) h2 p2
    refine ⟨y :: zs, h', ?_, by rw [List.append_assoc] at p3; exact p3⟩
    unfold compL
    rw [if_pos (hg _ _ _ p), e1]
    show ((fe τ1 h1).bind fun y => _) = _
    rw [e2]
    show ((compL grd g mYes fe τ xs h2).bind fun z => some (y :: z.1, z.2)) = _
    rw [e3]
    rfl
/-! ## the heap's end -/
@[simp] theorem get_mid {h j : AH} {o : O} : (h ++ o :: j)[h.length]? = some o := by rw [List.getElem?_append_right (Nat.le_refl _), Nat.sub_self]; rfl
@[simp] theorem set_mid {h j : AH} {o p : O} : (h ++ o :: j).set h.length p = h ++ p :: j := by rw [List.set_append_right _ _ (Nat.le_refl _), Nat.sub_self]; rfl
@[simp] theorem get_mid2 {h j : AH} {o p : O} : (h ++ o :: (j ++ [p]))[h.length + (j.length + 1)]? = some p := by
  rw [show h ++ o :: (j ++ [p]) = (h ++ o :: j) ++ [p] by simp, List.getElem?_append_right (by simp), show h.length + (j.length + 1) - (h ++ o :: j).length = 0 by simp]; rfl
@[simp] theorem get_end {h : AH} {o : O} : (h ++ [o])[h.length]? = some o := by rw [List.getElem?_append_right (Nat.le_refl _), Nat.sub_self]; rfl
theorem rngD_len {lo : Int} {n : Nat} : (rngD lo n).length = n := by simp [rngD]
theorem lows_rng (n : Nat) (lo : Int) (k : Nat) : D.lows n (rngD lo k) = true := by
  unfold rngD
  induction List.range k with
  | nil => rfl
  | cons x r ih => simpa using ih
theorem rgOk_ok {lo hi : Int} (a : -1000 ≤ lo) (b : lo ≤ hi) (c : hi ≤ 1000) : rgOkB lo (hi + 1) = true := by
  unfold rgOkB
  simp
  omega
theorem lows_map {α : Type} {n : Nat} {f : α → D} (hf : ∀ x, (f x).low n = true) (xs : List α) : D.lows n (xs.map f) = true := by
  induction xs with
  | nil => rfl
  | cons x r ih => rw [List.map_cons, lows_cons, hf, ih]; rfl
theorem lows_app {n : Nat} {xs ys : List D} : D.lows n (xs ++ ys) = (D.lows n xs && D.lows n ys) := by
  induction xs with
  | nil => simp
  | cons x r ih => rw [List.cons_append, lows_cons, lows_cons, ih, Bool.and_assoc]
theorem lows_of {n : Nat} {xs : List D} (h : ∀ x ∈ xs, x.low n = true) : D.lows n xs = true := by
  induction xs with
  | nil => rfl
  | cons x r ih => rw [lows_cons, h x List.mem_cons_self, ih fun y hy => h y (List.mem_cons_of_mem _ hy)]; rfl
theorem le_big {n : Nat} (h : n ≤ 20000) : n ≤ 16777216 := Nat.le_trans h (by decide)
@[simp] theorem tyN_tup {h : AH} {ds : List D} : tyN (.val (.tup ds)) h = some "tuple" := rfl
@[simp] theorem tyN_int {h : AH} {i : Int} : tyN (.val (.int i)) h = some "int" := rfl
@[simp] theorem tyN_str {h : AH} {i : Str} : tyN (.val (.str i)) h = some "str" := rfl
@[simp] theorem tyN_bl {h : AH} {i : Bool} : tyN (.val (.bl i)) h = some "bool" := rfl
@[simp] theorem tyN_non {h : AH} : tyN (.val .non) h = some "NoneType" := rfl
def isiK (o : Option String) (T : String) (h : AH) : Option (LV × AH) := o.bind fun n => if tys.contains T = true then some (.val (.bl (isTyB n T)), h) else none
@[simp] theorem oIsi_eq {h : AH} {q : LV} {T : String} : oIsi [q, .val (.ty T)] h = isiK (tyN q h) T h := rfl
theorem isiK_some {h : AH} {n T : String} (c : tys.contains T = true) : isiK (some n) T h = some (.val (.bl (isTyB n T)), h) := if_pos c
@[simp] theorem ity_list_list : isTyB "list" "list" = true := by decide +kernel
@[simp] theorem ity_list_bool : isTyB "list" "bool" = false := by decide +kernel
@[simp] theorem ity_list_int : isTyB "list" "int" = false := by decide +kernel
@[simp] theorem ity_list_str : isTyB "list" "str" = false := by decide +kernel
@[simp] theorem ity_list_tuple : isTyB "list" "tuple" = false := by decide +kernel
@[simp] theorem ity_list_dict : isTyB "list" "dict" = false := by decide +kernel
@[simp] theorem ity_NoneType_list : isTyB "NoneType" "list" = false := by decide +kernel
@[simp] theorem ity_NoneType_bool : isTyB "NoneType" "bool" = false := by decide +kernel
@[simp] theorem ity_NoneType_int : isTyB "NoneType" "int" = false := by decide +kernel
@[simp] theorem ity_NoneType_str : isTyB "NoneType" "str" = false := by decide +kernel
@[simp] theorem ity_NoneType_tuple : isTyB "NoneType" "tuple" = false := by decide +kernel
@[simp] theorem ity_NoneType_dict : isTyB "NoneType" "dict" = false := by decide +kernel
@[simp] theorem ity_bool_list : isTyB "bool" "list" = false := by decide +kernel
@[simp] theorem ity_bool_bool : isTyB "bool" "bool" = true := by decide +kernel
@[simp] theorem ity_bool_int : isTyB "bool" "int" = true := by decide +kernel
@[simp] theorem ity_bool_str : isTyB "bool" "str" = false := by decide +kernel
@[simp] theorem ity_bool_tuple : isTyB "bool" "tuple" = false := by decide +kernel
@[simp] theorem ity_bool_dict : isTyB "bool" "dict" = false := by decide +kernel
@[simp] theorem ity_int_list : isTyB "int" "list" = false := by decide +kernel
@[simp] theorem ity_int_bool : isTyB "int" "bool" = false := by decide +kernel
@[simp] theorem ity_int_int : isTyB "int" "int" = true := by decide +kernel
@[simp] theorem ity_int_str : isTyB "int" "str" = false := by decide +kernel
@[simp] theorem ity_int_tuple : isTyB "int" "tuple" = false := by decide +kernel
@[simp] theorem ity_int_dict : isTyB "int" "dict" = false := by decide +kernel
@[simp] theorem ity_str_list : isTyB "str" "list" = false := by decide +kernel
@[simp] theorem ity_str_bool : isTyB "str" "bool" = false := by decide +kernel
@[simp] theorem ity_str_int : isTyB "str" "int" = false := by decide +kernel
@[simp] theorem ity_str_str : isTyB "str" "str" = true := by decide +kernel
@[simp] theorem ity_str_tuple : isTyB "str" "tuple" = false := by decide +kernel
@[simp] theorem ity_str_dict : isTyB "str" "dict" = false := by decide +kernel
@[simp] theorem ity_tuple_list : isTyB "tuple" "list" = false := by decide +kernel
@[simp] theorem ity_tuple_bool : isTyB "tuple" "bool" = false := by decide +kernel
@[simp] theorem ity_tuple_int : isTyB "tuple" "int" = false := by decide +kernel
@[simp] theorem ity_tuple_str : isTyB "tuple" "str" = false := by decide +kernel
@[simp] theorem ity_tuple_tuple : isTyB "tuple" "tuple" = true := by decide +kernel
@[simp] theorem ity_tuple_dict : isTyB "tuple" "dict" = false := by decide +kernel
@[simp] theorem ity_dict_list : isTyB "dict" "list" = false := by decide +kernel
@[simp] theorem ity_dict_bool : isTyB "dict" "bool" = false := by decide +kernel
@[simp] theorem ity_dict_int : isTyB "dict" "int" = false := by decide +kernel
@[simp] theorem ity_dict_str : isTyB "dict" "str" = false := by decide +kernel
@[simp] theorem ity_dict_tuple : isTyB "dict" "tuple" = false := by decide +kernel
@[simp] theorem ity_dict_dict : isTyB "dict" "dict" = true := by decide +kernel
@[simp] theorem rng1_nat {n : Nat} (c : n ≤ 4000000000) : rng1 [.val (.int (n : Int))] = some ⟨rngD 0 n, []⟩ := by
  have := rng1_int (k := (n : Int)) (by omega) (by omega)
  simpa using this
theorem tc_tuple : tys.contains "tuple" = true := by decide
theorem tc_list : tys.contains "list" = true := by decide
theorem tc_bool : tys.contains "bool" = true := by decide
theorem tc_int : tys.contains "int" = true := by decide
theorem tc_str : tys.contains "str" = true := by decide
@[simp] theorem isiK_tuple {h : AH} {n : String} : isiK (some n) "tuple" h = some (.val (.bl (isTyB n "tuple")), h) := isiK_some tc_tuple
@[simp] theorem isiK_list {h : AH} {n : String} : isiK (some n) "list" h = some (.val (.bl (isTyB n "list")), h) := isiK_some tc_list
@[simp] theorem isiK_bool {h : AH} {n : String} : isiK (some n) "bool" h = some (.val (.bl (isTyB n "bool")), h) := isiK_some tc_bool
@[simp] theorem isiK_int {h : AH} {n : String} : isiK (some n) "int" h = some (.val (.bl (isTyB n "int")), h) := isiK_some tc_int
@[simp] theorem isiK_str {h : AH} {n : String} : isiK (some n) "str" h = some (.val (.bl (isTyB n "str")), h) := isiK_some tc_str
/-- a loop over a list, told by the number of turns done -/
theorem forIx {grd : List (Nat × List D)} {g : SG} {body : SS} {xs : List D} (P : Nat → AT → AH → Prop) (hg : ∀ i τ h, P i τ h → grdOk grd h = true)
    (hs : ∀ (i : Nat) (hi : i < xs.length) τ h, P i τ h → ∃ τ1 h1 τ2 h2, g xs[i] τ h = some (τ1, h1) ∧ (body τ1 h1 = some (.nx τ2 h2) ∨ body τ1 h1 = some (.ct τ2 h2)) ∧ P (i + 1) τ2 h2)
    (τ : AT) (h : AH) (p : P 0 τ h) : ∃ τ' h', forL grd g body xs τ h = some (.nx τ' h') ∧ P xs.length τ' h' := by
  obtain ⟨τ', h', e, i, h1, h2, h3⟩ := forL_inv (grd := grd) (g := g) (body := body) (fun rest τ h => ∃ i, i ≤ xs.length ∧ rest = xs.drop i ∧ P i τ h) (fun rest τ h ⟨i, _, _, c⟩ => hg i τ h c)
    (fun x rest τ h ⟨i, a, b, c⟩ => by
      have hi : i < xs.length := by
        rcases Nat.lt_or_ge i xs.length with z | z
        · exact z
        · rw [List.drop_eq_nil_of_le z] at b
          cases b
      rw [List.drop_eq_getElem_cons hi] at b
      obtain ⟨rfl, rfl⟩ := List.cons.inj b
      obtain ⟨τ1, h1, τ2, h2, e1, e2, e3⟩ := hs i hi τ h c
      exact ⟨τ1, h1, τ2, h2, e1, e2, i + 1, hi, rfl, e3⟩)
    xs τ h ⟨0, Nat.zero_le _, rfl, p⟩
  have : i = xs.length := by
    have := congrArg List.length h2
    rw [List.length_nil, List.length_drop] at this
    omega
  exact ⟨τ', h', e, this ▸ h3⟩
theorem forRg {g : SG} {body : SS} {lo : Int} {n : Nat} (P : Nat → AT → AH → Prop)
    (hs : ∀ (i : Nat), i < n → ∀ τ h, P i τ h → ∃ τ1 h1 τ2 h2, g (.int (lo + i)) τ h = some (τ1, h1) ∧ (body τ1 h1 = some (.nx τ2 h2) ∨ body τ1 h1 = some (.ct τ2 h2)) ∧ P (i + 1) τ2 h2)
    (τ : AT) (h : AH) (p : P 0 τ h) : ∃ τ' h', forL [] g body (rngD lo n) τ h = some (.nx τ' h') ∧ P n τ' h' := by
  obtain ⟨τ', h', e, p'⟩ := forIx (grd := []) (g := g) (body := body) (xs := rngD lo n) P (fun _ _ _ _ => rfl) (fun i hi τ h p => by
    rw [rngD_len] at hi
    have : (rngD lo n)[i]'(by rw [rngD_len]; exact hi) = .int (lo + i) := by simp [rngD]
    rw [this]
    exact hs i hi τ h p) τ h p
  rw [rngD_len] at p'
  exact ⟨τ', h', e, p'⟩
theorem forRg0 {g : SG} {body : SS} {n : Nat} (P : Nat → AT → AH → Prop)
    (hs : ∀ (i : Nat), i < n → ∀ τ h, P i τ h → ∃ τ1 h1 τ2 h2, g (.int (i : Int)) τ h = some (τ1, h1) ∧ (body τ1 h1 = some (.nx τ2 h2) ∨ body τ1 h1 = some (.ct τ2 h2)) ∧ P (i + 1) τ2 h2)
    (τ : AT) (h : AH) (p : P 0 τ h) : ∃ τ' h', forL [] g body (rngD 0 n) τ h = some (.nx τ' h') ∧ P n τ' h' :=
  forRg P (fun i hi τ h p => by rw [Int.zero_add]; exact hs i hi τ h p) τ h p
/-! ## a heap told as: the entry's heap with the box moved on, and what was made since -/
section
variable {h j : AH} {b dg : Nat} {q q' : Int} {k : Nat} {o : O}
@[simp] theorem lenA : (bset h b dg q ++ j).length = h.length + j.length := by rw [List.length_append, bset_len]
@[simp] theorem getA : (bset h b dg q ++ j)[h.length + k]? = j[k]? := by
  rw [List.getElem?_append_right (by rw [bset_len]; omega), bset_len, Nat.add_sub_cancel_left]
@[simp] theorem getA0 : (bset h b dg q ++ j)[h.length]? = j[0]? := getA (k := 0)
@[simp] theorem setA : (bset h b dg q ++ j).set (h.length + k) o = bset h b dg q ++ j.set k o := by
  rw [List.set_append_right _ _ (by rw [bset_len]; omega), bset_len, Nat.add_sub_cancel_left]
@[simp] theorem setA0 : (bset h b dg q ++ j).set h.length o = bset h b dg q ++ j.set 0 o := setA (k := 0)
@[simp] theorem getB {α : Type} {j l : List α} {k : Nat} : (j ++ l)[j.length + k]? = l[k]? := by
  rw [List.getElem?_append_right (by omega), Nat.add_sub_cancel_left]
@[simp] theorem getB0 {α : Type} {j l : List α} : (j ++ l)[j.length]? = l[0]? := getB (k := 0)
@[simp] theorem setB {α : Type} {j l : List α} {k : Nat} {o : α} : (j ++ l).set (j.length + k) o = j ++ l.set k o := by
  rw [List.set_append_right _ _ (by omega), Nat.add_sub_cancel_left]
@[simp] theorem setB0 {α : Type} {j l : List α} {o : α} : (j ++ l).set j.length o = j ++ l.set 0 o := setB (k := 0)
theorem getOld {u : Nat} (hu : u < h.length) (hb : u ≠ b) : (bset h b dg q ++ j)[u]? = h[u]? := by
  rw [List.getElem?_append_left (by rw [bset_len]; exact hu)]
  unfold bset
  exact List.getElem?_set_ne (Ne.symm hb)
theorem locA (hb : b < h.length) : bset (bset h b dg q ++ j) b dg q' = bset h b dg q' ++ j := by
  rw [bset_app (by rw [bset_len]; exact hb), bset_bset]
theorem gc_boxL {ds : List Int} {p : Int} {xs : List D} (B : Bx h b dg ds p) (hj : j[k]? = some (.lst xs)) (hd : D.lows h.length xs = true) : gc h (.ref (h.length + k)) (bset h b dg q ++ j) = (.ref h.length, bset h b dg q ++ [.lst xs]) := by
  have e : oldOk h.length h (bset h b dg q ++ j) = true := by
    rw [← bset_app B.lt]
    exact oldOk_set (box_low B.ltd) b (oldOk_self _ h j)
  have hn : ¬ D.low h.length (.ref (h.length + k)) = true := by
    unfold D.low
    simp
  unfold gc
  rw [if_pos e, if_neg hn]
  dsimp only
  rw [getA, hj]
  dsimp only
  rw [if_pos hd, List.take_left' (by rw [bset_len])]
theorem Bx.loc {ds : List Int} {p : Int} (B : Bx h b dg ds p) (hq : 0 ≤ q) : Bx (bset h b dg q ++ j) b dg ds q := (B.set hq).app j
end
mutual
theorem low_mono {m n : Nat} (h : m ≤ n) : ∀ {d : D}, d.low m = true → d.low n = true
  | .non, _ => rfl
  | .bl _, _ => rfl
  | .int _, _ => rfl
  | .str _, _ => rfl
  | .ty _, _ => rfl
  | .tup ds, e => by rw [D.low] at e ⊢; exact lows_mono h e
  | .zt ds, e => by rw [D.low] at e ⊢; exact lows_mono h e
  | .fl ds, e => by rw [D.low] at e ⊢; exact lows_mono h e
  | .ref a, e => by
    unfold D.low at e ⊢
    exact decide_eq_true (Nat.lt_of_lt_of_le (of_decide_eq_true e) h)
theorem lows_mono {m n : Nat} (h : m ≤ n) : ∀ {ds : List D}, D.lows m ds = true → D.lows n ds = true
  | [], _ => rfl
  | d :: r, e => by
    rw [lows_cons, Bool.and_eq_true] at e ⊢
    exact ⟨low_mono h e.1, lows_mono h e.2⟩
end
theorem low0 {n : Nat} {d : D} (h : d.low 0 = true) : d.low n = true := low_mono (Nat.zero_le _) h
theorem lows0 {n : Nat} {d : List D} (h : D.lows 0 d = true) : D.lows n d = true := lows_mono (Nat.zero_le _) h
theorem lows_get {n : Nat} {xs : List D} (h : D.lows n xs = true) {d : D} (m : d ∈ xs) : d.low n = true := by
  induction xs with
  | nil => cases m
  | cons x r ih =>
    rw [lows_cons, Bool.and_eq_true] at h
    rcases List.mem_cons.mp m with e | e
    · rw [e]; exact h.1
    · exact ih h.2 e
theorem ixv {α : Type} {xs : List α} {k : Int} (h0 : 0 ≤ k) (h1 : k < xs.length) : ∃ v, xs[k.toNat]? = some v ∧ v ∈ xs ∧ ∀ hh, xs[k.toNat]'hh = v := by
  have : k.toNat < xs.length := by omega
  exact ⟨xs[k.toNat], List.getElem?_eq_getElem this, List.getElem_mem this, fun _ => rfl⟩
theorem gc_loc {h j j' : AH} {b dg : Nat} {ds : List Int} {p q q' : Int} {d : D} (B : Bx h b dg ds p) (hq : 0 ≤ q) (hd : d.low 0 = true) : gc (bset h b dg q ++ j) d (bset h b dg q' ++ (j ++ j')) = (d, bset h b dg q' ++ j) := by
  have := gc_box (q := q') (j := j') (B.loc (q := q) (j := j) hq) (low0 hd)
  rwa [locA B.lt, List.append_assoc] at this
theorem gc_loc0 {h j : AH} {b dg : Nat} {ds : List Int} {p q q' : Int} {d : D} (B : Bx h b dg ds p) (hq : 0 ≤ q) (hd : d.low 0 = true) : gc (bset h b dg q ++ j) d (bset h b dg q' ++ j) = (d, bset h b dg q' ++ j) := by
  have := gc_loc (j := j) (j' := []) (q' := q') B hq hd
  simpa using this
theorem gc_locL {h j j' : AH} {b dg : Nat} {ds : List Int} {p q q' : Int} {k : Nat} {xs : List D} (B : Bx h b dg ds p) (hq : 0 ≤ q) (hj : j'[k]? = some (.lst xs)) (hd : D.lows 0 xs = true) : gc (bset h b dg q ++ j) (.ref (h.length + (j.length + k))) (bset h b dg q' ++ (j ++ j')) = (.ref (h.length + j.length), bset h b dg q' ++ (j ++ [.lst xs])) := by
  have := gc_boxL (q := q') (j := j') (B.loc (q := q) (j := j) hq) hj (lows0 hd)
  rwa [locA B.lt, List.append_assoc, List.append_assoc, lenA, Nat.add_assoc] at this
theorem strIx_ok {s : Str} {k : Int} (h0 : s.length ≤ 16777216) (h1 : (L2.atI s.cps.toList k).isSome = true) : ∃ c, ∀ h, oIx (.val (.str s)) (.val (.int k)) h = some (.val (.str ⟨#[c]⟩), h) := by
  obtain ⟨c, e⟩ := Option.isSome_iff_exists.mp h1
  exact ⟨c, fun h => by rw [oIx_str, if_pos h0, e, strIxK_some]⟩
theorem len_c {c : Nat} : (⟨#[c]⟩ : Str).length = 1 := rfl
theorem flat_strs (xs : List Str) : (xs.map D.str).all D.flat = true := by
  induction xs with
  | nil => rfl
  | cons x r ih => rw [List.map_cons, List.all_cons, ih]; rfl
theorem compL_filterT {α : Type} {grd : List (Nat × List D)} {g : SG} {ft : ST} {fe : SE} {τ : AT} {h : AH} {t : α → D} (c : α → Bool) (f : α → D) (hg : grdOk grd h = true) :
    ∀ (xs : List α), (∀ x ∈ xs, ∃ τ1, g (t x) τ h = some (τ1, h) ∧ ft τ1 h = some (c x, h) ∧ (c x = true → fe τ1 h = some (.val (f x), h))) → compL grd g ft fe τ (xs.map t) h = some ((xs.filter c).map f, h)
  | [], _ => by
    show compL grd g ft fe τ [] h = _
    unfold compL
    rw [if_pos hg]
    rfl
  | x :: xs, hs => by
    obtain ⟨τ1, e1, e2, e3⟩ := hs x List.mem_cons_self
    have ih := compL_filterT c f hg xs fun y hy => hs y (List.mem_cons_of_mem _ hy)
    show compL grd g ft fe τ (t x :: xs.map t) h = _
    unfold compL
    rw [if_pos hg, e1]
    show ((ft τ1 h).bind fun b => _) = _
    rw [e2]
    show (if c x = true then (fe τ1 h).bind fun y => _ else compL grd g ft fe τ (xs.map t) h) = _
    by_cases ht : c x = true
    · rw [if_pos ht, e3 ht]
      show ((compL grd g ft fe τ (xs.map t) h).bind fun z => some (f x :: z.1, z.2)) = _
      rw [ih, List.filter_cons_of_pos ht]
      rfl
    · rw [if_neg ht, ih, List.filter_cons_of_neg ht]
end Sm
namespace Sm
open PySem PySem.Spec PyProof.Rows L2
/-! ## an item of a row, by a draw -/
def dk (xs : List D) (dd : List Int) (q m : Int) : D := xs.getD (dr dd q m).toNat .non
theorem dk_ok {xs : List D} {dd : List Int} {q m : Int} (h0 : 0 < m) (h1 : m ≤ xs.length) : xs[(dr dd q m).toNat]? = some (dk xs dd q m) := by
  have a := dr_lo (ds := dd) (p := q) h0
  have b := dr_hi (ds := dd) (p := q) h0
  have c : (dr dd q m).toNat < xs.length := by omega
  unfold dk
  rw [List.getD_eq_getElem?_getD, List.getElem?_eq_getElem c]
  rfl
theorem dk_mem {xs : List D} {dd : List Int} {q m : Int} (h0 : 0 < m) (h1 : m ≤ xs.length) : dk xs dd q m ∈ xs := List.mem_of_getElem? (dk_ok h0 h1)
theorem atI_dr {xs : List D} {dd : List Int} {q m : Int} (h0 : 0 < m) (h1 : m ≤ xs.length) : L2.atI xs (dr dd q m) = some (dk xs dd q m) := by
  rw [atI_pos (dr_lo h0), dk_ok h0 h1]
theorem ix_dr {xs : List D} {dd : List Int} {q m : Int} {h : AH} (h0 : 0 < m) (h1 : m ≤ xs.length) : oIx (.new xs) (.val (.int (dr dd q m))) h = some (.val (dk xs dd q m), h) := by
  rw [oIx_new, atI_dr h0 h1, ixK2_some]
theorem ixt_dr {xs : List D} {dd : List Int} {q m : Int} {h : AH} (h0 : 0 < m) (h1 : m ≤ xs.length) : oIx (.val (.tup xs)) (.val (.int (dr dd q m))) h = some (.val (dk xs dd q m), h) := by
  rw [oIx_tup, atI_dr h0 h1, ixK2_some]
theorem dk_low {xs : List D} {dd : List Int} {q m : Int} {n : Nat} (h0 : 0 < m) (h1 : m ≤ xs.length) (hl : D.lows n xs = true) : (dk xs dd q m).low n = true := lows_get hl (dk_mem h0 h1)
/-! ## comprehensions over written rows -/
section
variable {g : SG} {ft : ST} {fe : SE} {τ τ' : AT} {x : D} {xs ys : List D} {h h1 : AH} {b : Bool} {y : LV}
def cLK (o : Option (AT × AH)) (g : SG) (ft : ST) (fe : SE) (τ : AT) (xs : List D) : Option (List D × AH) := o.bind fun p => (ft p.1 p.2).bind fun b => if b.1 = true then
      (fe p.1 b.2).bind fun y => (compL [] g ft fe τ xs (lay y.1 y.2).2).bind fun z => some ((lay y.1 y.2).1 :: z.1, z.2)
    else compL [] g ft fe τ xs b.2
def cLK2 (o : Option (Bool × AH)) (g : SG) (ft : ST) (fe : SE) (τ τ' : AT) (xs : List D) : Option (List D × AH) := o.bind fun b => if b.1 = true then
      (fe τ' b.2).bind fun y => (compL [] g ft fe τ xs (lay y.1 y.2).2).bind fun z => some ((lay y.1 y.2).1 :: z.1, z.2)
    else compL [] g ft fe τ xs b.2
def cLK3 (o : Option (LV × AH)) (g : SG) (ft : ST) (fe : SE) (τ : AT) (xs : List D) : Option (List D × AH) := o.bind fun y => (compL [] g ft fe τ xs (lay y.1 y.2).2).bind fun z => some ((lay y.1 y.2).1 :: z.1, z.2)
def cLK4 (o : Option (List D × AH)) (d : D) : Option (List D × AH) := o.bind fun z => some (d :: z.1, z.2)
theorem compL_nil' : compL [] g ft fe τ [] h = some ([], h) := rfl
theorem compL_cons' : compL [] g ft fe τ (x :: xs) h = cLK (g x τ h) g ft fe τ xs := rfl
@[simp] theorem cLK_some : cLK (some (τ', h1)) g ft fe τ xs = cLK2 (ft τ' h1) g ft fe τ τ' xs := rfl
@[simp] theorem cLK2_some : cLK2 (some (b, h1)) g ft fe τ τ' xs = if b = true then cLK3 (fe τ' h1) g ft fe τ xs else compL [] g ft fe τ xs h1 := rfl
@[simp] theorem cLK3_some : cLK3 (some (y, h1)) g ft fe τ xs = cLK4 (compL [] g ft fe τ xs (lay y h1).2) (lay y h1).1 := rfl
@[simp] theorem cLK4_some {d : D} : cLK4 (some (ys, h1)) d = some (d :: ys, h1) := rfl
end
/-! cuts -/
theorem cut_from1 {α : Type} {x : α} {xs : List α} : cutA (x :: xs) (some 1) none = xs := by
  unfold cutA HT.sIx
  simp
theorem cut_from {α : Type} {xs : List α} {n : Nat} (h : n ≤ xs.length) : cutA xs (some (n : Int)) none = xs.drop n := by
  unfold cutA
  rw [HT.sIx_none, HT.sIx_nat, Nat.min_eq_left h, List.take_of_length_le (by rw [List.length_drop]; omega)]
theorem cut_to {α : Type} {xs : List α} {n : Nat} (h : n ≤ xs.length) : cutA xs none (some (n : Int)) = xs.take n := by
  unfold cutA
  rw [HT.sIx_none, HT.sIx_nat, Nat.min_eq_left h]
  rfl
/-- one item is another one -/
theorem set_split {α : Type} {xs : List α} {n : Nat} {v : α} (h : n < xs.length) : xs.take n ++ v :: xs.drop (n + 1) = xs.set n v := (List.set_eq_take_append_cons_drop ▸ by rw [if_pos h])
theorem forL_cons {grd : List (Nat × List D)} {g : SG} {body : SS} {x : D} {xs : List D} {τ τ1 τ2 : AT} {h h1 h2 : AH} (c : grdOk grd h = true) (e1 : g x τ h = some (τ1, h1)) (e2 : body τ1 h1 = some (.nx τ2 h2)) : forL grd g body (x :: xs) τ h = forL grd g body xs τ2 h2 := by
  conv => lhs; unfold forL
  rw [if_pos c, e1]
  show (body τ1 h1).bind _ = _
  rw [e2]
  rfl
theorem forL_rt {grd : List (Nat × List D)} {g : SG} {body : SS} {x d : D} {xs : List D} {τ τ1 : AT} {h h1 h2 : AH} (c : grdOk grd h = true) (e1 : g x τ h = some (τ1, h1)) (e2 : body τ1 h1 = some (.rt d h2)) : forL grd g body (x :: xs) τ h = some (.rt d h2) := by
  unfold forL
  rw [if_pos c, e1]
  show (body τ1 h1).bind _ = _
  rw [e2]
  rfl
theorem forL_nil {grd : List (Nat × List D)} {g : SG} {body : SS} {τ : AT} {h : AH} (c : grdOk grd h = true) : forL grd g body [] τ h = some (.nx τ h) := by
  unfold forL
  rw [if_pos c]
theorem rngD_succ {lo : Int} {n : Nat} : rngD lo (n + 1) = rngD lo n ++ [.int (lo + n)] := by
  unfold rngD
  rw [List.range_succ, List.map_append]
  rfl
theorem rngD_cons {lo : Int} {n : Nat} : rngD lo (n + 1) = .int lo :: rngD (lo + 1) n := by
  unfold rngD
  rw [List.range_succ_eq_map, List.map_cons, List.map_map]
  congr 1
  · congr 1; omega
  · exact List.map_congr_left fun i _ => by show D.int (lo + (i + 1 : Nat)) = .int (lo + 1 + (i : Nat)); congr 1; omega
end Sm
namespace Sm
open PySem PySem.Spec PyProof.Rows L2
theorem draw_ok {h : AH} {b dg : Nat} {ds : List Int} {p m : Int} (B : Bx h b dg ds p) (hp : p < 1000000) (hm : 0 < m) : F_law_draw [.ref b, .int m] h = some (.int (dr ds p m), bset h b dg (p + 1)) := by
  have hm' : m ≠ 0 := by omega
  have h1 := B.p0
  have h2 := B.lt
  have h3 : bset h b dg (p + 1) = h.set b (.lst [.ref dg, .int (p + 1)]) := rfl
  have h4 := (B.set (q := p + 1) (by omega)).hb
  have h5 := (B.set (q := p + 1) (by omega)).hd
  have h6 : ∀ q, gc h (.int q) (bset h b dg (p + 1)) = (.int q, bset h b dg (p + 1)) := fun q => gc_box0 B rfl
  have h7 : -18446744073709551616 < p := by omega
  have h8 : p < 18446744073709551616 := by omega
  unfold F_law_draw b_law_draw
  simp only [runDef_if]
  simp [B.hb, hm', h1, ← h3, h4, h5, h7, h8]
  unfold dr
  by_cases hc : p < ds.length
  · have hi : p.toNat < ds.length := by omega
    simp [hc, hi, hm', h6]
  · simp [hc, hm', h6]
section
variable {h j : AH} {b dg : Nat} {q q' : Int} {k : Nat} {o : O}
theorem draw_loc {ds : List Int} {p m : Int} (B : Bx h b dg ds p) (hq : 0 ≤ q) (hp : q < 1000000) (hm : 0 < m) : F_law_draw [.ref b, .int m] (bset h b dg q ++ j) = some (.int (dr ds q m), bset h b dg (q + 1) ++ j) := by
  rw [draw_ok (B.loc hq) hp hm, locA B.lt]
end
/-- a draw of a row -/
theorem pickT_eq {h j : AH} {b dg : Nat} {ds : List Int} {p q : Int} {xs : List D} (B : Bx h b dg ds p) (hq : 0 ≤ q) (hp : q < 1000000) (h0 : 0 < xs.length) (hl : D.lows 0 xs = true) : F_law_pick [.ref b, .tup xs] (bset h b dg q ++ j) = some (dk xs ds q xs.length, bset h b dg (q + 1) ++ j) := by
  have e := draw_loc (m := xs.length) (j := j) B hq hp (by omega)
  have e1 := atI_dr (xs := xs) (dd := ds) (q := q) (m := xs.length) (by omega) (by omega)
  have g := gc_loc0 (j := j) (q' := q + 1) B hq (dk_low (xs := xs) (dd := ds) (q := q) (m := xs.length) (by omega) (by omega) hl)
  unfold F_law_pick b_law_pick
  simp -implicitDefEqProofs (disch := first | assumption | omega | (simp only [List.length_cons, List.length_nil, List.length_map]; omega)) [runDef_if, e, e1, g, -atI_pos]
theorem pickL_eq {h j : AH} {b dg u : Nat} {ds : List Int} {p q : Int} {xs : List D} (B : Bx h b dg ds p) (hq : 0 ≤ q) (hp : q < 1000000) (hk : ∀ q, (bset h b dg q ++ j)[u]? = some (.lst xs)) (h0 : 0 < xs.length) (hl : D.lows 0 xs = true) : F_law_pick [.ref b, .ref u] (bset h b dg q ++ j) = some (dk xs ds q xs.length, bset h b dg (q + 1) ++ j) := by
  have e := draw_loc (m := xs.length) (j := j) B hq hp (by omega)
  have e1 := atI_dr (xs := xs) (dd := ds) (q := q) (m := xs.length) (by omega) (by omega)
  have g := gc_loc0 (j := j) (q' := q + 1) B hq (dk_low (xs := xs) (dd := ds) (q := q) (m := xs.length) (by omega) (by omega) hl)
  unfold F_law_pick b_law_pick
  simp -implicitDefEqProofs (disch := first | assumption | omega | (simp only [List.length_cons, List.length_nil, List.length_map]; omega)) [runDef_if, e, e1, hk, g, -atI_pos]
end Sm
namespace Sm
open PySem PySem.Spec PyProof.Rows L2
/-! ## systems -/
inductive Dat where
  | num (nm : Str) (lo hi fi : Int) | que (nm : Str) (room lo hi : Int)
def Dat.nm : Dat → Str
  | .num nm .. => nm
  | .que nm .. => nm
structure Prc where
  nm : Str
  places : List Str
  mvs : List D
structure Sys where
  nm : Str
  dats : List Dat
  prcs : List Prc
def Dat.d : Dat → D
  | .num nm lo hi fi => .tup [.str "number", .str nm, .int lo, .int hi, .int fi]
  | .que nm room lo hi => .tup [.str "queue", .str nm, .int room, .int lo, .int hi]
def Prc.d (p : Prc) : D := .tup [.str "process", .str p.nm, .tup (p.places.map D.str), .tup p.mvs]
def Sys.d (S : Sys) : D := .tup [.str "system", .str S.nm, .tup (S.dats.map Dat.d), .tup (S.prcs.map Prc.d)]
/-- the first one of a name -/
def Fst {α : Type} (nm : α → Str) (xs : List α) (x : Str) (i : Nat) : Prop := ∃ pre a post, xs = pre ++ a :: post ∧ nm a = x ∧ (∀ c ∈ pre, nm c ≠ x) ∧ pre.length = i
theorem Fst.at {α : Type} {nm : α → Str} {xs : List α} {x : Str} {i : Nat} (h : Fst nm xs x i) : ∃ a, xs[i]? = some a ∧ nm a = x := by
  obtain ⟨pre, a, post, rfl, h1, _, rfl⟩ := h
  exact ⟨a, by simp, h1⟩
theorem Fst.of {α : Type} {nm : α → Str} {x : Str} : ∀ {xs : List α} {a : α}, a ∈ xs → nm a = x → ∃ i, Fst nm xs x i
  | y :: r, a, hm, e => by
    by_cases hy : nm y = x
    · exact ⟨0, [], y, r, rfl, hy, (fun _ h => by cases h), rfl⟩
    · have hm' : a ∈ r := by
        rcases List.mem_cons.mp hm with z | z
        · rw [← z] at hy; exact absurd e hy
        · exact z
      obtain ⟨i, pre, b, post, h1, h2, h3, h4⟩ := Fst.of hm' e
      exact ⟨i + 1, y :: pre, b, post, by rw [h1]; rfl, h2, fun c hc => by
        rcases List.mem_cons.mp hc with z | z
        · rw [z]; exact hy
        · exact h3 c z, by rw [← h4]; rfl⟩
section
variable {α : Type} {f : α → D} {nm : α → Str} {x : Str} {h : AH}
theorem place_go (hf : ∀ a, ∃ t r, f a = .tup (t :: .str (nm a) :: r)) {a : α} {post : List α} (ha : nm a = x) {rows : D} : ∀ (pre : List α) (n : Nat) (y2 y3 : Option D), (∀ c ∈ pre, nm c ≠ x) →
    forL [] (gT 2 (gsC (gN 2) (gsC (gN 3) gsN))) l_place_in_1 (numD ((pre ++ a :: post).map f) n) [some rows, some (.str x), y2, y3] h = some (.rt (.int ((n + pre.length : Nat) : Int)) h)
  | [], n, y2, y3, _ => by
    obtain ⟨t, r, e⟩ := hf a
    show forL [] _ _ (.zt [.int (n : Int), f a] :: numD (post.map f) (n + 1)) _ _ = _
    refine forL_rt rfl (τ1 := [some rows, some (.str x), some (.int n), some (f a)]) (h1 := h) rfl ?_
    unfold l_place_in_1
    simp -implicitDefEqProofs (disch := first | assumption | omega | (simp only [List.length_cons, List.length_nil, List.length_map]; omega)) [e, ha]
  | c :: pre, n, y2, y3, hn => by
    obtain ⟨t, r, e⟩ := hf c
    have hc := hn c List.mem_cons_self
    show forL [] _ _ (.zt [.int (n : Int), f c] :: numD ((pre ++ a :: post).map f) (n + 1)) _ _ = _
    rw [forL_cons rfl (τ1 := [some rows, some (.str x), some (.int n), some (f c)]) (h1 := h) (τ2 := [some rows, some (.str x), some (.int n), some (f c)]) (h2 := h) rfl (by
      unfold l_place_in_1
      simp -implicitDefEqProofs (disch := first | assumption | omega | (simp only [List.length_cons, List.length_nil, List.length_map]; omega)) [e, hc])]
    rw [place_go hf ha pre (n + 1) _ _ fun d hd => hn d (List.mem_cons_of_mem _ hd)]
    rw [List.length_cons, show n + 1 + pre.length = n + (pre.length + 1) by omega]
theorem place_in_ok (hf : ∀ a, ∃ t r, f a = .tup (t :: .str (nm a) :: r)) {xs : List α} {i : Nat} (F : Fst nm xs x i) : F_place_in [.tup (xs.map f), .str x] h = some (.int i, h) := by
  obtain ⟨pre, a, post, rfl, h1, h2, rfl⟩ := F
  have e := place_go (h := h) hf h1 (rows := .tup ((pre ++ a :: post).map f)) (post := post) pre 0 none none h2
  rw [Nat.zero_add] at e
  have g := gc_pure0 (h := h) (d := .int (pre.length : Int)) rfl
  generalize (pre ++ a :: post).map f = rows at e ⊢
  unfold F_place_in b_place_in
  simp -implicitDefEqProofs (disch := first | assumption | omega | (simp only [List.length_cons, List.length_nil, List.length_map]; omega)) [runDef_if]
  rw [e]
  simp -implicitDefEqProofs (disch := first | assumption | omega | (simp only [List.length_cons, List.length_nil, List.length_map]; omega)) [g]
theorem lplace_go (hf : ∀ a, ∃ t r, f a = .tup (t :: .str (nm a) :: r)) {a : α} {post : List α} (ha : nm a = x) {rows : List D} : ∀ (pre don : List α) (m : Nat) (y2 : Option D), rows = (don ++ (pre ++ a :: post)).map f → (∀ c ∈ pre, nm c ≠ x) → pre.length < m →
    forL [] (gN 2) l_law_place_1 (rngD (don.length : Int) m) [some (.tup rows), some (.str x), y2] h = some (.rt (.int ((don.length + pre.length : Nat) : Int)) h)
  | [], don, m + 1, y2, hr, _, hm => by
    obtain ⟨t, r, e⟩ := hf a
    have e2 : rows[don.length]? = some (.tup (t :: .str (nm a) :: r)) := by rw [hr]; simp [e]
    rw [rngD_cons]
    refine forL_rt rfl (τ1 := [some (.tup rows), some (.str x), some (.int don.length)]) (h1 := h) rfl ?_
    unfold l_law_place_1
    simp -implicitDefEqProofs (disch := first | assumption | omega | (simp only [List.length_cons, List.length_nil, List.length_map]; omega)) [e2, ha]
  | c :: pre, don, m + 1, y2, hr, hn, hm => by
    obtain ⟨t, r, e⟩ := hf c
    have hc := hn c List.mem_cons_self
    have e2 : rows[don.length]? = some (.tup (t :: .str (nm c) :: r)) := by rw [hr]; simp [e]
    rw [rngD_cons]
    rw [forL_cons rfl (τ1 := [some (.tup rows), some (.str x), some (.int don.length)]) (h1 := h) (τ2 := [some (.tup rows), some (.str x), some (.int don.length)]) (h2 := h) rfl (by
      unfold l_law_place_1
      simp -implicitDefEqProofs (disch := first | assumption | omega | (simp only [List.length_cons, List.length_nil, List.length_map]; omega)) [e2, hc])]
    have := lplace_go (rows := rows) (post := post) hf ha pre (don ++ [c]) m (some (.int don.length)) (by rw [hr]; simp) (fun d hd => hn d (List.mem_cons_of_mem _ hd)) (by rw [List.length_cons] at hm; omega)
    rw [List.length_append, List.length_singleton] at this
    rw [show (don.length : Int) + 1 = ((don.length + 1 : Nat) : Int) by omega, this, List.length_cons, show don.length + 1 + pre.length = don.length + (pre.length + 1) by omega]
theorem law_place_ok (hf : ∀ a, ∃ t r, f a = .tup (t :: .str (nm a) :: r)) {xs : List α} {i : Nat} (hl : xs.length ≤ 10000) (F : Fst nm xs x i) : F_law_place [.tup (xs.map f), .str x] h = some (.int i, h) := by
  obtain ⟨pre, a, post, rfl, h1, h2, rfl⟩ := F
  have e := lplace_go (h := h) hf h1 (post := post) pre [] ((pre ++ a :: post).map f).length none rfl h2 (by simp)
  have z : ((pre ++ a :: post).map f).length ≤ 4000000000 := by rw [List.length_map]; omega
  rw [List.nil_append, List.length_nil, Nat.zero_add] at e
  have g := gc_pure0 (h := h) (d := .int (pre.length : Int)) rfl
  generalize (pre ++ a :: post).map f = rows at e z ⊢
  unfold F_law_place b_law_place
  simp -implicitDefEqProofs (disch := first | assumption | omega | (simp only [List.length_cons, List.length_nil, List.length_map]; omega)) [runDef_if]
  rw [show (((0 : Nat) : Int)) = 0 from rfl] at e
  rw [e]
  simp -implicitDefEqProofs (disch := first | assumption | omega | (simp only [List.length_cons, List.length_nil, List.length_map]; omega)) [g]
end
theorem Dat.shape : ∀ a : Dat, ∃ t r, a.d = .tup (t :: .str a.nm :: r)
  | .num .. => ⟨_, _, rfl⟩
  | .que .. => ⟨_, _, rfl⟩
theorem Prc.shape (a : Prc) : ∃ t r, a.d = .tup (t :: .str a.nm :: r) := ⟨_, _, rfl⟩
end Sm
namespace Sm
open PySem PySem.Spec PyProof.Rows L2
/-! ## states, expressions -/
inductive Vl where
  | num (i : Int) | que (ns : List Int)
structure Sta where
  pls : List Str
  vls : List Vl
def Vl.d : Vl → D
  | .num i => .int i
  | .que ns => .tup (ns.map D.int)
def Sta.d (s : Sta) : D := .tup [.tup (s.pls.map D.str), .tup (s.vls.map Vl.d)]
/-- a value that fits a datum -/
def Fits : Dat → Vl → Prop
  | .num _ lo hi _, .num i => lo ≤ i ∧ i ≤ hi
  | .que _ room lo hi, .que ns => ns.length ≤ room ∧ ∀ n ∈ ns, lo ≤ n ∧ n ≤ hi
  | _, _ => False
structure StOk (S : Sys) (s : Sta) : Prop where
  np : s.pls.length = S.prcs.length
  nv : s.vls.length = S.dats.length
  pl : ∀ (i : Nat) p l, S.prcs[i]? = some p → s.pls[i]? = some l → l ∈ p.places
  vl : ∀ (i : Nat) d v, S.dats[i]? = some d → s.vls[i]? = some v → Fits d v
theorem StOk.val {S : Sys} {s : Sta} (ok : StOk S s) {i : Nat} {d : Dat} (h : S.dats[i]? = some d) : ∃ v, s.vls[i]? = some v ∧ Fits d v := by
  have hi : i < s.vls.length := by rw [ok.nv]; exact (List.getElem?_eq_some_iff.mp h).1
  exact ⟨s.vls[i], List.getElem?_eq_getElem hi, ok.vl i d _ h (List.getElem?_eq_getElem hi)⟩
theorem StOk.plc {S : Sys} {s : Sta} (ok : StOk S s) {i : Nat} {p : Prc} (h : S.prcs[i]? = some p) : ∃ l, s.pls[i]? = some l ∧ l ∈ p.places := by
  have hi : i < s.pls.length := by rw [ok.np]; exact (List.getElem?_eq_some_iff.mp h).1
  exact ⟨s.pls[i], List.getElem?_eq_getElem hi, ok.pl i p _ h (List.getElem?_eq_getElem hi)⟩
inductive Ex (S : Sys) : Nat → Bool → Nat → D → Prop
  | int {k n i} : i.natAbs ≤ n → Ex S k true n (.tup [.str "int", .int i])
  | name {k n x j} {a : Str} {lo hi fi : Int} : Fst Dat.nm S.dats x j → S.dats[j]? = some (.num a lo hi fi) → lo.natAbs ≤ n → hi.natAbs ≤ n → Ex S k true n (.tup [.str "name", .str x])
  | size {k n x j} {a : Str} {room lo hi : Int} : Fst Dat.nm S.dats x j → S.dats[j]? = some (.que a room lo hi) → room.natAbs ≤ n → Ex S k true n (.tup [.str "size", .str x])
  | add {k n m a b} : Ex S k true n a → Ex S k true m b → Ex S (k + 1) true (n + m) (.tup [.str "+", a, b])
  | sub {k n m a b} : Ex S k true n a → Ex S k true m b → Ex S (k + 1) true (n + m) (.tup [.str "-", a, b])
  | mul {k n m a b} : Ex S k true n a → Ex S k true m b → n ≤ 1000 → m ≤ 1000 → Ex S (k + 1) true (n * m) (.tup [.str "*", a, b])
  | ite {k n c a b} : Ex S k false 0 c → Ex S k true n a → Ex S k true n b → Ex S (k + 1) true n (.tup [.str "if", c, a, b])
  | tru {k} : Ex S k false 0 (.tup [.str "true"])
  | atp {k x j} {p : Prc} {l : Str} : Fst Prc.nm S.prcs x j → S.prcs[j]? = some p → Ex S k false 0 (.tup [.str "at", .str x, .str l])
  | eq {k n m a b} : Ex S k true n a → Ex S k true m b → Ex S (k + 1) false 0 (.tup [.str "=", a, b])
  | lt {k n m a b} : Ex S k true n a → Ex S k true m b → Ex S (k + 1) false 0 (.tup [.str "<", a, b])
  | le {k n m a b} : Ex S k true n a → Ex S k true m b → Ex S (k + 1) false 0 (.tup [.str "<=", a, b])
  | not {k a} : Ex S k false 0 a → Ex S (k + 1) false 0 (.tup [.str "not", a])
  | and {k a b} : Ex S k false 0 a → Ex S k false 0 b → Ex S (k + 1) false 0 (.tup [.str "and", a, b])
  | or {k a b} : Ex S k false 0 a → Ex S k false 0 b → Ex S (k + 1) false 0 (.tup [.str "or", a, b])
def VOk : Bool → Nat → D → Prop
  | true, n, v => ∃ i : Int, v = .int i ∧ i.natAbs ≤ n
  | false, _, v => ∃ b : Bool, v = .bl b
theorem kd_int : ¬ (("int" : Str) ∈ ks_LEVELS) := by decide +kernel
theorem kd_name : ¬ (("name" : Str) ∈ ks_LEVELS) := by decide +kernel
theorem kd_size : ¬ (("size" : Str) ∈ ks_LEVELS) := by decide +kernel
theorem kd_true : ¬ (("true" : Str) ∈ ks_LEVELS) := by decide +kernel
theorem kd_at : ¬ (("at" : Str) ∈ ks_LEVELS) := by decide +kernel
theorem kd_add : ("+" : Str) ∈ ks_LEVELS := by decide +kernel
theorem kd_sub : ("-" : Str) ∈ ks_LEVELS := by decide +kernel
theorem kd_mul : ("*" : Str) ∈ ks_LEVELS := by decide +kernel
theorem kd_if : ("if" : Str) ∈ ks_LEVELS := by decide +kernel
theorem kd_eq : ("=" : Str) ∈ ks_LEVELS := by decide +kernel
theorem kd_lt : ("<" : Str) ∈ ks_LEVELS := by decide +kernel
theorem kd_le : ("<=" : Str) ∈ ks_LEVELS := by decide +kernel
theorem kd_not : ("not" : Str) ∈ ks_LEVELS := by decide +kernel
theorem kd_and : ("and" : Str) ∈ ks_LEVELS := by decide +kernel
theorem kd_or : ("or" : Str) ∈ ks_LEVELS := by decide +kernel
theorem tf_in {x : Str} {h : AH} : oIn (.val (.str x)) (.val (.tup [.str "true", .str "false"])) h = some (.val (.bl ([D.str "true", .str "false"].contains (.str x))), h) := by
  rw [oIn_eq, asQ_tup, inK_some rfl]; rfl
theorem tf_int : [D.str "true", .str "false"].contains (D.str "int") = false := by decide +kernel
theorem tf_name : [D.str "true", .str "false"].contains (D.str "name") = false := by decide +kernel
theorem tf_size : [D.str "true", .str "false"].contains (D.str "size") = false := by decide +kernel
theorem tf_at : [D.str "true", .str "false"].contains (D.str "at") = false := by decide +kernel
theorem tf_true : [D.str "true", .str "false"].contains (D.str "true") = true := by decide +kernel
/-- systems of few things -/
structure Sys.Sm (S : Sys) : Prop where
  nd : S.dats.length ≤ 100
  np : S.prcs.length ≤ 100
/-- what both of them say of an expression -/
def Both (S : Sys) (s : Sta) (k : Nat) (e v : D) : Prop := ∀ (f : Nat) (h : AH), k < f → F_value_of f [S.d, s.d, e] h = some (v, h) ∧ F_law_value f [S.d, s.d, e] h = some (v, h)
section
variable {S : Sys} {s : Sta} {k : Nat}
theorem both_of {e v : D} (h1 : ∀ (f : Nat) (h : AH), k < f + 1 → F_value_of (f + 1) [S.d, s.d, e] h = some (v, h)) (h2 : ∀ (f : Nat) (h : AH), k < f + 1 → F_law_value (f + 1) [S.d, s.d, e] h = some (v, h)) : Both S s k e v := fun f h hf => by
  cases f with
  | zero => omega
  | succ f => exact ⟨h1 f h hf, h2 f h hf⟩
theorem g_int {h : AH} {i : Int} : gc h (.int i) h = (.int i, h) := gc_pure0 rfl
theorem g_bl {h : AH} {i : Bool} : gc h (.bl i) h = (.bl i, h) := gc_pure0 rfl
theorem gj_int {h j : AH} {i : Int} : gc h (.int i) (h ++ j) = (.int i, h) := gc_pure rfl
theorem gj_bl {h j : AH} {i : Bool} : gc h (.bl i) (h ++ j) = (.bl i, h) := gc_pure rfl
theorem b_int {i : Int} : Both S s k (.tup [.str "int", .int i]) (.int i) := both_of
  (fun f h hf => by
    unfold F_value_of b_value_of F_value_of_atom b_value_of_atom
    simp -implicitDefEqProofs (disch := first | assumption | omega | (simp only [List.length_cons, List.length_nil, List.length_map, List.length_set, List.length_append]; omega)) [runDef_if, kd_int, g_int])
  (fun f h hf => by
    unfold F_law_value b_law_value
    simp -implicitDefEqProofs (disch := first | assumption | omega | (simp only [List.length_cons, List.length_nil, List.length_map, List.length_set, List.length_append]; omega)) [runDef_if, g_int])
theorem b_tru : Both S s k (.tup [.str "true"]) (.bl true) := both_of
  (fun f h hf => by
    unfold F_value_of b_value_of F_value_of_atom b_value_of_atom
    simp -implicitDefEqProofs (disch := first | assumption | omega | (simp only [List.length_cons, List.length_nil, List.length_map, List.length_set, List.length_append]; omega)) [runDef_if, kd_true, g_bl, tf_in, tf_true, -oIn_eq])
  (fun f h hf => by
    unfold F_law_value b_law_value
    simp -implicitDefEqProofs (disch := first | assumption | omega | (simp only [List.length_cons, List.length_nil, List.length_map, List.length_set, List.length_append]; omega)) [runDef_if, g_bl])
theorem b_name {x : Str} {j : Nat} {i : Int} (F : Fst Dat.nm S.dats x j) (nd : S.dats.length ≤ 100) (hv : s.vls[j]? = some (.num i)) : Both S s k (.tup [.str "name", .str x]) (.int i) := both_of
  (fun f h hf => by
    have hv2 : (s.vls.map Vl.d)[j]? = some (.int i) := by rw [List.getElem?_map, hv]; rfl
    have pi1 := fun (h : AH) => place_in_ok (h := h) Dat.shape F
    unfold F_value_of b_value_of F_value_of_atom b_value_of_atom
    simp -implicitDefEqProofs (disch := first | assumption | omega | (simp only [List.length_cons, List.length_nil, List.length_map, List.length_set, List.length_append]; omega)) [runDef_if, kd_name, g_int, Sys.d, Sta.d, pi1, hv, hv2, tf_in, tf_name, Vl.d, -oIn_eq])
  (fun f h hf => by
    have hv2 : (s.vls.map Vl.d)[j]? = some (.int i) := by rw [List.getElem?_map, hv]; rfl
    have pl1 := fun (h : AH) => law_place_ok (h := h) Dat.shape (by omega) F
    unfold F_law_value b_law_value
    simp -implicitDefEqProofs (disch := first | assumption | omega | (simp only [List.length_cons, List.length_nil, List.length_map, List.length_set, List.length_append]; omega)) [runDef_if, g_int, Sys.d, Sta.d, pl1, hv, hv2, Vl.d])
theorem b_size {x : Str} {j : Nat} {ns : List Int} (F : Fst Dat.nm S.dats x j) (nd : S.dats.length ≤ 100) (hv : s.vls[j]? = some (.que ns)) : Both S s k (.tup [.str "size", .str x]) (.int ns.length) := both_of
  (fun f h hf => by
    have hv2 : (s.vls.map Vl.d)[j]? = some (.tup (ns.map D.int)) := by rw [List.getElem?_map, hv]; rfl
    have pi1 := fun (h : AH) => place_in_ok (h := h) Dat.shape F
    unfold F_value_of b_value_of F_value_of_atom b_value_of_atom
    simp -implicitDefEqProofs (disch := first | assumption | omega | (simp only [List.length_cons, List.length_nil, List.length_map, List.length_set, List.length_append]; omega)) [runDef_if, kd_size, g_int, Sys.d, Sta.d, pi1, hv, hv2, tf_in, tf_size, Vl.d, -oIn_eq])
  (fun f h hf => by
    have hv2 : (s.vls.map Vl.d)[j]? = some (.tup (ns.map D.int)) := by rw [List.getElem?_map, hv]; rfl
    have pl1 := fun (h : AH) => law_place_ok (h := h) Dat.shape (by omega) F
    unfold F_law_value b_law_value
    simp -implicitDefEqProofs (disch := first | assumption | omega | (simp only [List.length_cons, List.length_nil, List.length_map, List.length_set, List.length_append]; omega)) [runDef_if, g_int, Sys.d, Sta.d, pl1, hv, hv2, Vl.d])
theorem b_at {x l l' : Str} {j : Nat} (F : Fst Prc.nm S.prcs x j) (np : S.prcs.length ≤ 100) (hl : s.pls[j]? = some l') : Both S s k (.tup [.str "at", .str x, .str l]) (.bl (decide (l' = l))) := both_of
  (fun f h hf => by
    have pi2 := fun (h : AH) => place_in_ok (h := h) Prc.shape F
    unfold F_value_of b_value_of F_value_of_atom b_value_of_atom
    simp -implicitDefEqProofs (disch := first | assumption | omega | (simp only [List.length_cons, List.length_nil, List.length_map, List.length_set, List.length_append]; omega)) [runDef_if, kd_at, g_bl, Sys.d, Sta.d, pi2, hl, tf_in, tf_at, -oIn_eq])
  (fun f h hf => by
    have pl2 := fun (h : AH) => law_place_ok (h := h) Prc.shape (by omega) F
    unfold F_law_value b_law_value
    simp -implicitDefEqProofs (disch := first | assumption | omega | (simp only [List.length_cons, List.length_nil, List.length_map, List.length_set, List.length_append]; omega)) [runDef_if, g_bl, Sys.d, Sta.d, pl2, hl])
theorem b_add {a b : D} {x y : Int} (e1 : Both S s k a (.int x)) (e2 : Both S s k b (.int y)) : Both S s (k + 1) (.tup [.str "+", a, b]) (.int (x + y)) := both_of
  (fun f h hf => by
    have p1 := fun h => (e1 f h (by omega)).1
    have p2 := fun h => (e2 f h (by omega)).1
    unfold F_value_of b_value_of
    simp -implicitDefEqProofs (disch := first | assumption | omega | (simp only [List.length_cons, List.length_nil, List.length_map, List.length_set, List.length_append]; omega)) [runDef_if, kd_add, g_int, cut_from1, compL_cons', compL_nil', p1, p2, F_compared, b_compared, gj_int])
  (fun f h hf => by
    have q1 := fun h => (e1 f h (by omega)).2
    have q2 := fun h => (e2 f h (by omega)).2
    unfold F_law_value b_law_value
    simp -implicitDefEqProofs (disch := first | assumption | omega | (simp only [List.length_cons, List.length_nil, List.length_map, List.length_set, List.length_append]; omega)) [runDef_if, g_int, q1, q2])
theorem b_sub {a b : D} {x y : Int} (e1 : Both S s k a (.int x)) (e2 : Both S s k b (.int y)) : Both S s (k + 1) (.tup [.str "-", a, b]) (.int (x - y)) := both_of
  (fun f h hf => by
    have p1 := fun h => (e1 f h (by omega)).1
    have p2 := fun h => (e2 f h (by omega)).1
    unfold F_value_of b_value_of
    simp -implicitDefEqProofs (disch := first | assumption | omega | (simp only [List.length_cons, List.length_nil, List.length_map, List.length_set, List.length_append]; omega)) [runDef_if, kd_sub, g_int, cut_from1, compL_cons', compL_nil', p1, p2, F_compared, b_compared, gj_int])
  (fun f h hf => by
    have q1 := fun h => (e1 f h (by omega)).2
    have q2 := fun h => (e2 f h (by omega)).2
    unfold F_law_value b_law_value
    simp -implicitDefEqProofs (disch := first | assumption | omega | (simp only [List.length_cons, List.length_nil, List.length_map, List.length_set, List.length_append]; omega)) [runDef_if, g_int, q1, q2])
theorem b_mul {a b : D} {x y : Int} (e1 : Both S s k a (.int x)) (e2 : Both S s k b (.int y)) (z1 : -18446744073709551616 < x) (z2 : x < 18446744073709551616) : Both S s (k + 1) (.tup [.str "*", a, b]) (.int (x * y)) := both_of
  (fun f h hf => by
    have p1 := fun h => (e1 f h (by omega)).1
    have p2 := fun h => (e2 f h (by omega)).1
    unfold F_value_of b_value_of
    simp -implicitDefEqProofs (disch := first | assumption | omega | (simp only [List.length_cons, List.length_nil, List.length_map, List.length_set, List.length_append]; omega)) [runDef_if, kd_mul, g_int, cut_from1, compL_cons', compL_nil', p1, p2, F_compared, b_compared, gj_int])
  (fun f h hf => by
    have q1 := fun h => (e1 f h (by omega)).2
    have q2 := fun h => (e2 f h (by omega)).2
    unfold F_law_value b_law_value
    simp -implicitDefEqProofs (disch := first | assumption | omega | (simp only [List.length_cons, List.length_nil, List.length_map, List.length_set, List.length_append]; omega)) [runDef_if, g_int, q1, q2])
theorem b_eq {a b : D} {x y : Int} (e1 : Both S s k a (.int x)) (e2 : Both S s k b (.int y)) : Both S s (k + 1) (.tup [.str "=", a, b]) (.bl (decide (x = y))) := both_of
  (fun f h hf => by
    have p1 := fun h => (e1 f h (by omega)).1
    have p2 := fun h => (e2 f h (by omega)).1
    unfold F_value_of b_value_of
    simp -implicitDefEqProofs (disch := first | assumption | omega | (simp only [List.length_cons, List.length_nil, List.length_map, List.length_set, List.length_append]; omega)) [runDef_if, kd_eq, g_bl, cut_from1, compL_cons', compL_nil', p1, p2, F_compared, b_compared, gj_bl])
  (fun f h hf => by
    have q1 := fun h => (e1 f h (by omega)).2
    have q2 := fun h => (e2 f h (by omega)).2
    unfold F_law_value b_law_value
    simp -implicitDefEqProofs (disch := first | assumption | omega | (simp only [List.length_cons, List.length_nil, List.length_map, List.length_set, List.length_append]; omega)) [runDef_if, g_bl, q1, q2])
theorem b_lt {a b : D} {x y : Int} (e1 : Both S s k a (.int x)) (e2 : Both S s k b (.int y)) : Both S s (k + 1) (.tup [.str "<", a, b]) (.bl (decide (x < y))) := both_of
  (fun f h hf => by
    have p1 := fun h => (e1 f h (by omega)).1
    have p2 := fun h => (e2 f h (by omega)).1
    unfold F_value_of b_value_of
    simp -implicitDefEqProofs (disch := first | assumption | omega | (simp only [List.length_cons, List.length_nil, List.length_map, List.length_set, List.length_append]; omega)) [runDef_if, kd_lt, g_bl, cut_from1, compL_cons', compL_nil', p1, p2, F_compared, b_compared, gj_bl])
  (fun f h hf => by
    have q1 := fun h => (e1 f h (by omega)).2
    have q2 := fun h => (e2 f h (by omega)).2
    unfold F_law_value b_law_value
    simp -implicitDefEqProofs (disch := first | assumption | omega | (simp only [List.length_cons, List.length_nil, List.length_map, List.length_set, List.length_append]; omega)) [runDef_if, g_bl, q1, q2])
theorem b_le {a b : D} {x y : Int} (e1 : Both S s k a (.int x)) (e2 : Both S s k b (.int y)) : Both S s (k + 1) (.tup [.str "<=", a, b]) (.bl (decide (x ≤ y))) := both_of
  (fun f h hf => by
    have p1 := fun h => (e1 f h (by omega)).1
    have p2 := fun h => (e2 f h (by omega)).1
    unfold F_value_of b_value_of
    simp -implicitDefEqProofs (disch := first | assumption | omega | (simp only [List.length_cons, List.length_nil, List.length_map, List.length_set, List.length_append]; omega)) [runDef_if, kd_le, g_bl, cut_from1, compL_cons', compL_nil', p1, p2, F_compared, b_compared, gj_bl])
  (fun f h hf => by
    have q1 := fun h => (e1 f h (by omega)).2
    have q2 := fun h => (e2 f h (by omega)).2
    unfold F_law_value b_law_value
    simp -implicitDefEqProofs (disch := first | assumption | omega | (simp only [List.length_cons, List.length_nil, List.length_map, List.length_set, List.length_append]; omega)) [runDef_if, g_bl, q1, q2])
theorem b_and {a b : D} {x y : Bool} (e1 : Both S s k a (.bl x)) (e2 : Both S s k b (.bl y)) : Both S s (k + 1) (.tup [.str "and", a, b]) (.bl (x && y)) := both_of
  (fun f h hf => by
    have p1 := fun h => (e1 f h (by omega)).1
    have p2 := fun h => (e2 f h (by omega)).1
    unfold F_value_of b_value_of
    cases x <;> simp -implicitDefEqProofs (disch := first | assumption | omega | (simp only [List.length_cons, List.length_nil, List.length_map, List.length_set, List.length_append]; omega)) [runDef_if, kd_and, g_bl, cut_from1, compL_cons', compL_nil', p1, p2, F_compared, b_compared, gj_bl])
  (fun f h hf => by
    have q1 := fun h => (e1 f h (by omega)).2
    have q2 := fun h => (e2 f h (by omega)).2
    unfold F_law_value b_law_value
    cases x <;> simp -implicitDefEqProofs (disch := first | assumption | omega | (simp only [List.length_cons, List.length_nil, List.length_map, List.length_set, List.length_append]; omega)) [runDef_if, g_bl, q1, q2])
theorem b_or {a b : D} {x y : Bool} (e1 : Both S s k a (.bl x)) (e2 : Both S s k b (.bl y)) : Both S s (k + 1) (.tup [.str "or", a, b]) (.bl (x || y)) := both_of
  (fun f h hf => by
    have p1 := fun h => (e1 f h (by omega)).1
    have p2 := fun h => (e2 f h (by omega)).1
    unfold F_value_of b_value_of
    cases x <;> simp -implicitDefEqProofs (disch := first | assumption | omega | (simp only [List.length_cons, List.length_nil, List.length_map, List.length_set, List.length_append]; omega)) [runDef_if, kd_or, g_bl, cut_from1, compL_cons', compL_nil', p1, p2, F_compared, b_compared, gj_bl])
  (fun f h hf => by
    have q1 := fun h => (e1 f h (by omega)).2
    have q2 := fun h => (e2 f h (by omega)).2
    unfold F_law_value b_law_value
    cases x <;> simp -implicitDefEqProofs (disch := first | assumption | omega | (simp only [List.length_cons, List.length_nil, List.length_map, List.length_set, List.length_append]; omega)) [runDef_if, g_bl, q1, q2])
theorem b_not {a : D} {x : Bool} (e1 : Both S s k a (.bl x)) : Both S s (k + 1) (.tup [.str "not", a]) (.bl (!x)) := both_of
  (fun f h hf => by
    have p1 := fun h => (e1 f h (by omega)).1
    unfold F_value_of b_value_of
    simp -implicitDefEqProofs (disch := first | assumption | omega | (simp only [List.length_cons, List.length_nil, List.length_map, List.length_set, List.length_append]; omega)) [runDef_if, kd_not, g_bl, cut_from1, compL_cons', compL_nil', p1, gj_bl])
  (fun f h hf => by
    have q1 := fun h => (e1 f h (by omega)).2
    unfold F_law_value b_law_value
    simp -implicitDefEqProofs (disch := first | assumption | omega | (simp only [List.length_cons, List.length_nil, List.length_map, List.length_set, List.length_append]; omega)) [runDef_if, g_bl, q1])
theorem b_ite {c a b : D} {t : Bool} {x y : Int} (e0 : Both S s k c (.bl t)) (e1 : Both S s k a (.int x)) (e2 : Both S s k b (.int y)) : Both S s (k + 1) (.tup [.str "if", c, a, b]) (.int (if t = true then x else y)) := both_of
  (fun f h hf => by
    have p0 := fun h => (e0 f h (by omega)).1
    have p1 := fun h => (e1 f h (by omega)).1
    have p2 := fun h => (e2 f h (by omega)).1
    unfold F_value_of b_value_of
    cases t <;> simp -implicitDefEqProofs (disch := first | assumption | omega | (simp only [List.length_cons, List.length_nil, List.length_map, List.length_set, List.length_append]; omega)) [runDef_if, kd_if, g_int, cut_from1, compL_cons', compL_nil', p0, p1, p2, gj_int])
  (fun f h hf => by
    have q0 := fun h => (e0 f h (by omega)).2
    have q1 := fun h => (e1 f h (by omega)).2
    have q2 := fun h => (e2 f h (by omega)).2
    unfold F_law_value b_law_value
    cases t <;> simp -implicitDefEqProofs (disch := first | assumption | omega | (simp only [List.length_cons, List.length_nil, List.length_map, List.length_set, List.length_append]; omega)) [runDef_if, g_int, q0, q1, q2])
end
theorem val_both {S : Sys} {s : Sta} (sm : S.Sm) (ok : StOk S s) {k : Nat} {ty : Bool} {n : Nat} {e : D} (E : Ex S k ty n e) : ∃ v, VOk ty n v ∧ Both S s k e v := by
  induction E with
  | int hi => exact ⟨_, ⟨_, rfl, hi⟩, b_int⟩
  | @name k n x j a lo hi fi F hd h1 h2 =>
    obtain ⟨v, hv, fit⟩ := ok.val hd
    cases v with
    | que ns => exact fit.elim
    | num i =>
      have ft : lo ≤ i ∧ i ≤ hi := fit
      exact ⟨_, ⟨i, rfl, by omega⟩, b_name F sm.nd hv⟩
  | @size k n x j a room lo hi F hd h1 =>
    obtain ⟨v, hv, fit⟩ := ok.val hd
    cases v with
    | num i => exact fit.elim
    | que ns =>
      have ft : (ns.length : Int) ≤ room := fit.1
      exact ⟨_, ⟨_, rfl, by omega⟩, b_size F sm.nd hv⟩
  | tru => exact ⟨_, ⟨_, rfl⟩, b_tru⟩
  | atp F hp =>
    obtain ⟨l', hl, _⟩ := ok.plc hp
    exact ⟨_, ⟨_, rfl⟩, b_at F sm.np hl⟩
  | add _ _ i1 i2 =>
    obtain ⟨v, ⟨x, rfl, hx⟩, e1⟩ := i1
    obtain ⟨w, ⟨y, rfl, hy⟩, e2⟩ := i2
    exact ⟨_, ⟨_, rfl, by omega⟩, b_add e1 e2⟩
  | sub _ _ i1 i2 =>
    obtain ⟨v, ⟨x, rfl, hx⟩, e1⟩ := i1
    obtain ⟨w, ⟨y, rfl, hy⟩, e2⟩ := i2
    exact ⟨_, ⟨_, rfl, by omega⟩, b_sub e1 e2⟩
  | mul _ _ hn hm i1 i2 =>
    obtain ⟨v, ⟨x, rfl, hx⟩, e1⟩ := i1
    obtain ⟨w, ⟨y, rfl, hy⟩, e2⟩ := i2
    exact ⟨_, ⟨_, rfl, by rw [Int.natAbs_mul]; exact Nat.mul_le_mul hx hy⟩, b_mul e1 e2 (by omega) (by omega)⟩
  | ite _ _ _ i0 i1 i2 =>
    obtain ⟨u, ⟨t, rfl⟩, e0⟩ := i0
    obtain ⟨v, ⟨x, rfl, hx⟩, e1⟩ := i1
    obtain ⟨w, ⟨y, rfl, hy⟩, e2⟩ := i2
    exact ⟨_, ⟨_, rfl, by split <;> assumption⟩, b_ite e0 e1 e2⟩
  | eq _ _ i1 i2 =>
    obtain ⟨v, ⟨x, rfl, hx⟩, e1⟩ := i1
    obtain ⟨w, ⟨y, rfl, hy⟩, e2⟩ := i2
    exact ⟨_, ⟨_, rfl⟩, b_eq e1 e2⟩
  | lt _ _ i1 i2 =>
    obtain ⟨v, ⟨x, rfl, hx⟩, e1⟩ := i1
    obtain ⟨w, ⟨y, rfl, hy⟩, e2⟩ := i2
    exact ⟨_, ⟨_, rfl⟩, b_lt e1 e2⟩
  | le _ _ i1 i2 =>
    obtain ⟨v, ⟨x, rfl, hx⟩, e1⟩ := i1
    obtain ⟨w, ⟨y, rfl, hy⟩, e2⟩ := i2
    exact ⟨_, ⟨_, rfl⟩, b_le e1 e2⟩
  | not _ i1 =>
    obtain ⟨v, ⟨x, rfl⟩, e1⟩ := i1
    exact ⟨_, ⟨_, rfl⟩, b_not e1⟩
  | and _ _ i1 i2 =>
    obtain ⟨v, ⟨x, rfl⟩, e1⟩ := i1
    obtain ⟨w, ⟨y, rfl⟩, e2⟩ := i2
    exact ⟨_, ⟨_, rfl⟩, b_and e1 e2⟩
  | or _ _ i1 i2 =>
    obtain ⟨v, ⟨x, rfl⟩, e1⟩ := i1
    obtain ⟨w, ⟨y, rfl⟩, e2⟩ := i2
    exact ⟨_, ⟨_, rfl⟩, b_or e1 e2⟩
end Sm
namespace Sm
open PySem PySem.Spec PyProof.Rows L2
/-! ## is_value -/
theorem iw_int {h : AH} {i : Int} : F_is_whole [.int i] h = some (.bl true, h) := by
  unfold F_is_whole b_is_whole
  simp -implicitDefEqProofs (disch := first | assumption | omega | (simp only [List.length_cons, List.length_nil, List.length_map, List.length_set, List.length_append]; omega)) [runDef_if, g_bl]
theorem iw_bl {h : AH} {b : Bool} : F_is_whole [.bl b] h = some (.bl false, h) := by
  unfold F_is_whole b_is_whole
  simp -implicitDefEqProofs (disch := first | assumption | omega | (simp only [List.length_cons, List.length_nil, List.length_map, List.length_set, List.length_append]; omega)) [runDef_if, g_bl]
theorem iw_tup {h : AH} {ds : List D} : F_is_whole [.tup ds] h = some (.bl false, h) := by
  unfold F_is_whole b_is_whole
  simp -implicitDefEqProofs (disch := first | assumption | omega | (simp only [List.length_cons, List.length_nil, List.length_map, List.length_set, List.length_append]; omega)) [runDef_if, g_bl]
theorem iv_num {h : AH} {nm : Str} {lo hi fi i : Int} : F_is_value [Dat.d (.num nm lo hi fi), .int i] h = some (.bl (decide (lo ≤ i ∧ i ≤ hi)), h) := by
  unfold F_is_value b_is_value Dat.d
  simp -implicitDefEqProofs (disch := first | assumption | omega | (simp only [List.length_cons, List.length_nil, List.length_map, List.length_set, List.length_append]; omega)) [runDef_if, iw_int]
  by_cases c : lo ≤ i <;> simp -implicitDefEqProofs (disch := first | assumption | omega | (simp only [List.length_cons, List.length_nil, List.length_map, List.length_set, List.length_append]; omega)) [c, g_bl]
theorem iv_num_bl {h : AH} {nm : Str} {lo hi fi : Int} {b : Bool} : F_is_value [Dat.d (.num nm lo hi fi), .bl b] h = some (.bl false, h) := by
  unfold F_is_value b_is_value Dat.d
  simp -implicitDefEqProofs (disch := first | assumption | omega | (simp only [List.length_cons, List.length_nil, List.length_map, List.length_set, List.length_append]; omega)) [runDef_if, iw_bl, g_bl]
theorem iv_num_tup {h : AH} {nm : Str} {lo hi fi : Int} {ds : List D} : F_is_value [Dat.d (.num nm lo hi fi), .tup ds] h = some (.bl false, h) := by
  unfold F_is_value b_is_value Dat.d
  simp -implicitDefEqProofs (disch := first | assumption | omega | (simp only [List.length_cons, List.length_nil, List.length_map, List.length_set, List.length_append]; omega)) [runDef_if, iw_tup, g_bl]
theorem iv_que_int {h : AH} {nm : Str} {room lo hi i : Int} : F_is_value [Dat.d (.que nm room lo hi), .int i] h = some (.bl false, h) := by
  unfold F_is_value b_is_value Dat.d
  simp -implicitDefEqProofs (disch := first | assumption | omega | (simp only [List.length_cons, List.length_nil, List.length_map, List.length_set, List.length_append]; omega)) [runDef_if, g_bl]
@[simp] theorem tyN_zt {h : AH} {ds : List D} : tyN (.val (.zt ds)) h = some "tuple" := rfl
@[simp] theorem oLen_zt {h : AH} {ds : List D} : oLen [.val (.zt ds)] h = some (.val (.int ds.length), h) := rfl
@[simp] theorem iterOf_zt {h : AH} {ds : List D} : iterOf (.val (.zt ds)) h = some ⟨ds, []⟩ := rfl
theorem iv_que_long {h : AH} {nm : Str} {room lo hi : Int} {ds : List D} (c : room < ds.length) : F_is_value [Dat.d (.que nm room lo hi), .zt ds] h = some (.bl false, h) := by
  unfold F_is_value b_is_value Dat.d
  simp -implicitDefEqProofs (disch := first | assumption | omega | (simp only [List.length_cons, List.length_nil, List.length_map, List.length_set, List.length_append]; omega)) [runDef_if, g_bl, c]
def allK (o : Option (List D)) (h : AH) : Option (LV × AH) := o.bind fun ds => (bls ds).bind fun bs => some (.val (.bl (bs.all id)), h)
def allK2 (o : Option (List Bool)) (h : AH) : Option (LV × AH) := o.bind fun bs => some (.val (.bl (bs.all id)), h)
@[simp] theorem oAll_new {h : AH} {ds : List D} : oAll [.new ds] h = allK (some ds) h := rfl
@[simp] theorem oAll_ref {h : AH} {a : Nat} : oAll [.val (.ref a)] h = allK (lsK h[a]?) h := rfl
@[simp] theorem allK_some {h : AH} {ds : List D} : allK (some ds) h = allK2 (bls ds) h := rfl
def allB (bs : List Bool) : Bool := bs.all id
@[simp] theorem allK2_some {h : AH} {bs : List Bool} : allK2 (some bs) h = some (.val (.bl (allB bs)), h) := rfl
theorem blsM {α : Type} (f : α → Bool) : ∀ xs : List α, bls (xs.map fun x => D.bl (f x)) = some (xs.map f)
  | [] => rfl
  | x :: r => by
    rw [List.map_cons]
    show ((bls (r.map fun x => D.bl (f x))).bind fun s => some (f x :: s)) = _
    rw [blsM f r]
    rfl
theorem iv_que {h : AH} {nm : Str} {room lo hi : Int} {ns : List Int} (hl : ns.length ≤ 10000) : F_is_value [Dat.d (.que nm room lo hi), .tup (ns.map D.int)] h = some (.bl (decide ((ns.length : Int) ≤ room) && ns.all fun i => decide (lo ≤ i ∧ i ≤ hi)), h) := by
  unfold F_is_value b_is_value Dat.d
  simp -implicitDefEqProofs (disch := first | assumption | omega | (simp only [List.length_cons, List.length_nil, List.length_map, List.length_set, List.length_append]; omega)) [runDef_if]
  by_cases c : room < (ns.length : Int)
  · have c2 : ¬ ((ns.length : Int) ≤ room) := by omega
    simp -implicitDefEqProofs (disch := first | assumption | omega | (simp only [List.length_cons, List.length_nil, List.length_map, List.length_set, List.length_append]; omega)) [c, c2, g_bl]
  · have c2 : ((ns.length : Int) ≤ room) := by omega
    have c3 : ns.length ≤ 16777216 := by omega
    simp -implicitDefEqProofs (disch := first | assumption | omega | (simp only [List.length_cons, List.length_nil, List.length_map, List.length_set, List.length_append]; omega)) [c]
    rw [compL_mapT (t := D.int) (fun i : Int => .bl (decide (lo ≤ i ∧ i ≤ hi))) rfl _ (fun i hi => by
      refine ⟨_, rfl, ?_⟩
      simp -implicitDefEqProofs (disch := first | assumption | omega | (simp only [List.length_cons, List.length_nil, List.length_map, List.length_set, List.length_append]; omega)) [iw_int]
      by_cases d : lo ≤ i <;> simp -implicitDefEqProofs (disch := first | assumption | omega | (simp only [List.length_cons, List.length_nil, List.length_map, List.length_set, List.length_append]; omega)) [d])]
    have e := blsM (fun i : Int => decide (lo ≤ i ∧ i ≤ hi)) ns
    simp only [Bool.decide_and] at e
    simp -implicitDefEqProofs (disch := first | assumption | omega | (simp only [List.length_cons, List.length_nil, List.length_map, List.length_set, List.length_append]; omega)) [c3, e, c2, g_bl, allB]
/-! ## with_value -/
def Sta.setV (s : Sta) (i : Nat) (v : Vl) : Sta := ⟨s.pls, s.vls.set i v⟩
theorem lows_ints {n : Nat} (ns : List Int) : D.lows n (ns.map D.int) = true := lows_map (fun _ => rfl) _
theorem lows_strs {n : Nat} (ns : List Str) : D.lows n (ns.map D.str) = true := lows_map (fun _ => rfl) _
theorem vl_low {n : Nat} (v : Vl) : v.d.low n = true := by
  cases v with
  | num i => rfl
  | que ns => unfold Vl.d; rw [low_tup]; exact lows_ints ns
theorem sta_low {n : Nat} (s : Sta) : s.d.low n = true := by
  unfold Sta.d
  simp [lows_strs, lows_map vl_low]
theorem with_value_ok {h : AH} {s : Sta} {i : Nat} {v : Vl} (hi : i < s.vls.length) (hl : s.vls.length ≤ 100) : F_with_value [s.d, .int i, v.d] h = some ((s.setV i v).d, h) := by
  have e1 : cutA (s.vls.map Vl.d) none (some (i : Int)) = (s.vls.map Vl.d).take i := cut_to (by rw [List.length_map]; omega)
  have e2 : cutA (s.vls.map Vl.d) (some ((i : Int) + 1)) none = (s.vls.map Vl.d).drop (i + 1) := by
    rw [show (i : Int) + 1 = ((i + 1 : Nat) : Int) by omega]
    exact cut_from (by rw [List.length_map]; omega)
  have e3 : (s.vls.map Vl.d).take i ++ v.d :: (s.vls.map Vl.d).drop (i + 1) = (s.vls.set i v).map Vl.d := by
    rw [set_split (by rw [List.length_map]; exact hi), List.map_set]
  have g := gc_pure0 (h := h) (d := (s.setV i v).d) (sta_low _)
  have n1 : ((s.vls.map Vl.d).take i).length + 1 ≤ 16777216 := by rw [List.length_take, List.length_map]; omega
  have n2 : ((s.vls.map Vl.d).take i).length + ([v.d].length + ((s.vls.map Vl.d).drop (i + 1)).length) ≤ 16777216 := by rw [List.length_take, List.length_drop, List.length_map, List.length_singleton]; omega
  have n3 : ((s.vls.map Vl.d).take i ++ [v.d]).length + ((s.vls.map Vl.d).drop (i + 1)).length ≤ 16777216 := by rw [List.length_append, List.length_take, List.length_drop, List.length_map, List.length_singleton]; omega
  unfold F_with_value b_with_value
  generalize hx : s.vls.map Vl.d = xs at *
  unfold Sta.d
  rw [hx]
  unfold Sta.d at g
  have n4 : min i xs.length ≤ 16777215 := by rw [← hx, List.length_map]; omega
  have n5 : min i xs.length + 1 + (xs.length - (i + 1)) ≤ 16777216 := by rw [← hx, List.length_map]; omega
  simp -implicitDefEqProofs (disch := first | assumption | omega | (simp only [List.length_cons, List.length_nil, List.length_map, List.length_set, List.length_append]; omega)) [runDef_if, e1, e2, n4, n5]
  rw [e3]
  exact g
theorem StOk.set {S : Sys} {s : Sta} (ok : StOk S s) {i : Nat} {d : Dat} {v : Vl} (h : S.dats[i]? = some d) (f : Fits d v) : StOk S (s.setV i v) where
  np := ok.np
  nv := by unfold Sta.setV; simp [ok.nv]
  pl := ok.pl
  vl := fun j e w h1 h2 => by
    unfold Sta.setV at h2
    by_cases hij : i = j
    · subst hij
      have hi : i < s.vls.length := by rw [ok.nv]; exact (List.getElem?_eq_some_iff.mp h).1
      rw [List.getElem?_set_self hi] at h2
      cases h2
      rw [h] at h1
      cases h1
      exact f
    · rw [List.getElem?_set_ne hij] at h2
      exact ok.vl j e w h1 h2
/-! ## deeds -/
inductive DeedOk (S : Sys) : D → Prop
  | set {x e k n j} {a : Str} {lo hi fi : Int} : Fst Dat.nm S.dats x j → S.dats[j]? = some (.num a lo hi fi) → Ex S k true n e → k < 7 → DeedOk S (.tup [.str "set", .str x, e])
  | put {x e k n j} {a : Str} {room lo hi : Int} : Fst Dat.nm S.dats x j → S.dats[j]? = some (.que a room lo hi) → room ≤ 100 → Ex S k true n e → k < 7 → DeedOk S (.tup [.str "put", .str x, e])
  | take {x y i j} {a a' : Str} {room lo hi lo' hi' fi' : Int} : Fst Dat.nm S.dats x j → S.dats[j]? = some (.que a room lo hi) → room ≤ 100 → Fst Dat.nm S.dats y i → S.dats[i]? = some (.num a' lo' hi' fi') → DeedOk S (.tup [.str "take", .str x, .str y])
/-- what both of them say of a deed -/
def Done (S : Sys) (s : Sta) (e r : D) : Prop := ∀ (h : AH), F_deed_done [S.d, s.d, e] h = some (r, h) ∧ F_law_done [S.d, s.d, e] h = some (r, h)
def DoneR (S : Sys) (r : D) : Prop := r = .non ∨ ∃ s, StOk S s ∧ r = s.d
theorem gc_st {h j : AH} {s : Sta} : gc h s.d (h ++ j) = (s.d, h) := gc_pure (sta_low s)
theorem gc_st0 {h : AH} {s : Sta} : gc h s.d h = (s.d, h) := gc_pure0 (sta_low s)
theorem gc_non {h j : AH} : gc h .non (h ++ j) = (.non, h) := gc_pure rfl
theorem gc_non0 {h : AH} : gc h .non h = (.non, h) := gc_pure0 rfl
theorem done_set {S : Sys} {s : Sta} (sm : S.Sm) (ok : StOk S s) {x : Str} {e : D} {k n j : Nat} {a : Str} {lo hi fi : Int} (F : Fst Dat.nm S.dats x j) (hd : S.dats[j]? = some (.num a lo hi fi)) (E : Ex S k true n e) (hk : k < 7) :
    ∃ r, DoneR S r ∧ Done S s (.tup [.str "set", .str x, e]) r := by
  obtain ⟨v, ⟨i, rfl, hi2⟩, eb⟩ := val_both sm ok E
  have b1 := fun h => (eb 8 h (by omega)).1
  have b2 := fun h => (eb 8 h (by omega)).2
  have pi1 := fun (h : AH) => place_in_ok (h := h) Dat.shape F
  have pl1 := fun (h : AH) => law_place_ok (h := h) Dat.shape (by have := sm.nd; omega) F
  have hd2 : (S.dats.map Dat.d)[j]? = some (Dat.d (.num a lo hi fi)) := by rw [List.getElem?_map, hd]; rfl
  have hj : j < s.vls.length := by rw [ok.nv]; exact (List.getElem?_eq_some_iff.mp hd).1
  have hl : s.vls.length ≤ 100 := by rw [ok.nv]; exact sm.nd
  have wv := fun (h : AH) => with_value_ok (h := h) (v := .num i) hj hl
  have hl2 : s.vls.length ≤ 16777216 := by omega
  by_cases c : lo ≤ i ∧ i ≤ hi
  · refine ⟨_, .inr ⟨_, ok.set (v := .num i) hd c, rfl⟩, fun h => ⟨?_, ?_⟩⟩
    · unfold F_deed_done b_deed_done F_set_done b_set_done
      unfold Sys.d at b1 ⊢
      have wv1 := wv h
      unfold Sta.d at b1 wv1 ⊢
      rw [show (Vl.num i).d = D.int i from rfl] at wv1
      have g := gc_st0 (h := h) (s := s.setV j (.num i))
      unfold Sta.d at g
      simp -implicitDefEqProofs (disch := first | assumption | omega | (simp only [List.length_cons, List.length_nil, List.length_map, List.length_set, List.length_append]; omega)) [runDef_if, pi1, b1, hd2, iv_num, c, -List.getElem?_map, wv1, g]
    · have c1 : ¬ i < lo := by omega
      have c2 : ¬ hi < i := by omega
      have hj2 : (j : Int) < (s.vls.length : Int) := by omega
      unfold F_law_done b_law_done
      unfold Sys.d at b2 ⊢
      unfold Sta.d at b2 ⊢
      simp -implicitDefEqProofs (disch := first | assumption | omega | (simp only [List.length_cons, List.length_nil, List.length_map, List.length_set, List.length_append]; omega)) [runDef_if, pl1, b2, hd2, c1, c2, hl2, -List.getElem?_map, Dat.d, hj2]
      have e4 : (s.vls.map Vl.d).set j (D.int i) = (s.vls.set j (.num i)).map Vl.d := by rw [List.map_set]; rfl
      rw [e4]
      exact gc_st (s := s.setV j (.num i))
  · refine ⟨.non, .inl rfl, fun h => ⟨?_, ?_⟩⟩
    · unfold F_deed_done b_deed_done F_set_done b_set_done
      unfold Sys.d at b1 ⊢
      unfold Sta.d at b1 ⊢
      simp -implicitDefEqProofs (disch := first | assumption | omega | (simp only [List.length_cons, List.length_nil, List.length_map, List.length_set, List.length_append]; omega)) [runDef_if, pi1, b1, hd2, iv_num, c, -List.getElem?_map, gc_non0, -not_and]
    · have c1 : i < lo ∨ hi < i := by omega
      unfold F_law_done b_law_done
      unfold Sys.d at b2 ⊢
      unfold Sta.d at b2 ⊢
      by_cases c2 : i < lo
      · simp -implicitDefEqProofs (disch := first | assumption | omega | (simp only [List.length_cons, List.length_nil, List.length_map, List.length_set, List.length_append]; omega)) [runDef_if, pl1, b2, hd2, c2, hl2, -List.getElem?_map, Dat.d, gc_non]
      · have c3 : hi < i := by omega
        simp -implicitDefEqProofs (disch := first | assumption | omega | (simp only [List.length_cons, List.length_nil, List.length_map, List.length_set, List.length_append]; omega)) [runDef_if, pl1, b2, hd2, c2, c3, hl2, -List.getElem?_map, Dat.d, gc_non]
end Sm
namespace Sm
open PySem PySem.Spec PyProof.Rows L2
theorem get_all {α : Type} {l : List α} {j : Nat} {v : α} (h : l[j]? = some v) : ∀ hh, l[j]'hh = v := fun hh => by
  rw [List.getElem?_eq_getElem hh] at h
  exact Option.some.inj h
theorem vq_d {ns : List Int} : (Vl.que ns).d = .tup (ns.map D.int) := rfl
theorem vn_d {n : Int} : (Vl.num n).d = .int n := rfl
theorem done_put {S : Sys} {s : Sta} (sm : S.Sm) (ok : StOk S s) {x : Str} {e : D} {k n j : Nat} {a : Str} {room lo hi : Int} (F : Fst Dat.nm S.dats x j) (hd : S.dats[j]? = some (.que a room lo hi)) (hr : room ≤ 100) (E : Ex S k true n e) (hk : k < 7) :
    ∃ r, DoneR S r ∧ Done S s (.tup [.str "put", .str x, e]) r := by
  obtain ⟨v, ⟨i, rfl, hi2⟩, eb⟩ := val_both sm ok E
  have b1 := fun h => (eb 8 h (by omega)).1
  have b2 := fun h => (eb 8 h (by omega)).2
  have pi1 := fun (h : AH) => place_in_ok (h := h) Dat.shape F
  have pl1 := fun (h : AH) => law_place_ok (h := h) Dat.shape (by have := sm.nd; omega) F
  have hd2 : (S.dats.map Dat.d)[j]? = some (Dat.d (.que a room lo hi)) := by rw [List.getElem?_map, hd]; rfl
  have hj : j < s.vls.length := by rw [ok.nv]; exact (List.getElem?_eq_some_iff.mp hd).1
  have hl : s.vls.length ≤ 100 := by rw [ok.nv]; exact sm.nd
  have hl2 : s.vls.length ≤ 16777216 := by omega
  have hj2 : (j : Int) < (s.vls.length : Int) := by omega
  obtain ⟨v, hv, fit⟩ := ok.val hd
  cases v with
  | num i => exact fit.elim
  | que ns =>
  obtain ⟨f1, f2⟩ := fit
  have hv2 : (s.vls.map Vl.d)[j]? = some (.tup (ns.map D.int)) := by rw [List.getElem?_map, hv]; rfl
  have hv3 := get_all hv
  have wv := fun (h : AH) => with_value_ok (h := h) (v := .que (ns ++ [i])) hj hl
  have iv := fun (h : AH) => iv_que (h := h) (nm := a) (room := room) (lo := lo) (hi := hi) (ns := ns ++ [i]) (by simp; omega)
  have n1 : ns.length + 1 ≤ 16777216 := by omega
  have n1' : ns.length ≤ 16777215 := by omega
  have e5 : ns.map D.int ++ [.int i] = (ns ++ [i]).map D.int := by simp
  have all : (ns.all fun i => decide (lo ≤ i ∧ i ≤ hi)) = true := List.all_eq_true.mpr fun y hy => decide_eq_true (f2 y hy)
  by_cases c : (lo ≤ i ∧ i ≤ hi) ∧ (ns.length : Int) + 1 ≤ room
  · refine ⟨_, .inr ⟨_, ok.set (v := .que (ns ++ [i])) hd ⟨by simp; omega, fun m hm => ?_⟩, rfl⟩, fun h => ⟨?_, ?_⟩⟩
    · rcases List.mem_append.mp hm with z | z
      · exact f2 m z
      · rw [List.mem_singleton.mp z]; exact c.1
    · have iv1 : F_is_value [Dat.d (.que a room lo hi), .tup ((ns ++ [i]).map D.int)] h = some (.bl true, h) := by
        rw [iv h, List.all_append, all, List.all_cons, List.all_nil, decide_eq_true c.1, decide_eq_true (by rw [List.length_append, List.length_singleton]; omega)]
        rfl
      have wv1 := wv h
      have g := gc_st0 (h := h) (s := s.setV j (.que (ns ++ [i])))
      unfold F_deed_done b_deed_done F_put_done b_put_done
      unfold Sys.d at b1 ⊢
      unfold Sta.d at b1 wv1 g ⊢
      rw [show (Vl.que (ns ++ [i])).d = D.tup ((ns ++ [i]).map D.int) from rfl] at wv1
      simp -implicitDefEqProofs (disch := first | assumption | omega | (simp only [List.length_cons, List.length_nil, List.length_map, List.length_set, List.length_append]; omega)) [runDef_if, pi1, b1, hd2, hv2, hv3, vq_d, -List.getElem?_map, n1', e5, iv1, -List.map_append, wv1, g]
    · have c1 : ¬ i < lo := by omega
      have c2 : ¬ hi < i := by omega
      have c3 : ¬ ((ns.length : Int) = room) := by omega
      unfold F_law_done b_law_done
      unfold Sys.d at b2 ⊢
      unfold Sta.d at b2 ⊢
      simp -implicitDefEqProofs (disch := first | assumption | omega | (simp only [List.length_cons, List.length_nil, List.length_map, List.length_set, List.length_append]; omega)) [runDef_if, pl1, b2, hd2, hv2, hv3, vq_d, c1, c2, c3, hl2, -List.getElem?_map, Dat.d, hj2, n1', e5, -List.map_append]
      have e4 : (s.vls.map Vl.d).set j (D.tup ((ns ++ [i]).map D.int)) = (s.vls.set j (.que (ns ++ [i]))).map Vl.d := by rw [List.map_set]; rfl
      rw [e4]
      exact gc_st (s := s.setV j (.que (ns ++ [i])))
  · refine ⟨.non, .inl rfl, fun h => ⟨?_, ?_⟩⟩
    · have iv1 : F_is_value [Dat.d (.que a room lo hi), .tup ((ns ++ [i]).map D.int)] h = some (.bl false, h) := by
        rw [iv h, List.all_append, all, List.all_cons, List.all_nil]
        congr 2
        rw [Bool.and_true, Bool.true_and]
        by_cases d : lo ≤ i ∧ i ≤ hi
        · rw [decide_eq_false (by rw [List.length_append, List.length_singleton]; omega)]; rfl
        · rw [decide_eq_false d, Bool.and_false]
      unfold F_deed_done b_deed_done F_put_done b_put_done
      unfold Sys.d at b1 ⊢
      unfold Sta.d at b1 ⊢
      simp -implicitDefEqProofs (disch := first | assumption | omega | (simp only [List.length_cons, List.length_nil, List.length_map, List.length_set, List.length_append]; omega)) [runDef_if, pi1, b1, hd2, hv2, hv3, vq_d, -List.getElem?_map, n1', e5, iv1, -List.map_append, gc_non0]
    · unfold F_law_done b_law_done
      unfold Sys.d at b2 ⊢
      unfold Sta.d at b2 ⊢
      by_cases c2 : i < lo
      · simp -implicitDefEqProofs (disch := first | assumption | omega | (simp only [List.length_cons, List.length_nil, List.length_map, List.length_set, List.length_append]; omega)) [runDef_if, pl1, b2, hd2, hv2, hv3, vq_d, c2, hl2, -List.getElem?_map, Dat.d, gc_non]
      · by_cases c3 : hi < i
        · simp -implicitDefEqProofs (disch := first | assumption | omega | (simp only [List.length_cons, List.length_nil, List.length_map, List.length_set, List.length_append]; omega)) [runDef_if, pl1, b2, hd2, hv2, hv3, vq_d, c2, c3, hl2, -List.getElem?_map, Dat.d, gc_non]
        · have c4 : (ns.length : Int) = room := by omega
          simp -implicitDefEqProofs (disch := first | assumption | omega | (simp only [List.length_cons, List.length_nil, List.length_map, List.length_set, List.length_append]; omega)) [runDef_if, pl1, b2, hd2, hv2, hv3, vq_d, c2, c3, c4, hl2, -List.getElem?_map, Dat.d, gc_non]
theorem done_take {S : Sys} {s : Sta} (sm : S.Sm) (ok : StOk S s) {x y : Str} {i j : Nat} {a a' : Str} {room lo hi lo' hi' fi' : Int} (F : Fst Dat.nm S.dats x j) (hd : S.dats[j]? = some (.que a room lo hi)) (hr : room ≤ 100)
    (G : Fst Dat.nm S.dats y i) (he : S.dats[i]? = some (.num a' lo' hi' fi')) : ∃ r, DoneR S r ∧ Done S s (.tup [.str "take", .str x, .str y]) r := by
  have pi1 := fun (h : AH) => place_in_ok (h := h) Dat.shape F
  have pl1 := fun (h : AH) => law_place_ok (h := h) Dat.shape (by have := sm.nd; omega) F
  have pi2 := fun (h : AH) => place_in_ok (h := h) Dat.shape G
  have pl2 := fun (h : AH) => law_place_ok (h := h) Dat.shape (by have := sm.nd; omega) G
  have hd2 : (S.dats.map Dat.d)[j]? = some (Dat.d (.que a room lo hi)) := by rw [List.getElem?_map, hd]; rfl
  have he2 : (S.dats.map Dat.d)[i]? = some (Dat.d (.num a' lo' hi' fi')) := by rw [List.getElem?_map, he]; rfl
  have hj : j < s.vls.length := by rw [ok.nv]; exact (List.getElem?_eq_some_iff.mp hd).1
  have hi0 : i < s.vls.length := by rw [ok.nv]; exact (List.getElem?_eq_some_iff.mp he).1
  have hl : s.vls.length ≤ 100 := by rw [ok.nv]; exact sm.nd
  have hl2 : s.vls.length ≤ 16777216 := by omega
  have hj2 : (j : Int) < (s.vls.length : Int) := by omega
  have hi2 : (i : Int) < (s.vls.length : Int) := by omega
  have hij : i ≠ j := fun z => by rw [z, hd] at he; cases he
  obtain ⟨v, hv, fit⟩ := ok.val hd
  cases v with
  | num i => exact fit.elim
  | que ns =>
  obtain ⟨f1, f2⟩ := fit
  have hv2 : (s.vls.map Vl.d)[j]? = some (.tup (ns.map D.int)) := by rw [List.getElem?_map, hv]; rfl
  have hv3 := get_all hv
  cases ns with
  | nil =>
    refine ⟨.non, .inl rfl, fun h => ⟨?_, ?_⟩⟩
    · unfold F_deed_done b_deed_done F_take_done b_take_done Sys.d Sta.d
      simp -implicitDefEqProofs (disch := first | assumption | omega | (simp only [List.length_cons, List.length_nil, List.length_map, List.length_set, List.length_append]; omega)) [runDef_if, pi1, pi2, hd2, he2, hv2, hv3, vq_d, -List.getElem?_map, gc_non0]
    · unfold F_law_done b_law_done Sys.d Sta.d
      simp -implicitDefEqProofs (disch := first | assumption | omega | (simp only [List.length_cons, List.length_nil, List.length_map, List.length_set, List.length_append]; omega)) [runDef_if, pl1, pl2, hd2, he2, hv2, hv3, vq_d, hl2, -List.getElem?_map, Dat.d, gc_non]
  | cons n r =>
  have e6 : cutA (D.int n :: r.map D.int) (some 1) none = r.map D.int := cut_from1
  by_cases c : lo' ≤ n ∧ n ≤ hi'
  · have ok1 := ok.set (v := .que r) hd ⟨by simp at f1; omega, fun m hm => f2 m (List.mem_cons_of_mem _ hm)⟩
    refine ⟨_, .inr ⟨_, ok1.set (v := .num n) he c, rfl⟩, fun h => ⟨?_, ?_⟩⟩
    · have wv1 := with_value_ok (h := h) (v := .que r) hj hl
      have wv2 := with_value_ok (h := h) (s := s.setV j (.que r)) (v := .num n) (i := i) (by unfold Sta.setV; simpa using hi0) (by unfold Sta.setV; simpa using hl)
      have g := gc_st0 (h := h) (s := (s.setV j (.que r)).setV i (.num n))
      unfold F_deed_done b_deed_done F_take_done b_take_done
      unfold Sys.d
      unfold Sta.d at wv1 wv2 g ⊢
      rw [show (Vl.que r).d = D.tup (r.map D.int) from rfl] at wv1
      rw [show (Vl.num n).d = D.int n from rfl] at wv2
      simp -implicitDefEqProofs (disch := first | assumption | omega | (simp only [List.length_cons, List.length_nil, List.length_map, List.length_set, List.length_append]; omega)) [runDef_if, pi1, pi2, hd2, he2, hv2, hv3, vq_d, -List.getElem?_map, iv_num, c, e6, wv1, wv2, g]
    · have c1 : ¬ n < lo' := by omega
      have c2 : ¬ hi' < n := by omega
      have e7 : ((s.vls.map Vl.d).set i (D.int n))[j]? = some (.tup (D.int n :: r.map D.int)) := by rw [List.getElem?_set_ne hij]; exact hv2
      have c0 : ¬ ((r.length : Int) + 1 = 0) := by omega
      unfold F_law_done b_law_done Sys.d Sta.d
      simp -implicitDefEqProofs (disch := first | assumption | omega | (simp only [List.length_cons, List.length_nil, List.length_map, List.length_set, List.length_append]; omega)) [runDef_if, pl1, pl2, hd2, he2, hv2, hv3, vq_d, hl2, -List.getElem?_map, Dat.d, c0, c1, c2, hi2, hj2, e7, e6]
      have e4 : ((s.vls.map Vl.d).set i (D.int n)).set j (D.tup (r.map D.int)) = ((s.vls.set j (.que r)).set i (.num n)).map Vl.d := by
        rw [List.map_set, List.map_set, List.set_comm _ _ hij]
        rfl
      rw [e4]
      exact gc_st (s := (s.setV j (.que r)).setV i (.num n))
  · refine ⟨.non, .inl rfl, fun h => ⟨?_, ?_⟩⟩
    · unfold F_deed_done b_deed_done F_take_done b_take_done Sys.d Sta.d
      simp -implicitDefEqProofs (disch := first | assumption | omega | (simp only [List.length_cons, List.length_nil, List.length_map, List.length_set, List.length_append]; omega)) [runDef_if, pi1, pi2, hd2, he2, hv2, hv3, vq_d, -List.getElem?_map, gc_non0, iv_num, c, -not_and]
    · have c0 : ¬ ((r.length : Int) + 1 = 0) := by omega
      unfold F_law_done b_law_done Sys.d Sta.d
      by_cases c2 : n < lo'
      · simp -implicitDefEqProofs (disch := first | assumption | omega | (simp only [List.length_cons, List.length_nil, List.length_map, List.length_set, List.length_append]; omega)) [runDef_if, pl1, pl2, hd2, he2, hv2, hv3, vq_d, hl2, -List.getElem?_map, Dat.d, gc_non, c0, c2]
      · have c3 : hi' < n := by omega
        simp -implicitDefEqProofs (disch := first | assumption | omega | (simp only [List.length_cons, List.length_nil, List.length_map, List.length_set, List.length_append]; omega)) [runDef_if, pl1, pl2, hd2, he2, hv2, hv3, vq_d, hl2, -List.getElem?_map, Dat.d, gc_non, c0, c2, c3]
theorem deed_both {S : Sys} {s : Sta} (sm : S.Sm) (ok : StOk S s) {e : D} (E : DeedOk S e) : ∃ r, DoneR S r ∧ Done S s e r := by
  cases E with
  | set F hd E hk => exact done_set sm ok F hd E hk
  | put F hd hr E hk => exact done_put sm ok F hd hr E hk
  | take F hd hr G he => exact done_take sm ok F hd hr G he
end Sm
namespace Sm
open PySem PySem.Spec PyProof.Rows L2
/-! ## moves -/
structure Mv where
  t : Str
  o : Str
  g : Str
  gd : D
  ds : List D
def Mv.d (m : Mv) : D := .tup [.str m.t, .str m.o, .str m.g, m.gd, .tup m.ds]
structure MvOk (S : Sys) (p : Prc) (m : Mv) : Prop where
  tg : m.g ∈ p.places
  gd : ∃ k, k < 7 ∧ Ex S k false 0 m.gd
  ds : ∀ e ∈ m.ds, DeedOk S e
theorem deeds_go {S : Sys} (sm : S.Sm) {i : Int} {mv : D} {rest : List (Option D)} : ∀ (ds : List D) (s : Sta), StOk S s → (∀ e ∈ ds, DeedOk S e) →
    (∃ r, DoneR S r ∧ (∀ (h : AH) (y4 : Option D), r = .non → forL [] (gN 4) l_move_done_1 ds ([some S.d, some s.d, some (.int i), some mv, y4] ++ rest) h = some (.rt .non h)) ∧
      (∀ (h : AH) (y4 : Option D), r ≠ .non → ∃ y4', forL [] (gN 4) l_move_done_1 ds ([some S.d, some s.d, some (.int i), some mv, y4] ++ rest) h = some (.nx ([some S.d, some r, some (.int i), some mv, y4'] ++ rest) h)) ∧
      (∀ (h : AH) (y4 y5 : Option D), ∃ y4', forL [] (gN 4) l_law_moved_1 ds [some S.d, some s.d, some (.int i), some mv, y4, y5] h = some (.nx [some S.d, some r, some (.int i), some mv, y4', y5] h)))
  | [], s, ok, _ => ⟨s.d, .inr ⟨s, ok, rfl⟩, fun h y4 e => by simp [Sta.d] at e, fun h y4 _ => ⟨y4, rfl⟩, fun h y4 y5 => ⟨y4, rfl⟩⟩
  | e :: ds, s, ok, hd => by
    obtain ⟨r, hr, both⟩ := deed_both sm ok (hd e List.mem_cons_self)
    rcases hr with rfl | ⟨s', ok', rfl⟩
    · refine ⟨.non, .inl rfl, fun h y4 _ => ?_, fun h y4 c => absurd rfl c, fun h y4 y5 => ?_⟩
      · refine forL_rt rfl (τ1 := [some S.d, some s.d, some (.int i), some mv, some e] ++ rest) (h1 := h) rfl ?_
        have b1 := (both h).1
        unfold l_move_done_1
        simp -implicitDefEqProofs (disch := first | assumption | omega | (simp only [List.length_cons, List.length_nil, List.length_map, List.length_set, List.length_append]; omega)) [b1]
      · have b2 := (both h).2
        have : ∀ (ds : List D) (y4 : Option D), ∃ y4', forL [] (gN 4) l_law_moved_1 ds [some S.d, some .non, some (.int i), some mv, y4, y5] h = some (.nx [some S.d, some .non, some (.int i), some mv, y4', y5] h) := by
          intro ds
          induction ds with
          | nil => exact fun y4 => ⟨y4, rfl⟩
          | cons e ds ih =>
            intro y4
            obtain ⟨y4', q⟩ := ih (some e)
            refine ⟨y4', ?_⟩
            rw [forL_cons rfl (τ1 := [some S.d, some .non, some (.int i), some mv, some e, y5]) (h1 := h) (τ2 := [some S.d, some .non, some (.int i), some mv, some e, y5]) (h2 := h) rfl (by
              unfold l_law_moved_1
              simp -implicitDefEqProofs (disch := first | assumption | omega | (simp only [List.length_cons, List.length_nil, List.length_map, List.length_set, List.length_append]; omega)) [])]
            exact q
        obtain ⟨y4', q⟩ := this ds (some e)
        refine ⟨y4', ?_⟩
        rw [forL_cons rfl (τ1 := [some S.d, some s.d, some (.int i), some mv, some e, y5]) (h1 := h) (τ2 := [some S.d, some .non, some (.int i), some mv, some e, y5]) (h2 := h) rfl (by
          have e1 : isN (.val s.d) = false := rfl
          unfold l_law_moved_1
          simp -implicitDefEqProofs (disch := first | assumption | omega | (simp only [List.length_cons, List.length_nil, List.length_map, List.length_set, List.length_append]; omega)) [b2, e1])]
        exact q
    · obtain ⟨r, hr, i1, i2, i3⟩ := deeds_go sm (i := i) (mv := mv) (rest := rest) ds s' ok' fun e he => hd e (List.mem_cons_of_mem _ he)
      have e1 : isN (.val s'.d) = false := rfl
      have e2 : isN (.val s.d) = false := rfl
      have b1 := fun h => (both h).1
      have b2 := fun h => (both h).2
      refine ⟨r, hr, fun h y4 c => ?_, fun h y4 c => ?_, fun h y4 y5 => ?_⟩
      · rw [forL_cons rfl (τ1 := [some S.d, some s.d, some (.int i), some mv, some e] ++ rest) (h1 := h) (τ2 := [some S.d, some s'.d, some (.int i), some mv, some e] ++ rest) (h2 := h) rfl (by
          unfold l_move_done_1
          simp -implicitDefEqProofs (disch := first | assumption | omega | (simp only [List.length_cons, List.length_nil, List.length_map, List.length_set, List.length_append]; omega)) [b1, e1])]
        exact i1 h _ c
      · obtain ⟨y4', q⟩ := i2 h (some e) c
        refine ⟨y4', ?_⟩
        rw [forL_cons rfl (τ1 := [some S.d, some s.d, some (.int i), some mv, some e] ++ rest) (h1 := h) (τ2 := [some S.d, some s'.d, some (.int i), some mv, some e] ++ rest) (h2 := h) rfl (by
          unfold l_move_done_1
          simp -implicitDefEqProofs (disch := first | assumption | omega | (simp only [List.length_cons, List.length_nil, List.length_map, List.length_set, List.length_append]; omega)) [b1, e1])]
        exact q
      · obtain ⟨y4', q⟩ := i3 h (some e) y5
        refine ⟨y4', ?_⟩
        rw [forL_cons rfl (τ1 := [some S.d, some s.d, some (.int i), some mv, some e, y5]) (h1 := h) (τ2 := [some S.d, some s'.d, some (.int i), some mv, some e, y5]) (h2 := h) rfl (by
          unfold l_law_moved_1
          simp -implicitDefEqProofs (disch := first | assumption | omega | (simp only [List.length_cons, List.length_nil, List.length_map, List.length_set, List.length_append]; omega)) [b2, e2])]
        exact q
def Moved (S : Sys) (s : Sta) (i : Nat) (m : Mv) (r : D) : Prop := ∀ (h : AH), F_move_done [S.d, s.d, .int i, m.d] h = some (r, h) ∧ F_law_moved [S.d, s.d, .int i, m.d] h = some (r, h)
def Sta.setP (s : Sta) (i : Nat) (l : Str) : Sta := ⟨s.pls.set i l, s.vls⟩
theorem StOk.setP {S : Sys} {s : Sta} (ok : StOk S s) {i : Nat} {p : Prc} {l : Str} (h : S.prcs[i]? = some p) (f : l ∈ p.places) : StOk S (s.setP i l) where
  np := by unfold Sta.setP; simp [ok.np]
  nv := ok.nv
  vl := ok.vl
  pl := fun j e w h1 h2 => by
    unfold Sta.setP at h2
    by_cases hij : i = j
    · subst hij
      have hi : i < s.pls.length := by rw [ok.np]; exact (List.getElem?_eq_some_iff.mp h).1
      rw [List.getElem?_set_self hi] at h2
      cases h2
      rw [h] at h1
      cases h1
      exact f
    · rw [List.getElem?_set_ne hij] at h2
      exact ok.pl j e w h1 h2
theorem move_both {S : Sys} {s : Sta} (sm : S.Sm) (ok : StOk S s) {i : Nat} {p : Prc} {m : Mv} (hp : S.prcs[i]? = some p) (M : MvOk S p m) : ∃ r, DoneR S r ∧ Moved S s i m r := by
  obtain ⟨l, hl, _⟩ := ok.plc hp
  have hl2 : (s.pls.map D.str)[i]? = some (.str l) := by rw [List.getElem?_map, hl]; rfl
  have hl3 := get_all hl
  obtain ⟨k, hk, E⟩ := M.gd
  obtain ⟨v, ⟨b, rfl⟩, eb⟩ := val_both sm ok E
  have b1 := fun h => (eb 8 h (by omega)).1
  have b2 := fun h => (eb 8 h (by omega)).2
  have hi : i < s.pls.length := by rw [ok.np]; exact (List.getElem?_eq_some_iff.mp hp).1
  have hlen : s.pls.length ≤ 100 := by rw [ok.np]; exact sm.np
  by_cases c : l = m.o
  · cases b with
    | false =>
      refine ⟨.non, .inl rfl, fun h => ⟨?_, ?_⟩⟩
      · unfold F_move_done b_move_done Mv.d
        unfold Sta.d at b1 ⊢
        simp -implicitDefEqProofs (disch := first | assumption | omega | (simp only [List.length_cons, List.length_nil, List.length_map, List.length_set, List.length_append]; omega)) [runDef_if, hl2, hl3, c, b1, gc_non0, -mFor_eq, -List.getElem?_map]
      · unfold F_law_moved b_law_moved Mv.d
        unfold Sta.d at b2 ⊢
        simp -implicitDefEqProofs (disch := first | assumption | omega | (simp only [List.length_cons, List.length_nil, List.length_map, List.length_set, List.length_append]; omega)) [runDef_if, hl2, hl3, c, b2, gc_non0, -mFor_eq, -List.getElem?_map]
    | true =>
      obtain ⟨r, hr, i1, i2, i3⟩ := deeds_go sm (i := i) (mv := m.d) (rest := [some (.str m.t), some (.str m.o), some (.str m.g), some m.gd, some (.tup m.ds)]) m.ds s ok M.ds
      rcases hr with rfl | ⟨s', ok', rfl⟩
      · refine ⟨.non, .inl rfl, fun h => ⟨?_, ?_⟩⟩
        · have i1 := i1 h none rfl
          unfold F_move_done b_move_done
          unfold Mv.d at i1 ⊢
          unfold Sta.d at b1 i1 ⊢
          simp -implicitDefEqProofs (disch := first | assumption | omega | (simp only [List.length_cons, List.length_nil, List.length_map, List.length_set, List.length_append]; omega)) [runDef_if, hl2, hl3, c, b1, -List.getElem?_map] at i1 ⊢
          rw [i1]
          simp -implicitDefEqProofs (disch := first | assumption | omega | (simp only [List.length_cons, List.length_nil, List.length_map, List.length_set, List.length_append]; omega)) [gc_non0]
        · obtain ⟨y4', i3⟩ := i3 h none none
          unfold F_law_moved b_law_moved
          unfold Mv.d at i3 ⊢
          unfold Sta.d at b2 i3 ⊢
          simp -implicitDefEqProofs (disch := first | assumption | omega | (simp only [List.length_cons, List.length_nil, List.length_map, List.length_set, List.length_append]; omega)) [runDef_if, hl2, hl3, c, b2, -List.getElem?_map] at i3 ⊢
          rw [i3]
          simp -implicitDefEqProofs (disch := first | assumption | omega | (simp only [List.length_cons, List.length_nil, List.length_map, List.length_set, List.length_append]; omega)) [gc_non0]
      · have hi' : i < s'.pls.length := by rw [ok'.np]; exact (List.getElem?_eq_some_iff.mp hp).1
        have hlen' : s'.pls.length ≤ 100 := by rw [ok'.np]; exact sm.np
        refine ⟨_, .inr ⟨s'.setP i m.g, ok'.setP hp M.tg, rfl⟩, fun h => ⟨?_, ?_⟩⟩
        · obtain ⟨y4', i2⟩ := i2 h none (by simp [Sta.d])
          have e1 : cutA (s'.pls.map D.str) none (some (i : Int)) = (s'.pls.map D.str).take i := cut_to (by rw [List.length_map]; omega)
          have e2 : cutA (s'.pls.map D.str) (some ((i : Int) + 1)) none = (s'.pls.map D.str).drop (i + 1) := by
            rw [show (i : Int) + 1 = ((i + 1 : Nat) : Int) by omega]
            exact cut_from (by rw [List.length_map]; omega)
          have e3 : (s'.pls.map D.str).take i ++ D.str m.g :: (s'.pls.map D.str).drop (i + 1) = (s'.pls.set i m.g).map D.str := by
            rw [set_split (by rw [List.length_map]; exact hi'), List.map_set]
          have n4 : min i s'.pls.length ≤ 16777215 := by omega
          have n5 : min i s'.pls.length + 1 + (s'.pls.length - (i + 1)) ≤ 16777216 := by omega
          have n6 : i ≤ 16777215 := by omega
          have n7 : s'.pls.length ≤ 16777216 := by omega
          have g := gc_st0 (h := h) (s := s'.setP i m.g)
          unfold F_move_done b_move_done
          unfold Mv.d at i2 ⊢
          unfold Sta.d at b1 i2 g ⊢
          simp -implicitDefEqProofs (disch := first | assumption | omega | (simp only [List.length_cons, List.length_nil, List.length_map, List.length_set, List.length_append]; omega)) [runDef_if, hl2, hl3, c, b1, -List.getElem?_map] at i2 ⊢
          rw [i2]
          simp -implicitDefEqProofs (disch := first | assumption | omega | (simp only [List.length_cons, List.length_nil, List.length_map, List.length_set, List.length_append]; omega)) [e1, e2, n4, n5, n6, n7, -List.map_take, -List.map_drop]
          rw [e3]
          exact g
        · obtain ⟨y4', i3⟩ := i3 h none none
          have hi2 : (i : Int) < (s'.pls.length : Int) := by omega
          have hl4 : s'.pls.length ≤ 16777216 := by omega
          unfold F_law_moved b_law_moved
          unfold Mv.d at i3 ⊢
          unfold Sta.d at b2 i3 ⊢
          simp -implicitDefEqProofs (disch := first | assumption | omega | (simp only [List.length_cons, List.length_nil, List.length_map, List.length_set, List.length_append]; omega)) [runDef_if, hl2, hl3, c, b2, -List.getElem?_map] at i3 ⊢
          rw [i3]
          simp -implicitDefEqProofs (disch := first | assumption | omega | (simp only [List.length_cons, List.length_nil, List.length_map, List.length_set, List.length_append]; omega)) [hl4, hi2]
          have e4 : (s'.pls.map D.str).set i (D.str m.g) = (s'.pls.set i m.g).map D.str := by rw [List.map_set]
          rw [e4]
          exact gc_st (s := s'.setP i m.g)
  · refine ⟨.non, .inl rfl, fun h => ⟨?_, ?_⟩⟩
    · unfold F_move_done b_move_done Mv.d
      unfold Sta.d at b1 ⊢
      simp -implicitDefEqProofs (disch := first | assumption | omega | (simp only [List.length_cons, List.length_nil, List.length_map, List.length_set, List.length_append]; omega)) [runDef_if, hl2, hl3, c, gc_non0, -mFor_eq, -List.getElem?_map]
    · unfold F_law_moved b_law_moved Mv.d
      unfold Sta.d at b2 ⊢
      simp -implicitDefEqProofs (disch := first | assumption | omega | (simp only [List.length_cons, List.length_nil, List.length_map, List.length_set, List.length_append]; omega)) [runDef_if, hl2, hl3, c, gc_non0, -mFor_eq, -List.getElem?_map]
end Sm
namespace Sm
open PySem PySem.Spec PyProof.Rows L2
/-! ## enabled -/
/-- a short text of plain signs -/
def SOk (x : Str) : Prop := x.length ≤ 12 ∧ ∀ c ∈ x.cps.toList, c < 128
structure PrOk (S : Sys) (p : Prc) : Prop where
  nm : SOk p.nm
  pl : ∀ l ∈ p.places, SOk l
  mv : ∃ ms : List Mv, p.mvs = ms.map Mv.d ∧ ms.length ≤ 100 ∧ ∀ m ∈ ms, MvOk S p m ∧ SOk m.t
def Dat.Ok : Dat → Prop
  | .num nm lo hi fi => SOk nm ∧ -100 ≤ lo ∧ lo ≤ fi ∧ fi ≤ hi ∧ hi ≤ 100
  | .que nm room lo hi => SOk nm ∧ 1 ≤ room ∧ room ≤ 10 ∧ -100 ≤ lo ∧ lo ≤ hi ∧ hi ≤ 100
structure Sys.Gd (S : Sys) : Prop where
  nd : S.dats.length ≤ 10
  np : S.prcs.length ≤ 10
  dt : ∀ d ∈ S.dats, d.Ok
  pc : ∀ p ∈ S.prcs, p.places ≠ []
  d0 : 0 < S.dats.length
  p0 : 0 < S.prcs.length
  no : ∀ p ∈ S.prcs, ("no" : Str) ∉ p.places
  nu : ∃ nm lo hi fi, Dat.num nm lo hi fi ∈ S.dats
  un : (S.dats.map Dat.nm).Nodup
  pr : ∀ p ∈ S.prcs, PrOk S p
theorem Sys.Gd.sm {S : Sys} (g : S.Gd) : S.Sm := ⟨Nat.le_trans g.nd (by decide), Nat.le_trans g.np (by decide)⟩
def EntOk (S : Sys) (e : D) : Prop := ∃ pn t s, e = .tup [.tup [.str pn, .str t], Sta.d s] ∧ StOk S s ∧ SOk pn ∧ SOk t
theorem en_in {S : Sys} {s : Sta} (sm : S.Sm) (ok : StOk S s) {i : Nat} {p : Prc} (hp : S.prcs[i]? = some p) (hn : SOk p.nm) : ∀ (ms : List Mv), (∀ m ∈ ms, MvOk S p m ∧ SOk m.t) →
    ∃ L : List D, (∀ e ∈ L, EntOk S e) ∧ L.length ≤ ms.length ∧
      (∀ (h : AH) (acc : List D) (y5 y6 : Option D), acc.length + ms.length ≤ 16000000 → ∃ y5' y6', forL [] (gN 5) l_enabled_1 (ms.map Mv.d) [some S.d, some s.d, some (.ref h.length), some (.int i), some p.d, y5, y6] (h ++ [.lst acc]) = some (.nx [some S.d, some s.d, some (.ref h.length), some (.int i), some p.d, y5', y6'] (h ++ [.lst (acc ++ L)]))) ∧
      (∀ (h : AH) (acc : List D) (y4 y5 : Option D), acc.length + ms.length ≤ 16000000 → ∃ y4' y5', forL [] (gN 4) l_law_enabled_1 (ms.map Mv.d) [some S.d, some s.d, some (.ref h.length), some (.int i), y4, y5] (h ++ [.lst acc]) = some (.nx [some S.d, some s.d, some (.ref h.length), some (.int i), y4', y5'] (h ++ [.lst (acc ++ L)])))
  | [], _ => ⟨[], (fun _ h => by cases h), Nat.le_refl _, fun h acc y5 y6 _ => ⟨y5, y6, by rw [List.append_nil]; rfl⟩, fun h acc y5 y6 _ => ⟨y5, y6, by rw [List.append_nil]; rfl⟩⟩
  | m :: ms, hm => by
    obtain ⟨L, l1, l2, i1, i2⟩ := en_in sm ok hp hn ms fun m h => hm m (List.mem_cons_of_mem _ h)
    obtain ⟨M, mt⟩ := hm m List.mem_cons_self
    obtain ⟨r, hr, both⟩ := move_both sm ok hp M
    have b1 := fun h => (both h).1
    have b2 := fun h => (both h).2
    have hp2 : (S.prcs.map Prc.d)[i]? = some p.d := by rw [List.getElem?_map, hp]; rfl
    have hp3 := get_all hp
    rcases hr with rfl | ⟨s', ok', rfl⟩
    · refine ⟨L, l1, Nat.le_trans l2 (by simp), fun h acc y5 y6 hl => ?_, fun h acc y4 y5 hl => ?_⟩
      · rw [List.length_cons] at hl
        obtain ⟨a, b, e⟩ := i1 h acc (some m.d) (some .non) (by omega)
        refine ⟨a, b, ?_⟩
        rw [List.map_cons, forL_cons rfl (τ1 := [some S.d, some s.d, some (.ref h.length), some (.int i), some p.d, some m.d, y6]) (h1 := h ++ [.lst acc]) (τ2 := [some S.d, some s.d, some (.ref h.length), some (.int i), some p.d, some m.d, some .non]) (h2 := h ++ [.lst acc]) rfl (by
          unfold l_enabled_1
          simp -implicitDefEqProofs (disch := first | assumption | omega | (simp only [List.length_cons, List.length_nil, List.length_map, List.length_set, List.length_append]; omega)) [b1])]
        exact e
      · rw [List.length_cons] at hl
        obtain ⟨a, b, e⟩ := i2 h acc (some m.d) (some .non) (by omega)
        refine ⟨a, b, ?_⟩
        rw [List.map_cons, forL_cons rfl (τ1 := [some S.d, some s.d, some (.ref h.length), some (.int i), some m.d, y5]) (h1 := h ++ [.lst acc]) (τ2 := [some S.d, some s.d, some (.ref h.length), some (.int i), some m.d, some .non]) (h2 := h ++ [.lst acc]) rfl (by
          unfold l_law_enabled_1
          simp -implicitDefEqProofs (disch := first | assumption | omega | (simp only [List.length_cons, List.length_nil, List.length_map, List.length_set, List.length_append]; omega)) [b2])]
        exact e
    · have e1 : isN (.val s'.d) = false := rfl
      refine ⟨.tup [.tup [.str p.nm, .str m.t], s'.d] :: L, fun e he => ?_, by simp; omega, fun h acc y5 y6 hl => ?_, fun h acc y4 y5 hl => ?_⟩
      · rcases List.mem_cons.mp he with z | z
        · exact ⟨_, _, s', z, ok', hn, mt⟩
        · exact l1 e z
      · rw [List.length_cons] at hl
        have la : acc.length < 16777216 := by omega
        obtain ⟨a, b, e⟩ := i1 h (acc ++ [.tup [.tup [.str p.nm, .str m.t], s'.d]]) (some m.d) (some s'.d) (by simp; omega)
        refine ⟨a, b, ?_⟩
        rw [List.map_cons, forL_cons rfl (τ1 := [some S.d, some s.d, some (.ref h.length), some (.int i), some p.d, some m.d, y6]) (h1 := h ++ [.lst acc]) (τ2 := [some S.d, some s.d, some (.ref h.length), some (.int i), some p.d, some m.d, some s'.d]) (h2 := h ++ [.lst (acc ++ [.tup [.tup [.str p.nm, .str m.t], s'.d]])]) rfl (by
          unfold l_enabled_1
          simp -implicitDefEqProofs (disch := first | assumption | omega | (simp only [List.length_cons, List.length_nil, List.length_map, List.length_set, List.length_append]; omega)) [b1, e1, Prc.d]
          unfold Mv.d
          simp -implicitDefEqProofs (disch := first | assumption | omega | (simp only [List.length_cons, List.length_nil, List.length_map, List.length_set, List.length_append]; omega)) [la])]
        rw [e, List.append_assoc]
        rfl
      · rw [List.length_cons] at hl
        have la : acc.length < 16777216 := by omega
        obtain ⟨a, b, e⟩ := i2 h (acc ++ [.tup [.tup [.str p.nm, .str m.t], s'.d]]) (some m.d) (some s'.d) (by simp; omega)
        refine ⟨a, b, ?_⟩
        rw [List.map_cons, forL_cons rfl (τ1 := [some S.d, some s.d, some (.ref h.length), some (.int i), some m.d, y5]) (h1 := h ++ [.lst acc]) (τ2 := [some S.d, some s.d, some (.ref h.length), some (.int i), some m.d, some s'.d]) (h2 := h ++ [.lst (acc ++ [.tup [.tup [.str p.nm, .str m.t], s'.d]])]) rfl (by
          unfold l_law_enabled_1
          simp -implicitDefEqProofs (disch := first | assumption | omega | (simp only [List.length_cons, List.length_nil, List.length_map, List.length_set, List.length_append]; omega)) [b2, e1]
          unfold Sys.d Mv.d
          simp -implicitDefEqProofs (disch := first | assumption | omega | (simp only [List.length_cons, List.length_nil, List.length_map, List.length_set, List.length_append]; omega)) [hp2, hp3, Prc.d, la, -List.getElem?_map])]
        rw [e, List.append_assoc]
        rfl
theorem en_out {S : Sys} {s : Sta} (gd : S.Gd) (ok : StOk S s) : ∀ (ps don : List Prc), S.prcs = don ++ ps →
    ∃ L : List D, (∀ e ∈ L, EntOk S e) ∧ L.length ≤ 100 * ps.length ∧
      (∀ (h : AH) (acc : List D) (y3 y4 y5 y6 : Option D), acc.length + 100 * ps.length ≤ 16000000 → ∃ y3' y4' y5' y6', forL [] (gT 2 (gsC (gN 3) (gsC (gN 4) gsN))) l_enabled_2 (numD (ps.map Prc.d) don.length) [some S.d, some s.d, some (.ref h.length), y3, y4, y5, y6] (h ++ [.lst acc]) = some (.nx [some S.d, some s.d, some (.ref h.length), y3', y4', y5', y6'] (h ++ [.lst (acc ++ L)]))) ∧
      (∀ (h : AH) (acc : List D) (y3 y4 y5 : Option D), acc.length + 100 * ps.length ≤ 16000000 → ∃ y3' y4' y5', forL [] (gN 3) l_law_enabled_2 (rngD don.length ps.length) [some S.d, some s.d, some (.ref h.length), y3, y4, y5] (h ++ [.lst acc]) = some (.nx [some S.d, some s.d, some (.ref h.length), y3', y4', y5'] (h ++ [.lst (acc ++ L)])))
  | [], don, _ => ⟨[], (fun _ h => by cases h), Nat.le_refl _, fun h acc y3 y4 y5 y6 _ => ⟨y3, y4, y5, y6, by rw [List.append_nil]; rfl⟩, fun h acc y3 y5 y6 _ => ⟨y3, y5, y6, by rw [List.append_nil]; rfl⟩⟩
  | p :: ps, don, hs => by
    obtain ⟨L, l1, l2, i1, i2⟩ := en_out gd ok ps (don ++ [p]) (by rw [hs]; simp)
    have hp : S.prcs[don.length]? = some p := by rw [hs]; simp
    have P := gd.pr p (by rw [hs]; simp)
    obtain ⟨ms, hms, ml, mo⟩ := P.mv
    obtain ⟨M, m1, m2, j1, j2⟩ := en_in gd.sm ok hp P.nm ms mo
    have hp2 : (S.prcs.map Prc.d)[don.length]? = some p.d := by rw [List.getElem?_map, hp]; rfl
    have hp3 := get_all hp
    rw [List.length_append, List.length_singleton] at i1 i2
    refine ⟨M ++ L, fun e he => ?_, by simp; omega, fun h acc y3 y4 y5 y6 hl => ?_, fun h acc y3 y4 y5 hl => ?_⟩
    · rcases List.mem_append.mp he with z | z
      · exact m1 e z
      · exact l1 e z
    · rw [List.length_cons] at hl
      obtain ⟨a, b, e⟩ := j1 h acc y5 y6 (by omega)
      obtain ⟨c1, c2, c3, c4, e2⟩ := i1 h (acc ++ M) (some (.int don.length)) (some p.d) a b (by rw [List.length_append]; omega)
      refine ⟨c1, c2, c3, c4, ?_⟩
      show forL [] _ _ (.zt [.int (don.length : Int), p.d] :: numD (ps.map Prc.d) (don.length + 1)) _ _ = _
      rw [forL_cons rfl (τ1 := [some S.d, some s.d, some (.ref h.length), some (.int don.length), some p.d, y5, y6]) (h1 := h ++ [.lst acc]) (τ2 := [some S.d, some s.d, some (.ref h.length), some (.int don.length), some p.d, a, b]) (h2 := h ++ [.lst (acc ++ M)]) rfl (by
        unfold l_enabled_2
        unfold Prc.d at e ⊢
        rw [hms] at e ⊢
        simp -implicitDefEqProofs (disch := first | assumption | omega | (simp only [List.length_cons, List.length_nil, List.length_map, List.length_set, List.length_append]; omega)) [] at e ⊢
        exact e)]
      rw [e2, List.append_assoc]
    · rw [List.length_cons] at hl
      obtain ⟨a, b, e⟩ := j2 h acc y4 y5 (by omega)
      obtain ⟨c1, c2, c3, e2⟩ := i2 h (acc ++ M) (some (.int don.length)) a b (by rw [List.length_append]; omega)
      refine ⟨c1, c2, c3, ?_⟩
      rw [List.length_cons, rngD_cons]
      rw [forL_cons rfl (τ1 := [some S.d, some s.d, some (.ref h.length), some (.int don.length), y4, y5]) (h1 := h ++ [.lst acc]) (τ2 := [some S.d, some s.d, some (.ref h.length), some (.int don.length), a, b]) (h2 := h ++ [.lst (acc ++ M)]) rfl (by
        unfold l_law_enabled_2
        unfold Sys.d at e ⊢
        simp -implicitDefEqProofs (disch := first | assumption | omega | (simp only [List.length_cons, List.length_nil, List.length_map, List.length_set, List.length_append]; omega)) [hp2, hp3, -List.getElem?_map]
        unfold Prc.d at e ⊢
        rw [hms]
        simp -implicitDefEqProofs (disch := first | assumption | omega | (simp only [List.length_cons, List.length_nil, List.length_map, List.length_set, List.length_append]; omega)) [] at e ⊢
        exact e)]
      rw [show (don.length : Int) + 1 = ((don.length + 1 : Nat) : Int) by omega, e2, List.append_assoc]
theorem ent_low {S : Sys} {n : Nat} {e : D} (h : EntOk S e) : e.low n = true := by
  obtain ⟨pn, t, s, rfl, _, _, _⟩ := h
  simp [sta_low]
theorem enabled_both {S : Sys} {s : Sta} (gd : S.Gd) (ok : StOk S s) : ∃ L : List D, (∀ e ∈ L, EntOk S e) ∧ L.length ≤ 1000 ∧
    ∀ h : AH, F_enabled [S.d, s.d] h = some (.ref h.length, h ++ [.lst L]) ∧ F_law_enabled [S.d, s.d] h = some (.ref h.length, h ++ [.lst L]) := by
  obtain ⟨L, l1, l2, i1, i2⟩ := en_out gd ok S.prcs [] rfl
  have np := gd.np
  refine ⟨L, l1, by omega, fun h => ?_⟩
  obtain ⟨a, b, c, d, e1⟩ := i1 h [] none none none none (by simp; omega)
  obtain ⟨a', b', c', e2⟩ := i2 h [] none none none (by simp; omega)
  have g := gc_list (h := h) (j := [.lst L]) (k := h.length) (Nat.le_refl _) get_mid (lows_of fun e he => ent_low (l1 e he))
  have np2 : S.prcs.length ≤ 4000000000 := by omega
  constructor
  · unfold F_enabled b_enabled
    unfold Sys.d at e1 ⊢
    simp -implicitDefEqProofs (disch := first | assumption | omega | (simp only [List.length_cons, List.length_nil, List.length_map, List.length_set, List.length_append]; omega)) [runDef_if] at e1 ⊢
    rw [e1]
    simp -implicitDefEqProofs (disch := first | assumption | omega | (simp only [List.length_cons, List.length_nil, List.length_map, List.length_set, List.length_append]; omega)) [g]
  · unfold F_law_enabled b_law_enabled
    unfold Sys.d at e2 ⊢
    simp -implicitDefEqProofs (disch := first | assumption | omega | (simp only [List.length_cons, List.length_nil, List.length_map, List.length_set, List.length_append]; omega)) [runDef_if, np2] at e2 ⊢
    rw [e2]
    simp -implicitDefEqProofs (disch := first | assumption | omega | (simp only [List.length_cons, List.length_nil, List.length_map, List.length_set, List.length_append]; omega)) [g]
end Sm
namespace Sm
open PySem PySem.Spec PyProof.Rows L2
/-! ## what repr and == may be asked of -/
section
variable {α : Type} {f : α → D}
theorem rbs_map (hf : ∀ x, (f x).rb = true) : ∀ xs : List α, D.rbs (xs.map f) = true
  | [] => rfl
  | x :: r => by rw [List.map_cons, D.rbs, hf, rbs_map hf r]; rfl
theorem rbs_of : ∀ {xs : List D}, (∀ x ∈ xs, x.rb = true) → D.rbs xs = true
  | [], _ => rfl
  | x :: r, h => by rw [D.rbs, h x List.mem_cons_self, rbs_of fun y hy => h y (List.mem_cons_of_mem _ hy)]; rfl
theorem nbs_of : ∀ {xs : List D}, (∀ x ∈ xs, x.nb = true) → D.nbs xs = true
  | [], _ => rfl
  | x :: r, h => by rw [D.nbs, h x List.mem_cons_self, nbs_of fun y hy => h y (List.mem_cons_of_mem _ hy)]; rfl
theorem rszs_of {n : Nat} : ∀ {xs : List D}, (∀ x ∈ xs, x.rsz + 2 ≤ n) → D.rszs xs ≤ n * xs.length
  | [], _ => Nat.le_refl _
  | x :: r, h => by
    have h1 := h x List.mem_cons_self
    have h2 := rszs_of fun y hy => h y (List.mem_cons_of_mem _ hy)
    rw [D.rszs, List.length_cons, Nat.mul_succ]
    omega
theorem rdps_of {n : Nat} : ∀ {xs : List D}, (∀ x ∈ xs, x.rdp ≤ n) → D.rdps xs ≤ n
  | [], _ => Nat.zero_le _
  | x :: r, h => by
    have h1 := h x List.mem_cons_self
    have h2 := rdps_of fun y hy => h y (List.mem_cons_of_mem _ hy)
    rw [D.rdps]
    omega
theorem deps_of {n : Nat} : ∀ {xs : List D}, (∀ x ∈ xs, x.dep ≤ n) → D.deps xs ≤ n
  | [], _ => Nat.zero_le _
  | x :: r, h => by
    have h1 := h x List.mem_cons_self
    have h2 := deps_of fun y hy => h y (List.mem_cons_of_mem _ hy)
    rw [D.deps]
    omega
end
/-- data that both may be asked of -/
structure Pl (n k : Nat) (d : D) : Prop where
  rb : d.rb = true
  nb : d.nb = true
  sz : d.rsz ≤ n
  rd : d.rdp ≤ k
  dp : d.dep ≤ k
theorem pl_str {x : Str} (h : SOk x) : Pl 122 0 (.str x) where
  rb := by
    unfold D.rb
    exact List.all_eq_true.mpr fun c hc => decide_eq_true (Nat.lt_trans (h.2 c hc) (by decide))
  nb := by
    unfold D.nb PyData.strOk
    rw [← Array.all_toList]
    exact List.all_eq_true.mpr fun c hc => decide_eq_true (Nat.lt_trans (h.2 c hc) (by decide))
  sz := by have := h.1; unfold D.rsz; omega
  rd := Nat.le_refl _
  dp := Nat.le_refl _
theorem pl_int {i : Int} (h1 : -999999999999 ≤ i) (h2 : i ≤ 999999999999) : Pl 13 0 (.int i) where
  rb := by unfold D.rb; rw [decide_eq_true h1, decide_eq_true h2]; rfl
  nb := rfl
  sz := Nat.le_refl _
  rd := Nat.le_refl _
  dp := Nat.le_refl _
theorem pl_tup {n k m : Nat} {ds : List D} (h : ∀ d ∈ ds, Pl n k d) (hm : (n + 2) * ds.length + 3 ≤ m) : Pl m (k + 1) (.tup ds) where
  rb := by unfold D.rb; exact rbs_of fun d hd => (h d hd).rb
  nb := by unfold D.nb; exact nbs_of fun d hd => (h d hd).nb
  sz := by
    unfold D.rsz
    have := rszs_of (n := n + 2) (xs := ds) fun d hd => by have := (h d hd).sz; omega
    omega
  rd := by
    unfold D.rdp
    have := rdps_of (n := k) (xs := ds) fun d hd => (h d hd).rd
    omega
  dp := by
    unfold D.dep
    have := deps_of (n := k) (xs := ds) fun d hd => (h d hd).dp
    omega
theorem pl_fl {n k m : Nat} {ds : List D} (h : ∀ d ∈ ds, Pl n k d) (hm : (n + 2) * ds.length + 3 ≤ m) : Pl m (k + 1) (.fl ds) where
  rb := by unfold D.rb; exact rbs_of fun d hd => (h d hd).rb
  nb := by unfold D.nb; exact nbs_of fun d hd => (h d hd).nb
  sz := by
    unfold D.rsz
    have := rszs_of (n := n + 2) (xs := ds) fun d hd => by have := (h d hd).sz; omega
    omega
  rd := by
    unfold D.rdp
    have := rdps_of (n := k) (xs := ds) fun d hd => (h d hd).rd
    omega
  dp := by
    unfold D.dep
    have := deps_of (n := k) (xs := ds) fun d hd => (h d hd).dp
    omega
theorem Pl.up {n k m l : Nat} {d : D} (h : Pl n k d) (h1 : n ≤ m) (h2 : k ≤ l) : Pl m l d := ⟨h.rb, h.nb, Nat.le_trans h.sz h1, Nat.le_trans h.rd h2, Nat.le_trans h.dp h2⟩
theorem pl_okR {d : D} (h : Pl 16777216 60 d) : okR d = true := by
  unfold okR
  rw [h.rb, decide_eq_true (Nat.le_trans h.rd (by decide)), decide_eq_true h.sz]
  rfl
theorem fits_pl {d : Dat} {v : Vl} (ok : d.Ok) (f : Fits d v) : Pl 153 1 v.d := by
  cases d with
  | num nm lo hi fi =>
    cases v with
    | que ns => exact f.elim
    | num i =>
      obtain ⟨_, a1, a2, a3, a4⟩ := ok
      have f : lo ≤ i ∧ i ≤ hi := f
      exact (pl_int (i := i) (by omega) (by omega)).up (by decide) (by decide)
  | que nm room lo hi =>
    cases v with
    | num i => exact f.elim
    | que ns =>
      obtain ⟨_, a0, a1, a2, a3, a4⟩ := ok
      obtain ⟨f1, f2⟩ := f
      refine pl_tup (n := 13) (k := 0) (fun d hd => ?_) (by rw [List.length_map]; omega)
      obtain ⟨i, hi', rfl⟩ := List.mem_map.mp hd
      have := f2 i hi'
      exact pl_int (by omega) (by omega)
theorem st_pl {S : Sys} {s : Sta} (gd : S.Gd) (ok : StOk S s) : Pl 3200 3 s.d := by
  have n1 : s.pls.length ≤ 10 := by rw [ok.np]; exact gd.np
  have n2 : s.vls.length ≤ 10 := by rw [ok.nv]; exact gd.nd
  unfold Sta.d
  refine pl_tup (n := 1560) (k := 2) (fun d hd => ?_) (by show (1560 + 2) * 2 + 3 ≤ 3200; decide)
  simp only [List.mem_cons, List.not_mem_nil, or_false] at hd
  rcases hd with rfl | rfl
  · refine (pl_tup (n := 122) (k := 0) (m := 1560) (fun d hd => ?_) (by rw [List.length_map]; omega)).up (Nat.le_refl _) (by decide)
    obtain ⟨l, hl, rfl⟩ := List.mem_map.mp hd
    obtain ⟨i, hi, rfl⟩ := List.getElem_of_mem hl
    have hi2 : i < S.prcs.length := by rw [← ok.np]; exact hi
    exact pl_str ((gd.pr _ (List.getElem_mem hi2)).pl _ (ok.pl i _ _ (List.getElem?_eq_getElem hi2) (List.getElem?_eq_getElem hi)))
  · refine (pl_tup (n := 153) (k := 1) (m := 1560) (fun d hd => ?_) (by rw [List.length_map]; omega)).up (Nat.le_refl _) (by decide)
    obtain ⟨v, hv, rfl⟩ := List.mem_map.mp hd
    obtain ⟨i, hi, rfl⟩ := List.getElem_of_mem hv
    have hi2 : i < S.dats.length := by rw [← ok.nv]; exact hi
    exact fits_pl (gd.dt _ (List.getElem_mem hi2)) (ok.vl i _ _ (List.getElem?_eq_getElem hi2) (List.getElem?_eq_getElem hi))
theorem ent_pl {S : Sys} {e : D} (gd : S.Gd) (h : EntOk S e) : Pl 6500 4 e := by
  obtain ⟨pn, t, s, rfl, ok, h1, h2⟩ := h
  refine pl_tup (n := 3200) (k := 3) (fun d hd => ?_) (by show (3200 + 2) * 2 + 3 ≤ 6500; decide)
  simp only [List.mem_cons, List.not_mem_nil, or_false] at hd
  rcases hd with rfl | rfl
  · refine (pl_tup (n := 122) (k := 0) (m := 3200) (fun d hd => ?_) (by show (122 + 2) * 2 + 3 ≤ 3200; decide)).up (Nat.le_refl _) (by decide)
    simp only [List.mem_cons, List.not_mem_nil, or_false] at hd
    rcases hd with rfl | rfl
    · exact pl_str h1
    · exact pl_str h2
  · exact st_pl gd ok
theorem ents_pl {S : Sys} {L : List D} (gd : S.Gd) (h : ∀ e ∈ L, EntOk S e) (hl : L.length ≤ 1000) : Pl 16777216 60 (.fl L) :=
  (pl_fl (n := 6500) (k := 4) (m := 16777216) (fun e he => ent_pl gd (h e he)) (by omega)).up (Nat.le_refl _) (by decide)
/-! ## _law_same -/
theorem same_ok {h : AH} {a b : D} (e : dat (.val a) h = dat (.val b) h) (c : Pl 16777216 60 (dat (.val b) h)) : F_law_same [a, b] h = some (.bl true, h) := by
  have k2 := pl_okR c
  have k1 : okR (dat (.val a) h) = true := by rw [e]; exact k2
  unfold F_law_same b_law_same
  simp -implicitDefEqProofs (disch := first | assumption | omega | (simp only [List.length_cons, List.length_nil, List.length_map, List.length_set, List.length_append]; omega)) [runDef_if, oRepr_ok k1, oRepr_ok k2, e, g_bl]
theorem same_ref {h : AH} {a b : Nat} {L : List D} (ha : h[a]? = some (.lst L)) (hb : h[b]? = some (.lst L)) (c : Pl 16777216 60 (.fl L)) : F_law_same [.ref a, .ref b] h = some (.bl true, h) := by
  have e1 : dat (.val (.ref a)) h = .fl L := by unfold dat; dsimp only; rw [ha]
  have e2 : dat (.val (.ref b)) h = .fl L := by unfold dat; dsimp only; rw [hb]
  exact same_ok (by rw [e1, e2]) (by rw [e2]; exact c)
theorem same_st {S : Sys} {s : Sta} {h : AH} (gd : S.Gd) (ok : StOk S s) : F_law_same [s.d, s.d] h = some (.bl true, h) :=
  same_ok rfl ((st_pl gd ok).up (by decide) (by decide))
theorem same_int {h : AH} {i : Int} (h1 : -999999999999 ≤ i) (h2 : i ≤ 999999999999) : F_law_same [.int i, .int i] h = some (.bl true, h) := same_ok rfl ((pl_int h1 h2).up (by decide) (by decide))
theorem same_bl {h : AH} {b : Bool} : F_law_same [.bl b, .bl b] h = some (.bl true, h) := by
  have k : okR (dat (.val (.bl b)) h) = true := by
    show okR (.bl b) = true
    unfold okR
    rw [show (D.bl b).rb = true from rfl, show (D.bl b).rdp = 0 from rfl, show (D.bl b).rsz = 13 from rfl]
    rfl
  unfold F_law_same b_law_same
  simp -implicitDefEqProofs (disch := first | assumption | omega | (simp only [List.length_cons, List.length_nil, List.length_map, List.length_set, List.length_append]; omega)) [runDef_if, oRepr_ok k, g_bl]
/-! ## the beginning -/
def Prc.fst0 (p : Prc) : Str := p.places.headD ""
theorem fst0_cons {p : Prc} {x : Str} {r : List Str} (e : p.places = x :: r) : p.fst0 = x := by unfold Prc.fst0; rw [e]; rfl
def Dat.beg : Dat → Vl
  | .num _ _ _ fi => .num fi
  | .que .. => .que []
def Sys.beg (S : Sys) : Sta := ⟨S.prcs.map fun p => p.fst0, S.dats.map Dat.beg⟩
theorem beg_ok {S : Sys} (gd : S.Gd) : StOk S S.beg where
  np := by simp [Sys.beg]
  nv := by simp [Sys.beg]
  pl := fun i p l h1 h2 => by
    have h2 : (S.prcs.map fun p => p.fst0)[i]? = some l := h2
    rw [List.getElem?_map, h1] at h2
    have hn := gd.pc p (List.mem_of_getElem? h1)
    cases hp : p.places with
    | nil => exact absurd hp hn
    | cons x r =>
      rw [Option.map_some, fst0_cons hp] at h2
      cases h2
      exact List.mem_cons_self
  vl := fun i d v h1 h2 => by
    have h2 : (S.dats.map Dat.beg)[i]? = some v := h2
    rw [List.getElem?_map, h1] at h2
    cases h2
    have := gd.dt d (List.mem_of_getElem? h1)
    cases d with
    | num nm lo hi fi => exact ⟨this.2.2.1, this.2.2.2.1⟩
    | que nm room lo hi => exact ⟨by have := this.2.1; simp; omega, fun n hn => by cases hn⟩
theorem begin_both {S : Sys} {h : AH} (gd : S.Gd) : F_beginning [S.d] h = some (S.beg.d, h) ∧ F_law_beginning [S.d] h = some (S.beg.d, h) := by
  have n1 : S.prcs.length ≤ 16777216 := Nat.le_trans gd.np (by decide)
  have n2 : S.dats.length ≤ 16777216 := Nat.le_trans gd.nd (by decide)
  have hd : ∀ p ∈ S.prcs, ∃ x r, p.places = x :: r := fun p hp => by
    cases e : p.places with
    | nil => exact absurd e (gd.pc p hp)
    | cons x r => exact ⟨x, r, rfl⟩
  have e1 : S.prcs.map (fun p => D.str (p.fst0)) = (S.prcs.map fun p => p.fst0).map D.str := by rw [List.map_map]; rfl
  have e2 : S.dats.map (fun d : Dat => d.beg.d) = (S.dats.map Dat.beg).map Vl.d := by rw [List.map_map]; rfl
  constructor
  · unfold F_beginning b_beginning
    unfold Sys.d
    simp -implicitDefEqProofs (disch := first | assumption | omega | (simp only [List.length_cons, List.length_nil, List.length_map, List.length_set, List.length_append]; omega)) [runDef_if]
    rw [compL_mapT (fun p : Prc => .str (p.fst0)) rfl _ (fun p hp => by
      obtain ⟨x, r, e⟩ := hd p hp
      refine ⟨_, rfl, ?_⟩
      unfold Prc.d
      simp -implicitDefEqProofs (disch := first | assumption | omega | (simp only [List.length_cons, List.length_nil, List.length_map, List.length_set, List.length_append]; omega)) [e, fst0_cons e])]
    simp -implicitDefEqProofs (disch := first | assumption | omega | (simp only [List.length_cons, List.length_nil, List.length_map, List.length_set, List.length_append]; omega)) [n1]
    rw [compL_mapT (fun d : Dat => d.beg.d) rfl _ (fun d _ => by
      refine ⟨_, rfl, ?_⟩
      cases d with
      | num nm lo hi fi => unfold Dat.d; simp -implicitDefEqProofs (disch := first | assumption | omega | (simp only [List.length_cons, List.length_nil, List.length_map, List.length_set, List.length_append]; omega)) [Dat.beg, Vl.d]
      | que nm room lo hi => unfold Dat.d; simp -implicitDefEqProofs (disch := first | assumption | omega | (simp only [List.length_cons, List.length_nil, List.length_map, List.length_set, List.length_append]; omega)) [Dat.beg, Vl.d])]
    simp -implicitDefEqProofs (disch := first | assumption | omega | (simp only [List.length_cons, List.length_nil, List.length_map, List.length_set, List.length_append]; omega)) [n2]
    rw [e1, e2]
    exact gc_st0 (s := S.beg)
  · unfold F_law_beginning b_law_beginning
    unfold Sys.d
    simp -implicitDefEqProofs (disch := first | assumption | omega | (simp only [List.length_cons, List.length_nil, List.length_map, List.length_set, List.length_append]; omega)) [runDef_if]
    rw [compL_mapT (fun d : Dat => d.beg.d) rfl _ (fun d _ => by
      refine ⟨_, rfl, ?_⟩
      cases d with
      | num nm lo hi fi => unfold Dat.d; simp -implicitDefEqProofs (disch := first | assumption | omega | (simp only [List.length_cons, List.length_nil, List.length_map, List.length_set, List.length_append]; omega)) [Dat.beg, Vl.d]
      | que nm room lo hi => unfold Dat.d; simp -implicitDefEqProofs (disch := first | assumption | omega | (simp only [List.length_cons, List.length_nil, List.length_map, List.length_set, List.length_append]; omega)) [Dat.beg, Vl.d])]
    simp -implicitDefEqProofs (disch := first | assumption | omega | (simp only [List.length_cons, List.length_nil, List.length_map, List.length_set, List.length_append]; omega)) [n2]
    rw [compL_mapT (fun p : Prc => .str (p.fst0)) rfl _ (fun p hp => by
      obtain ⟨x, r, e⟩ := hd p hp
      refine ⟨_, rfl, ?_⟩
      unfold Prc.d
      simp -implicitDefEqProofs (disch := first | assumption | omega | (simp only [List.length_cons, List.length_nil, List.length_map, List.length_set, List.length_append]; omega)) [e, fst0_cons e])]
    simp -implicitDefEqProofs (disch := first | assumption | omega | (simp only [List.length_cons, List.length_nil, List.length_map, List.length_set, List.length_append]; omega)) [n1]
    rw [e1, e2]
    exact gc_st (s := S.beg)
end Sm
namespace Sm
open PySem PySem.Spec PyProof.Rows L2
/-! ## each state once -/
def snd (e : D) : D := match e with
  | .tup [_, b] => b
  | _ => .non
def nubG : List D → List D → List D
  | acc, [] => acc
  | acc, e :: r => nubG (if acc.contains (snd e) = true then acc else acc ++ [snd e]) r
def StD (S : Sys) (d : D) : Prop := ∃ s, StOk S s ∧ d = Sta.d s
theorem nubG_ok {S : Sys} : ∀ (L acc : List D), (∀ e ∈ L, EntOk S e) → (∀ d ∈ acc, StD S d) → (∀ d ∈ nubG acc L, StD S d) ∧ (nubG acc L).length ≤ acc.length + L.length
  | [], acc, _, ha => ⟨ha, Nat.le_refl _⟩
  | e :: r, acc, hl, ha => by
    obtain ⟨pn, t, s, rfl, ok, _, _⟩ := hl e List.mem_cons_self
    unfold nubG
    by_cases c : acc.contains (snd (.tup [.tup [.str pn, .str t], s.d])) = true
    · rw [if_pos c]
      obtain ⟨h1, h2⟩ := nubG_ok r acc (fun e he => hl e (List.mem_cons_of_mem _ he)) ha
      exact ⟨h1, by rw [List.length_cons]; omega⟩
    · rw [if_neg c]
      obtain ⟨h1, h2⟩ := nubG_ok r (acc ++ [s.d]) (fun e he => hl e (List.mem_cons_of_mem _ he)) (fun d hd => by
        rcases List.mem_append.mp hd with z | z
        · exact ha d z
        · exact ⟨s, ok, List.mem_singleton.mp z⟩)
      refine ⟨h1, ?_⟩
      rw [List.length_append, List.length_singleton] at h2
      rw [List.length_cons]
      exact Nat.le_trans h2 (by omega)
theorem std_pl {S : Sys} (gd : S.Gd) {d : D} (h : StD S d) : Pl 3200 3 d := by
  obtain ⟨s, ok, rfl⟩ := h
  exact st_pl gd ok
theorem stds_pl {S : Sys} (gd : S.Gd) {L : List D} (h : ∀ d ∈ L, StD S d) (hl : L.length ≤ 2000) : Pl 16777216 60 (.fl L) :=
  (pl_fl (n := 3200) (k := 3) (m := 16777216) (fun e he => std_pl gd (h e he)) (by omega)).up (Nat.le_refl _) (by decide)
theorem dat_ref {h : AH} {a : Nat} {L : List D} (e : h[a]? = some (.lst L)) : dat (.val (.ref a)) h = .fl L := by unfold dat; dsimp only; rw [e]
theorem notin_st {S : Sys} (gd : S.Gd) {h : AH} {f : Nat} {acc : List D} {s : Sta} (ok : StOk S s) (ha : ∀ d ∈ acc, StD S d) (hl : acc.length ≤ 2000) (e : h[f]? = some (.lst acc)) :
    oNotInD (.val s.d) (.val (.ref f)) h = some (.val (.bl (!acc.contains s.d)), h) := by
  have p1 := st_pl gd ok
  have p2 := stds_pl gd ha hl
  refine oNotInD_ok (x := .val s.d) (dat_ref e) ?_
  show (s.d.nb && (D.fl acc).nb && decide (s.d.dep ≤ 64) && decide ((D.fl acc).dep ≤ 64)) = true
  rw [p1.nb, p2.nb, decide_eq_true (Nat.le_trans p1.dp (by decide)), decide_eq_true (Nat.le_trans p2.dp (by decide))]
  rfl
section
variable {S : Sys} {f a : Nat} {L0 : List D}
theorem nx_go (gd : S.Gd) (hfa : f ≠ a) {s : Sta} : ∀ (L acc : List D) (h : AH) (y3 y4 : Option D), (∀ e ∈ L, EntOk S e) → (∀ d ∈ acc, StD S d) → acc.length + L.length ≤ 2000 → h[f]? = some (.lst acc) → h[a]? = some (.lst L0) →
    ∃ y3' y4', forL [(a, L0)] (gT 2 (gsC (gN 3) (gsC (gN 4) gsN))) l_next_states_1 L [some S.d, some s.d, some (.ref f), y3, y4] h = some (.nx [some S.d, some s.d, some (.ref f), y3', y4'] (h.set f (.lst (nubG acc L))))
  | [], acc, h, y3, y4, _, _, _, hf, ha => ⟨y3, y4, by
    rw [forL_nil (by simp [grdOk, ha])]
    congr 2
    have hlt := (List.getElem?_eq_some_iff.mp hf).1
    have e := (List.getElem?_eq_some_iff.mp hf).2
    show h = h.set f (.lst acc)
    rw [← e, List.set_getElem_self]⟩
  | e :: L, acc, h, y3, y4, hL, hA, hl, hf, ha => by
    obtain ⟨pn, t, s', rfl, ok, _, _⟩ := hL e List.mem_cons_self
    rw [List.length_cons] at hl
    have hlt := (List.getElem?_eq_some_iff.mp hf).1
    have ni := notin_st gd ok hA (by omega) hf
    have c0 : grdOk [(a, L0)] h = true := by simp [grdOk, ha]
    by_cases c : acc.contains s'.d = true
    · obtain ⟨y3', y4', q⟩ := nx_go gd hfa (s := s) L acc h (some (.tup [.str pn, .str t])) (some s'.d) (fun e he => hL e (List.mem_cons_of_mem _ he)) hA (by omega) hf ha
      refine ⟨y3', y4', ?_⟩
      rw [c] at ni
      have en : nubG acc (.tup [.tup [.str pn, .str t], s'.d] :: L) = nubG acc L := by
        show nubG (if acc.contains s'.d = true then acc else acc ++ [s'.d]) L = _
        rw [if_pos c]
      rw [en, forL_cons c0 (τ1 := [some S.d, some s.d, some (.ref f), some (.tup [.str pn, .str t]), some s'.d]) (h1 := h) (τ2 := [some S.d, some s.d, some (.ref f), some (.tup [.str pn, .str t]), some s'.d]) (h2 := h) rfl (by
        unfold l_next_states_1
        simp -implicitDefEqProofs (disch := first | assumption | omega | (simp only [List.length_cons, List.length_nil, List.length_map, List.length_set, List.length_append]; omega)) [ni])]
      exact q
    · have hlt2 : f < h.length := hlt
      obtain ⟨y3', y4', q⟩ := nx_go gd hfa (s := s) L (acc ++ [s'.d]) (h.set f (.lst (acc ++ [s'.d]))) (some (.tup [.str pn, .str t])) (some s'.d) (fun e he => hL e (List.mem_cons_of_mem _ he)) (fun d hd => by
        rcases List.mem_append.mp hd with z | z
        · exact hA d z
        · exact ⟨s', ok, List.mem_singleton.mp z⟩) (by rw [List.length_append, List.length_singleton]; omega) (List.getElem?_set_self hlt) (by rw [List.getElem?_set_ne hfa]; exact ha)
      refine ⟨y3', y4', ?_⟩
      have c' : acc.contains s'.d = false := by simpa using c
      have la : acc.length < 16777216 := by omega
      rw [c'] at ni
      have en : nubG acc (.tup [.tup [.str pn, .str t], s'.d] :: L) = nubG (acc ++ [s'.d]) L := by
        show nubG (if acc.contains s'.d = true then acc else acc ++ [s'.d]) L = _
        rw [if_neg c]
      have hf3 := get_all hf
      rw [en, forL_cons c0 (τ1 := [some S.d, some s.d, some (.ref f), some (.tup [.str pn, .str t]), some s'.d]) (h1 := h) (τ2 := [some S.d, some s.d, some (.ref f), some (.tup [.str pn, .str t]), some s'.d]) (h2 := h.set f (.lst (acc ++ [s'.d]))) rfl (by
        unfold l_next_states_1
        simp -implicitDefEqProofs (disch := first | assumption | omega | (simp only [List.length_cons, List.length_nil, List.length_map, List.length_set, List.length_append]; omega)) [ni, hf, hf3, la])]
      rw [q, List.set_set]
theorem lw_go (gd : S.Gd) (hfa : f ≠ a) {x0 x1 x2 x3 x4 x5 x6 x7 x9 x12 x13 : Option D} : ∀ (L acc : List D) (h : AH) (y3 y4 : Option D), (∀ e ∈ L, EntOk S e) → (∀ d ∈ acc, StD S d) → acc.length + L.length ≤ 2000 → h[f]? = some (.lst acc) → h[a]? = some (.lst L0) →
    ∃ y3' y4', forL [(a, L0)] (gT 2 (gsC (gN 10) (gsC (gN 11) gsN))) l_law_2 L [x0, x1, x2, x3, x4, x5, x6, x7, some (.ref f), x9, y3, y4, x12, x13] h = some (.nx [x0, x1, x2, x3, x4, x5, x6, x7, some (.ref f), x9, y3', y4', x12, x13] (h.set f (.lst (nubG acc L))))
  | [], acc, h, y3, y4, _, _, _, hf, ha => ⟨y3, y4, by
    rw [forL_nil (by simp [grdOk, ha])]
    congr 2
    have hlt := (List.getElem?_eq_some_iff.mp hf).1
    have e := (List.getElem?_eq_some_iff.mp hf).2
    show h = h.set f (.lst acc)
    rw [← e, List.set_getElem_self]⟩
  | e :: L, acc, h, y3, y4, hL, hA, hl, hf, ha => by
    obtain ⟨pn, t, s', rfl, ok, _, _⟩ := hL e List.mem_cons_self
    rw [List.length_cons] at hl
    have hlt := (List.getElem?_eq_some_iff.mp hf).1
    have ni := notin_st gd ok hA (by omega) hf
    have c0 : grdOk [(a, L0)] h = true := by simp [grdOk, ha]
    by_cases c : acc.contains s'.d = true
    · obtain ⟨y3', y4', q⟩ := lw_go gd hfa (x0 := x0) (x1 := x1) (x2 := x2) (x3 := x3) (x4 := x4) (x5 := x5) (x6 := x6) (x7 := x7) (x9 := x9) (x12 := x12) (x13 := x13) L acc h (some (.tup [.str pn, .str t])) (some s'.d) (fun e he => hL e (List.mem_cons_of_mem _ he)) hA (by omega) hf ha
      refine ⟨y3', y4', ?_⟩
      rw [c] at ni
      have en : nubG acc (.tup [.tup [.str pn, .str t], s'.d] :: L) = nubG acc L := by
        show nubG (if acc.contains s'.d = true then acc else acc ++ [s'.d]) L = _
        rw [if_pos c]
      rw [en, forL_cons c0 (τ1 := [x0, x1, x2, x3, x4, x5, x6, x7, some (.ref f), x9, some (.tup [.str pn, .str t]), some s'.d, x12, x13]) (h1 := h) (τ2 := [x0, x1, x2, x3, x4, x5, x6, x7, some (.ref f), x9, some (.tup [.str pn, .str t]), some s'.d, x12, x13]) (h2 := h) rfl (by
        unfold l_law_2
        simp -implicitDefEqProofs (disch := first | assumption | omega | (simp only [List.length_cons, List.length_nil, List.length_map, List.length_set, List.length_append]; omega)) [ni])]
      exact q
    · have hlt2 : f < h.length := hlt
      obtain ⟨y3', y4', q⟩ := lw_go gd hfa (x0 := x0) (x1 := x1) (x2 := x2) (x3 := x3) (x4 := x4) (x5 := x5) (x6 := x6) (x7 := x7) (x9 := x9) (x12 := x12) (x13 := x13) L (acc ++ [s'.d]) (h.set f (.lst (acc ++ [s'.d]))) (some (.tup [.str pn, .str t])) (some s'.d) (fun e he => hL e (List.mem_cons_of_mem _ he)) (fun d hd => by
        rcases List.mem_append.mp hd with z | z
        · exact hA d z
        · exact ⟨s', ok, List.mem_singleton.mp z⟩) (by rw [List.length_append, List.length_singleton]; omega) (List.getElem?_set_self hlt) (by rw [List.getElem?_set_ne hfa]; exact ha)
      refine ⟨y3', y4', ?_⟩
      have c' : acc.contains s'.d = false := by simpa using c
      have la : acc.length < 16777216 := by omega
      rw [c'] at ni
      have en : nubG acc (.tup [.tup [.str pn, .str t], s'.d] :: L) = nubG (acc ++ [s'.d]) L := by
        show nubG (if acc.contains s'.d = true then acc else acc ++ [s'.d]) L = _
        rw [if_neg c]
      have hf3 := get_all hf
      rw [en, forL_cons c0 (τ1 := [x0, x1, x2, x3, x4, x5, x6, x7, some (.ref f), x9, some (.tup [.str pn, .str t]), some s'.d, x12, x13]) (h1 := h) (τ2 := [x0, x1, x2, x3, x4, x5, x6, x7, some (.ref f), x9, some (.tup [.str pn, .str t]), some s'.d, x12, x13]) (h2 := h.set f (.lst (acc ++ [s'.d]))) rfl (by
        unfold l_law_2
        simp -implicitDefEqProofs (disch := first | assumption | omega | (simp only [List.length_cons, List.length_nil, List.length_map, List.length_set, List.length_append]; omega)) [ni, hf, hf3, la])]
      rw [q, List.set_set]
end
/-- what is told for the next states -/
def nxt (L : List D) (s : Sta) : List D := if nubG [] L = [] then [s.d] else nubG [] L
theorem stds_low {S : Sys} {n : Nat} {L : List D} (h : ∀ d ∈ L, StD S d) : D.lows n L = true := lows_of fun d hd => by
  obtain ⟨s, _, rfl⟩ := h d hd
  exact sta_low s
theorem next_ok {S : Sys} {s : Sta} {h : AH} {L : List D} (gd : S.Gd) (ok : StOk S s) (hL : ∀ e ∈ L, EntOk S e) (hl : L.length ≤ 1000) (he : ∀ h : AH, F_enabled [S.d, s.d] h = some (.ref h.length, h ++ [.lst L])) :
    F_next_states [S.d, s.d] h = some (.ref h.length, h ++ [.lst (nxt L s)]) := by
  obtain ⟨n1, n2⟩ := nubG_ok (S := S) L [] hL (fun _ h => by cases h)
  obtain ⟨y3, y4, q⟩ := nx_go (f := h.length) (a := h.length + 1) (L0 := L) gd (by omega) (s := s) L [] (h ++ [.lst [], .lst L]) none none hL (fun _ h => by cases h) (by simp; omega) (by simp) (by simp)
  have q2 : (h ++ [O.lst [], .lst L]).set h.length (.lst (nubG [] L)) = h ++ [.lst (nubG [] L), .lst L] := by simp
  rw [q2] at q
  have e1 := he (h ++ [.lst []])
  unfold F_next_states b_next_states
  simp -implicitDefEqProofs (disch := first | assumption | omega | (simp only [List.length_cons, List.length_nil, List.length_map, List.length_set, List.length_append]; omega)) [runDef_if, e1]
  rw [q]
  unfold nxt
  cases hn : nubG [] L with
  | nil =>
    have g := gc_list (h := h) (j := [.lst [], .lst L, .lst [s.d]]) (k := h.length + 2) (ds := [s.d]) (by omega) (by simp) (by simp [sta_low])
    simp -implicitDefEqProofs (disch := first | assumption | omega | (simp only [List.length_cons, List.length_nil, List.length_map, List.length_set, List.length_append]; omega)) [g]
  | cons x r =>
    rw [hn] at n1
    have g := gc_list (h := h) (j := [.lst (x :: r), .lst L]) (k := h.length) (ds := x :: r) (by omega) (by simp) (stds_low n1)
    simp -implicitDefEqProofs (disch := first | assumption | omega | (simp only [List.length_cons, List.length_nil, List.length_map, List.length_set, List.length_append]; omega)) [g]
end Sm
namespace Sm
open PySem PySem.Spec PyProof.Rows L2
/-! ## is_state -/
inductive IvAll : List Dat → List D → List Bool → Prop
  | nil : IvAll [] [] []
  | cons {d v b ds vs bs} : (∀ h, F_is_value [Dat.d d, v] h = some (.bl b, h)) → IvAll ds vs bs → IvAll (d :: ds) (v :: vs) (b :: bs)
theorem IvAll.len {ds : List Dat} {vs : List D} {bs : List Bool} (a : IvAll ds vs bs) : vs.length = ds.length ∧ bs.length = ds.length := by
  induction a with
  | nil => exact ⟨rfl, rfl⟩
  | cons _ _ ih => simp [ih]
theorem IvAll.set {ds : List Dat} {vs : List D} {bs : List Bool} (a : IvAll ds vs bs) : ∀ {i : Nat} {d : Dat} {v : D} {b : Bool}, ds[i]? = some d → (∀ h, F_is_value [d.d, v] h = some (.bl b, h)) → IvAll ds (vs.set i v) (bs.set i b) := by
  induction a with
  | nil => intro i d v b h _; simp at h
  | @cons d0 v0 b0 ds vs bs h0 a ih =>
    intro i d v b h1 h2
    cases i with
    | zero =>
      have : d0 = d := by simpa using h1
      subst this
      exact .cons h2 a
    | succ i => exact .cons h0 (ih (by simpa using h1) h2)
theorem iv_st {S : Sys} {s : Sta} (gd : S.Gd) (ok : StOk S s) : IvAll S.dats (s.vls.map Vl.d) (S.dats.map fun _ => true) := by
  have go : ∀ (ds : List Dat) (vs : List Vl), (∀ d ∈ ds, d.Ok) → vs.length = ds.length → (∀ (i : Nat) d v, ds[i]? = some d → vs[i]? = some v → Fits d v) → IvAll ds (vs.map Vl.d) (ds.map fun _ => true) := by
    intro ds
    induction ds with
    | nil => intro vs _ hl _; cases vs with
      | nil => exact .nil
      | cons _ _ => cases hl
    | cons d ds ih =>
      intro vs hd hl hf
      cases vs with
      | nil => cases hl
      | cons v vs =>
        have f : Fits d v := hf 0 d v rfl rfl
        have okd := hd d List.mem_cons_self
        refine .cons (fun h => ?_) (ih vs (fun d h => hd d (List.mem_cons_of_mem _ h)) (by simpa using hl) fun i d v h1 h2 => hf (i + 1) d v (by simpa using h1) (by simpa using h2))
        cases d with
        | num nm lo hi fi =>
          cases v with
          | que ns => exact f.elim
          | num i =>
            have f : lo ≤ i ∧ i ≤ hi := f
            show F_is_value [_, .int i] h = _
            rw [iv_num, decide_eq_true f]
        | que nm room lo hi =>
          cases v with
          | num i => exact f.elim
          | que ns =>
            obtain ⟨f1, f2⟩ := f
            obtain ⟨_, _, a1, _, _, _⟩ := okd
            show F_is_value [_, .tup (ns.map D.int)] h = _
            rw [iv_que (by omega), decide_eq_true f1, List.all_eq_true.mpr fun y hy => decide_eq_true (f2 y hy)]
            rfl
  exact go S.dats s.vls gd.dt ok.nv ok.vl
theorem flat_strs2 (xs : List Str) : (D.flat (.str x) && (xs.map D.str).all D.flat) = true := by rw [flat_strs]; rfl
def plB (pls : List Str) (ps : List Prc) : List Bool := List.zipWith (fun l p => decide (l ∈ p.places)) pls ps
theorem contains_str {l : Str} : ∀ xs : List Str, (xs.map D.str).contains (.str l) = decide (l ∈ xs)
  | [] => rfl
  | x :: r => by
    rw [List.map_cons, List.contains_cons, contains_str r]
    by_cases e : l = x
    · subst e; simp
    · have e2 : (D.str l == D.str x) = false := by simp [e]
      rw [e2, Bool.false_or]
      simp [e]
theorem zp_go {x0 x1 x2 x3 x4 x5 : Option D} {h : AH} : ∀ (pls : List Str) (ps : List Prc), compL [] (gT 2 (gsC (gN 6) (gsC (gN 7) gsN))) mYes (mBin oIn (mVar 6) (mBin oIx (mVar 7) (mC (.int 2)))) [x0, x1, x2, x3, x4, x5, none, none] (zipD (pls.map D.str) (ps.map Prc.d)) h = some ((plB pls ps).map D.bl, h)
  | [], _ => rfl
  | _ :: _, [] => rfl
  | l :: pls, p :: ps => by
    have ih := zp_go (x0 := x0) (x1 := x1) (x2 := x2) (x3 := x3) (x4 := x4) (x5 := x5) (h := h) pls ps
    have e := inK_some (neg := false) (h := h) (flat_strs2 (x := l) p.places)
    rw [contains_str] at e
    rw [if_neg (by decide)] at e
    show compL [] _ _ _ _ (.zt [.str l, p.d] :: zipD (pls.map D.str) (ps.map Prc.d)) h = _
    rw [compL_cons']
    unfold Prc.d at ih ⊢
    simp -implicitDefEqProofs (disch := first | assumption | omega | (simp only [List.length_cons, List.length_nil, List.length_map, List.length_set, List.length_append]; omega)) [e, ih, plB]
theorem zv_go {x0 x1 x2 x3 x6 x7 : Option D} {h : AH} {ds : List Dat} {vs : List D} {bs : List Bool} (a : IvAll ds vs bs) : compL [] (gT 2 (gsC (gN 4) (gsC (gN 5) gsN))) mYes (mCall F_is_value (mCons (mVar 4) (mCons (mVar 5) mNil))) [x0, x1, x2, x3, none, none, x6, x7] (zipD (ds.map Dat.d) vs) h = some (bs.map D.bl, h) := by
  induction a with
  | nil => rfl
  | @cons d v b ds vs bs h0 a ih =>
    show compL [] _ _ _ _ (.zt [d.d, v] :: zipD (ds.map Dat.d) vs) h = _
    rw [compL_cons']
    simp -implicitDefEqProofs (disch := first | assumption | omega | (simp only [List.length_cons, List.length_nil, List.length_map, List.length_set, List.length_append]; omega)) [h0, ih]
theorem bls_bs (bs : List Bool) : bls (bs.map D.bl) = some bs := by
  have := blsM (fun b : Bool => b) bs
  simpa using this
section
variable {S : Sys} {pls : List Str} {vs : List D} {h : AH}
theorem is_len1 (c : pls.length ≠ S.prcs.length) : F_is_state [S.d, .tup [.tup (pls.map D.str), .tup vs]] h = some (.bl false, h) := by
  have c2 : ¬ ((pls.length : Int) = (S.prcs.length : Int)) := by omega
  unfold F_is_state b_is_state Sys.d
  simp -implicitDefEqProofs (disch := first | assumption | omega | (simp only [List.length_cons, List.length_nil, List.length_map, List.length_set, List.length_append]; omega)) [runDef_if, c2, g_bl, -mZip_eq]
theorem is_len2 (c0 : pls.length = S.prcs.length) (c : vs.length ≠ S.dats.length) : F_is_state [S.d, .tup [.tup (pls.map D.str), .tup vs]] h = some (.bl false, h) := by
  have c1 : ((pls.length : Int) = (S.prcs.length : Int)) := by omega
  have c2 : ¬ ((vs.length : Int) = (S.dats.length : Int)) := by omega
  unfold F_is_state b_is_state Sys.d
  simp -implicitDefEqProofs (disch := first | assumption | omega | (simp only [List.length_cons, List.length_nil, List.length_map, List.length_set, List.length_append]; omega)) [runDef_if, c1, c2, g_bl, -mZip_eq]
theorem is_go (gd : S.Gd) (c0 : pls.length = S.prcs.length) {bs : List Bool} (a : IvAll S.dats vs bs) : F_is_state [S.d, .tup [.tup (pls.map D.str), .tup vs]] h = some (.bl (allB (plB pls S.prcs) && allB bs), h) := by
  have c1 : ((pls.length : Int) = (S.prcs.length : Int)) := by omega
  have c2 : ((vs.length : Int) = (S.dats.length : Int)) := by rw [a.len.1]
  have z1 : (plB pls S.prcs).length ≤ 16777216 := by
    unfold plB
    rw [List.length_zipWith]
    have := gd.np
    omega
  have z2 : bs.length ≤ 16777216 := by
    rw [a.len.2]
    have := gd.nd
    omega
  unfold F_is_state b_is_state Sys.d
  simp -implicitDefEqProofs (disch := first | assumption | omega | (simp only [List.length_cons, List.length_nil, List.length_map, List.length_set, List.length_append]; omega)) [runDef_if, c1, c2]
  rw [zp_go]
  simp -implicitDefEqProofs (disch := first | assumption | omega | (simp only [List.length_cons, List.length_nil, List.length_map, List.length_set, List.length_append]; omega)) [z1, bls_bs]
  by_cases e : allB (plB pls S.prcs) = true
  · simp -implicitDefEqProofs (disch := first | assumption | omega | (simp only [List.length_cons, List.length_nil, List.length_map, List.length_set, List.length_append]; omega)) [e]
    rw [zv_go a]
    simp -implicitDefEqProofs (disch := first | assumption | omega | (simp only [List.length_cons, List.length_nil, List.length_map, List.length_set, List.length_append]; omega)) [z2, bls_bs, g_bl]
  · have e : allB (plB pls S.prcs) = false := by simpa using e
    simp -implicitDefEqProofs (disch := first | assumption | omega | (simp only [List.length_cons, List.length_nil, List.length_map, List.length_set, List.length_append]; omega)) [e, g_bl]
end
theorem plB_st {S : Sys} {s : Sta} (ok : StOk S s) : allB (plB s.pls S.prcs) = true := by
  unfold plB allB
  rw [List.all_eq_true]
  intro b hb
  obtain ⟨i, hi, rfl⟩ := List.getElem_of_mem hb
  rw [List.getElem_zipWith]
  rw [List.length_zipWith] at hi
  exact decide_eq_true (ok.pl i _ _ (List.getElem?_eq_getElem (by omega)) (List.getElem?_eq_getElem (by omega)))
theorem is_true {S : Sys} {s : Sta} {h : AH} (gd : S.Gd) (ok : StOk S s) : F_is_state [S.d, s.d] h = some (.bl true, h) := by
  have e := is_go (h := h) gd ok.np (iv_st gd ok)
  rw [plB_st ok] at e
  have : allB (S.dats.map fun _ => true) = true := by unfold allB; rw [List.all_map]; exact List.all_eq_true.mpr fun _ _ => rfl
  rw [this] at e
  exact e
theorem set_false {bs : List Bool} {i : Nat} (hi : i < bs.length) : allB (bs.set i false) = false := by
  unfold allB
  rw [Bool.eq_false_iff]
  intro c
  have := List.all_eq_true.mp c false (List.mem_of_getElem? (List.getElem?_set_self hi))
  cases this
theorem is_bad_val {S : Sys} {s : Sta} {h : AH} {i : Nat} {d : Dat} {v : D} (gd : S.Gd) (ok : StOk S s) (hd : S.dats[i]? = some d) (hv : ∀ h, F_is_value [d.d, v] h = some (.bl false, h)) : F_is_state [S.d, .tup [.tup (s.pls.map D.str), .tup ((s.vls.map Vl.d).set i v)]] h = some (.bl false, h) := by
  have e := is_go (h := h) gd ok.np ((iv_st gd ok).set hd hv)
  rw [set_false (by rw [List.length_map]; exact (List.getElem?_eq_some_iff.mp hd).1), Bool.and_false] at e
  exact e
theorem is_bad_pl {S : Sys} {s : Sta} {h : AH} {i : Nat} {l : Str} (gd : S.Gd) (ok : StOk S s) (hi : i < s.pls.length) (hl : ∀ p ∈ S.prcs, l ∉ p.places) : F_is_state [S.d, .tup [.tup ((s.pls.set i l).map D.str), .tup (s.vls.map Vl.d)]] h = some (.bl false, h) := by
  have e := is_go (h := h) (pls := s.pls.set i l) gd (by rw [List.length_set]; exact ok.np) (iv_st gd ok)
  have : allB (plB (s.pls.set i l) S.prcs) = false := by
    unfold allB
    rw [Bool.eq_false_iff]
    intro c
    have hi2 : i < S.prcs.length := by rw [← ok.np]; exact hi
    have hlen : i < (plB (s.pls.set i l) S.prcs).length := by unfold plB; rw [List.length_zipWith, List.length_set]; omega
    have := List.all_eq_true.mp c _ (List.getElem_mem hlen)
    have h3 : (plB (s.pls.set i l) S.prcs)[i] = decide (l ∈ S.prcs[i].places) := by
      show (List.zipWith (fun l p => decide (l ∈ Prc.places p)) (s.pls.set i l) S.prcs)[i]'hlen = _
      exact (List.getElem_zipWith ..).trans (by rw [List.getElem_set_self])
    rw [h3] at this
    exact hl _ (List.getElem_mem hi2) (of_decide_eq_true this)
  rw [this] at e
  exact e
end Sm
namespace Sm
open PySem PySem.Spec PyProof.Rows L2
/-! ## spoilt states -/
theorem lows_rep {n : Nat} {xs : List D} (h : D.lows n xs = true) : ∀ k : Nat, D.lows n (List.replicate k xs).flatten = true
  | 0 => rfl
  | k + 1 => by rw [List.replicate_succ, List.flatten_cons, lows_app, h, lows_rep h k]; rfl
@[simp] theorem low_zt {n : Nat} {ds : List D} : D.low n (.zt ds) = D.lows n ds := by rw [D.low]
theorem len_rep1 {x : D} (k : Nat) : (List.replicate k [x]).flatten.length = k := by
  induction k with
  | zero => rfl
  | succ k ih => rw [List.replicate_succ, List.flatten_cons, List.length_append, ih, List.length_singleton]; omega
theorem lows_set {n : Nat} {xs : List D} {d : D} (h : D.lows n xs = true) (hd : d.low n = true) : ∀ i : Nat, D.lows n (xs.set i d) = true := by
  induction xs with
  | nil => intro i; rfl
  | cons x r ih =>
    intro i
    rw [lows_cons, Bool.and_eq_true] at h
    cases i with
    | zero => rw [List.set_cons_zero, lows_cons, hd, h.2]; rfl
    | succ i => rw [List.set_cons_succ, lows_cons, h.1, ih h.2 i]; rfl
section
variable {h j : AH} {b dg : Nat} {ds : List Int} {p q : Int} {S : Sys} {s : Sta}
theorem spoilt_ok (B : Bx h b dg ds p) (gd : S.Gd) (ok : StOk S s) (hq : 0 ≤ q) (hp : q < 900000) : ∃ X r q', q ≤ q' ∧ q' ≤ q + 10 ∧ (∀ h, F_is_state [S.d, X] h = some (.bl r, h)) ∧
    F_law_spoilt [.ref b, S.d, s.d] (bset h b dg q ++ j) = some (.ref (h.length + j.length), bset h b dg q' ++ (j ++ [.lst [X, .bl r]])) := by
  have DR := fun (q : Int) (j : AH) (m : Int) (a1 : 0 ≤ q) (a2 : q < 1000000) (a3 : 0 < m) => draw_loc (j := j) B a1 a2 a3
  have nv := ok.nv
  have np := ok.np
  have nd0 := gd.d0
  have np0 := gd.p0
  have nd1 := gd.nd
  have np1 := gd.np
  have d0 := dr_lo (ds := ds) (p := q) (m := s.vls.length) (by omega)
  have d1 := dr_hi (ds := ds) (p := q) (m := s.vls.length) (by omega)
  have c0 := dr_lo (ds := ds) (p := q + 1) (m := 7) (by omega)
  have c1 := dr_hi (ds := ds) (p := q + 1) (m := 7) (by omega)
  obtain ⟨a, ha⟩ := Int.eq_ofNat_of_zero_le d0
  have ha2 : a < S.dats.length := by omega
  have hd : S.dats[a]? = some S.dats[a] := List.getElem?_eq_getElem ha2
  generalize hdd : S.dats[a] = d at hd
  have hd2 : (S.dats.map Dat.d)[a]? = some d.d := by rw [List.getElem?_map, hd]; rfl
  have hd3 := get_all hd
  have okd := gd.dt d (List.mem_of_getElem? hd)
  have l1 : s.pls.length ≤ 16777216 := by omega
  have l2 : s.vls.length ≤ 16777216 := by omega
  have ha3 : (a : Int) < (s.vls.length : Int) := by omega
  have lp : D.lows 0 (s.pls.map D.str) = true := lows_strs _
  have lv : D.lows 0 (s.vls.map Vl.d) = true := lows_map vl_low _
  by_cases k0 : dr ds (q + 1) 7 = 0
  · have e1 : cutA (s.pls.map D.str) (some 1) none = (s.pls.drop 1).map D.str := by
      rw [show (1 : Int) = ((1 : Nat) : Int) from rfl, cut_from (by rw [List.length_map]; omega), List.map_drop]
    refine ⟨.tup [.tup ((s.pls.drop 1).map D.str), .tup (s.vls.map Vl.d)], false, q + 2, by omega, by omega, fun h => is_len1 (by rw [List.length_drop]; omega), ?_⟩
    have g := gc_locL (q := q) (j := j) (j' := [.lst (s.pls.map D.str), .lst (s.vls.map Vl.d), .lst [.tup [.tup ((s.pls.drop 1).map D.str), .tup (s.vls.map Vl.d)], .bl false]]) (k := 2) (q' := q + 2) B hq rfl (by simp only [lows_cons, low_tup, lows_strs, lv, lows_nil, low_bl, Bool.and_true, Bool.and_self])
    unfold F_law_spoilt b_law_spoilt
    unfold Sys.d Sta.d
    simp -implicitDefEqProofs (disch := first | assumption | omega | (simp only [List.length_cons, List.length_nil, List.length_map, List.length_set, List.length_append]; omega)) [runDef_if, DR, ha, hd2, hd3, k0, l1, l2, e1, -List.getElem?_map, -List.map_drop]
    rw [show q + 1 + 1 = q + 2 by omega]
    simpa [-List.map_drop] using g
  by_cases k1 : dr ds (q + 1) 7 = 1
  · refine ⟨.tup [.tup (s.pls.map D.str), .tup (s.vls.map Vl.d ++ [.int 0])], false, q + 2, by omega, by omega, fun h => is_len2 np (by simp; omega), ?_⟩
    have n1 : s.vls.length ≤ 16777215 := by omega
    have g := gc_locL (q := q) (j := j) (j' := [.lst (s.pls.map D.str), .lst (s.vls.map Vl.d), .lst [.tup [.tup (s.pls.map D.str), .tup (s.vls.map Vl.d ++ [.int 0])], .bl false]]) (k := 2) (q' := q + 2) B hq rfl (by simp [lp, lv, lows_app])
    unfold F_law_spoilt b_law_spoilt
    unfold Sys.d Sta.d
    simp -implicitDefEqProofs (disch := first | assumption | omega | (simp only [List.length_cons, List.length_nil, List.length_map, List.length_set, List.length_append]; omega)) [runDef_if, DR, ha, hd2, hd3, k1, l1, l2, n1, -List.getElem?_map]
    rw [show q + 1 + 1 = q + 2 by omega]
    simpa using g
  by_cases k2 : dr ds (q + 1) 7 = 2
  · have e0 := dr_lo (ds := ds) (p := q + 1 + 1) (m := s.pls.length) (by omega)
    have e1 := dr_hi (ds := ds) (p := q + 1 + 1) (m := s.pls.length) (by omega)
    obtain ⟨c, hc⟩ := Int.eq_ofNat_of_zero_le e0
    have hc3 : (c : Int) < (s.pls.length : Int) := by omega
    refine ⟨.tup [.tup ((s.pls.set c "no").map D.str), .tup (s.vls.map Vl.d)], false, q + 3, by omega, by omega, fun h => is_bad_pl gd ok (by omega) gd.no, ?_⟩
    have g := gc_locL (q := q) (j := j) (j' := [.lst ((s.pls.set c "no").map D.str), .lst (s.vls.map Vl.d), .lst [.tup [.tup ((s.pls.set c "no").map D.str), .tup (s.vls.map Vl.d)], .bl false]]) (k := 2) (q' := q + 3) B hq rfl (by simp [lp, lv, lows_strs, -List.map_set])
    have e4 : (s.pls.map D.str).set c (.str "no") = (s.pls.set c "no").map D.str := by rw [List.map_set]
    unfold F_law_spoilt b_law_spoilt
    unfold Sys.d Sta.d
    simp -implicitDefEqProofs (disch := first | assumption | omega | (simp only [List.length_cons, List.length_nil, List.length_map, List.length_set, List.length_append]; omega)) [runDef_if, DR, ha, hd2, hd3, k2, l1, l2, hc, hc3, e4, -List.getElem?_map, -List.map_set]
    rw [show q + 1 + 1 + 1 = q + 3 by omega]
    simpa [-List.map_set] using g
  have fin : ∀ v : D, v.low 0 = true → (∀ h, F_is_value [d.d, v] h = some (.bl false, h)) → ∀ (q' : Int), q' = q + 3 →
      (∃ X r, (∀ h, F_is_state [S.d, X] h = some (.bl r, h)) ∧ (if dr ds (q + 1) 7 = 3 then (X = .tup [.tup (s.pls.map D.str), .tup ((s.vls.map Vl.d).set a v)] ∧ r = false) else (X = s.d ∧ r = true)) ∧ X.low 0 = true) := by
    intro v lv0 hv q' _
    by_cases k3 : dr ds (q + 1) 7 = 3
    · exact ⟨.tup [.tup (s.pls.map D.str), .tup ((s.vls.map Vl.d).set a v)], false, fun h => is_bad_val gd ok hd hv, by rw [if_pos k3]; exact ⟨rfl, rfl⟩, by simp [lp, lows_set lv lv0]⟩
    · exact ⟨s.d, true, fun h => is_true gd ok, by rw [if_neg k3]; exact ⟨rfl, rfl⟩, sta_low s⟩
  cases d with
  | num nm lo hi fi =>
    have e := dk_mem (xs := [.int (hi + 1), .int (lo - 1), .tup [], .bl true]) (dd := ds) (q := q + 1 + 1) (m := 4) (by omega) (by simp)
    have ix := fun hh : AH => ix_dr (xs := [.int (hi + 1), .int (lo - 1), .tup [], .bl true]) (dd := ds) (q := q + 1 + 1) (m := 4) (h := hh) (by omega) (by simp)
    generalize dk [.int (hi + 1), .int (lo - 1), .tup [], .bl true] ds (q + 1 + 1) 4 = v at e ix
    have okd' : lo ≤ fi ∧ fi ≤ hi := ⟨okd.2.2.1, okd.2.2.2.1⟩
    have hv : v.low 0 = true ∧ ∀ h, F_is_value [Dat.d (.num nm lo hi fi), v] h = some (.bl false, h) := by
      simp only [List.mem_cons, List.not_mem_nil, or_false] at e
      rcases e with rfl | rfl | rfl | rfl
      · exact ⟨rfl, fun h => by rw [iv_num, decide_eq_false (by omega)]⟩
      · exact ⟨rfl, fun h => by rw [iv_num, decide_eq_false (by omega)]⟩
      · exact ⟨rfl, fun h => iv_num_tup⟩
      · exact ⟨rfl, fun h => iv_num_bl⟩
    obtain ⟨X, r, x1, x2, x3⟩ := fin v hv.1 hv.2 _ rfl
    refine ⟨X, r, q + 3, by omega, by omega, x1, ?_⟩
    have lvs : D.lows 0 ((s.vls.map Vl.d).set a v) = true := lows_set lv hv.1 a
    have g := gc_locL (q := q) (j := j) (j' := [.lst (s.pls.map D.str), .lst ((s.vls.map Vl.d).set a v), .lst [X, .bl r]]) (k := 2) (q' := q + 3) B hq rfl (by simp [x3])
    unfold F_law_spoilt b_law_spoilt
    unfold Sys.d
    unfold Sta.d at x2 ⊢
    by_cases k3 : dr ds (q + 1) 7 = 3
    · rw [if_pos k3] at x2
      obtain ⟨rfl, rfl⟩ := x2
      simp -implicitDefEqProofs (disch := first | assumption | omega | (simp only [List.length_cons, List.length_nil, List.length_map, List.length_set, List.length_append]; omega)) [runDef_if, DR, ha, hd2, hd3, k3, l1, l2, Dat.d, ix, ha3, -List.getElem?_map, -List.map_set, -oIx_new]
      rw [show q + 1 + 1 + 1 = q + 3 by omega]
      simpa [-List.map_set] using g
    · rw [if_neg k3] at x2
      obtain ⟨rfl, rfl⟩ := x2
      simp -implicitDefEqProofs (disch := first | assumption | omega | (simp only [List.length_cons, List.length_nil, List.length_map, List.length_set, List.length_append]; omega)) [runDef_if, DR, ha, hd2, hd3, k0, k1, k2, k3, l1, l2, Dat.d, ix, ha3, -List.getElem?_map, -List.map_set, -oIx_new]
      rw [show q + 1 + 1 + 1 = q + 3 by omega]
      simpa [-List.map_set] using g
  | que nm room lo hi =>
    obtain ⟨_, r1, r2, r3, r4, r5⟩ := okd
    have e := dk_mem (xs := [.zt (List.replicate (room + 1).toNat [.int lo]).flatten, .tup [.int (hi + 1)], .tup [.int (lo - 1)], .int 0, .tup [.bl true]]) (dd := ds) (q := q + 1 + 1) (m := 5) (by omega) (by simp)
    have ix := fun hh : AH => ix_dr (xs := [.zt (List.replicate (room + 1).toNat [.int lo]).flatten, .tup [.int (hi + 1)], .tup [.int (lo - 1)], .int 0, .tup [.bl true]]) (dd := ds) (q := q + 1 + 1) (m := 5) (h := hh) (by omega) (by simp)
    have tm := fun hh : AH => oTMul_ok (xs := [.int lo]) (k := room + 1) (h := hh) (by simp; omega)
    generalize hz : D.zt (List.replicate (room + 1).toNat [.int lo]).flatten = Z at e ix tm
    generalize dk [Z, .tup [.int (hi + 1)], .tup [.int (lo - 1)], .int 0, .tup [.bl true]] ds (q + 1 + 1) 5 = v at e ix
    have iq : ∀ (i : Int) (h : AH), ¬ (lo ≤ i ∧ i ≤ hi) → F_is_value [Dat.d (.que nm room lo hi), .tup [.int i]] h = some (.bl false, h) := fun i h c => by
      have := iv_que (h := h) (nm := nm) (room := room) (lo := lo) (hi := hi) (ns := [i]) (by simp)
      rw [List.all_cons, decide_eq_false c, Bool.false_and, Bool.and_false] at this
      exact this
    have ib : ∀ h : AH, F_is_value [Dat.d (.que nm room lo hi), .tup [.bl true]] h = some (.bl false, h) := fun h => by
      have c : ¬ (room < 1) := by omega
      unfold F_is_value b_is_value Dat.d
      simp -implicitDefEqProofs (disch := first | assumption | omega | (simp only [List.length_cons, List.length_nil, List.length_map, List.length_set, List.length_append]; omega)) [runDef_if, c, compL_cons', compL_nil', iw_bl, g_bl, bls, allB]
    have hv : v.low 0 = true ∧ ∀ h, F_is_value [Dat.d (.que nm room lo hi), v] h = some (.bl false, h) := by
      simp only [List.mem_cons, List.not_mem_nil, or_false] at e
      rcases e with rfl | rfl | rfl | rfl | rfl
      · refine ⟨by rw [← hz, low_zt]; exact lows_rep rfl _, fun h => ?_⟩
        rw [← hz]
        exact iv_que_long (by rw [len_rep1]; omega)
      · exact ⟨rfl, fun h => iq _ h (by omega)⟩
      · exact ⟨rfl, fun h => iq _ h (by omega)⟩
      · exact ⟨rfl, fun h => iv_que_int⟩
      · exact ⟨rfl, ib⟩
    obtain ⟨X, r, x1, x2, x3⟩ := fin v hv.1 hv.2 _ rfl
    refine ⟨X, r, q + 3, by omega, by omega, x1, ?_⟩
    have lvs : D.lows 0 ((s.vls.map Vl.d).set a v) = true := lows_set lv hv.1 a
    have g := gc_locL (q := q) (j := j) (j' := [.lst (s.pls.map D.str), .lst ((s.vls.map Vl.d).set a v), .lst [X, .bl r]]) (k := 2) (q' := q + 3) B hq rfl (by simp [x3])
    unfold F_law_spoilt b_law_spoilt
    unfold Sys.d
    unfold Sta.d at x2 ⊢
    by_cases k3 : dr ds (q + 1) 7 = 3
    · rw [if_pos k3] at x2
      obtain ⟨rfl, rfl⟩ := x2
      simp -implicitDefEqProofs (disch := first | assumption | omega | (simp only [List.length_cons, List.length_nil, List.length_map, List.length_set, List.length_append]; omega)) [runDef_if, DR, ha, hd2, hd3, k3, l1, l2, Dat.d, ix, ha3, tm, -List.getElem?_map, -List.map_set, -oIx_new]
      rw [show q + 1 + 1 + 1 = q + 3 by omega]
      simpa [-List.map_set] using g
    · rw [if_neg k3] at x2
      obtain ⟨rfl, rfl⟩ := x2
      simp -implicitDefEqProofs (disch := first | assumption | omega | (simp only [List.length_cons, List.length_nil, List.length_map, List.length_set, List.length_append]; omega)) [runDef_if, DR, ha, hd2, hd3, k0, k1, k2, k3, l1, l2, Dat.d, ix, ha3, tm, -List.getElem?_map, -List.map_set, -oIx_new]
      rw [show q + 1 + 1 + 1 = q + 3 by omega]
      simpa [-List.map_set] using g
end
end Sm
namespace Sm
open PySem PySem.Spec PyProof.Rows L2
/-! ## the same names -/
theorem fst_ix {α : Type} {nm : α → Str} {xs : List α} {x : Str} {j : Nat} : Fst nm xs x j ↔ (xs.map nm)[j]? = some x ∧ ∀ i < j, (xs.map nm)[i]? ≠ some x := by
  constructor
  · rintro ⟨pre, a, post, rfl, h1, h2, rfl⟩
    refine ⟨by simp [h1], fun i hi c => ?_⟩
    rw [List.map_append, List.getElem?_append_left (by rw [List.length_map]; exact hi), List.getElem?_map] at c
    obtain ⟨b, hb, hb2⟩ := Option.map_eq_some_iff.mp c
    exact h2 b (List.mem_of_getElem? hb) hb2
  · rintro ⟨h1, h2⟩
    rw [List.getElem?_map] at h1
    obtain ⟨a, ha, ha2⟩ := Option.map_eq_some_iff.mp h1
    have hj := (List.getElem?_eq_some_iff.mp ha).1
    have e := (List.getElem?_eq_some_iff.mp ha).2
    refine ⟨xs.take j, a, xs.drop (j + 1), ?_, ha2, fun c hc z => ?_, by rw [List.length_take]; omega⟩
    · rw [← e, List.getElem_cons_drop, List.take_append_drop]
    · obtain ⟨i, hi, rfl⟩ := List.getElem_of_mem hc
      rw [List.length_take] at hi
      refine h2 i (by omega) ?_
      rw [List.getElem?_map, List.getElem?_eq_getElem (by omega), Option.map_some]
      rw [List.getElem_take] at z
      rw [z]
theorem Fst.same {α : Type} {nm : α → Str} {xs ys : List α} {x : Str} {j : Nat} (h : Fst nm xs x j) (e : ys.map nm = xs.map nm) : Fst nm ys x j := by
  rw [fst_ix] at h ⊢
  rw [e]
  exact h
theorem Fst.nodup {α : Type} {nm : α → Str} {xs : List α} (hn : (xs.map nm).Nodup) {a : α} (ha : a ∈ xs) : ∃ j, Fst nm xs (nm a) j ∧ xs[j]? = some a := by
  obtain ⟨j, hj, rfl⟩ := List.getElem_of_mem ha
  refine ⟨j, fst_ix.mpr ⟨by rw [List.getElem?_map, List.getElem?_eq_getElem hj]; rfl, fun i hi c => ?_⟩, List.getElem?_eq_getElem hj⟩
  have hi2 : i < (xs.map nm).length := by rw [List.length_map]; omega
  have hj2 : j < (xs.map nm).length := by rw [List.length_map]; omega
  rw [List.getElem?_eq_getElem hi2] at c
  have c2 : (xs.map nm)[i] = (xs.map nm)[j] := by rw [Option.some.inj c]; simp
  have := (List.getElem_inj hn).mp c2
  omega
structure SameN (S T : Sys) : Prop where
  d : T.dats = S.dats
  p : T.prcs.map Prc.nm = S.prcs.map Prc.nm
theorem SameN.at {S T : Sys} (h : SameN S T) {j : Nat} {p : Prc} (e : S.prcs[j]? = some p) : ∃ p', T.prcs[j]? = some p' := by
  have hl := congrArg List.length h.p
  rw [List.length_map, List.length_map] at hl
  have := (List.getElem?_eq_some_iff.mp e).1
  exact ⟨_, List.getElem?_eq_getElem (by omega)⟩
theorem Ex.same {S T : Sys} (h : SameN S T) {k n : Nat} {ty : Bool} {e : D} (E : Ex S k ty n e) : Ex T k ty n e := by
  have hd := h.d
  induction E with
  | int a => exact .int a
  | name a b c d => exact .name (by rw [hd]; exact a) (by rw [hd]; exact b) c d
  | size a b c => exact .size (by rw [hd]; exact a) (by rw [hd]; exact b) c
  | add _ _ a b => exact .add a b
  | sub _ _ a b => exact .sub a b
  | mul _ _ x y a b => exact .mul a b x y
  | ite _ _ _ a b c => exact .ite a b c
  | tru => exact .tru
  | atp F hp =>
    obtain ⟨p', hp'⟩ := h.at hp
    exact .atp (F.same h.p) hp'
  | eq _ _ a b => exact .eq a b
  | lt _ _ a b => exact .lt a b
  | le _ _ a b => exact .le a b
  | not _ a => exact .not a
  | and _ _ a b => exact .and a b
  | or _ _ a b => exact .or a b
theorem DeedOk.same {S T : Sys} (h : SameN S T) {e : D} (E : DeedOk S e) : DeedOk T e := by
  have hd := h.d
  cases E with
  | set a b c d => exact .set (by rw [hd]; exact a) (by rw [hd]; exact b) (c.same h) d
  | put a b x c d => exact .put (by rw [hd]; exact a) (by rw [hd]; exact b) x (c.same h) d
  | take a b x c d => exact .take (by rw [hd]; exact a) (by rw [hd]; exact b) x (by rw [hd]; exact c) (by rw [hd]; exact d)
theorem MvOk.same {S T : Sys} (h : SameN S T) {p p' : Prc} {m : Mv} (hp : p'.places = p.places) (M : MvOk S p m) : MvOk T p' m :=
  ⟨by rw [hp]; exact M.tg, by obtain ⟨k, a, b⟩ := M.gd; exact ⟨k, a, b.same h⟩, fun e he => (M.ds e he).same h⟩
/-! ## the asking system -/
theorem cut_to3 {α : Type} {a b c : α} {r : List α} : cutA (a :: b :: c :: r) none (some 3) = [a, b, c] := by
  rw [show (3 : Int) = ((3 : Nat) : Int) from rfl, cut_to (by simp)]
  rfl
theorem sok_of {x : Str} (h1 : x.length ≤ 12) (h2 : (x.cps.toList.all fun c => decide (c < 128)) = true) : SOk x := ⟨h1, fun c hc => of_decide_eq_true (List.all_eq_true.mp h2 c hc)⟩
section
variable {h j : AH} {b dg : Nat} {ds : List Int} {p q : Int} {S : Sys}
theorem asking_ok (B : Bx h b dg ds p) (gd : S.Gd) (hq : 0 ≤ q) (hp : q < 900000) (ml : ∀ p ∈ S.prcs, p.mvs.length ≤ 50) (lw : ∀ p ∈ S.prcs, D.lows 0 p.mvs = true) : ∃ T : Sys, T.Gd ∧ (∀ s, StOk S s → StOk T s) ∧
    F_law_asking [.ref b, S.d] (bset h b dg q ++ j) = some (T.d, bset h b dg (q + 1) ++ j) := by
  have DR := fun (q : Int) (j : AH) (m : Int) (a1 : 0 ≤ q) (a2 : q < 1000000) (a3 : 0 < m) => draw_loc (j := j) B a1 a2 a3
  have np0 := gd.p0
  have np1 := gd.np
  have nd1 := gd.nd
  obtain ⟨sn, sd, sp⟩ := S
  cases sp with
  | nil => exact absurd np0 (by simp)
  | cons p0 rest =>
  have pc := gd.pc p0 List.mem_cons_self
  obtain ⟨pn, pls, mvs⟩ := p0
  cases pls with
  | nil => exact absurd rfl pc
  | cons x r =>
  obtain ⟨nm, lo, hi, fi, hnum⟩ := gd.nu
  -- the first number
  have hf : ∃ nm lo hi fi, Dat.num nm lo hi fi ∈ sd ∧ ∃ t, sd.filter (fun d => match d with | .num .. => true | _ => false) = .num nm lo hi fi :: t := by
    have hm : Dat.num nm lo hi fi ∈ sd.filter (fun d => match d with | .num .. => true | _ => false) := List.mem_filter.mpr ⟨hnum, rfl⟩
    cases hfl : sd.filter (fun d => match d with | .num .. => true | _ => false) with
    | nil => rw [hfl] at hm; cases hm
    | cons d t =>
      have hd : d ∈ sd.filter (fun d => match d with | .num .. => true | _ => false) := by rw [hfl]; exact List.mem_cons_self
      obtain ⟨h1, h2⟩ := List.mem_filter.mp hd
      cases d with
      | num nm lo hi fi => exact ⟨nm, lo, hi, fi, h1, t, rfl⟩
      | que nm room lo hi => cases h2
  clear hnum nm lo hi fi
  obtain ⟨nm, lo, hi, fi, hnum, t, hfl⟩ := hf
  have okd := gd.dt _ hnum
  obtain ⟨jn, F1, F2⟩ := Fst.nodup gd.un hnum
  have hlast : (x :: r).getLast? = some ((x :: r).getLast (by simp)) := List.getLast?_eq_some_getLast _
  have hlm : (x :: r).getLast (by simp) ∈ x :: r := List.getLast_mem _
  generalize (x :: r).getLast (by simp) = l at hlast hlm
  have e1 : L2.atI (D.str x :: r.map D.str) (-1) = some (.str l) := by
    rw [atI_m1]
    show ((x :: r).map D.str).getLast? = _
    rw [List.getLast?_map, hlast]
    rfl
  have ix := atI_dr (xs := [.str x, .str l]) (dd := ds) (q := q) (m := 2) (by omega) (by simp)
  have mm := dk_mem (xs := [.str x, .str l]) (dd := ds) (q := q) (m := 2) (by omega) (by simp)
  generalize dk [.str x, .str l] ds q 2 = v at ix mm
  have hv : ∃ y : Str, v = .str y := by
    simp only [List.mem_cons, List.not_mem_nil, or_false] at mm
    rcases mm with rfl | rfl <;> exact ⟨_, rfl⟩
  obtain ⟨y, rfl⟩ := hv
  let mv : Mv := ⟨"asks", x, l, .tup [.str "true"], [.tup [.str "set", .str nm, .tup [.str "if", .tup [.str "at", .str pn, .str y], .tup [.str "int", .int hi], .tup [.str "int", .int lo]]]]⟩
  let T : Sys := ⟨sn, sd, ⟨pn, x :: r, mv.d :: mvs⟩ :: rest⟩
  have sm : SameN ⟨sn, sd, ⟨pn, x :: r, mvs⟩ :: rest⟩ T := ⟨rfl, rfl⟩
  have nT : T.Gd := by
    refine ⟨gd.nd, (show rest.length + 1 ≤ 10 from gd.np), gd.dt, fun p hp => ?_, gd.d0, by simp [T], fun p hp => ?_, gd.nu, gd.un, fun p hp => ?_⟩
    · rcases List.mem_cons.mp hp with rfl | z
      · simp
      · exact gd.pc p (List.mem_cons_of_mem _ z)
    · rcases List.mem_cons.mp hp with rfl | z
      · exact gd.no ⟨pn, x :: r, mvs⟩ List.mem_cons_self
      · exact gd.no p (List.mem_cons_of_mem _ z)
    · rcases List.mem_cons.mp hp with rfl | z
      · obtain ⟨g1, g2, ms, g3, g4, g5⟩ := gd.pr ⟨pn, x :: r, mvs⟩ List.mem_cons_self
        have ml0 := ml ⟨pn, x :: r, mvs⟩ List.mem_cons_self
        refine ⟨g1, g2, mv :: ms, ?_, ?_, fun m hm => ?_⟩
        · show mv.d :: mvs = _
          rw [List.map_cons]
          congr 1
        · have : mvs = ms.map Mv.d := g3
          rw [this, List.length_map] at ml0
          rw [List.length_cons]
          omega
        · rcases List.mem_cons.mp hm with rfl | z
          · refine ⟨⟨hlm, ⟨0, by decide, .tru⟩, fun e he => ?_⟩, (show SOk "asks" from sok_of (by decide +kernel) (by decide +kernel))⟩
            rw [List.mem_singleton] at he
            subst he
            exact .set (k := 1) (n := 100) F1 F2 (.ite (.atp (j := 0) ⟨[], ⟨pn, x :: r, mv.d :: mvs⟩, rest, rfl, rfl, (fun _ h => by cases h), rfl⟩ rfl) (.int (by have := okd.2; omega)) (.int (by have := okd.2; omega))) (by decide)
          · exact ⟨MvOk.same (p := ⟨pn, x :: r, mvs⟩) sm rfl (g5 m z).1, (g5 m z).2⟩
      · obtain ⟨g1, g2, ms, g3, g4, g5⟩ := gd.pr p (List.mem_cons_of_mem _ z)
        exact ⟨g1, g2, ms, g3, g4, fun m hm => ⟨(g5 m hm).1.same sm rfl, (g5 m hm).2⟩⟩
  refine ⟨T, nT, fun s ok => ⟨ok.np, ok.nv, fun i p l h1 h2 => ?_, ok.vl⟩, ?_⟩
  · cases i with
    | zero =>
      have : p = ⟨pn, x :: r, mv.d :: mvs⟩ := by simpa [T] using h1.symm
      subst this
      exact ok.pl 0 ⟨pn, x :: r, mvs⟩ l rfl h2
    | succ i => exact ok.pl (i + 1) p l h1 h2
  · have z1 : ((sd.filter fun d => match d with | .num .. => true | _ => false).map Dat.d).length ≤ 16777216 := by
      rw [List.length_map]
      exact Nat.le_trans (List.length_filter_le _ _) (Nat.le_trans nd1 (by decide))
    have z2 : mvs.length + 1 ≤ 16777216 := by have := ml ⟨pn, x :: r, mvs⟩ List.mem_cons_self; simp at this; omega
    have z3 : rest.length + 1 ≤ 16777216 := by simp at np1; omega
    have lw1 : D.lows 0 mvs = true := lw ⟨pn, x :: r, mvs⟩ List.mem_cons_self
    have lwT : D.low 0 T.d = true := by
      show D.low 0 (.tup [_, _, .tup (sd.map Dat.d), .tup ((⟨pn, x :: r, mv.d :: mvs⟩ :: rest : List Prc).map Prc.d)]) = true
      have a1 : D.lows 0 (sd.map Dat.d) = true := lows_map (fun d => by cases d <;> simp [Dat.d]) _
      have a2 : D.lows 0 ((⟨pn, x :: r, mv.d :: mvs⟩ :: rest : List Prc).map Prc.d) = true := lows_of fun d hd => by
        obtain ⟨p, hp, rfl⟩ := List.mem_map.mp hd
        have : D.lows 0 p.mvs = true := by
          rcases List.mem_cons.mp hp with rfl | z
          · show (D.low 0 mv.d && D.lows 0 mvs) = true
            rw [lw1]
            simp [Mv.d, mv]
          · exact lw p (List.mem_cons_of_mem _ z)
        simp [Prc.d, this, lows_strs]
      rw [low_tup, lows_cons, lows_cons, lows_cons, lows_cons, low_tup, low_tup, a1, a2]
      rfl
    have g := gc_loc0 (j := j) (q' := q + 1) B hq lwT
    unfold F_law_asking b_law_asking
    unfold Sys.d
    simp -implicitDefEqProofs (disch := first | assumption | omega | (simp only [List.length_cons, List.length_nil, List.length_map, List.length_set, List.length_append]; omega)) [runDef_if, Prc.d, e1]
    rw [compL_filterT (fun d => match d with | .num .. => true | _ => false) Dat.d rfl _ (fun d hd => by
      cases d with
      | num nm lo hi fi => exact ⟨_, rfl, by unfold Dat.d; simp -implicitDefEqProofs (disch := first | assumption | omega | (simp only [List.length_cons, List.length_nil, List.length_map, List.length_set, List.length_append]; omega)) [], fun _ => by unfold Dat.d; simp -implicitDefEqProofs (disch := first | assumption | omega | (simp only [List.length_cons, List.length_nil, List.length_map, List.length_set, List.length_append]; omega)) []⟩
      | que nm room lo hi => exact ⟨_, rfl, by unfold Dat.d; simp -implicitDefEqProofs (disch := first | assumption | omega | (simp only [List.length_cons, List.length_nil, List.length_map, List.length_set, List.length_append]; omega)) [], fun z => by cases z⟩)]
    rw [hfl] at z1 ⊢
    have z1' : t.length ≤ 16777215 := by simp at z1; omega
    simp -implicitDefEqProofs (disch := first | assumption | omega | (simp only [List.length_cons, List.length_nil, List.length_map, List.length_set, List.length_append]; omega)) [z1', Dat.d, e1, ix, DR, cut_to3, cut_from1, show 1 + mvs.length ≤ 16777216 by omega, show 1 + rest.length ≤ 16777216 by omega, z2, z3]
    exact g
end
end Sm
namespace Sm
open PySem PySem.Spec PyProof.Rows L2
/-! ## a drawn state -/
section
variable {h j : AH} {b dg : Nat} {ds : List Int} {p : Int} {S : Sys}
theorem letters_go (B : Bx h b dg ds p) {y0 y1 y2 : Option D} {nm : Str} {room lo hi : Int} (hl : lo ≤ hi) : ∀ (items : List D) (q : Int) (j : AH), 0 ≤ q → q + items.length < 900000 →
    ∃ ns : List Int, ns.length = items.length ∧ (∀ n ∈ ns, lo ≤ n ∧ n ≤ hi) ∧
      compL [] (gN 5) mYes (mBin oAdd (mBin oIx (mVar 3) (mC (.int 3))) (mCall F_law_draw (mCons (mVar 0) (mCons (mAd (mBin oAdd (mBin oSub (mBin oIx (mVar 3) (mC (.int 4))) (mBin oIx (mVar 3) (mC (.int 3)))) (mC (.int 1)))) mNil)))) [some (.ref b), y0, y1, some (Dat.d (.que nm room lo hi)), y2, none] items (bset h b dg q ++ j) = some (ns.map D.int, bset h b dg (q + items.length) ++ j)
  | [], q, j, _, _ => ⟨[], rfl, (fun _ h => by cases h), by simp [compL_nil']⟩
  | x :: items, q, j, hq, hp => by
    rw [List.length_cons] at hp
    obtain ⟨ns, n1, n2, e⟩ := letters_go B (nm := nm) (room := room) (y0 := y0) (y1 := y1) (y2 := y2) hl items (q + 1) j (by omega) (by omega)
    have d := draw_loc (j := j) (q := q) (m := hi - lo + 1) B hq (by omega) (by omega)
    have d0 := dr_lo (ds := ds) (p := q) (m := hi - lo + 1) (by omega)
    have d1 := dr_hi (ds := ds) (p := q) (m := hi - lo + 1) (by omega)
    refine ⟨(lo + dr ds q (hi - lo + 1)) :: ns, by simp [n1], fun n hn => ?_, ?_⟩
    · rcases List.mem_cons.mp hn with z | z
      · rw [z]; omega
      · exact n2 n z
    · rw [compL_cons']
      unfold Dat.d at e ⊢
      simp -implicitDefEqProofs (disch := first | assumption | omega | (simp only [List.length_cons, List.length_nil, List.length_map, List.length_set, List.length_append]; omega)) [d, e]
      congr 1
      omega
theorem dstate_go (B : Bx h b dg ds p) {y4 : Option D} {sys : D} : ∀ (dl : List Dat) (vs : List Vl) (q : Int) (j2 : AH) (y3 y5 : Option D), (∀ d ∈ dl, d.Ok) → 0 ≤ q → q + 20 * dl.length < 900000 → vs.length + dl.length ≤ 1000 →
    ∃ ws : List Vl, ∃ q' j2' y3' y5', ws.length = dl.length ∧ (∀ (i : Nat) d v, dl[i]? = some d → ws[i]? = some v → Fits d v) ∧ q ≤ q' ∧ q' ≤ q + 20 * dl.length ∧
      forL [] (gN 3) l_law_state_1 (dl.map Dat.d) [some (.ref b), some sys, some (.ref (h.length + j.length)), y3, y4, y5] (bset h b dg q ++ (j ++ .lst (vs.map Vl.d) :: j2))
        = some (.nx [some (.ref b), some sys, some (.ref (h.length + j.length)), y3', y4, y5'] (bset h b dg q' ++ (j ++ .lst ((vs ++ ws).map Vl.d) :: j2')))
  | [], vs, q, j2, y3, y5, _, _, _, _ => ⟨[], q, j2, y3, y5, rfl, (fun _ _ _ h => by simp at h), Int.le_refl _, by simp, by rw [List.append_nil]; rfl⟩
  | d :: dl, vs, q, j2, y3, y5, hd, hq, hp, hl => by
    rw [List.length_cons] at hp hl
    have okd := hd d List.mem_cons_self
    have la : vs.length < 16777216 := by omega
    have key : ∃ v q1 j3 y5a, Fits d v ∧ q ≤ q1 ∧ q1 ≤ q + 20 ∧ l_law_state_1 [some (.ref b), some sys, some (.ref (h.length + j.length)), some d.d, y4, y5] (bset h b dg q ++ (j ++ .lst (vs.map Vl.d) :: j2)) = some (.nx [some (.ref b), some sys, some (.ref (h.length + j.length)), some d.d, y4, y5a] (bset h b dg q1 ++ (j ++ .lst ((vs ++ [v]).map Vl.d) :: j3))) := by
      cases d with
      | num nm lo hi fi =>
        obtain ⟨_, a1, a2, a3, a4⟩ := okd
        have d := draw_loc (j := j ++ .lst (vs.map Vl.d) :: j2) (q := q) (m := hi - lo + 1) B hq (by omega) (by omega)
        have d0 := dr_lo (ds := ds) (p := q) (m := hi - lo + 1) (by omega)
        have d1 := dr_hi (ds := ds) (p := q) (m := hi - lo + 1) (by omega)
        refine ⟨.num (lo + dr ds q (hi - lo + 1)), q + 1, j2, y5, (by show _ ≤ _ ∧ _ ≤ _; omega), by omega, by omega, ?_⟩
        unfold l_law_state_1 Dat.d
        simp -implicitDefEqProofs (disch := first | assumption | omega | (simp only [List.length_cons, List.length_nil, List.length_map, List.length_set, List.length_append]; omega)) [d, la]
        rfl
      | que nm room lo hi =>
        obtain ⟨_, a0, a1, a2, a3, a4⟩ := okd
        have d := draw_loc (j := j ++ .lst (vs.map Vl.d) :: j2) (q := q) (m := room + 1) B hq (by omega) (by omega)
        have d0 := dr_lo (ds := ds) (p := q) (m := room + 1) (by omega)
        have d1 := dr_hi (ds := ds) (p := q) (m := room + 1) (by omega)
        obtain ⟨n, hn⟩ := Int.eq_ofNat_of_zero_le d0
        have hn2 : n ≤ 4000000000 := by omega
        have hn3 : n ≤ 16777216 := by omega
        obtain ⟨ns, n1, n2, e⟩ := letters_go B (nm := nm) (room := room) (y0 := some sys) (y1 := some (.ref (h.length + j.length))) (y2 := y4) a3 (rngD 0 n) (q + 1) (j ++ .lst (vs.map Vl.d) :: j2) (by omega) (by rw [rngD_len]; omega)
        rw [rngD_len] at n1 e
        refine ⟨.que ns, q + 1 + n, j2, y5, ⟨by omega, n2⟩, by omega, by omega, ?_⟩
        unfold l_law_state_1 Dat.d
        unfold Dat.d at e
        simp -implicitDefEqProofs (disch := first | assumption | omega | (simp only [List.length_cons, List.length_nil, List.length_map, List.length_set, List.length_append]; omega)) [d, la, hn, hn2]
        rw [e]
        simp -implicitDefEqProofs (disch := first | assumption | omega | (simp only [List.length_cons, List.length_nil, List.length_map, List.length_set, List.length_append]; omega)) [n1, hn3, la]
        rfl
    obtain ⟨v, q1, j3, y5a, f, b1, b2, e⟩ := key
    obtain ⟨ws, q', j2', y3', y5', w1, w2, w3, w4, w5⟩ := dstate_go B (y4 := y4) (sys := sys) dl (vs ++ [v]) q1 j3 (some d.d) y5a (fun d h => hd d (List.mem_cons_of_mem _ h)) (by omega) (by omega) (by rw [List.length_append, List.length_singleton]; omega)
    refine ⟨v :: ws, q', j2', y3', y5', by simp [w1], fun i d' v' h1 h2 => ?_, by omega, by rw [List.length_cons]; omega, ?_⟩
    · cases i with
      | zero =>
        have e1 : d = d' := by simpa using h1
        have e2 : v = v' := by simpa using h2
        rw [← e1, ← e2]
        exact f
      | succ i => exact w2 i d' v' (by simpa using h1) (by simpa using h2)
    · rw [List.map_cons, forL_cons rfl (τ1 := [some (.ref b), some sys, some (.ref (h.length + j.length)), some d.d, y4, y5]) (h1 := bset h b dg q ++ (j ++ .lst (vs.map Vl.d) :: j2)) rfl e, w5, List.append_assoc]
      rfl
theorem places_go (B : Bx h b dg ds p) {y0 y1 y2 y5 : Option D} : ∀ (ps : List Prc) (q : Int) (j : AH), (∀ p ∈ ps, p.places ≠ []) → 0 ≤ q → q + ps.length < 900000 →
    ∃ ls : List Str, ls.length = ps.length ∧ (∀ (i : Nat) p l, ps[i]? = some p → ls[i]? = some l → l ∈ p.places) ∧
      compL [] (gN 4) mYes (mCall F_law_pick (mCons (mVar 0) (mCons (mBin oIx (mVar 4) (mC (.int 2))) mNil))) [some (.ref b), y0, y1, y2, none, y5] (ps.map Prc.d) (bset h b dg q ++ j) = some (ls.map D.str, bset h b dg (q + ps.length) ++ j)
  | [], q, j, _, _, _ => ⟨[], rfl, (fun _ _ _ h => by simp at h), by simp [compL_nil']⟩
  | p :: ps, q, j, hn, hq, hp => by
    rw [List.length_cons] at hp
    obtain ⟨ls, n1, n2, e⟩ := places_go B (y0 := y0) (y1 := y1) (y2 := y2) (y5 := y5) ps (q + 1) j (fun p h => hn p (List.mem_cons_of_mem _ h)) (by omega) (by omega)
    have h0 : 0 < p.places.length := by
      have := hn p List.mem_cons_self
      cases hpl : p.places with
      | nil => exact absurd hpl this
      | cons _ _ => simp
    have pk := pickT_eq (j := j) (q := q) (xs := p.places.map D.str) B hq (by omega) (by rw [List.length_map]; exact h0) (lows_strs _)
    have mm := dk_mem (xs := p.places.map D.str) (dd := ds) (q := q) (m := ((p.places.map D.str).length : Nat)) (by rw [List.length_map]; omega) (Int.le_refl _)
    generalize dk (p.places.map D.str) ds q ((p.places.map D.str).length : Nat) = v at pk mm
    obtain ⟨l, hl, rfl⟩ := List.mem_map.mp mm
    refine ⟨l :: ls, by simp [n1], fun i p' l' h1 h2 => ?_, ?_⟩
    · cases i with
      | zero =>
        have e1 : p = p' := by simpa using h1
        have e2 : l = l' := by simpa using h2
        rw [← e1, ← e2]
        exact hl
      | succ i => exact n2 i p' l' (by simpa using h1) (by simpa using h2)
    · rw [List.map_cons, compL_cons']
      unfold Prc.d at e ⊢
      simp -implicitDefEqProofs (disch := first | assumption | omega | (simp only [List.length_cons, List.length_nil, List.length_map, List.length_set, List.length_append]; omega)) [pk, e]
      congr 1
      omega
theorem state_loc (B : Bx h b dg ds p) (gd : S.Gd) {q : Int} (hq : 0 ≤ q) (hp : q < 800000) : ∃ s q', StOk S s ∧ q ≤ q' ∧ q' ≤ q + 300 ∧ F_law_state [.ref b, S.d] (bset h b dg q ++ j) = some (s.d, bset h b dg q' ++ j) := by
  have nd := gd.nd
  have np := gd.np
  obtain ⟨ws, q1, j2, y3, y5, w1, w2, w3, w4, w5⟩ := dstate_go (j := j) B (y4 := none) (sys := S.d) S.dats [] q [] none none gd.dt hq (by omega) (by simp; omega)
  obtain ⟨ls, l1, l2, l3⟩ := places_go B (y0 := some S.d) (y1 := some (.ref (h.length + j.length))) (y2 := y3) (y5 := y5) S.prcs q1 (j ++ .lst (ws.map Vl.d) :: j2) gd.pc (by omega) (by omega)
  refine ⟨⟨ls, ws⟩, q1 + S.prcs.length, ⟨l1, w1, l2, w2⟩, by omega, by omega, ?_⟩
  have g := gc_loc (j := j) (j' := .lst (ws.map Vl.d) :: j2) (q := q) (q' := q1 + S.prcs.length) B hq (sta_low (n := 0) ⟨ls, ws⟩)
  have n1 : ls.length ≤ 16777216 := by omega
  unfold F_law_state b_law_state
  unfold Sys.d at w5 l3 ⊢
  rw [List.map_nil, List.nil_append] at w5
  simp -implicitDefEqProofs (disch := first | assumption | omega | (simp only [List.length_cons, List.length_nil, List.length_map, List.length_set, List.length_append]; omega)) [runDef_if]
  rw [w5]
  simp -implicitDefEqProofs (disch := first | assumption | omega | (simp only [List.length_cons, List.length_nil, List.length_map, List.length_set, List.length_append]; omega)) []
  rw [l3]
  simp -implicitDefEqProofs (disch := first | assumption | omega | (simp only [List.length_cons, List.length_nil, List.length_map, List.length_set, List.length_append]; omega)) [n1]
  exact g
end
end Sm
namespace Sm
open PySem PySem.Spec PyProof.Rows L2
/-! ## names -/
/-- signs of drawn names -/
def okc (c : Nat) : Bool := decide (c < 128) && decide (c ≠ 111)
def NmP (x : Str) : Prop := ∀ c ∈ x.cps.toList, okc c = true
theorem strIx_c {s : Str} {k : Int} (h0 : s.length ≤ 16777216) (h1 : ((L2.atI s.cps.toList k).any okc) = true) : ∃ c, okc c = true ∧ ∀ h, oIx (.val (.str s)) (.val (.int k)) h = some (.val (.str ⟨#[c]⟩), h) := by
  cases e : L2.atI s.cps.toList k with
  | none => rw [e] at h1; cases h1
  | some c =>
    rw [e] at h1
    exact ⟨c, h1, fun h => by rw [oIx_str, if_pos h0, e, strIxK_some]⟩
theorem nm_tail : ∀ i : Fin 6, ((L2.atI ("qxzjkv" : Str).cps.toList ((i.val : Nat) : Int)).any okc) = true := by decide +kernel
theorem nm_sign : ∀ i : Fin 15, ((L2.atI ("bcghjklmprvwxyz" : Str).cps.toList ((i.val : Nat) : Int)).any okc) = true := by decide +kernel
theorem nm_other : ∀ i : Fin 15, ((L2.atI ("dfknqstbcghjlmp" : Str).cps.toList ((i.val : Nat) : Int)).any okc) = true := by decide +kernel
theorem nm_len1 : ("qxzjkv" : Str).length ≤ 16777216 := by decide +kernel
theorem nm_len2 : ("bcghjklmprvwxyz" : Str).length ≤ 16777216 := by decide +kernel
theorem nm_len3 : ("dfknqstbcghjlmp" : Str).length ≤ 16777216 := by decide +kernel
theorem len_2 : ("2" : Str).length = 1 := by decide +kernel
theorem len_0 : ("0" : Str).length = 1 := by decide +kernel
theorem nmp_c {c : Nat} (h : okc c = true) : NmP ⟨#[c]⟩ := fun d hd => by
  have : d = c := by simpa using hd
  rw [this]; exact h
theorem nmp_app {x y : Str} (hx : NmP x) (hy : NmP y) : NmP (x ++ y) := fun c hc => by
  have e : (x ++ y).cps = x.cps ++ y.cps := rfl
  rw [e, Array.toList_append] at hc
  rcases List.mem_append.mp hc with z | z
  · exact hx c z
  · exact hy c z
theorem nmp_2 : NmP "2" := by
  have : (("2" : Str).cps.toList.all okc) = true := by decide +kernel
  exact fun c hc => List.all_eq_true.mp this c hc
theorem nmp_0 : NmP "0" := by
  have : (("0" : Str).cps.toList.all okc) = true := by decide +kernel
  exact fun c hc => List.all_eq_true.mp this c hc
theorem nmp_no {x : Str} (h : NmP x) : x ≠ "no" := fun e => by
  have : (("no" : Str).cps.toList.all okc) = true := by
    rw [← e]
    exact List.all_eq_true.mpr h
  exact absurd this (by decide +kernel)
theorem nmp_sok {x : Str} (h : NmP x) (hl : x.length ≤ 12) : SOk x := ⟨hl, fun c hc => by
  have := h c hc
  unfold okc at this
  rw [Bool.and_eq_true] at this
  exact of_decide_eq_true this.1⟩
theorem many_of {base : Nat} : ∀ (k : Nat) (L : List Nat), (∀ t < k, base + t ∈ L) → k ≤ L.length
  | 0, _, _ => Nat.zero_le _
  | k + 1, L, h => by
    have hm := h k (Nat.lt_succ_self _)
    have ih := many_of k (L.erase (base + k)) fun t ht => (List.mem_erase_of_ne (by omega)).mpr (h t (by omega))
    rw [List.length_erase_of_mem hm] at ih
    have := List.length_pos_of_mem hm
    omega
theorem names_in {h j : AH} {b dg u : Nat} {q m k : Int} {us ns : List Str} {xb : D} (sg ot : D)
    (hn : ns.length ≤ 100) (hu : us.length ≤ 100)
    (U : (bset h b dg q ++ (j ++ [.lst (ns.map D.str)]))[u]? = some (.lst (us.map D.str))) (nm : Str) (hl : nm.length ≤ 3) (hc : NmP nm) (x8 : Option D) :
    ∃ nm' : Str, ∃ x8', nm'.length ≤ 9 ∧ NmP nm' ∧ (ns.length + us.length ≤ 5 → nm' ∉ ns ++ us) ∧ mFor (mRng1 (mCons (mC (.int 6)) mNil)) (gN 8) l_law_names_1 [some xb, some (.int m), some (.ref u), some (.ref (h.length + j.length)), some (.int k), some sg, some ot, some (.str nm), x8] (bset h b dg q ++ (j ++ [.lst (ns.map D.str)]))
      = some (.nx [some xb, some (.int m), some (.ref u), some (.ref (h.length + j.length)), some (.int k), some sg, some ot, some (.str nm'), x8'] (bset h b dg q ++ (j ++ [.lst (ns.map D.str)]))) := by
  simp -implicitDefEqProofs (disch := first | assumption | omega | (simp only [List.length_cons, List.length_nil, List.length_map, List.length_set, List.length_append]; omega)) []
  obtain ⟨τ', h', e, P⟩ := forRg0 (g := gN 8) (body := l_law_names_1) (n := 6)
    (fun i τ hh => ∃ x8 : Option D, ∃ nm' : Str, nm'.length ≤ 3 + i ∧ NmP nm' ∧ (nm' ∉ ns ++ us ∨ (nm'.length = nm.length + i ∧ ∀ t < i, nm.length + t ∈ (ns ++ us).map Str.length)) ∧ τ = [some xb, some (.int m), some (.ref u), some (.ref (h.length + j.length)), some (.int k), some sg, some ot, some (.str nm'), x8] ∧ hh = bset h b dg q ++ (j ++ [.lst (ns.map D.str)]))
    (fun i hi τ hh ⟨x8, nm', h1, h1c, h2, h3, h4⟩ => by
      subst h3 h4
      obtain ⟨c, oc, ec⟩ := strIx_c nm_len1 (nm_tail ⟨i, hi⟩)
      have ln : nm'.length + (⟨#[c]⟩ : Str).length ≤ 16777216 := by rw [len_c]; omega
      have l2 : ns.length + us.length ≤ 16777216 := by omega
      have fl : ((D.str nm').flat && (ns.map D.str ++ us.map D.str).all D.flat) = true := by
        rw [List.all_append, flat_strs, flat_strs]; rfl
      have inn := fun hh : AH => inK_some (neg := false) (h := hh) fl
      by_cases hc : ((ns.map D.str ++ us.map D.str).contains (D.str nm')) = true
      · have hmem : nm' ∈ ns ++ us := by
          rw [← List.map_append, contains_str] at hc
          exact of_decide_eq_true hc
        refine ⟨_, _, _, _, rfl, .inl ?_, some (.int i), nm' ++ ⟨#[c]⟩, by rw [Str.length_append, len_c]; omega, nmp_app h1c (nmp_c oc), ?_, rfl, rfl⟩
        · unfold l_law_names_1
          simp only [Bool.false_eq_true, if_false, hc] at inn
          simp -implicitDefEqProofs (disch := first | assumption | omega | (simp only [List.length_cons, List.length_nil, List.length_map, List.length_set, List.length_append]; omega)) [U, l2, ec, ln, inn]
        · right
          rcases h2 with z | ⟨z1, z2⟩
          · exact absurd hmem z
          · refine ⟨by rw [Str.length_append, len_c]; omega, fun t ht => ?_⟩
            rcases Nat.lt_or_ge t i with w | w
            · exact z2 t w
            · rw [show t = i by omega, ← z1]
              exact List.mem_map_of_mem hmem
      · have hmem : nm' ∉ ns ++ us := by
          rw [← List.map_append, contains_str] at hc
          simpa using hc
        refine ⟨_, _, _, _, rfl, .inl ?_, some (.int i), nm', by omega, h1c, .inl hmem, rfl, rfl⟩
        unfold l_law_names_1
        simp only [Bool.false_eq_true, if_false, hc] at inn
        simp -implicitDefEqProofs (disch := first | assumption | omega | (simp only [List.length_cons, List.length_nil, List.length_map, List.length_set, List.length_append]; omega)) [U, l2, ec, ln, inn])
    _ _ ⟨x8, nm, by omega, hc, .inr ⟨rfl, fun t ht => by omega⟩, rfl, rfl⟩
  obtain ⟨x8', nm', h1, h1c, h2, h3, h4⟩ := P
  subst h3 h4
  refine ⟨nm', by omega, h1c, fun h5 => ?_, x8', e⟩
  rcases h2 with z | ⟨_, z⟩
  · simpa using z
  · have := many_of 6 _ z
    rw [List.length_map, List.length_append] at this
    omega
theorem names_loc {h j : AH} {b dg u : Nat} {ds : List Int} {p q : Int} {m : Nat} {us : List Str} (B : Bx h b dg ds p) (hq : 0 ≤ q) (hp : q < 900000) (hm : m ≤ 15) (hu : us.length ≤ 100)
    (U : ∀ q j', (bset h b dg q ++ (j ++ j'))[u]? = some (.lst (us.map D.str))) :
    ∃ ns : List Str, ns.length = m ∧ (∀ n ∈ ns, n.length ≤ 9 ∧ NmP n) ∧ (us = [] → (ns.take 5).Nodup) ∧ F_law_names [.ref b, .int m, .ref u] (bset h b dg q ++ j) = some (.ref (h.length + j.length), bset h b dg (q + 2 * m) ++ (j ++ [.lst (ns.map D.str)])) := by
  unfold F_law_names b_law_names
  simp -implicitDefEqProofs (disch := first | assumption | omega | (simp only [List.length_cons, List.length_nil, List.length_map, List.length_set, List.length_append]; omega)) [runDef_if]
  obtain ⟨τ', h', e, P⟩ := forRg0 (g := gN 4) (body := l_law_names_2) (n := m)
    (fun i τ hh => ∃ ns : List Str, ∃ x4 x5 x6 x7 x8 : Option D, ns.length = i ∧ (∀ n ∈ ns, n.length ≤ 9 ∧ NmP n) ∧ (us = [] → (ns.take 5).Nodup) ∧ τ = [some (.ref b), some (.int m), some (.ref u), some (.ref (h.length + j.length)), x4, x5, x6, x7, x8] ∧ hh = bset h b dg (q + 2 * i) ++ (j ++ [.lst (ns.map D.str)]))
    (fun i him τ hh ⟨ns, x4, x5, x6, x7, x8, h3, h3b, h3c, h4, h5⟩ => by
      subst h4 h5
      obtain ⟨c1, oc1, e1⟩ := strIx_c nm_len2 (nm_sign ⟨i, by omega⟩)
      have d0 := dr_lo (ds := ds) (p := q + 2 * i) (m := 15) (by omega)
      have d1 := dr_hi (ds := ds) (p := q + 2 * i) (m := 15) (by omega)
      have d2 := dr_lo (ds := ds) (p := q + 2 * i + 1) (m := 5) (by omega)
      have d3 := dr_hi (ds := ds) (p := q + 2 * i + 1) (m := 5) (by omega)
      have D1 := draw_loc (q := q + 2 * i) (m := 15) (j := j ++ [.lst (ns.map D.str)]) B (by omega) (by omega) (by omega)
      have D2 := draw_loc (q := q + 2 * i + 1) (m := 5) (j := j ++ [.lst (ns.map D.str)]) B (by omega) (by omega) (by omega)
      obtain ⟨n, hn⟩ := Int.eq_ofNat_of_zero_le d0
      obtain ⟨c2, oc2, e2⟩ := strIx_c nm_len3 (nm_other ⟨n, by omega⟩)
      have e2 : ∀ h, oIx (.val (.str "dfknqstbcghjlmp")) (.val (.int (dr ds (q + 2 * i) 15))) h = some (.val (.str ⟨#[c2]⟩), h) := by rw [hn]; exact e2
      obtain ⟨v, hv, hv2, hv3⟩ := ixv (xs := [D.str ⟨#[c1]⟩, .str (⟨#[c1]⟩ ++ ⟨#[c2]⟩), .str (⟨#[c2]⟩ ++ ⟨#[c1]⟩), .str (⟨#[c2]⟩ ++ ⟨#[c1]⟩ ++ ("2" : Str)), .str (⟨#[c2]⟩ ++ ("0" : Str) ++ ⟨#[c1]⟩)]) d2 d3
      have hs : ∃ s : Str, v = .str s ∧ s.length ≤ 3 ∧ NmP s := by
        simp only [List.mem_cons, List.not_mem_nil, or_false] at hv2
        rcases hv2 with e | e | e | e | e
        · exact ⟨_, e, by simp only [len_c]; decide, nmp_c oc1⟩
        · exact ⟨_, e, by simp only [Str.length_append, len_c]; decide, nmp_app (nmp_c oc1) (nmp_c oc2)⟩
        · exact ⟨_, e, by simp only [Str.length_append, len_c]; decide, nmp_app (nmp_c oc2) (nmp_c oc1)⟩
        · exact ⟨_, e, by simp only [Str.length_append, len_c, len_2]; decide, nmp_app (nmp_app (nmp_c oc2) (nmp_c oc1)) nmp_2⟩
        · exact ⟨_, e, by simp only [Str.length_append, len_c, len_0]; decide, nmp_app (nmp_app (nmp_c oc2) nmp_0) (nmp_c oc1)⟩
      obtain ⟨s, rfl, ls, lc⟩ := hs
      obtain ⟨nm', x8', l', l1', l2', ee⟩ := names_in (ns := ns) (us := us) (xb := .ref b) (m := m) (k := i) (.str ⟨#[c1]⟩) (.str ⟨#[c2]⟩) (h := h) (j := j) (b := b) (dg := dg) (q := q + 2 * i + 1 + 1) (by omega) hu (U _ _) s ls lc x8
      refine ⟨_, _, _, _, rfl, .inl ?_, ns ++ [nm'], some (.int i), some (.str ⟨#[c1]⟩), some (.str ⟨#[c2]⟩), some (.str nm'), x8', by rw [List.length_append, h3]; rfl, fun n hn => ?_, fun hus => ?_, rfl, rfl⟩
      · have nl : ns.length < 16777216 := by omega
        unfold l_law_names_2
        simp -implicitDefEqProofs (disch := first | assumption | omega | (simp only [List.length_cons, List.length_nil, List.length_map, List.length_set, List.length_append]; omega)) [e1, e2, D1, D2, len_c, len_2, len_0, Str.length_append, hv, ee, nl, -mFor_eq, -mRng1_eq, hv3]
        congr 1
        omega
      · rcases List.mem_append.mp hn with z | z
        · exact h3b n z
        · rw [List.mem_singleton.mp z]; exact ⟨l', l1'⟩
      · have nd := h3c hus
        rcases Nat.lt_or_ge i 5 with w | w
        · rw [List.take_of_length_le (by rw [List.length_append, List.length_singleton]; omega)]
          rw [List.take_of_length_le (by omega)] at nd
          subst hus
          have := l2' (by simp; omega)
          rw [List.append_nil] at this
          rw [List.nodup_append]
          exact ⟨nd, by simp, fun a ha b hb e => this (by rw [List.mem_singleton.mp hb] at e; exact e ▸ ha)⟩
        · rw [List.take_append_of_le_length (by omega)]
          exact nd)
    _ (bset h b dg q ++ (j ++ [.lst []])) ⟨[], none, none, none, none, none, rfl, (fun _ h => by cases h), fun _ => by simp, rfl, by simp⟩
  obtain ⟨ns, x4, x5, x6, x7, x8, h1, h1b, h1c, h2, h3⟩ := P
  subst h2 h3
  refine ⟨ns, h1, h1b, h1c, ?_⟩
  rw [e]
  have g := gc_locL (j := j) (j' := [.lst (ns.map D.str)]) (k := 0) (q' := q + 2 * m) B hq rfl (lows_map (fun _ => rfl) _)
  simp -implicitDefEqProofs (disch := first | assumption | omega | (simp only [List.length_cons, List.length_nil, List.length_map, List.length_set, List.length_append]; omega)) []
  simpa using g
end Sm
namespace Sm
open PySem PySem.Spec PyProof.Rows L2
def Dat.isNum : Dat → Bool
  | .num .. => true
  | _ => false
def Dat.isQue : Dat → Bool
  | .que .. => true
  | _ => false
def Sys.nums (S : Sys) : List Dat := S.dats.filter Dat.isNum
def Sys.ques (S : Sys) : List Dat := S.dats.filter Dat.isQue
/-- what the drawing of expressions leans on -/
structure Sys.Gb (S : Sys) : Prop where
  nd : S.dats.length ≤ 10
  np : S.prcs.length ≤ 10
  dt : ∀ d ∈ S.dats, d.Ok
  pc : ∀ p ∈ S.prcs, p.places ≠ []
  p0 : 0 < S.prcs.length
  nu : ∃ nm lo hi fi, Dat.num nm lo hi fi ∈ S.dats
  un : (S.dats.map Dat.nm).Nodup
  lw : ∀ p ∈ S.prcs, D.lows 0 p.mvs = true
theorem Sys.Gd.b {S : Sys} (g : S.Gd) (lw : ∀ p ∈ S.prcs, D.lows 0 p.mvs = true) : S.Gb := ⟨g.nd, g.np, g.dt, g.pc, g.p0, g.nu, g.un, lw⟩
theorem Sys.Gb.n1 {S : Sys} (g : S.Gb) : S.nums.length ≤ 10 := Nat.le_trans (List.length_filter_le _ _) g.nd
theorem Sys.Gb.n2 {S : Sys} (g : S.Gb) : S.ques.length ≤ 10 := Nat.le_trans (List.length_filter_le _ _) g.nd
theorem Sys.Gb.n0 {S : Sys} (g : S.Gb) : 0 < S.nums.length := by
  obtain ⟨nm, lo, hi, fi, hm⟩ := g.nu
  exact List.length_pos_of_mem (List.mem_filter.mpr ⟨hm, rfl⟩)
def nameD (d : Dat) : D := .tup [.str "name", .str d.nm]
def sizeD (d : Dat) : D := .tup [.str "size", .str d.nm]
theorem dat_low {n : Nat} (d : Dat) : d.d.low n = true := by cases d <;> simp [Dat.d]
theorem nums_mem {S : Sys} (g : S.Gb) {d : Dat} (h : d ∈ S.nums) : ∃ nm lo hi fi j, d = .num nm lo hi fi ∧ Fst Dat.nm S.dats nm j ∧ S.dats[j]? = some (.num nm lo hi fi) ∧ -100 ≤ lo ∧ lo ≤ hi ∧ hi ≤ 100 := by
  obtain ⟨h1, h2⟩ := List.mem_filter.mp h
  obtain ⟨j, f1, f2⟩ := Fst.nodup g.un h1
  have ok := g.dt d h1
  cases d with
  | num nm lo hi fi => exact ⟨nm, lo, hi, fi, j, rfl, f1, f2, ok.2.1, by have := ok.2; omega, ok.2.2.2.2⟩
  | que nm room lo hi => cases h2
theorem ques_mem {S : Sys} (g : S.Gb) {d : Dat} (h : d ∈ S.ques) : ∃ nm room lo hi j, d = .que nm room lo hi ∧ Fst Dat.nm S.dats nm j ∧ S.dats[j]? = some (.que nm room lo hi) ∧ 1 ≤ room ∧ room ≤ 10 ∧ -100 ≤ lo ∧ lo ≤ hi ∧ hi ≤ 100 := by
  obtain ⟨h1, h2⟩ := List.mem_filter.mp h
  obtain ⟨j, f1, f2⟩ := Fst.nodup g.un h1
  have ok := g.dt d h1
  cases d with
  | num nm lo hi fi => cases h2
  | que nm room lo hi => exact ⟨nm, room, lo, hi, j, rfl, f1, f2, ok.2.1, ok.2.2.1, ok.2.2.2.1, ok.2.2.2.2.1, ok.2.2.2.2.2⟩
theorem name_ex {S : Sys} (g : S.Gb) {d : Dat} (h : d ∈ S.nums) (k : Nat) : Ex S k true 100 (nameD d) := by
  obtain ⟨nm, lo, hi, fi, j, rfl, f1, f2, a, b, c⟩ := nums_mem g h
  exact .name f1 f2 (by omega) (by omega)
theorem size_ex {S : Sys} (g : S.Gb) {d : Dat} (h : d ∈ S.ques) (k : Nat) : Ex S k true 100 (sizeD d) := by
  obtain ⟨nm, room, lo, hi, j, rfl, f1, f2, a, b, c⟩ := ques_mem g h
  exact .size f1 f2 (by omega)
theorem atoms_ex {S : Sys} (g : S.Gb) {i : Int} (hi : i.natAbs ≤ 100) (k : Nat) : ∀ d ∈ S.nums.map nameD ++ (S.ques.map sizeD ++ [D.tup [.str "int", .int i]]), Ex S k true 100 d ∧ d.low 0 = true := fun d hd => by
  rcases List.mem_append.mp hd with z | z
  · obtain ⟨x, hx, rfl⟩ := List.mem_map.mp z
    exact ⟨name_ex g hx k, by simp [nameD]⟩
  · rcases List.mem_append.mp z with z | z
    · obtain ⟨x, hx, rfl⟩ := List.mem_map.mp z
      exact ⟨size_ex g hx k, by simp [sizeD]⟩
    · rw [List.mem_singleton] at z
      subst z
      exact ⟨.int hi, rfl⟩
structure NumR (S : Sys) (q : Int) (d : D) (q' : Int) : Prop where
  ex : ∃ n, n ≤ 1000 ∧ Ex S 1 true n d
  lw : d.low 0 = true
  q0 : q ≤ q'
  q1 : q' ≤ q + 10
section
variable {h j : AH} {b dg : Nat} {ds : List Int} {p q : Int} {S : Sys}
theorem number_loc (B : Bx h b dg ds p) (gb : S.Gb) (hq : 0 ≤ q) (hp : q < 900000) :
    ∃ d q', NumR S q d q' ∧ F_law_number [.ref b, S.d] (bset h b dg q ++ j) = some (d, bset h b dg q' ++ j) := by
  have n1 := gb.n1
  have n2 := gb.n2
  have l1 : S.nums.length + S.ques.length ≤ 16777216 := by omega
  have l2 : S.nums.length + S.ques.length + 1 ≤ 16777216 := by omega
  have x1 : S.nums.length ≤ 16777216 := by omega
  have x2 : S.ques.length ≤ 16777216 := by omega
  have DR := fun (q : Int) (j : AH) (m : Int) (a1 : 0 ≤ q) (a2 : q < 1000000) (a3 : 0 < m) => draw_loc (j := j) B a1 a2 a3
  have r0 := dr_lo (ds := ds) (p := q) (m := 4) (by omega)
  have r1 := dr_hi (ds := ds) (p := q) (m := 4) (by omega)
  have A0 := atoms_ex gb (i := dr ds q 4) (by omega) 0
  have A1 := atoms_ex gb (i := 1) (by decide) 0
  have lw0 := lows_of fun d hd => (A0 d hd).2
  have lw1 := lows_of fun d hd => (A1 d hd).2
  have e1 := pickL_eq (j := j ++ [.lst (S.nums.map nameD), .lst (S.nums.map nameD ++ S.ques.map sizeD), .lst (S.nums.map nameD ++ (S.ques.map sizeD ++ [D.tup [.str "int", .int (dr ds q 4)]]))]) (u := h.length + (j.length + 2)) (xs := S.nums.map nameD ++ (S.ques.map sizeD ++ [D.tup [.str "int", .int (dr ds q 4)]])) (q := q + 1) B (by omega) (by omega) (fun q => by simp) (by simp; omega) lw0
  have m1 := dk_mem (xs := S.nums.map nameD ++ (S.ques.map sizeD ++ [D.tup [.str "int", .int (dr ds q 4)]])) (dd := ds) (q := q + 1) (m := ((S.nums.map nameD ++ (S.ques.map sizeD ++ [D.tup [.str "int", .int (dr ds q 4)]])).length : Nat)) (by simp; omega) (Int.le_refl _)
  generalize dk (S.nums.map nameD ++ (S.ques.map sizeD ++ [D.tup [.str "int", .int (dr ds q 4)]])) ds (q + 1) ((S.nums.map nameD ++ (S.ques.map sizeD ++ [D.tup [.str "int", .int (dr ds q 4)]])).length : Nat) = v1 at e1 m1
  obtain ⟨E1, w1⟩ := A0 v1 m1
  unfold F_law_number b_law_number
  simp -implicitDefEqProofs (disch := first | assumption | omega | (simp only [List.length_cons, List.length_nil, List.length_map, List.length_set, List.length_append]; omega)) [runDef_if, Sys.d]
  rw [compL_filterT Dat.isNum nameD rfl _ (fun d hd => by
    cases d with
    | num nm lo hi fi => exact ⟨_, rfl, by unfold Dat.d; simp -implicitDefEqProofs (disch := first | assumption | omega | (simp only [List.length_cons, List.length_nil, List.length_map, List.length_set, List.length_append]; omega)) [Dat.isNum], fun _ => by unfold Dat.d nameD; simp -implicitDefEqProofs (disch := first | assumption | omega | (simp only [List.length_cons, List.length_nil, List.length_map, List.length_set, List.length_append]; omega)) [Dat.nm]⟩
    | que nm room lo hi => exact ⟨_, rfl, by unfold Dat.d; simp -implicitDefEqProofs (disch := first | assumption | omega | (simp only [List.length_cons, List.length_nil, List.length_map, List.length_set, List.length_append]; omega)) [Dat.isNum], fun z => by cases z⟩)]
  have x1' : (List.filter Dat.isNum S.dats).length ≤ 16777216 := x1
  have x2' : (List.filter Dat.isQue S.dats).length ≤ 16777216 := x2
  simp -implicitDefEqProofs (disch := first | assumption | omega | (simp only [List.length_cons, List.length_nil, List.length_map, List.length_set, List.length_append]; omega)) [x1']
  rw [compL_filterT Dat.isQue sizeD rfl _ (fun d hd => by
    cases d with
    | num nm lo hi fi => exact ⟨_, rfl, by unfold Dat.d; simp -implicitDefEqProofs (disch := first | assumption | omega | (simp only [List.length_cons, List.length_nil, List.length_map, List.length_set, List.length_append]; omega)) [Dat.isQue], fun z => by cases z⟩
    | que nm room lo hi => exact ⟨_, rfl, by unfold Dat.d; simp -implicitDefEqProofs (disch := first | assumption | omega | (simp only [List.length_cons, List.length_nil, List.length_map, List.length_set, List.length_append]; omega)) [Dat.isQue], fun _ => by unfold Dat.d sizeD; simp -implicitDefEqProofs (disch := first | assumption | omega | (simp only [List.length_cons, List.length_nil, List.length_map, List.length_set, List.length_append]; omega)) [Dat.nm]⟩)]
  rw [← Sys.nums, ← Sys.ques]
  simp -implicitDefEqProofs (disch := first | assumption | omega | (simp only [List.length_cons, List.length_nil, List.length_map, List.length_set, List.length_append]; omega)) [l1, x2]
  simp -implicitDefEqProofs (disch := first | assumption | omega | (simp only [List.length_cons, List.length_nil, List.length_map, List.length_set, List.length_append]; omega)) [DR, e1, l2]
  have s0 := dr_lo (ds := ds) (p := q + 1 + 1 + 1) (m := 2) (by omega)
  have s1 := dr_hi (ds := ds) (p := q + 1 + 1 + 1) (m := 2) (by omega)
  have t0 := dr_lo (ds := ds) (p := q + 1 + 1 + 1) (m := 3) (by omega)
  have t1 := dr_hi (ds := ds) (p := q + 1 + 1 + 1) (m := 3) (by omega)
  by_cases c0 : dr ds (q + 1 + 1) 8 = 0
  · refine ⟨.tup [.str "+", v1, .tup [.str "int", .int (1 + dr ds (q + 1 + 1 + 1) 2)]], q + 1 + 1 + 1 + 1, ⟨⟨100 + 2, by omega, .add E1 (.int (by omega))⟩, by simp [w1], by omega, by omega⟩, ?_⟩
    simp -implicitDefEqProofs (disch := first | assumption | omega | (simp only [List.length_cons, List.length_nil, List.length_map, List.length_set, List.length_append]; omega)) [c0, DR]
    rw [gc_loc B hq (by simp [w1])]
  by_cases c1 : dr ds (q + 1 + 1) 8 = 1
  · have e2 := pickL_eq (j := j ++ [.lst (S.nums.map nameD), .lst (S.nums.map nameD ++ S.ques.map sizeD), .lst (S.nums.map nameD ++ (S.ques.map sizeD ++ [D.tup [.str "int", .int (dr ds q 4)]])), .lst (S.nums.map nameD ++ (S.ques.map sizeD ++ [D.tup [.str "int", .int 1]]))]) (u := h.length + (j.length + 3)) (xs := S.nums.map nameD ++ (S.ques.map sizeD ++ [D.tup [.str "int", .int 1]])) (q := q + 1 + 1 + 1) B (by omega) (by omega) (fun q => by simp) (by simp; omega) lw1
    have m2 := dk_mem (xs := S.nums.map nameD ++ (S.ques.map sizeD ++ [D.tup [.str "int", .int 1]])) (dd := ds) (q := q + 1 + 1 + 1) (m := ((S.nums.map nameD ++ (S.ques.map sizeD ++ [D.tup [.str "int", .int 1]])).length : Nat)) (by simp; omega) (Int.le_refl _)
    generalize dk (S.nums.map nameD ++ (S.ques.map sizeD ++ [D.tup [.str "int", .int 1]])) ds (q + 1 + 1 + 1) ((S.nums.map nameD ++ (S.ques.map sizeD ++ [D.tup [.str "int", .int 1]])).length : Nat) = v2 at e2 m2
    obtain ⟨E2, w2⟩ := A1 v2 m2
    refine ⟨.tup [.str "-", v1, v2], q + 1 + 1 + 1 + 1, ⟨⟨100 + 100, by omega, .sub E1 E2⟩, by simp [w1, w2], by omega, by omega⟩, ?_⟩
    simp -implicitDefEqProofs (disch := first | assumption | omega | (simp only [List.length_cons, List.length_nil, List.length_map, List.length_set, List.length_append]; omega)) [c1, DR, e2, l2]
    rw [gc_loc B hq (by simp [w1, w2])]
  by_cases c2 : dr ds (q + 1 + 1) 8 = 2
  · refine ⟨.tup [.str "*", v1, .tup [.str "int", .int (dr ds (q + 1 + 1 + 1) 3)]], q + 1 + 1 + 1 + 1, ⟨⟨100 * 3, by omega, .mul E1 (.int (by omega)) (by omega) (by omega)⟩, by simp [w1], by omega, by omega⟩, ?_⟩
    simp -implicitDefEqProofs (disch := first | assumption | omega | (simp only [List.length_cons, List.length_nil, List.length_map, List.length_set, List.length_append]; omega)) [c2, DR]
    rw [gc_loc B hq (by simp [w1])]
  · refine ⟨v1, q + 1 + 1 + 1, ⟨⟨100, by omega, (atoms_ex gb (i := dr ds q 4) (by omega) 1 v1 m1).1⟩, w1, by omega, by omega⟩, ?_⟩
    simp -implicitDefEqProofs (disch := first | assumption | omega | (simp only [List.length_cons, List.length_nil, List.length_map, List.length_set, List.length_append]; omega)) [c0, c1, c2]
    rw [gc_loc B hq w1]
end
end Sm
namespace Sm
open PySem PySem.Spec PyProof.Rows L2
structure TrR (S : Sys) (n : Nat) (q : Int) (d : D) (q' : Int) : Prop where
  ex : Ex S (n + 2) false 0 d
  lw : d.low 0 = true
  q0 : q ≤ q'
  q1 : q' ≤ q + (30 * 3 ^ n : Nat)
theorem Ex.up {S : Sys} {k n : Nat} {ty : Bool} {e : D} (E : Ex S k ty n e) : ∀ {l : Nat}, k ≤ l → Ex S l ty n e := by
  induction E with
  | int a => exact fun _ => .int a
  | name a b c d => exact fun _ => .name a b c d
  | size a b c => exact fun _ => .size a b c
  | tru => exact fun _ => .tru
  | atp a b => exact fun _ => .atp a b
  | add _ _ a b => intro l hl; obtain ⟨l, rfl⟩ : ∃ m, l = m + 1 := ⟨l - 1, by omega⟩; exact .add (a (by omega)) (b (by omega))
  | sub _ _ a b => intro l hl; obtain ⟨l, rfl⟩ : ∃ m, l = m + 1 := ⟨l - 1, by omega⟩; exact .sub (a (by omega)) (b (by omega))
  | mul _ _ x y a b => intro l hl; obtain ⟨l, rfl⟩ : ∃ m, l = m + 1 := ⟨l - 1, by omega⟩; exact .mul (a (by omega)) (b (by omega)) x y
  | ite _ _ _ a b c => intro l hl; obtain ⟨l, rfl⟩ : ∃ m, l = m + 1 := ⟨l - 1, by omega⟩; exact .ite (a (by omega)) (b (by omega)) (c (by omega))
  | eq _ _ a b => intro l hl; obtain ⟨l, rfl⟩ : ∃ m, l = m + 1 := ⟨l - 1, by omega⟩; exact .eq (a (by omega)) (b (by omega))
  | lt _ _ a b => intro l hl; obtain ⟨l, rfl⟩ : ∃ m, l = m + 1 := ⟨l - 1, by omega⟩; exact .lt (a (by omega)) (b (by omega))
  | le _ _ a b => intro l hl; obtain ⟨l, rfl⟩ : ∃ m, l = m + 1 := ⟨l - 1, by omega⟩; exact .le (a (by omega)) (b (by omega))
  | not _ a => intro l hl; obtain ⟨l, rfl⟩ : ∃ m, l = m + 1 := ⟨l - 1, by omega⟩; exact .not (a (by omega))
  | and _ _ a b => intro l hl; obtain ⟨l, rfl⟩ : ∃ m, l = m + 1 := ⟨l - 1, by omega⟩; exact .and (a (by omega)) (b (by omega))
  | or _ _ a b => intro l hl; obtain ⟨l, rfl⟩ : ∃ m, l = m + 1 := ⟨l - 1, by omega⟩; exact .or (a (by omega)) (b (by omega))
theorem prc_low {S : Sys} (gb : S.Gb) : D.lows 0 (S.prcs.map Prc.d) = true := lows_of fun d hd => by
  obtain ⟨p, hp, rfl⟩ := List.mem_map.mp hd
  simp [Prc.d, gb.lw p hp, lows_strs]
theorem at_ex {S : Sys} {p : Prc} (hp : p ∈ S.prcs) {l : Str} {k : Nat} : Ex S k false 0 (.tup [.str "at", .str p.nm, .str l]) := by
  obtain ⟨i, F⟩ := Fst.of hp rfl
  obtain ⟨a, ha, _⟩ := F.at
  exact .atp F ha
section
variable {h : AH} {b dg : Nat} {ds : List Int} {p : Int} {S : Sys}
theorem truth_loc (B : Bx h b dg ds p) (gb : S.Gb) : ∀ (n f : Nat), n < f → ∀ (q : Int) (j : AH), 0 ≤ q → q + (30 * 3 ^ n : Nat) < 800000 →
    ∃ d q', TrR S n q d q' ∧ F_law_truth f [.ref b, S.d, .int (n : Int)] (bset h b dg q ++ j) = some (d, bset h b dg q' ++ j) := by
  intro n
  induction n with
  | zero =>
    intro f hf q j hq hp
    obtain ⟨f, rfl⟩ : ∃ m, f = m + 1 := ⟨f - 1, by omega⟩
    rw [show (30 * 3 ^ 0 : Nat) = 30 from rfl] at hp
    have DR := fun (q : Int) (j : AH) (m : Int) (a1 : 0 ≤ q) (a2 : q < 1000000) (a3 : 0 < m) => draw_loc (j := j) B a1 a2 a3
    have k0 := dr_lo (ds := ds) (p := q) (m := 6) (by omega)
    have k1 := dr_hi (ds := ds) (p := q) (m := 6) (by omega)
    obtain ⟨a, qa, ⟨⟨na, _, Ea⟩, la, qa0, qa1⟩, ea⟩ := number_loc (j := j) (q := q + 1) B gb (by omega) (by omega)
    obtain ⟨c, qc, ⟨⟨nc, _, Ec⟩, lc, qc0, qc1⟩, ec⟩ := number_loc (j := j) (q := qa) B gb (by omega) (by omega)
    have pk := pickT_eq (j := j) (q := q + 1) (xs := S.prcs.map Prc.d) B (by omega) (by omega) (by rw [List.length_map]; exact gb.p0) (prc_low gb)
    have mm := dk_mem (xs := S.prcs.map Prc.d) (dd := ds) (q := q + 1) (m := ((S.prcs.map Prc.d).length : Nat)) (by have := gb.p0; rw [List.length_map]; omega) (Int.le_refl _)
    rw [List.length_map] at pk mm
    generalize dk (S.prcs.map Prc.d) ds (q + 1) (S.prcs.length : Nat) = v at pk mm
    obtain ⟨pr, hpr, rfl⟩ := List.mem_map.mp mm
    have h0 : 0 < pr.places.length := by
      have := gb.pc pr hpr
      cases hpl : pr.places with
      | nil => exact absurd hpl this
      | cons _ _ => simp
    have pk2 := pickT_eq (j := j) (q := q + 1 + 1) (xs := pr.places.map D.str) B (by omega) (by omega) (by rw [List.length_map]; exact h0) (lows_strs _)
    have mm2 := dk_mem (xs := pr.places.map D.str) (dd := ds) (q := q + 1 + 1) (m := ((pr.places.map D.str).length : Nat)) (by rw [List.length_map]; omega) (Int.le_refl _)
    generalize dk (pr.places.map D.str) ds (q + 1 + 1) ((pr.places.map D.str).length : Nat) = w at pk2 mm2
    obtain ⟨l, hl, rfl⟩ := List.mem_map.mp mm2
    unfold F_law_truth b_law_truth
    rcases (show dr ds q 6 = 0 ∨ dr ds q 6 = 1 ∨ dr ds q 6 = 2 ∨ 3 ≤ dr ds q 6 by omega) with c0 | c0 | c0 | c0
    · refine ⟨.tup [.str "=", a, c], qc, ⟨.eq Ea Ec, by simp [la, lc], by omega, by simp; omega⟩, ?_⟩
      simp -implicitDefEqProofs (disch := first | assumption | omega | (simp only [List.length_cons, List.length_nil, List.length_map, List.length_set, List.length_append]; omega)) [runDef_if, DR, c0, ea, ec, gc_loc0 B hq (show D.low 0 (.tup [.str "=", a, c]) = true by simp [la, lc])]
    · refine ⟨.tup [.str "<", a, c], qc, ⟨.lt Ea Ec, by simp [la, lc], by omega, by simp; omega⟩, ?_⟩
      simp -implicitDefEqProofs (disch := first | assumption | omega | (simp only [List.length_cons, List.length_nil, List.length_map, List.length_set, List.length_append]; omega)) [runDef_if, DR, c0, ea, ec, gc_loc0 B hq (show D.low 0 (.tup [.str "<", a, c]) = true by simp [la, lc])]
    · refine ⟨.tup [.str "<=", a, c], qc, ⟨.le Ea Ec, by simp [la, lc], by omega, by simp; omega⟩, ?_⟩
      simp -implicitDefEqProofs (disch := first | assumption | omega | (simp only [List.length_cons, List.length_nil, List.length_map, List.length_set, List.length_append]; omega)) [runDef_if, DR, c0, ea, ec, gc_loc0 B hq (show D.low 0 (.tup [.str "<=", a, c]) = true by simp [la, lc])]
    · refine ⟨.tup [.str "at", .str pr.nm, .str l], q + 1 + 1 + 1, ⟨at_ex hpr, by simp, by omega, by simp; omega⟩, ?_⟩
      have c1 : ¬ dr ds q 6 < 3 := by omega
      unfold Sys.d
      have pd : pr.d = .tup [.str "process", .str pr.nm, .tup (pr.places.map D.str), .tup pr.mvs] := rfl
      simp -implicitDefEqProofs (disch := first | assumption | omega | (simp only [List.length_cons, List.length_nil, List.length_map, List.length_set, List.length_append]; omega)) [runDef_if, DR, c1, k1, pk, pd, pk2, gc_loc0 B hq (show D.low 0 (.tup [.str "at", .str pr.nm, .str l]) = true by simp)]
  | succ n ih =>
    intro f hf q j hq hp
    obtain ⟨f, rfl⟩ : ∃ m, f = m + 1 := ⟨f - 1, by omega⟩
    have pw : 30 * 3 ^ (n + 1) = 3 * (30 * 3 ^ n) := by rw [Nat.pow_succ]; omega
    have pw1 : 30 ≤ 30 * 3 ^ n := by have := Nat.one_le_pow n 3 (by decide); omega
    generalize hP : 30 * 3 ^ n = P at ih pw pw1
    rw [pw] at hp
    have DR := fun (q : Int) (j : AH) (m : Int) (a1 : 0 ≤ q) (a2 : q < 1000000) (a3 : 0 < m) => draw_loc (j := j) B a1 a2 a3
    have k0 := dr_lo (ds := ds) (p := q) (m := 9) (by omega)
    have k1 := dr_hi (ds := ds) (p := q) (m := 9) (by omega)
    have z1 : (0 : Int) < (n : Int) + 1 := by omega
    have z2 : (n : Int) + 1 - 1 = n := by omega
    obtain ⟨a, qa, ⟨⟨na, _, Ea⟩, la, qa0, qa1⟩, ea⟩ := number_loc (j := j) (q := q + 1) B gb (by omega) (by omega)
    obtain ⟨c, qc, ⟨⟨nc, _, Ec⟩, lc, qc0, qc1⟩, ec⟩ := number_loc (j := j) (q := qa) B gb (by omega) (by omega)
    have pk := pickT_eq (j := j) (q := q + 1) (xs := S.prcs.map Prc.d) B (by omega) (by omega) (by rw [List.length_map]; exact gb.p0) (prc_low gb)
    have mm := dk_mem (xs := S.prcs.map Prc.d) (dd := ds) (q := q + 1) (m := ((S.prcs.map Prc.d).length : Nat)) (by have := gb.p0; rw [List.length_map]; omega) (Int.le_refl _)
    rw [List.length_map] at pk mm
    generalize dk (S.prcs.map Prc.d) ds (q + 1) (S.prcs.length : Nat) = v at pk mm
    obtain ⟨pr, hpr, rfl⟩ := List.mem_map.mp mm
    have h0 : 0 < pr.places.length := by
      have := gb.pc pr hpr
      cases hpl : pr.places with
      | nil => exact absurd hpl this
      | cons _ _ => simp
    have pk2 := pickT_eq (j := j) (q := q + 1 + 1) (xs := pr.places.map D.str) B (by omega) (by omega) (by rw [List.length_map]; exact h0) (lows_strs _)
    have mm2 := dk_mem (xs := pr.places.map D.str) (dd := ds) (q := q + 1 + 1) (m := ((pr.places.map D.str).length : Nat)) (by rw [List.length_map]; omega) (Int.le_refl _)
    generalize dk (pr.places.map D.str) ds (q + 1 + 1) ((pr.places.map D.str).length : Nat) = w at pk2 mm2
    obtain ⟨l, hl, rfl⟩ := List.mem_map.mp mm2
    obtain ⟨t, qt, ⟨Et, lt, qt0, qt1⟩, et⟩ := ih f (by omega) (q + 1) j (by omega) (by omega)
    obtain ⟨u, qu, ⟨Eu, lu, qu0, qu1⟩, eu⟩ := ih f (by omega) qt j (by omega) (by omega)
    rw [hP] at qt1 qu1
    unfold F_law_truth b_law_truth
    rcases (show dr ds q 9 = 0 ∨ dr ds q 9 = 1 ∨ dr ds q 9 = 2 ∨ (3 ≤ dr ds q 9 ∧ dr ds q 9 < 6) ∨ dr ds q 9 = 6 ∨ dr ds q 9 = 7 ∨ dr ds q 9 = 8 by omega) with c0 | c0 | c0 | c0 | c0 | c0 | c0
    · refine ⟨.tup [.str "=", a, c], qc, ⟨(Ex.eq Ea Ec).up (by omega), by simp [la, lc], by omega, by rw [pw]; omega⟩, ?_⟩
      simp -implicitDefEqProofs (disch := first | assumption | omega | (simp only [List.length_cons, List.length_nil, List.length_map, List.length_set, List.length_append]; omega)) [runDef_if, DR, c0, ea, ec, z1, gc_loc0 B hq (show D.low 0 (.tup [.str "=", a, c]) = true by simp [la, lc])]
    · refine ⟨.tup [.str "<", a, c], qc, ⟨(Ex.lt Ea Ec).up (by omega), by simp [la, lc], by omega, by rw [pw]; omega⟩, ?_⟩
      simp -implicitDefEqProofs (disch := first | assumption | omega | (simp only [List.length_cons, List.length_nil, List.length_map, List.length_set, List.length_append]; omega)) [runDef_if, DR, c0, ea, ec, z1, gc_loc0 B hq (show D.low 0 (.tup [.str "<", a, c]) = true by simp [la, lc])]
    · refine ⟨.tup [.str "<=", a, c], qc, ⟨(Ex.le Ea Ec).up (by omega), by simp [la, lc], by omega, by rw [pw]; omega⟩, ?_⟩
      simp -implicitDefEqProofs (disch := first | assumption | omega | (simp only [List.length_cons, List.length_nil, List.length_map, List.length_set, List.length_append]; omega)) [runDef_if, DR, c0, ea, ec, z1, gc_loc0 B hq (show D.low 0 (.tup [.str "<=", a, c]) = true by simp [la, lc])]
    · refine ⟨.tup [.str "at", .str pr.nm, .str l], q + 1 + 1 + 1, ⟨at_ex hpr, by simp, by omega, by rw [pw]; omega⟩, ?_⟩
      have c1 : ¬ dr ds q 9 < 3 := by omega
      have c2 := c0.2
      unfold Sys.d
      have pd : pr.d = .tup [.str "process", .str pr.nm, .tup (pr.places.map D.str), .tup pr.mvs] := rfl
      simp -implicitDefEqProofs (disch := first | assumption | omega | (simp only [List.length_cons, List.length_nil, List.length_map, List.length_set, List.length_append]; omega)) [runDef_if, DR, c1, c2, pk, pd, pk2, z1, gc_loc0 B hq (show D.low 0 (.tup [.str "at", .str pr.nm, .str l]) = true by simp)]
    · refine ⟨.tup [.str "not", t], qt, ⟨.not Et, by simp [lt], by omega, by rw [pw]; omega⟩, ?_⟩
      simp -implicitDefEqProofs (disch := first | assumption | omega | (simp only [List.length_cons, List.length_nil, List.length_map, List.length_set, List.length_append]; omega)) [runDef_if, DR, c0, et, z1, z2, gc_loc0 B hq (show D.low 0 (.tup [.str "not", t]) = true by simp [lt])]
    · refine ⟨.tup [.str "and", t, u], qu, ⟨.and Et Eu, by simp [lt, lu], by omega, by rw [pw]; omega⟩, ?_⟩
      simp -implicitDefEqProofs (disch := first | assumption | omega | (simp only [List.length_cons, List.length_nil, List.length_map, List.length_set, List.length_append]; omega)) [runDef_if, DR, c0, et, eu, z1, z2, gc_loc0 B hq (show D.low 0 (.tup [.str "and", t, u]) = true by simp [lt, lu])]
    · refine ⟨.tup [.str "or", t, u], qu, ⟨.or Et Eu, by simp [lt, lu], by omega, by rw [pw]; omega⟩, ?_⟩
      simp -implicitDefEqProofs (disch := first | assumption | omega | (simp only [List.length_cons, List.length_nil, List.length_map, List.length_set, List.length_append]; omega)) [runDef_if, DR, c0, et, eu, z1, z2, gc_loc0 B hq (show D.low 0 (.tup [.str "or", t, u]) = true by simp [lt, lu])]
end
end Sm
namespace Sm
open PySem PySem.Spec PyProof.Rows L2
structure DdR (S : Sys) (q : Int) (d : D) (q' : Int) : Prop where
  ok : DeedOk S d
  lw : d.low 0 = true
  q0 : q ≤ q'
  q1 : q' ≤ q + 20
section
variable {h j : AH} {b dg : Nat} {ds : List Int} {p q : Int} {S : Sys}
theorem deed_loc (B : Bx h b dg ds p) (gb : S.Gb) (hq : 0 ≤ q) (hp : q < 800000) : ∃ d q', DdR S q d q' ∧ F_law_deed [.ref b, S.d] (bset h b dg q ++ j) = some (d, bset h b dg q' ++ j) := by
  have n0 := gb.n0
  have n1 := gb.n1
  have n2 := gb.n2
  have x1 : (S.dats.filter Dat.isNum).length ≤ 16777216 := Nat.le_trans n1 (by decide)
  have x2 : (S.dats.filter Dat.isQue).length ≤ 16777216 := Nat.le_trans n2 (by decide)
  have DR := fun (q : Int) (j : AH) (m : Int) (a1 : 0 ≤ q) (a2 : q < 1000000) (a3 : 0 < m) => draw_loc (j := j) B a1 a2 a3
  have lwN : D.lows 0 (S.nums.map Dat.d) = true := lows_map dat_low _
  have lwQ : D.lows 0 (S.ques.map Dat.d) = true := lows_map dat_low _
  have k0 := dr_lo (ds := ds) (p := q) (m := 8) (by omega)
  have k1 := dr_hi (ds := ds) (p := q) (m := 8) (by omega)
  -- the end of the third way
  have gl : ∀ (d : D) (q' : Int) (j' : AH), d.low 0 = true → gc (bset h b dg q ++ j) d (bset h b dg q' ++ (j ++ j')) = (d, bset h b dg q' ++ j) := fun d q' j' hd => gc_loc B hq hd
  unfold F_law_deed b_law_deed
  simp -implicitDefEqProofs (disch := first | assumption | omega | (simp only [List.length_cons, List.length_nil, List.length_map, List.length_set, List.length_append]; omega)) [runDef_if, Sys.d]
  rw [compL_filterT Dat.isQue Dat.d rfl _ (fun d hd => by
    cases d with
    | num nm lo hi fi => exact ⟨_, rfl, by unfold Dat.d; simp -implicitDefEqProofs (disch := first | assumption | omega | (simp only [List.length_cons, List.length_nil, List.length_map, List.length_set, List.length_append]; omega)) [Dat.isQue], fun z => by cases z⟩
    | que nm room lo hi => exact ⟨_, rfl, by unfold Dat.d; simp -implicitDefEqProofs (disch := first | assumption | omega | (simp only [List.length_cons, List.length_nil, List.length_map, List.length_set, List.length_append]; omega)) [Dat.isQue], fun _ => by unfold Dat.d; simp -implicitDefEqProofs (disch := first | assumption | omega | (simp only [List.length_cons, List.length_nil, List.length_map, List.length_set, List.length_append]; omega)) []⟩)]
  simp -implicitDefEqProofs (disch := first | assumption | omega | (simp only [List.length_cons, List.length_nil, List.length_map, List.length_set, List.length_append]; omega)) [x2]
  rw [compL_filterT Dat.isNum Dat.d rfl _ (fun d hd => by
    cases d with
    | num nm lo hi fi => exact ⟨_, rfl, by unfold Dat.d; simp -implicitDefEqProofs (disch := first | assumption | omega | (simp only [List.length_cons, List.length_nil, List.length_map, List.length_set, List.length_append]; omega)) [Dat.isNum], fun _ => by unfold Dat.d; simp -implicitDefEqProofs (disch := first | assumption | omega | (simp only [List.length_cons, List.length_nil, List.length_map, List.length_set, List.length_append]; omega)) []⟩
    | que nm room lo hi => exact ⟨_, rfl, by unfold Dat.d; simp -implicitDefEqProofs (disch := first | assumption | omega | (simp only [List.length_cons, List.length_nil, List.length_map, List.length_set, List.length_append]; omega)) [Dat.isNum], fun z => by cases z⟩)]
  rw [← Sys.nums, ← Sys.ques]
  have x1' : S.nums.length ≤ 16777216 := x1
  simp -implicitDefEqProofs (disch := first | assumption | omega | (simp only [List.length_cons, List.length_nil, List.length_map, List.length_set, List.length_append]; omega)) [x1', DR]
  have pkN := fun (q : Int) (a1 : 0 ≤ q) (a2 : q < 1000000) => pickL_eq (j := j ++ [.lst (S.ques.map Dat.d), .lst (S.nums.map Dat.d)]) (u := h.length + (j.length + 1)) (xs := S.nums.map Dat.d) (q := q) B a1 a2 (fun q => by simp) (by rw [List.length_map]; exact n0) lwN
  have mmN := fun (q : Int) => dk_mem (xs := S.nums.map Dat.d) (dd := ds) (q := q) (m := ((S.nums.map Dat.d).length : Nat)) (by rw [List.length_map]; omega) (Int.le_refl _)
  by_cases c0 : dr ds q 8 < 2 ∧ 0 < S.ques.length
  · obtain ⟨c0, c1⟩ := c0
    have pkQ := pickL_eq (j := j ++ [.lst (S.ques.map Dat.d), .lst (S.nums.map Dat.d)]) (u := h.length + j.length) (xs := S.ques.map Dat.d) (q := q + 1) B (by omega) (by omega) (fun q => by simp) (by rw [List.length_map]; exact c1) lwQ
    have mmQ := dk_mem (xs := S.ques.map Dat.d) (dd := ds) (q := q + 1) (m := ((S.ques.map Dat.d).length : Nat)) (by rw [List.length_map]; omega) (Int.le_refl _)
    generalize dk (S.ques.map Dat.d) ds (q + 1) ((S.ques.map Dat.d).length : Nat) = v at pkQ mmQ
    obtain ⟨d, hd, rfl⟩ := List.mem_map.mp mmQ
    obtain ⟨nm, room, lo, hi, jx, rfl, f1, f2, r1, r2, r3, r4, r5⟩ := ques_mem gb hd
    have qd : (Dat.que nm room lo hi).d = .tup [.str "queue", .str nm, .int room, .int lo, .int hi] := rfl
    by_cases c2 : dr ds q 8 = 0
    · obtain ⟨a, qa, ⟨⟨na, _, Ea⟩, la, qa0, qa1⟩, ea⟩ := number_loc (j := j ++ [.lst (S.ques.map Dat.d), .lst (S.nums.map Dat.d)]) (q := q + 1 + 1) B gb (by omega) (by omega)
      have ix := atI_dr (xs := [a, .tup [.str "int", .int lo]]) (dd := ds) (q := qa) (m := 2) (by omega) (by simp)
      have mm := dk_mem (xs := [a, .tup [.str "int", .int lo]]) (dd := ds) (q := qa) (m := 2) (by omega) (by simp)
      generalize dk [a, .tup [.str "int", .int lo]] ds qa 2 = w at ix mm
      have hw : w.low 0 = true ∧ ∃ n, Ex S 1 true n w := by
        simp only [List.mem_cons, List.not_mem_nil, or_false] at mm
        rcases mm with rfl | rfl
        · exact ⟨la, _, Ea⟩
        · exact ⟨rfl, 100, .int (by omega)⟩
      obtain ⟨lw, n, Ew⟩ := hw
      refine ⟨.tup [.str "put", .str nm, w], qa + 1, ⟨.put f1 f2 (by omega) Ew (by decide), by simp [lw], by omega, by omega⟩, ?_⟩
      unfold Sys.d at ea
      simp -implicitDefEqProofs (disch := first | assumption | omega | (simp only [List.length_cons, List.length_nil, List.length_map, List.length_set, List.length_append]; omega)) [c2, c1, pkQ, qd, ea, ix, DR, gl _ _ _ (show D.low 0 (.tup [.str "put", .str nm, w]) = true by simp [lw])]
    · have pk := pkN (q + 1 + 1) (by omega) (by omega)
      have mm := mmN (q + 1 + 1)
      generalize dk (S.nums.map Dat.d) ds (q + 1 + 1) ((S.nums.map Dat.d).length : Nat) = v at pk mm
      obtain ⟨d, hd2, rfl⟩ := List.mem_map.mp mm
      obtain ⟨nm', lo', hi', fi', jy, rfl, g1, g2, _, _, _⟩ := nums_mem gb hd2
      have nd : (Dat.num nm' lo' hi' fi').d = .tup [.str "number", .str nm', .int lo', .int hi', .int fi'] := rfl
      refine ⟨.tup [.str "take", .str nm, .str nm'], q + 1 + 1 + 1, ⟨.take f1 f2 (by omega) g1 g2, by simp, by omega, by omega⟩, ?_⟩
      simp -implicitDefEqProofs (disch := first | assumption | omega | (simp only [List.length_cons, List.length_nil, List.length_map, List.length_set, List.length_append]; omega)) [c0, c1, c2, pkQ, qd, pk, nd, gl _ _ _ (show D.low 0 (.tup [.str "take", .str nm, .str nm']) = true by simp)]
  · have sk : ∀ (α : Type) (x y : α), (if dr ds q 8 < 2 then (if 0 < S.ques.length then x else y) else y) = y := fun α x y => by
      by_cases z1 : dr ds q 8 < 2
      · by_cases z2 : 0 < S.ques.length
        · exact absurd ⟨z1, z2⟩ c0
        · rw [if_pos z1, if_neg z2]
      · rw [if_neg z1]
    have pk := pkN (q + 1) (by omega) (by omega)
    have mm := mmN (q + 1)
    generalize dk (S.nums.map Dat.d) ds (q + 1) ((S.nums.map Dat.d).length : Nat) = v at pk mm
    obtain ⟨d, hd2, rfl⟩ := List.mem_map.mp mm
    obtain ⟨nm', lo', hi', fi', jy, rfl, g1, g2, b1, b2, b3⟩ := nums_mem gb hd2
    have nd : (Dat.num nm' lo' hi' fi').d = .tup [.str "number", .str nm', .int lo', .int hi', .int fi'] := rfl
    by_cases c3 : dr ds q 8 < 6
    · refine ⟨.tup [.str "set", .str nm', .tup [.str "if", .tup [.str "<", .tup [.str "name", .str nm'], .tup [.str "int", .int hi']], .tup [.str "+", .tup [.str "name", .str nm'], .tup [.str "int", .int 1]], .tup [.str "int", .int lo']]], q + 1 + 1,
        ⟨.set (k := 2) (n := 101) g1 g2 (.ite (.lt (n := 100) (m := 100) (.name g1 g2 (by omega) (by omega)) (.int (by omega))) (.add (n := 100) (m := 1) (.name g1 g2 (by omega) (by omega)) (.int (by decide))) (.int (by omega))) (by decide), by simp, by omega, by omega⟩, ?_⟩
      by_cases z1 : dr ds q 8 < 2
      · have z2 : ¬ 0 < S.ques.length := fun z => c0 ⟨z1, z⟩
        have z3 : S.ques.length = 0 := by omega
        simp -implicitDefEqProofs (disch := first | assumption | omega | (simp only [List.length_cons, List.length_nil, List.length_map, List.length_set, List.length_append]; omega)) [z1, z2, z3, c3, pk, nd]
        exact gl _ _ _ (by simp)
      · simp -implicitDefEqProofs (disch := first | assumption | omega | (simp only [List.length_cons, List.length_nil, List.length_map, List.length_set, List.length_append]; omega)) [z1, c3, pk, nd]
        exact gl _ _ _ (by simp)
    · have z1 : ¬ dr ds q 8 < 2 := by omega
      obtain ⟨a, qa, ⟨⟨na, _, Ea⟩, la, qa0, qa1⟩, ea⟩ := number_loc (j := j ++ [.lst (S.ques.map Dat.d), .lst (S.nums.map Dat.d)]) (q := q + 1 + 1) B gb (by omega) (by omega)
      have s0 := dr_lo (ds := ds) (p := qa) (m := hi' - lo' + 1) (by omega)
      have s1 := dr_hi (ds := ds) (p := qa) (m := hi' - lo' + 1) (by omega)
      have ix := atI_dr (xs := [a, .tup [.str "int", .int (lo' + dr ds qa (hi' - lo' + 1))]]) (dd := ds) (q := qa + 1) (m := 2) (by omega) (by simp)
      have mm := dk_mem (xs := [a, .tup [.str "int", .int (lo' + dr ds qa (hi' - lo' + 1))]]) (dd := ds) (q := qa + 1) (m := 2) (by omega) (by simp)
      generalize dk [a, .tup [.str "int", .int (lo' + dr ds qa (hi' - lo' + 1))]] ds (qa + 1) 2 = w at ix mm
      have hw : w.low 0 = true ∧ ∃ n, Ex S 1 true n w := by
        simp only [List.mem_cons, List.not_mem_nil, or_false] at mm
        rcases mm with rfl | rfl
        · exact ⟨la, _, Ea⟩
        · exact ⟨rfl, 200, .int (by omega)⟩
      obtain ⟨lw, n, Ew⟩ := hw
      refine ⟨.tup [.str "set", .str nm', w], qa + 1 + 1, ⟨.set g1 g2 Ew (by decide), by simp [lw], by omega, by omega⟩, ?_⟩
      unfold Sys.d at ea
      simp -implicitDefEqProofs (disch := first | assumption | omega | (simp only [List.length_cons, List.length_nil, List.length_map, List.length_set, List.length_append]; omega)) [z1, c3, pk, nd, ea, ix, DR, gl _ _ _ (show D.low 0 (.tup [.str "set", .str nm', w]) = true by simp [lw])]
end
end Sm
namespace Sm
open PySem PySem.Spec PyProof.Rows L2
/-- a process that is right beside such data, whatever else there is -/
structure PrG (dl : List Dat) (p : Prc) : Prop where
  ok : ∀ S : Sys, S.dats = dl → PrOk S p
  pc : p.places ≠ []
  no : ("no" : Str) ∉ p.places
  lw : D.lows 0 p.mvs = true
  ml : p.mvs.length ≤ 50
structure SysR (S : Sys) (q q' : Int) : Prop where
  gd : S.Gd
  lw : ∀ p ∈ S.prcs, D.lows 0 p.mvs = true
  ml : ∀ p ∈ S.prcs, p.mvs.length ≤ 50
  q0 : q ≤ q'
  q1 : q' ≤ q + 20000
theorem gd_of {nm : Str} {dl : List Dat} {ps : List Prc} (h1 : dl.length ≤ 10) (h2 : ps.length ≤ 10) (h3 : ∀ d ∈ dl, d.Ok) (h4 : 0 < ps.length) (h5 : ∃ nm lo hi fi, Dat.num nm lo hi fi ∈ dl) (h6 : (dl.map Dat.nm).Nodup) (h7 : ∀ p ∈ ps, PrG dl p) : Sys.Gd ⟨nm, dl, ps⟩ where
  nd := h1
  np := h2
  dt := h3
  pc := fun p hp => (h7 p hp).pc
  d0 := by
    obtain ⟨_, _, _, _, hm⟩ := h5
    exact List.length_pos_of_mem hm
  p0 := h4
  no := fun p hp => (h7 p hp).no
  nu := h5
  un := h6
  pr := fun p hp => (h7 p hp).ok _ rfl
theorem sys_low {S : Sys} (lw : ∀ p ∈ S.prcs, D.lows 0 p.mvs = true) : S.d.low 0 = true := by
  have a2 : D.lows 0 (S.prcs.map Prc.d) = true := lows_of fun d hd => by
    obtain ⟨p, hp, rfl⟩ := List.mem_map.mp hd
    simp [Prc.d, lw p hp, lows_strs]
  unfold Sys.d
  rw [low_tup, lows_cons, lows_cons, lows_cons, lows_cons, low_tup, low_tup, a2, lows_map dat_low]
  rfl
theorem nm_ok {n : Str} (h : n.length ≤ 9 ∧ NmP n) : SOk n := nmp_sok h.2 (by omega)
/-! ## locks -/
theorem sok_ent : SOk "ent" := sok_of (by decide +kernel) (by decide +kernel)
theorem sok_lea : SOk "lea" := sok_of (by decide +kernel) (by decide +kernel)
theorem sok_ask : SOk "ask" := sok_of (by decide +kernel) (by decide +kernel)
theorem sok_out : SOk "out" := sok_of (by decide +kernel) (by decide +kernel)
theorem sok_in : SOk "in" := sok_of (by decide +kernel) (by decide +kernel)
theorem sok_rest : SOk "rest" := sok_of (by decide +kernel) (by decide +kernel)
theorem no_out : ("no" : Str) ∉ [("out" : Str), "in"] := by decide +kernel
theorem no_rest : ("no" : Str) ∉ [("rest" : Str), "out", "in"] := by decide +kernel
section
variable {h j : AH} {b dg : Nat} {ds : List Int} {p q : Int}
theorem fst_one {d : Dat} : Fst Dat.nm [d] d.nm 0 := ⟨[], d, [], rfl, rfl, (fun _ h => by cases h), rfl⟩
def lockP (a0 nm : Str) (sp k : Int) : Prc :=
  let free : D := if sp = k then .tup [.str "true"] else .tup [.str "=", .tup [.str "name", .str a0], .tup [.str "int", .int 0]]
  let back : List D := [.tup [.str "set", .str a0, .tup [.str "int", .int (if sp = 4 then 1 else 0)]]]
  let en : D := .tup [.str "ent", .str "out", .str "in", free, .tup [.tup [.str "set", .str a0, .tup [.str "int", .int 1]]]]
  if sp = 5 then ⟨nm, ["rest", "out", "in"], [.tup [.str "ask", .str "rest", .str "out", .tup [.str "true"], .tup []], en, .tup [.str "lea", .str "in", .str "rest", .tup [.str "true"], .tup back]]⟩
  else ⟨nm, ["out", "in"], [en, .tup [.str "lea", .str "in", .str "out", .tup [.str "true"], .tup back]]⟩
theorem lockP_ok {a0 nm : Str} {sp k : Int} (hn : nm.length ≤ 9 ∧ NmP nm) : PrG [.num a0 0 1 0] (lockP a0 nm sp k) := by
  have free : ∀ S : Sys, S.dats = [.num a0 0 1 0] → Ex S 1 false 0 (if sp = k then .tup [.str "true"] else .tup [.str "=", .tup [.str "name", .str a0], .tup [.str "int", .int 0]]) := fun S hS => by
    split
    · exact .tru
    · exact .eq (n := 1) (m := 1) (.name (j := 0) (by rw [hS]; exact fst_one (d := .num a0 0 1 0)) (by rw [hS]; rfl) (by decide) (by decide)) (.int (by decide))
  have set : ∀ (S : Sys) (i : Int), S.dats = [.num a0 0 1 0] → i.natAbs ≤ 1 → DeedOk S (.tup [.str "set", .str a0, .tup [.str "int", .int i]]) := fun S i hS hi =>
    .set (k := 0) (n := 1) (j := 0) (by rw [hS]; exact fst_one (d := .num a0 0 1 0)) (by rw [hS]; rfl) (.int hi) (by decide)
  have bk : (if sp = 4 then (1 : Int) else 0).natAbs ≤ 1 := by split <;> decide
  have lf : (if sp = k then D.tup [.str "true"] else .tup [.str "=", .tup [.str "name", .str a0], .tup [.str "int", .int 0]]).low 0 = true := by split <;> rfl
  unfold lockP
  by_cases h5 : sp = 5
  · dsimp only
    rw [if_pos h5]
    refine ⟨fun S hS => ⟨nm_ok hn, fun l hl => ?_, [⟨"ask", "rest", "out", .tup [.str "true"], []⟩, ⟨"ent", "out", "in", _, [_]⟩, ⟨"lea", "in", "rest", .tup [.str "true"], [_]⟩], rfl, by show 3 ≤ 100; decide, fun m hm => ?_⟩, by simp, no_rest, by simp [lf], by show 3 ≤ 50; decide⟩
    · simp only [List.mem_cons, List.not_mem_nil, or_false] at hl
      rcases hl with rfl | rfl | rfl
      · exact sok_rest
      · exact sok_out
      · exact sok_in
    · simp only [List.mem_cons, List.not_mem_nil, or_false] at hm
      rcases hm with rfl | rfl | rfl
      · exact ⟨⟨by simp, ⟨0, by decide, .tru⟩, fun e he => by cases he⟩, sok_ask⟩
      · exact ⟨⟨by simp, ⟨1, by decide, free S hS⟩, fun e he => by rw [List.mem_singleton] at he; subst he; exact set S 1 hS (by decide)⟩, sok_ent⟩
      · exact ⟨⟨by simp, ⟨0, by decide, .tru⟩, fun e he => by rw [List.mem_singleton] at he; subst he; exact set S _ hS bk⟩, sok_lea⟩
  · dsimp only
    rw [if_neg h5]
    refine ⟨fun S hS => ⟨nm_ok hn, fun l hl => ?_, [⟨"ent", "out", "in", _, [_]⟩, ⟨"lea", "in", "out", .tup [.str "true"], [_]⟩], rfl, by show 2 ≤ 100; decide, fun m hm => ?_⟩, by simp, no_out, by simp [lf], by show 2 ≤ 50; decide⟩
    · simp only [List.mem_cons, List.not_mem_nil, or_false] at hl
      rcases hl with rfl | rfl
      · exact sok_out
      · exact sok_in
    · simp only [List.mem_cons, List.not_mem_nil, or_false] at hm
      rcases hm with rfl | rfl
      · exact ⟨⟨by simp, ⟨1, by decide, free S hS⟩, fun e he => by rw [List.mem_singleton] at he; subst he; exact set S 1 hS (by decide)⟩, sok_ent⟩
      · exact ⟨⟨by simp, ⟨0, by decide, .tru⟩, fun e he => by rw [List.mem_singleton] at he; subst he; exact set S _ hS bk⟩, sok_lea⟩
theorem lock_turn {ns : List Str} {a0 nm : Str} {an i : Nat} {sp : Int} {acc : List D} {x0 x1 x7 x8 x9 : Option D} {g : AH} (h0 : ns[0]? = some a0) (h1 : ns[1 + i]? = some nm) (hn : j[an]? = some (.lst (ns.map D.str))) (fl : acc.length < 16777216) :
    ∃ y7 y8 y9 g', l_law_lock_1 [x0, x1, some (.ref (h.length + an)), some (.int sp), some (.tup [.str "=", .tup [.str "name", .str a0], .tup [.str "int", .int 0]]), some (.ref (h.length + j.length)), some (.int (i : Int)), x7, x8, x9] (bset h b dg q ++ (j ++ .lst acc :: g))
      = some (.nx [x0, x1, some (.ref (h.length + an)), some (.int sp), some (.tup [.str "=", .tup [.str "name", .str a0], .tup [.str "int", .int 0]]), some (.ref (h.length + j.length)), some (.int (i : Int)), y7, y8, y9] (bset h b dg q ++ (j ++ .lst (acc ++ [(lockP a0 nm sp i).d]) :: g'))) := by
  have al := (List.getElem?_eq_some_iff.mp hn).1
  have al2 : ∀ g : AH, (j ++ g)[an]? = some (.lst (ns.map D.str)) := fun g => by rw [List.getElem?_append_left al]; exact hn
  clear al
  have i1 : (1 + (i : Int)).toNat = 1 + i := by omega
  have z0 : (ns.map D.str)[0]? = some (.str a0) := by rw [List.getElem?_map, h0]; rfl
  have z1 : (ns.map D.str)[1 + i]? = some (.str nm) := by rw [List.getElem?_map, h1]; rfl
  have z01 := get_all z0
  have w0 := get_all h0
  have w1 := get_all h1
  have nn : (0 : Int) ≤ 1 + i := by omega
  unfold l_law_lock_1 lockP
  by_cases c5 : sp = 5
  · subst c5
    by_cases ck : (5 : Int) = (i : Int) <;> simp -implicitDefEqProofs (disch := first | assumption | omega | (simp only [List.length_cons, List.length_nil, List.length_map, List.length_set, List.length_append]; omega)) [al2, h0, h1, w0, w1, i1, ck, fl, Prc.d]
  · by_cases ck : sp = (i : Int)
    · subst ck
      by_cases c4 : (i : Int) = 4
      · have c6 : i = 4 := by omega
        subst c6
        have h5 : ns[5]? = some nm := h1
        have w5 := get_all h5
        simp -implicitDefEqProofs (disch := first | assumption | omega | (simp only [List.length_cons, List.length_nil, List.length_map, List.length_set, List.length_append]; omega)) [al2, h0, h5, w0, w5, i1, fl, Prc.d]
      · simp -implicitDefEqProofs (disch := first | assumption | omega | (simp only [List.length_cons, List.length_nil, List.length_map, List.length_set, List.length_append]; omega)) [al2, h0, h1, w0, w1, i1, c5, c4, fl, Prc.d]
    · by_cases c4 : sp = 4
      · subst c4
        simp -implicitDefEqProofs (disch := first | assumption | omega | (simp only [List.length_cons, List.length_nil, List.length_map, List.length_set, List.length_append]; omega)) [al2, h0, h1, w0, w1, i1, ck, fl, Prc.d]
      · simp -implicitDefEqProofs (disch := first | assumption | omega | (simp only [List.length_cons, List.length_nil, List.length_map, List.length_set, List.length_append]; omega)) [al2, h0, h1, w0, w1, i1, c5, ck, c4, fl, Prc.d]
theorem lock_loc (B : Bx h b dg ds p) {many : Nat} (m0 : 0 < many) (m4 : many ≤ 4) (hq : 0 ≤ q) (hp : q < 700000) : ∃ S q', SysR S q q' ∧ F_law_lock [.ref b, .int (many : Int)] (bset h b dg q ++ j) = some (S.d, bset h b dg q' ++ j) := by
  have DR := fun (q : Int) (j : AH) (m : Int) (a1 : 0 ≤ q) (a2 : q < 1000000) (a3 : 0 < m) => draw_loc (j := j) B a1 a2 a3
  obtain ⟨ns, nl, nn, nd, e⟩ := names_loc (j := j ++ [.lst []]) (u := h.length + j.length) (m := 6) (us := []) (q := q) B hq (by omega) (by decide) (by decide) (fun q j' => by simp)
  have nq : q + 2 * (6 : Nat) = q + 12 := by omega
  rw [nq] at e
  have k0 := dr_lo (ds := ds) (p := q + 12) (m := 8) (by omega)
  have g0 : ∀ i < 6, ∃ x, ns[i]? = some x ∧ x.length ≤ 9 ∧ NmP x := fun i hi => ⟨ns[i], List.getElem?_eq_getElem (by omega), nn _ (List.getElem_mem _)⟩
  obtain ⟨a0, z0, y0⟩ := g0 0 (by decide)
  obtain ⟨a5, z5, y5⟩ := g0 5 (by decide)
  have w0 := get_all z0
  have w5 := get_all z5
  have mn : (many : Int) < 4611686018427387904 := by omega
  generalize hsp : dr ds (q + 12) 8 = sp at k0
  obtain ⟨τ', h', e2, P⟩ := forRg0 (g := gN 6) (body := l_law_lock_1) (n := many)
    (fun i τ hh => ∃ (ps : List Prc) (g : AH) (x6 x7 x8 x9 : Option D), ps.length = i ∧ (∀ p ∈ ps, PrG [.num a0 0 1 0] p) ∧
      τ = [some (.ref b), some (.int many), some (.ref (h.length + (j.length + 1))), some (.int sp), some (.tup [.str "=", .tup [.str "name", .str a0], .tup [.str "int", .int 0]]), some (.ref (h.length + (j.length + 2))), x6, x7, x8, x9] ∧ hh = bset h b dg (q + 13) ++ (j ++ .lst [] :: .lst (ns.map D.str) :: .lst (ps.map Prc.d) :: g))
    (fun i hi τ hh ⟨ps, g, x6, x7, x8, x9, h1, h2, h3, h4⟩ => by
      subst h3 h4
      obtain ⟨nm, z1, y1⟩ := g0 (1 + i) (by omega)
      obtain ⟨y7, y8, y9, g', e3⟩ := lock_turn (h := h) (j := j ++ [.lst [], .lst (ns.map D.str)]) (b := b) (dg := dg) (q := q + 13) (ns := ns) (a0 := a0) (nm := nm) (an := j.length + 1) (i := i) (sp := sp) (acc := ps.map Prc.d) (x0 := some (.ref b)) (x1 := some (.int many)) (x7 := x7) (x8 := x8) (x9 := x9) (g := g) z0 z1 (by simp) (by rw [List.length_map]; omega)
      refine ⟨_, _, _, _, rfl, .inl ?_, ps ++ [lockP a0 nm sp i], g', some (.int i), y7, y8, y9, by simp [h1], fun p hp => ?_, rfl, rfl⟩
      · simpa using e3
      · rcases List.mem_append.mp hp with z | z
        · exact h2 p z
        · rw [List.mem_singleton.mp z]; exact lockP_ok y1)
    [some (.ref b), some (.int many), some (.ref (h.length + (j.length + 1))), some (.int sp), some (.tup [.str "=", .tup [.str "name", .str a0], .tup [.str "int", .int 0]]), some (.ref (h.length + (j.length + 2))), none, none, none, none] (bset h b dg (q + 13) ++ (j ++ .lst [] :: .lst (ns.map D.str) :: .lst [] :: []))
    ⟨[], [], none, none, none, none, rfl, (fun _ h => by cases h), rfl, rfl⟩
  obtain ⟨ps, g, x6, x7, x8, x9, h1, h2, h3, h4⟩ := P
  subst h3 h4
  have R : SysR ⟨a5, [.num a0 0 1 0], ps⟩ q (q + 13) := by
    refine ⟨gd_of (by simp) (by omega) (fun d hd => ?_) (by omega) ⟨a0, 0, 1, 0, by simp⟩ (by simp) h2, fun p hp => (h2 p hp).lw, fun p hp => (h2 p hp).ml, by omega, by omega⟩
    rw [List.mem_singleton] at hd
    subst hd
    exact ⟨nm_ok y0, by decide, by decide, by decide, by decide⟩
  refine ⟨_, _, R, ?_⟩
  have gg := gc_loc (j := j) (j' := .lst [] :: .lst (ns.map D.str) :: .lst (ps.map Prc.d) :: g) (q := q) (q' := q + 13) B hq (sys_low R.lw)
  unfold F_law_lock b_law_lock
  simp -implicitDefEqProofs (disch := first | assumption | omega | (simp only [List.length_cons, List.length_nil, List.length_map, List.length_set, List.length_append]; omega)) [] at e
  simp -implicitDefEqProofs (disch := first | assumption | omega | (simp only [List.length_cons, List.length_nil, List.length_map, List.length_set, List.length_append]; omega)) [runDef_if, e, DR, mn, z0, w0, hsp]
  have q13 : q + 12 + 1 = q + 13 := by omega
  rw [q13, e2]
  simp -implicitDefEqProofs (disch := first | assumption | omega | (simp only [List.length_cons, List.length_nil, List.length_map, List.length_set, List.length_append]; omega)) [z5, w5, z0, w0]
  exact gg
end
end Sm
namespace Sm
open PySem PySem.Spec PyProof.Rows L2
theorem sok_mk : SOk "mk" := sok_of (by decide +kernel) (by decide +kernel)
theorem sok_get : SOk "get" := sok_of (by decide +kernel) (by decide +kernel)
theorem sok_giv : SOk "giv" := sok_of (by decide +kernel) (by decide +kernel)
theorem sok_end : SOk "end" := sok_of (by decide +kernel) (by decide +kernel)
theorem sok_a : SOk "a" := sok_of (by decide +kernel) (by decide +kernel)
theorem sok_b : SOk "b" := sok_of (by decide +kernel) (by decide +kernel)
theorem sok_cc : SOk "c" := sok_of (by decide +kernel) (by decide +kernel)
theorem sok_d : SOk "d" := sok_of (by decide +kernel) (by decide +kernel)
theorem no_a : ("no" : Str) ∉ [("a" : Str)] := by decide +kernel
theorem no_bc : ("no" : Str) ∉ [("b" : Str), "c"] := by decide +kernel
theorem no_d : ("no" : Str) ∉ [("d" : Str)] := by decide +kernel
section
variable {h j : AH} {b dg : Nat} {ds : List Int} {p q : Int}
def lineD (a0 a1 a2 a3 : Str) (room : Int) : List Dat := [.num a0 0 2 0, .que a1 room 0 1, .que a2 1 0 1, .num a3 0 1 0]
theorem lineD_fst {a0 a1 a2 a3 : Str} {room : Int} (nd : [a0, a1, a2, a3].Nodup) : Fst Dat.nm (lineD a0 a1 a2 a3 room) a0 0 ∧ Fst Dat.nm (lineD a0 a1 a2 a3 room) a1 1 ∧ Fst Dat.nm (lineD a0 a1 a2 a3 room) a2 2 ∧ Fst Dat.nm (lineD a0 a1 a2 a3 room) a3 3 := by
  have e : (lineD a0 a1 a2 a3 room).map Dat.nm = [a0, a1, a2, a3] := rfl
  have go : ∀ (i : Nat) (x : Str), [a0, a1, a2, a3][i]? = some x → Fst Dat.nm (lineD a0 a1 a2 a3 room) x i := fun i x hx => by
    rw [fst_ix, e]
    refine ⟨hx, fun k hk c => ?_⟩
    have h1 := (List.getElem?_eq_some_iff.mp hx)
    have h2 := (List.getElem?_eq_some_iff.mp c)
    obtain ⟨h1a, h1b⟩ := h1
    obtain ⟨h2a, h2b⟩ := h2
    have := (List.getElem_inj nd).mp (h2b.trans h1b.symm)
    omega
  exact ⟨go 0 a0 rfl, go 1 a1 rfl, go 2 a2 rfl, go 3 a3 rfl⟩
theorem line_loc (B : Bx h b dg ds p) {many : Nat} (m0 : 2 ≤ many) (m4 : many ≤ 3) (hq : 0 ≤ q) (hp : q < 700000) : ∃ S q', SysR S q q' ∧ F_law_line [.ref b, .int (many : Int)] (bset h b dg q ++ j) = some (S.d, bset h b dg q' ++ j) := by
  have DR := fun (q : Int) (j : AH) (m : Int) (a1 : 0 ≤ q) (a2 : q < 1000000) (a3 : 0 < m) => draw_loc (j := j) B a1 a2 a3
  obtain ⟨ns, nl, nn, nd, e⟩ := names_loc (j := j ++ [.lst []]) (u := h.length + j.length) (m := 8) (us := []) (q := q) B hq (by omega) (by decide) (by decide) (fun q j' => by simp)
  have nq : q + 2 * (8 : Nat) = q + 16 := by omega
  rw [nq] at e
  have nd := nd rfl
  match ns, nl with
  | [a0, a1, a2, a3, a4, a5, a6, a7], _ =>
  have y0 := nn a0 (by simp)
  have y1 := nn a1 (by simp)
  have y2 := nn a2 (by simp)
  have y3 := nn a3 (by simp)
  have y4 := nn a4 (by simp)
  have y5 := nn a5 (by simp)
  have y6 := nn a6 (by simp)
  have nd4 : [a0, a1, a2, a3].Nodup := List.Nodup.sublist (by simp) nd
  have r0 := dr_lo (ds := ds) (p := q + 16) (m := 2) (by omega)
  have r1 := dr_hi (ds := ds) (p := q + 16) (m := 2) (by omega)
  have rr : ∃ room : Int, room = 1 + dr ds (q + 16) 2 ∧ 1 ≤ room ∧ room ≤ 2 := ⟨_, rfl, by omega, by omega⟩
  obtain ⟨room, hroom, rm0, rm1⟩ := rr
  obtain ⟨f0, f1, f2, f3⟩ := lineD_fst (room := room) nd4
  have x1 := atI_dr (xs := [.tup [.str "int", .int 1], .tup [.str "name", .str a3]]) (dd := ds) (q := q + 16 + 1) (m := 2) (by omega) (by simp)
  have m1 := dk_mem (xs := [.tup [.str "int", .int 1], .tup [.str "name", .str a3]]) (dd := ds) (q := q + 16 + 1) (m := 2) (by omega) (by simp)
  generalize dk [.tup [.str "int", .int 1], .tup [.str "name", .str a3]] ds (q + 16 + 1) 2 = v1 at x1 m1
  have x2 := atI_dr (xs := [.tup [.str "true"], .tup [.str "<", .tup [.str "size", .str a2], .tup [.str "int", .int 1]], .tup [.str "=", .tup [.str "name", .str a3], .tup [.str "int", .int 1]]]) (dd := ds) (q := q + 16 + 1 + 1) (m := 3) (by omega) (by simp)
  have m2 := dk_mem (xs := [.tup [.str "true"], .tup [.str "<", .tup [.str "size", .str a2], .tup [.str "int", .int 1]], .tup [.str "=", .tup [.str "name", .str a3], .tup [.str "int", .int 1]]]) (dd := ds) (q := q + 16 + 1 + 1) (m := 3) (by omega) (by simp)
  generalize dk [.tup [.str "true"], .tup [.str "<", .tup [.str "size", .str a2], .tup [.str "int", .int 1]], .tup [.str "=", .tup [.str "name", .str a3], .tup [.str "int", .int 1]]] ds (q + 16 + 1 + 1) 3 = v2 at x2 m2
  have x3 := atI_dr (xs := [.tup [.str "set", .str a0, .tup [.str "-", .tup [.str "name", .str a0], .tup [.str "int", .int 1]]], .tup [.str "set", .str a0, .tup [.str "int", .int 0]]]) (dd := ds) (q := q + 16 + 1 + 1 + 1) (m := 2) (by omega) (by simp)
  have m3 := dk_mem (xs := [.tup [.str "set", .str a0, .tup [.str "-", .tup [.str "name", .str a0], .tup [.str "int", .int 1]]], .tup [.str "set", .str a0, .tup [.str "int", .int 0]]]) (dd := ds) (q := q + 16 + 1 + 1 + 1) (m := 2) (by omega) (by simp)
  generalize dk [.tup [.str "set", .str a0, .tup [.str "-", .tup [.str "name", .str a0], .tup [.str "int", .int 1]]], .tup [.str "set", .str a0, .tup [.str "int", .int 0]]] ds (q + 16 + 1 + 1 + 1) 2 = v3 at x3 m3
  have ex0 : ∀ S : Sys, S.dats = lineD a0 a1 a2 a3 room → ∀ k, Ex S k true 2 (.tup [.str "name", .str a0]) := fun S hS k => .name (j := 0) (by rw [hS]; exact f0) (by rw [hS]; rfl) (by decide) (by decide)
  have ex3 : ∀ S : Sys, S.dats = lineD a0 a1 a2 a3 room → ∀ k, Ex S k true 2 (.tup [.str "name", .str a3]) := fun S hS k => .name (j := 3) (by rw [hS]; exact f3) (by rw [hS]; rfl) (by decide) (by decide)
  have ex2 : ∀ S : Sys, S.dats = lineD a0 a1 a2 a3 room → ∀ k, Ex S k true 2 (.tup [.str "size", .str a2]) := fun S hS k => .size (j := 2) (by rw [hS]; exact f2) (by rw [hS]; rfl) (by decide)
  have set0 : ∀ S : Sys, S.dats = lineD a0 a1 a2 a3 room → ∀ {k n e}, Ex S k true n e → k < 7 → DeedOk S (.tup [.str "set", .str a0, e]) := fun S hS _ _ _ E hk => .set (j := 0) (by rw [hS]; exact f0) (by rw [hS]; rfl) E hk
  have put1 : ∀ S : Sys, S.dats = lineD a0 a1 a2 a3 room → ∀ {k n e}, Ex S k true n e → k < 7 → DeedOk S (.tup [.str "put", .str a1, e]) := fun S hS _ _ _ E hk => .put (j := 1) (by rw [hS]; exact f1) (by rw [hS]; rfl) (by omega) E hk
  have put2 : ∀ S : Sys, S.dats = lineD a0 a1 a2 a3 room → ∀ {k n e}, Ex S k true n e → k < 7 → DeedOk S (.tup [.str "put", .str a2, e]) := fun S hS _ _ _ E hk => .put (j := 2) (by rw [hS]; exact f2) (by rw [hS]; rfl) (by decide) E hk
  have tk1 : ∀ S : Sys, S.dats = lineD a0 a1 a2 a3 room → DeedOk S (.tup [.str "take", .str a1, .str a3]) := fun S hS => .take (j := 1) (i := 3) (by rw [hS]; exact f1) (by rw [hS]; rfl) (by omega) (by rw [hS]; exact f3) (by rw [hS]; rfl)
  have tk2 : ∀ S : Sys, S.dats = lineD a0 a1 a2 a3 room → DeedOk S (.tup [.str "take", .str a2, .str a3]) := fun S hS => .take (j := 2) (i := 3) (by rw [hS]; exact f2) (by rw [hS]; rfl) (by decide) (by rw [hS]; exact f3) (by rw [hS]; rfl)
  have V1 : v1.low 0 = true ∧ ∀ S : Sys, S.dats = lineD a0 a1 a2 a3 room → Ex S 0 true 2 v1 := by
    simp only [List.mem_cons, List.not_mem_nil, or_false] at m1
    rcases m1 with rfl | rfl
    · exact ⟨rfl, fun S hS => .int (by decide)⟩
    · exact ⟨rfl, fun S hS => ex3 S hS 0⟩
  have V2 : v2.low 0 = true ∧ ∀ S : Sys, S.dats = lineD a0 a1 a2 a3 room → Ex S 1 false 0 v2 := by
    simp only [List.mem_cons, List.not_mem_nil, or_false] at m2
    rcases m2 with rfl | rfl | rfl
    · exact ⟨rfl, fun S hS => .tru⟩
    · exact ⟨rfl, fun S hS => .lt (ex2 S hS 0) (.int (n := 1) (by decide))⟩
    · exact ⟨rfl, fun S hS => .eq (ex3 S hS 0) (.int (n := 1) (by decide))⟩
  have V3 : v3.low 0 = true ∧ ∀ S : Sys, S.dats = lineD a0 a1 a2 a3 room → DeedOk S v3 := by
    simp only [List.mem_cons, List.not_mem_nil, or_false] at m3
    rcases m3 with rfl | rfl
    · exact ⟨rfl, fun S hS => set0 S hS (.sub (ex0 S hS 0) (.int (n := 1) (by decide))) (by decide)⟩
    · exact ⟨rfl, fun S hS => set0 S hS (.int (k := 0) (n := 1) (by decide)) (by decide)⟩
  let p1 : Prc := ⟨a4, ["a"], [.tup [.str "mk", .str "a", .str "a", .tup [.str "<", .tup [.str "name", .str a0], .tup [.str "int", .int 2]], .tup [.tup [.str "put", .str a1, v1], .tup [.str "set", .str a0, .tup [.str "+", .tup [.str "name", .str a0], .tup [.str "int", .int 1]]]]]]⟩
  let p2 : Prc := ⟨a5, ["b", "c"], [.tup [.str "get", .str "b", .str "c", .tup [.str "true"], .tup [.tup [.str "take", .str a1, .str a3]]], .tup [.str "giv", .str "c", .str "b", v2, .tup [.tup [.str "put", .str a2, .tup [.str "name", .str a3]]]]]⟩
  let p3 : Prc := ⟨a6, ["d"], [.tup [.str "end", .str "d", .str "d", .tup [.str "true"], .tup [.tup [.str "take", .str a2, .str a3], v3]]]⟩
  have P1 : PrG (lineD a0 a1 a2 a3 room) p1 := by
    refine ⟨fun S hS => ⟨nm_ok y4, fun l hl => ?_, [⟨"mk", "a", "a", _, [_, _]⟩], rfl, by show 1 ≤ 100; decide, fun m hm => ?_⟩, by simp [p1], no_a, by simp [p1, V1.1], by show 1 ≤ 50; decide⟩
    · rw [List.mem_singleton] at hl; subst hl; exact sok_a
    · rw [List.mem_singleton] at hm
      subst hm
      refine ⟨⟨by simp [p1], ⟨1, by decide, .lt (ex0 S hS 0) (.int (n := 2) (by decide))⟩, fun e he => ?_⟩, sok_mk⟩
      simp only [List.mem_cons, List.not_mem_nil, or_false] at he
      rcases he with rfl | rfl
      · exact put1 S hS (V1.2 S hS) (by decide)
      · exact set0 S hS (.add (ex0 S hS 0) (.int (n := 1) (by decide))) (by decide)
  have P2 : PrG (lineD a0 a1 a2 a3 room) p2 := by
    refine ⟨fun S hS => ⟨nm_ok y5, fun l hl => ?_, [⟨"get", "b", "c", _, [_]⟩, ⟨"giv", "c", "b", _, [_]⟩], rfl, by show 2 ≤ 100; decide, fun m hm => ?_⟩, by simp [p2], no_bc, by simp [p2, V2.1], by show 2 ≤ 50; decide⟩
    · simp only [p2, List.mem_cons, List.not_mem_nil, or_false] at hl
      rcases hl with rfl | rfl
      · exact sok_b
      · exact sok_cc
    · simp only [List.mem_cons, List.not_mem_nil, or_false] at hm
      rcases hm with rfl | rfl
      · refine ⟨⟨by simp [p2], ⟨0, by decide, .tru⟩, fun e he => ?_⟩, sok_get⟩
        rw [List.mem_singleton] at he
        subst he
        exact tk1 S hS
      · refine ⟨⟨by simp [p2], ⟨1, by decide, V2.2 S hS⟩, fun e he => ?_⟩, sok_giv⟩
        rw [List.mem_singleton] at he
        subst he
        exact put2 S hS (ex3 S hS 0) (by decide)
  have P3 : PrG (lineD a0 a1 a2 a3 room) p3 := by
    refine ⟨fun S hS => ⟨nm_ok y6, fun l hl => ?_, [⟨"end", "d", "d", _, [_, _]⟩], rfl, by show 1 ≤ 100; decide, fun m hm => ?_⟩, by simp [p3], no_d, by simp [p3, V3.1], by show 1 ≤ 50; decide⟩
    · rw [List.mem_singleton] at hl; subst hl; exact sok_d
    · rw [List.mem_singleton] at hm
      subst hm
      refine ⟨⟨by simp [p3], ⟨0, by decide, .tru⟩, fun e he => ?_⟩, sok_end⟩
      simp only [List.mem_cons, List.not_mem_nil, or_false] at he
      rcases he with rfl | rfl
      · exact tk2 S hS
      · exact V3.2 S hS
  have fin : ∀ ps : List Prc, (∀ p ∈ ps, p = p1 ∨ p = p2 ∨ p = p3) → 0 < ps.length → ps.length ≤ 3 → SysR ⟨a7, lineD a0 a1 a2 a3 room, ps⟩ q (q + 20) := fun ps hps h0 h1 => by
    have all : ∀ p ∈ ps, PrG (lineD a0 a1 a2 a3 room) p := fun p hp => by
      rcases hps p hp with rfl | rfl | rfl
      · exact P1
      · exact P2
      · exact P3
    refine ⟨gd_of (by show 4 ≤ 10; decide) (by omega) (fun d hd => ?_) h0 ⟨a0, 0, 2, 0, by simp [lineD]⟩ nd4 all, fun p hp => (all p hp).lw, fun p hp => (all p hp).ml, by omega, by omega⟩
    simp only [lineD, List.mem_cons, List.not_mem_nil, or_false] at hd
    rcases hd with rfl | rfl | rfl | rfl
    · exact ⟨nm_ok y0, by decide, by decide, by decide, by decide⟩
    · exact ⟨nm_ok y1, rm0, by omega, by decide, by decide, by decide⟩
    · exact ⟨nm_ok y2, by decide, by decide, by decide, by decide, by decide⟩
    · exact ⟨nm_ok y3, by decide, by decide, by decide, by decide⟩
  have cut : cutA [p1.d, p2.d, p3.d] none (some (imax 2 many)) = ([p1, p2, p3].take many).map Prc.d := by
    rcases (show many = 2 ∨ many = 3 by omega) with rfl | rfl
    · exact (cut_to (n := 2) (by simp))
    · exact (cut_to (n := 3) (by simp))
  have R := fin ([p1, p2, p3].take many) (fun p hp => by
    have := List.mem_of_mem_take hp
    simpa using this) (by rw [List.length_take]; simp; omega) (by rw [List.length_take]; simp; omega)
  refine ⟨_, _, R, ?_⟩
  have q20 : q + 16 + 1 + 1 + 1 + 1 = q + 20 := by omega
  have gg := gc_loc (j := j) (j' := [.lst [], .lst ([a0, a1, a2, a3, a4, a5, a6, a7].map D.str)]) (q := q) (q' := q + 20) B hq (sys_low R.lw)
  have tl : (([p1, p2, p3].take many).map Prc.d).length ≤ 16777216 := by rw [List.length_map, List.length_take]; simp; omega
  simp -implicitDefEqProofs (disch := first | assumption | omega | (simp only [List.length_cons, List.length_nil, List.length_map, List.length_set, List.length_append]; omega)) [] at e
  unfold F_law_line b_law_line
  simp -implicitDefEqProofs (disch := first | assumption | omega | (simp only [List.length_cons, List.length_nil, List.length_map, List.length_set, List.length_append]; omega)) [runDef_if, e, DR, ← hroom]
  simp -implicitDefEqProofs (disch := first | assumption | omega | (simp only [List.length_cons, List.length_nil, List.length_map, List.length_set, List.length_append]; omega)) [x1]
  simp -implicitDefEqProofs (disch := first | assumption | omega | (simp only [List.length_cons, List.length_nil, List.length_map, List.length_set, List.length_append]; omega)) [x2, DR]
  simp -implicitDefEqProofs (disch := first | assumption | omega | (simp only [List.length_cons, List.length_nil, List.length_map, List.length_set, List.length_append]; omega)) [x3, DR]
  have mx : ∀ hh : AH, oMax [.val (.int 2), .val (.int (many : Int))] hh = some (.val (.int (imax 2 many)), hh) := fun _ => rfl
  rw [q20]
  have sd : ∀ ps : List Prc, Sys.d ⟨a7, lineD a0 a1 a2 a3 room, ps⟩ = .tup [.str "system", .str a7, .tup [.tup [.str "number", .str a0, .int 0, .int 2, .int 0], .tup [.str "queue", .str a1, .int room, .int 0, .int 1], .tup [.str "queue", .str a2, .int 1, .int 0, .int 1], .tup [.str "number", .str a3, .int 0, .int 1, .int 0]], .tup (ps.map Prc.d)] := fun _ => rfl
  rw [sd] at gg ⊢
  generalize ([p1, p2, p3].take many).map Prc.d = X at cut tl gg ⊢
  dsimp only [p1, p2, p3, Prc.d, List.map] at cut
  simp -implicitDefEqProofs (disch := first | assumption | omega | (simp only [List.length_cons, List.length_nil, List.length_map, List.length_set, List.length_append]; omega)) [mx, cut, tl]
  exact gg
end
end Sm
namespace Sm
open PySem PySem.Spec PyProof.Rows L2
/-! ## drawn systems -/
structure MvG (S : Sys) (pls : List Str) (m : Mv) : Prop where
  tg : m.g ∈ pls
  gd : ∃ k, k < 7 ∧ Ex S k false 0 m.gd
  ds : ∀ e ∈ m.ds, DeedOk S e
  tt : SOk m.t
  lw : m.d.low 0 = true
structure D1R (nm : Str) (d : Dat) : Prop where
  ok : ∃ lo hi fi, d = .num nm lo hi fi ∧ -100 ≤ lo ∧ lo ≤ fi ∧ fi ≤ hi ∧ hi ≤ 100
section
variable {h : AH} {b dg : Nat} {ds : List Int} {p : Int}
theorem d1_turn (B : Bx h b dg ds p) {j g : AH} {q : Int} {ns : List Str} {nm : Str} {an i : Nat} {acc : List D} {x1 x5 x6 x7 x8 x9 x10 x11 x12 x13 x14 x15 x16 : Option D} (hn : j[an]? = some (.lst (ns.map D.str))) (hi : ns[i]? = some nm) (fl : acc.length < 16777216) (hq : 0 ≤ q) (hp : q < 800000) :
    ∃ d y9 y10, D1R nm d ∧ l_law_drawn_1 [some (.ref b), x1, some (.ref (h.length + an)), some (.ref (h.length + j.length)), some (.int (i : Int)), x5, x6, x7, x8, x9, x10, x11, x12, x13, x14, x15, x16] (bset h b dg q ++ (j ++ .lst acc :: g))
      = some (.nx [some (.ref b), x1, some (.ref (h.length + an)), some (.ref (h.length + j.length)), some (.int (i : Int)), x5, x6, x7, x8, y9, y10, x11, x12, x13, x14, x15, x16] (bset h b dg (q + 3) ++ (j ++ .lst (acc ++ [d.d]) :: g))) := by
  have DR := fun (q : Int) (j : AH) (m : Int) (a1 : 0 ≤ q) (a2 : q < 1000000) (a3 : 0 < m) => draw_loc (j := j) B a1 a2 a3
  have al := (List.getElem?_eq_some_iff.mp hn).1
  have al2 : ∀ g : AH, (j ++ g)[an]? = some (.lst (ns.map D.str)) := fun g => by rw [List.getElem?_append_left al]; exact hn
  clear al
  have w := get_all hi
  have x1 := atI_dr (xs := [.int 0, .int 0, .int 1, .int (-2)]) (dd := ds) (q := q) (m := 4) (by omega) (by simp)
  have m1 := dk_mem (xs := [.int 0, .int 0, .int 1, .int (-2)]) (dd := ds) (q := q) (m := 4) (by omega) (by simp)
  generalize dk [.int 0, .int 0, .int 1, .int (-2)] ds q 4 = v at x1 m1
  have hv : ∃ lo : Int, v = .int lo ∧ -2 ≤ lo ∧ lo ≤ 1 := by
    simp only [List.mem_cons, List.not_mem_nil, or_false] at m1
    rcases m1 with rfl | rfl | rfl | rfl <;> exact ⟨_, rfl, by decide, by decide⟩
  obtain ⟨lo, rfl, lo0, lo1⟩ := hv
  have a0 := dr_lo (ds := ds) (p := q + 1) (m := 3) (by omega)
  have a1 := dr_hi (ds := ds) (p := q + 1) (m := 3) (by omega)
  generalize hh : dr ds (q + 1) 3 = e at a0 a1
  have b0 := dr_lo (ds := ds) (p := q + 1 + 1) (m := lo + 1 + e - lo + 1) (by omega)
  have b1 := dr_hi (ds := ds) (p := q + 1 + 1) (m := lo + 1 + e - lo + 1) (by omega)
  refine ⟨.num nm lo (lo + 1 + e) (lo + dr ds (q + 1 + 1) (lo + 1 + e - lo + 1)), some (.int lo), some (.int (lo + 1 + e)), ⟨⟨_, _, _, rfl, by omega, by omega, by omega, by omega⟩⟩, ?_⟩
  have q3 : q + 1 + 1 + 1 = q + 3 := by omega
  unfold l_law_drawn_1
  simp -implicitDefEqProofs (disch := first | assumption | omega | (simp only [List.length_cons, List.length_nil, List.length_map, List.length_set, List.length_append]; omega)) [DR, x1, hh, al2, hi, w, fl, Dat.d]
  rw [q3]
structure D2R (nm : Str) (p : Prc) : Prop where
  ok : p.nm = nm ∧ p.mvs = [] ∧ 0 < p.places.length ∧ p.places.length ≤ 3 ∧ ∀ l ∈ p.places, l.length ≤ 9 ∧ NmP l
theorem d2_turn (B : Bx h b dg ds p) {j g : AH} {q : Int} {ns : List Str} {nm : Str} {an i : Nat} {acc : List D} {x1 x3 x6 x7 x8 x9 x10 x11 x12 x13 x14 x15 x16 : Option D} (hl : ns.length = 9) (hn : j[an]? = some (.lst (ns.map D.str))) (hi : ns[4 + i]? = some nm) (fl : acc.length < 16777216) (hq : 0 ≤ q) (hp : q < 800000) :
    ∃ P q' g', D2R nm P ∧ q ≤ q' ∧ q' ≤ q + 10 ∧ l_law_drawn_2 [some (.ref b), x1, some (.ref (h.length + an)), x3, some (.int (i : Int)), some (.ref (h.length + j.length)), x6, x7, x8, x9, x10, x11, x12, x13, x14, x15, x16] (bset h b dg q ++ (j ++ .lst acc :: g))
      = some (.nx [some (.ref b), x1, some (.ref (h.length + an)), x3, some (.int (i : Int)), some (.ref (h.length + j.length)), x6, x7, x8, x9, x10, x11, x12, x13, x14, x15, x16] (bset h b dg q' ++ (j ++ .lst (acc ++ [P.d]) :: g'))) := by
  have DR := fun (q : Int) (j : AH) (m : Int) (a1 : 0 ≤ q) (a2 : q < 1000000) (a3 : 0 < m) => draw_loc (j := j) B a1 a2 a3
  have al := (List.getElem?_eq_some_iff.mp hn).1
  have al2 : ∀ g : AH, (j ++ g)[an]? = some (.lst (ns.map D.str)) := fun g => by rw [List.getElem?_append_left al]; exact hn
  clear al
  have w := get_all hi
  have a0 := dr_lo (ds := ds) (p := q) (m := 3) (by omega)
  have a1 := dr_hi (ds := ds) (p := q) (m := 3) (by omega)
  obtain ⟨m, hm⟩ := Int.eq_ofNat_of_zero_le (show 0 ≤ 1 + dr ds q 3 by omega)
  obtain ⟨ts, tl, tn, _, e⟩ := names_loc (j := j ++ .lst acc :: g) (u := h.length + an) (m := m) (us := ns) (q := q + 1) B (by omega) (by omega) (by omega) (by omega) (fun q j' => by rw [getA, List.append_assoc]; exact al2 _)
  have y1 : (4 + (i : Int)).toNat = 4 + i := by omega
  have y0 : (0 : Int) ≤ 4 + i := by omega
  refine ⟨⟨nm, ts, []⟩, q + 1 + 2 * m, g ++ [.lst (ts.map D.str)], ⟨rfl, rfl, by show 0 < ts.length; omega, by show ts.length ≤ 3; omega, tn⟩, by omega, by omega, ?_⟩
  simp -implicitDefEqProofs (disch := first | assumption | omega | (simp only [List.length_cons, List.length_nil, List.length_map, List.length_set, List.length_append]; omega)) [] at e
  unfold l_law_drawn_2
  simp -implicitDefEqProofs (disch := first | assumption | omega | (simp only [List.length_cons, List.length_nil, List.length_map, List.length_set, List.length_append]; omega)) [DR, hm, e, al2, hi, w, y1, fl, Prc.d]
theorem deeds_comp (B : Bx h b dg ds p) {S : Sys} (gb : S.Gb) {x1 x2 x3 x4 x5 x7 x8 x9 x10 x11 x12 x13 x14 x15 : Option D} : ∀ (items : List D) (q : Int) (j : AH), 0 ≤ q → q + 20 * items.length < 800000 →
    ∃ es q', es.length = items.length ∧ (∀ e ∈ es, DeedOk S e ∧ e.low 0 = true) ∧ q ≤ q' ∧ q' ≤ q + 20 * items.length ∧
      compL [] (gN 16) mYes (mCall F_law_deed (mCons (mVar 0) (mCons (mVar 6) mNil))) [some (.ref b), x1, x2, x3, x4, x5, some S.d, x7, x8, x9, x10, x11, x12, x13, x14, x15, none] items (bset h b dg q ++ j) = some (es, bset h b dg q' ++ j)
  | [], q, j, _, _ => ⟨[], q, rfl, (fun _ h => by cases h), Int.le_refl _, by simp, rfl⟩
  | x :: items, q, j, hq, hp => by
    rw [List.length_cons] at hp
    obtain ⟨d, q1, ⟨d1, d2, d3, d4⟩, e⟩ := deed_loc (j := j) (q := q) B gb hq (by omega)
    obtain ⟨es, q', n1, n2, n3, n4, e2⟩ := deeds_comp B gb (x1 := x1) (x2 := x2) (x3 := x3) (x4 := x4) (x5 := x5) (x7 := x7) (x8 := x8) (x9 := x9) (x10 := x10) (x11 := x11) (x12 := x12) (x13 := x13) (x14 := x14) (x15 := x15) items q1 j (by omega) (by omega)
    refine ⟨d :: es, q', by simp [n1], fun e he => ?_, by omega, by rw [List.length_cons]; omega, ?_⟩
    · rcases List.mem_cons.mp he with z | z
      · rw [z]; exact ⟨d1, d2⟩
      · exact n2 e z
    · rw [compL_cons']
      simp -implicitDefEqProofs (disch := first | assumption | omega | (simp only [List.length_cons, List.length_nil, List.length_map, List.length_set, List.length_append]; omega)) [e, e2]
structure D3R (S : Sys) (pls : List Str) (q : Int) (m : Mv) (q' : Int) : Prop where
  mv : MvG S pls m
  q0 : q ≤ q'
  q1 : q' ≤ q + 150
theorem d3_turn (B : Bx h b dg ds p) {S : Sys} (gb : S.Gb) {j g : AH} {q : Int} {ts pls : List Str} {t : Str} {at' k : Nat} {acc : List D} {x1 x2 x3 x5 x7 x8 x9 x10 x14 x15 x16 : Option D} (hp0 : pls ≠ []) (hpl : pls.length ≤ 100) (ht : ts[k]? = some t) (st : SOk t) (hk : k ≤ 1000)
    (ht2 : ∀ acc : List D, (j ++ .lst acc :: g)[at']? = some (.lst (ts.map D.str))) (fl : acc.length < 16777216) (hq : 0 ≤ q) (hp : q < 700000) :
    ∃ m q' y14 y15, D3R S pls q m q' ∧ l_law_drawn_3 [some (.ref b), x1, x2, x3, some (.int (k : Int)), x5, some S.d, x7, x8, x9, x10, some (.ref (h.length + j.length)), some (.tup (pls.map D.str)), some (.ref (h.length + at')), x14, x15, x16] (bset h b dg q ++ (j ++ .lst acc :: g))
      = some (.nx [some (.ref b), x1, x2, x3, some (.int (k : Int)), x5, some S.d, x7, x8, x9, x10, some (.ref (h.length + j.length)), some (.tup (pls.map D.str)), some (.ref (h.length + at')), y14, y15, x16] (bset h b dg q' ++ (j ++ .lst (acc ++ [m.d]) :: g))) := by
  have DR := fun (q : Int) (j : AH) (m : Int) (a1 : 0 ≤ q) (a2 : q < 1000000) (a3 : 0 < m) => draw_loc (j := j) B a1 a2 a3
  have h0 : 0 < pls.length := by
    cases pls with
    | nil => exact absurd rfl hp0
    | cons _ _ => simp
  obtain ⟨tr, q1, ⟨T1, T2, T3, T4⟩, te⟩ := truth_loc B gb 1 4 (by decide) q (j ++ .lst acc :: g) hq (by rw [show (30 * 3 ^ 1 : Nat) = 90 from rfl]; omega)
  rw [show (30 * 3 ^ 1 : Nat) = 90 from rfl] at T4
  have te : F_law_truth 4 [.ref b, S.d, .int 1] (bset h b dg q ++ (j ++ .lst acc :: g)) = some (tr, bset h b dg q1 ++ (j ++ .lst acc :: g)) := te
  -- the guard
  have G : ∃ gd : D, (∃ k, k < 7 ∧ Ex S k false 0 gd) ∧ gd.low 0 = true ∧ L2.atI [.tup [.str "true"], tr] (if 2 < dr ds q1 5 then 1 else 0) = some gd := by
    by_cases c : 2 < dr ds q1 5
    · rw [if_pos c]; exact ⟨tr, ⟨3, by decide, T1⟩, T2, rfl⟩
    · rw [if_neg c]; exact ⟨_, ⟨0, by decide, .tru⟩, rfl, rfl⟩
  obtain ⟨gd, G1, G2, G3⟩ := G
  have x1' := atI_dr (xs := [.int 1, .int 0, .int 1, .int 2]) (dd := ds) (q := q1 + 1) (m := 4) (by omega) (by simp)
  have m1 := dk_mem (xs := [.int 1, .int 0, .int 1, .int 2]) (dd := ds) (q := q1 + 1) (m := 4) (by omega) (by simp)
  generalize dk [.int 1, .int 0, .int 1, .int 2] ds (q1 + 1) 4 = v at x1' m1
  have hv : ∃ n : Nat, v = .int n ∧ n ≤ 2 := by
    simp only [List.mem_cons, List.not_mem_nil, or_false] at m1
    rcases m1 with rfl | rfl | rfl | rfl
    · exact ⟨1, rfl, by decide⟩
    · exact ⟨0, rfl, by decide⟩
    · exact ⟨1, rfl, by decide⟩
    · exact ⟨2, rfl, by decide⟩
  obtain ⟨n, rfl, n2⟩ := hv
  have n3 : n ≤ 4000000000 := by omega
  obtain ⟨es, q2, e1, e2, e3, e4, e5⟩ := deeds_comp B gb (x1 := x1) (x2 := x2) (x3 := x3) (x4 := some (.int k)) (x5 := x5) (x7 := x7) (x8 := x8) (x9 := x9) (x10 := x10) (x11 := some (.ref (h.length + j.length))) (x12 := some (.tup (pls.map D.str))) (x13 := some (.ref (h.length + at'))) (x14 := some gd) (x15 := x15) (rngD 0 n) (q1 + 1 + 1) (j ++ .lst acc :: g) (by omega) (by rw [rngD_len]; omega)
  rw [rngD_len] at e1 e4
  have el : es.length ≤ 16777216 := by omega
  have esl : D.lows 0 es = true := lows_of fun e he => (e2 e he).2
  have ht3 := get_all ht
  unfold l_law_drawn_3
  by_cases c : k < pls.length
  · have ci : (k : Int) < (pls.length : Int) := by omega
    have hk1 : pls[k]? = some pls[k] := List.getElem?_eq_getElem c
    have kk : ((k : Int) + 1) % (pls.length : Int) = (((k + 1) % pls.length : Nat) : Int) := by
      rw [Int.natCast_emod, Int.natCast_add]
      rfl
    have kk1 : L2.atI (pls.map D.str) (((k : Int) + 1) % (pls.length : Int)) = (pls.map D.str)[(k + 1) % pls.length]? := by rw [kk, atI_cast]
    have kk2 : L2.atI (pls.map D.str) (((k : Int) + 1).fmod (pls.length : Int)) = (pls.map D.str)[(k + 1) % pls.length]? := by rw [Int.fmod_eq_emod_of_nonneg _ (by omega), kk, atI_cast]
    have md := Nat.mod_lt (k + 1) h0
    have hk2 : pls[(k + 1) % pls.length]? = some (pls[(k + 1) % pls.length]'md) := List.getElem?_eq_getElem md
    have pz : ((pls.length : Nat) : Int) ≠ 0 := by omega
    refine ⟨⟨t, pls[k], pls[(k + 1) % pls.length]'md, gd, es⟩, q2, some gd, some (.tup es), ⟨⟨List.getElem_mem _, G1, fun e he => (e2 e he).1, st, by simp [Mv.d, G2, esl]⟩, by omega, by omega⟩, ?_⟩
    generalize pls[(k + 1) % pls.length]'md = l2 at hk2
    generalize pls[k] = l1 at hk1
    have w1 := get_all hk1
    have w2 := get_all hk2
    simp -implicitDefEqProofs (disch := first | assumption | omega | (simp only [List.length_cons, List.length_nil, List.length_map, List.length_set, List.length_append]; omega)) [te, DR, G3, x1', n3, -atI_pos]
    rw [e5]
    simp -implicitDefEqProofs (disch := first | assumption | omega | (simp only [List.length_cons, List.length_nil, List.length_map, List.length_set, List.length_append]; omega)) [el, c, ht2, ht, ht3, hk1, w1, kk1, kk2, hk2, w2, pz, fl, Mv.d]
  · have ci : ¬ (k : Int) < (pls.length : Int) := by omega
    have pk := fun (q : Int) (a1 : 0 ≤ q) (a2 : q < 1000000) => pickT_eq (j := j ++ .lst acc :: g) (xs := pls.map D.str) B a1 a2 (by rw [List.length_map]; exact h0) (lows_strs _)
    have mm := fun (q : Int) => dk_mem (xs := pls.map D.str) (dd := ds) (q := q) (m := ((pls.map D.str).length : Nat)) (by rw [List.length_map]; omega) (Int.le_refl _)
    have pk1 := pk q2 (by omega) (by omega)
    have mm1 := mm q2
    have pk2 := pk (q2 + 1) (by omega) (by omega)
    have mm2 := mm (q2 + 1)
    generalize dk (pls.map D.str) ds q2 ((pls.map D.str).length : Nat) = v1 at pk1 mm1
    generalize dk (pls.map D.str) ds (q2 + 1) ((pls.map D.str).length : Nat) = v2 at pk2 mm2
    obtain ⟨l1, hl1, rfl⟩ := List.mem_map.mp mm1
    obtain ⟨l2, hl2, rfl⟩ := List.mem_map.mp mm2
    refine ⟨⟨t, l1, l2, gd, es⟩, q2 + 1 + 1, some gd, some (.tup es), ⟨⟨hl2, G1, fun e he => (e2 e he).1, st, by simp [Mv.d, G2, esl]⟩, by omega, by omega⟩, ?_⟩
    simp -implicitDefEqProofs (disch := first | assumption | omega | (simp only [List.length_cons, List.length_nil, List.length_map, List.length_set, List.length_append]; omega)) [te, DR, G3, x1', n3, -atI_pos]
    rw [e5]
    simp -implicitDefEqProofs (disch := first | assumption | omega | (simp only [List.length_cons, List.length_nil, List.length_map, List.length_set, List.length_append]; omega)) [el, ci, c, ht2, ht, ht3, pk1, pk2, fl, Mv.d]
end
end Sm
namespace Sm
open PySem PySem.Spec PyProof.Rows L2
structure D4R (S : Sys) (P P' : Prc) (q q' : Int) : Prop where
  nm : P'.nm = P.nm
  pl : P'.places = P.places
  mv : ∃ ms : List Mv, P'.mvs = ms.map Mv.d ∧ ms.length ≤ 50 ∧ ∀ m ∈ ms, MvG S P.places m
  q0 : q ≤ q'
  q1 : q' ≤ q + 1000
section
variable {h : AH} {b dg : Nat} {ds : List Int} {p : Int}
theorem d4_turn (B : Bx h b dg ds p) {S : Sys} (gb : S.Gb) {j g : AH} {q : Int} {P : Prc} {acc : List D} {x1 x2 x3 x4 x5 x9 x10 x11 x12 x13 x14 x15 x16 : Option D} (hp0 : P.places ≠ []) (hpl : P.places.length ≤ 3) (fl : acc.length < 16777216) (hq : 0 ≤ q) (hp : q < 600000) :
    ∃ P' q' g' y4 y11 y12 y13 y14 y15 y16, D4R S P P' q q' ∧ l_law_drawn_4 [some (.ref b), x1, x2, x3, x4, x5, some S.d, some (.ref (h.length + j.length)), some P.d, x9, x10, x11, x12, x13, x14, x15, x16] (bset h b dg q ++ (j ++ .lst acc :: g))
      = some (.nx [some (.ref b), x1, x2, x3, y4, x5, some S.d, some (.ref (h.length + j.length)), some P.d, x9, x10, y11, y12, y13, y14, y15, y16] (bset h b dg q' ++ (j ++ .lst (acc ++ [P'.d]) :: g'))) := by
  have DR := fun (q : Int) (j : AH) (m : Int) (a1 : 0 ≤ q) (a2 : q < 1000000) (a3 : 0 < m) => draw_loc (j := j) B a1 a2 a3
  have a0 := dr_lo (ds := ds) (p := q) (m := 3) (by omega)
  have a1 := dr_hi (ds := ds) (p := q) (m := 3) (by omega)
  obtain ⟨m, hm⟩ := Int.eq_ofNat_of_zero_le (show 0 ≤ (P.places.length : Int) + dr ds q 3 by omega)
  obtain ⟨ts, tl, tn, _, e⟩ := names_loc (j := j ++ .lst acc :: g ++ [.lst [], .lst []]) (u := h.length + ((j ++ .lst acc :: g).length + 1)) (m := m) (us := []) (q := q + 1) B (by omega) (by omega) (by omega) (by decide) (fun q j' => by rw [getA, List.append_assoc, List.getElem?_append_right (by omega), Nat.add_sub_cancel_left]; rfl)
  have m5 : m ≤ 5 := by omega
  obtain ⟨τ', h', e2, PP⟩ := forRg0 (g := gN 4) (body := l_law_drawn_3) (n := m)
    (fun i τ hh => ∃ (ms : List Mv) (q' : Int) (y4 y14 y15 : Option D), ms.length = i ∧ (∀ m ∈ ms, MvG S P.places m) ∧ q + 1 + 2 * m ≤ q' ∧ q' ≤ q + 1 + 2 * m + 150 * i ∧
      τ = [some (.ref b), x1, x2, x3, y4, x5, some S.d, some (.ref (h.length + j.length)), some P.d, x9, x10, some (.ref (h.length + (j ++ .lst acc :: g).length)), some (.tup (P.places.map D.str)), some (.ref (h.length + ((j ++ .lst acc :: g).length + 2))), y14, y15, x16] ∧ hh = bset h b dg q' ++ ((j ++ .lst acc :: g) ++ .lst (ms.map Mv.d) :: [.lst [], .lst (ts.map D.str)]))
    (fun i hi τ hh ⟨ms, q', y4, y14, y15, h1, h2, h3, h4, h5, h6⟩ => by
      subst h5 h6
      have ht : ts[i]? = some ts[i] := List.getElem?_eq_getElem (by omega)
      obtain ⟨mv, q2, z14, z15, ⟨R1, R2, R3⟩, e3⟩ := d3_turn B gb (j := j ++ .lst acc :: g) (g := [.lst [], .lst (ts.map D.str)]) (q := q') (pls := P.places) (at' := (j ++ .lst acc :: g).length + 2) (acc := ms.map Mv.d) (x1 := x1) (x2 := x2) (x3 := x3) (x5 := x5) (x7 := some (.ref (h.length + j.length))) (x8 := some P.d) (x9 := x9) (x10 := x10) (x14 := y14) (x15 := y15) (x16 := x16) hp0 (by omega) ht (nm_ok (tn _ (List.getElem_mem _))) (by omega) (fun acc => by rw [List.getElem?_append_right (by omega), Nat.add_sub_cancel_left]; rfl) (by rw [List.length_map]; omega) (by omega) (by omega)
      refine ⟨_, _, _, _, rfl, .inl e3, ms ++ [mv], q2, some (.int i), z14, z15, by simp [h1], fun m hm => ?_, by omega, by omega, rfl, by simp⟩
      rcases List.mem_append.mp hm with z | z
      · exact h2 m z
      · rw [List.mem_singleton.mp z]; exact R1)
    [some (.ref b), x1, x2, x3, x4, x5, some S.d, some (.ref (h.length + j.length)), some P.d, x9, x10, some (.ref (h.length + (j ++ .lst acc :: g).length)), some (.tup (P.places.map D.str)), some (.ref (h.length + ((j ++ .lst acc :: g).length + 2))), x14, x15, x16] (bset h b dg (q + 1 + 2 * m) ++ ((j ++ .lst acc :: g) ++ .lst [] :: [.lst [], .lst (ts.map D.str)]))
    ⟨[], q + 1 + 2 * m, x4, x14, x15, rfl, (fun _ h => by cases h), by omega, by omega, rfl, rfl⟩
  obtain ⟨ms, q', y4, y14, y15, h1, h2, h3, h4, h5, h6⟩ := PP
  subst h5 h6
  have e3 : cutA [D.str "process", .str P.nm, .tup (P.places.map D.str), .tup P.mvs] none (some 3) = [D.str "process", .str P.nm, .tup (P.places.map D.str)] := cut_to3
  have m6 : m ≤ 4000000000 := by omega
  have l1 : ms.length ≤ 16777216 := by omega
  refine ⟨⟨P.nm, P.places, ms.map Mv.d⟩, q', g ++ [.lst (ms.map Mv.d), .lst [], .lst (ts.map D.str)], y4, some (.ref (h.length + (j ++ .lst acc :: g).length)), some (.tup (P.places.map D.str)), some (.ref (h.length + ((j ++ .lst acc :: g).length + 2))), y14, y15, x16, ⟨rfl, rfl, ⟨ms, rfl, by omega, h2⟩, by omega, by omega⟩, ?_⟩
  unfold l_law_drawn_4
  have pd : P.d = .tup [.str "process", .str P.nm, .tup (P.places.map D.str), .tup P.mvs] := rfl
  rw [pd] at e2 ⊢
  simp -implicitDefEqProofs (disch := first | assumption | omega | (simp only [List.length_cons, List.length_nil, List.length_map, List.length_set, List.length_append]; omega)) [] at e e2 ⊢
  have i1 : j.length + (g.length + 1) + 1 = j.length + (g.length + 1 + 1) := by omega
  have i2 : j.length + (g.length + 1) + 2 = j.length + (g.length + 2 + 1) := by omega
  rw [i1] at e
  rw [i2] at e2 ⊢
  simp -implicitDefEqProofs (disch := first | assumption | omega | (simp only [List.length_cons, List.length_nil, List.length_map, List.length_set, List.length_append]; omega)) [DR, hm, e, tl, m6]
  rw [e2]
  simp -implicitDefEqProofs (disch := first | assumption | omega | (simp only [List.length_cons, List.length_nil, List.length_map, List.length_set, List.length_append]; omega)) [e3, fl, l1, Prc.d]
theorem d4_go (B : Bx h b dg ds p) {S : Sys} (gb : S.Gb) {j : AH} {x1 x2 x3 x5 x9 x10 : Option D} : ∀ (ps : List Prc) (acc : List Prc) (q : Int) (g : AH) (x4 x8 x11 x12 x13 x14 x15 x16 : Option D), (∀ p ∈ ps, p.places ≠ [] ∧ p.places.length ≤ 3) → 0 ≤ q → q + 1000 * ps.length < 500000 → acc.length + ps.length ≤ 100 →
    ∃ ps' q' g' y4 y8 y11 y12 y13 y14 y15 y16, (ps'.map Prc.nm = ps.map Prc.nm ∧ ∀ p' ∈ ps', ∃ p ∈ ps, ∃ q q', D4R S p p' q q') ∧ q ≤ q' ∧ q' ≤ q + 1000 * ps.length ∧
      forL [] (gN 8) l_law_drawn_4 (ps.map Prc.d) [some (.ref b), x1, x2, x3, x4, x5, some S.d, some (.ref (h.length + j.length)), x8, x9, x10, x11, x12, x13, x14, x15, x16] (bset h b dg q ++ (j ++ .lst (acc.map Prc.d) :: g))
      = some (.nx [some (.ref b), x1, x2, x3, y4, x5, some S.d, some (.ref (h.length + j.length)), y8, x9, x10, y11, y12, y13, y14, y15, y16] (bset h b dg q' ++ (j ++ .lst ((acc ++ ps').map Prc.d) :: g')))
  | [], acc, q, g, x4, x8, x11, x12, x13, x14, x15, x16, _, _, _, _ => ⟨[], q, g, x4, x8, x11, x12, x13, x14, x15, x16, ⟨rfl, fun _ h => by cases h⟩, Int.le_refl _, by simp, by rw [List.append_nil]; rfl⟩
  | P :: ps, acc, q, g, x4, x8, x11, x12, x13, x14, x15, x16, hd, hq, hp, hl => by
    rw [List.length_cons] at hp hl
    obtain ⟨h1, h2⟩ := hd P List.mem_cons_self
    obtain ⟨P', q1, g1, y4, y11, y12, y13, y14, y15, y16, R, e1⟩ := d4_turn B gb (j := j) (g := g) (q := q) (P := P) (acc := acc.map Prc.d) (x1 := x1) (x2 := x2) (x3 := x3) (x4 := x4) (x5 := x5) (x9 := x9) (x10 := x10) (x11 := x11) (x12 := x12) (x13 := x13) (x14 := x14) (x15 := x15) (x16 := x16) h1 h2 (by rw [List.length_map]; omega) hq (by omega)
    have R' := R
    obtain ⟨_, _, _, r0, r1⟩ := R'
    obtain ⟨ps', q', g', z4, z8, z11, z12, z13, z14, z15, z16, ⟨k1, k2⟩, k3, k4, e2⟩ := d4_go B gb (j := j) (x1 := x1) (x2 := x2) (x3 := x3) (x5 := x5) (x9 := x9) (x10 := x10) ps (acc ++ [P']) q1 g1 y4 (some P.d) y11 y12 y13 y14 y15 y16 (fun p h => hd p (List.mem_cons_of_mem _ h)) (by omega) (by omega) (by rw [List.length_append, List.length_singleton]; omega)
    refine ⟨P' :: ps', q', g', z4, z8, z11, z12, z13, z14, z15, z16, ⟨by rw [List.map_cons, List.map_cons, k1, R.nm], fun p' hp' => ?_⟩, by omega, by rw [List.length_cons]; omega, ?_⟩
    · rcases List.mem_cons.mp hp' with z | z
      · exact ⟨P, List.mem_cons_self, q, q1, by rw [z]; exact R⟩
      · obtain ⟨p, hp, w⟩ := k2 p' z
        exact ⟨p, List.mem_cons_of_mem _ hp, w⟩
    · rw [List.map_append] at e2
      rw [List.map_cons, forL_cons rfl (τ1 := [some (.ref b), x1, x2, x3, x4, x5, some S.d, some (.ref (h.length + j.length)), some P.d, x9, x10, x11, x12, x13, x14, x15, x16]) (h1 := bset h b dg q ++ (j ++ .lst (acc.map Prc.d) :: g)) rfl e1]
      rw [show acc.map Prc.d ++ [P'.d] = acc.map Prc.d ++ [P'].map Prc.d from rfl, e2, List.append_assoc]
      rfl
end
end Sm
namespace Sm
open PySem PySem.Spec PyProof.Rows L2
structure DlR (ns : List Str) (n : Nat) (dl : List Dat) : Prop where
  len : dl.length = n
  nms : dl.map Dat.nm = ns.take n
  all : ∀ d ∈ dl, ∃ nm ∈ ns, D1R nm d
structure PlR (ns : List Str) (n : Nat) (ps : List Prc) : Prop where
  len : ps.length = n
  all : ∀ p ∈ ps, ∃ nm ∈ ns, D2R nm p
theorem Str.beq_nm {x y : Str} : x = y ∨ x ≠ y := Classical.em _
section
variable {h : AH} {b dg : Nat} {ds : List Int} {p : Int}
theorem d1_loop (B : Bx h b dg ds p) {j : AH} {q : Int} {ns : List Str} {an n : Nat} {x1 x4 x5 x6 x7 x8 x9 x10 x11 x12 x13 x14 x15 x16 : Option D} (nl : ns.length = 9) (hn : j[an]? = some (.lst (ns.map D.str))) (hn3 : n ≤ 3) (hq : 0 ≤ q) (hp : q < 700000) :
    ∃ dl y4 y9 y10, DlR ns n dl ∧ forL [] (gN 4) l_law_drawn_1 (rngD 0 n) [some (.ref b), x1, some (.ref (h.length + an)), some (.ref (h.length + j.length)), x4, x5, x6, x7, x8, x9, x10, x11, x12, x13, x14, x15, x16] (bset h b dg q ++ (j ++ [.lst []]))
      = some (.nx [some (.ref b), x1, some (.ref (h.length + an)), some (.ref (h.length + j.length)), y4, x5, x6, x7, x8, y9, y10, x11, x12, x13, x14, x15, x16] (bset h b dg (q + 3 * n) ++ (j ++ [.lst (dl.map Dat.d)]))) := by
  obtain ⟨τ', h', e, P⟩ := forRg0 (g := gN 4) (body := l_law_drawn_1) (n := n)
    (fun i τ hh => ∃ dl y4 y9 y10, DlR ns i dl ∧ τ = [some (.ref b), x1, some (.ref (h.length + an)), some (.ref (h.length + j.length)), y4, x5, x6, x7, x8, y9, y10, x11, x12, x13, x14, x15, x16] ∧ hh = bset h b dg (q + 3 * i) ++ (j ++ [.lst (dl.map Dat.d)]))
    (fun i hi τ hh ⟨dl, y4, y9, y10, ⟨r1, r2, r3⟩, h1, h2⟩ => by
      subst h1 h2
      have hx : ns[i]? = some ns[i] := List.getElem?_eq_getElem (by omega)
      obtain ⟨d, z9, z10, R, e1⟩ := d1_turn B (j := j) (g := []) (q := q + 3 * i) (ns := ns) (an := an) (i := i) (acc := dl.map Dat.d) (x1 := x1) (x5 := x5) (x6 := x6) (x7 := x7) (x8 := x8) (x9 := y9) (x10 := y10) (x11 := x11) (x12 := x12) (x13 := x13) (x14 := x14) (x15 := x15) (x16 := x16) hn hx (by rw [List.length_map]; omega) (by omega) (by omega)
      refine ⟨_, _, _, _, rfl, .inl e1, dl ++ [d], some (.int i), z9, z10, ⟨by simp [r1], ?_, fun d' hd => ?_⟩, rfl, ?_⟩
      · obtain ⟨lo, hi', fi, rfl, _⟩ := R.ok
        rw [List.map_append, r2, List.take_succ, hx]
        rfl
      · rcases List.mem_append.mp hd with z | z
        · exact r3 d' z
        · rw [List.mem_singleton.mp z]; exact ⟨_, List.getElem_mem _, R⟩
      · rw [List.map_append]
        congr 2
        omega)
    _ (bset h b dg q ++ (j ++ [.lst []])) ⟨[], x4, x9, x10, ⟨rfl, by simp, fun _ h => by cases h⟩, rfl, by simp⟩
  obtain ⟨dl, y4, y9, y10, R, h1, h2⟩ := P
  subst h1 h2
  exact ⟨dl, y4, y9, y10, R, e⟩
theorem d2_loop (B : Bx h b dg ds p) {j : AH} {q : Int} {ns : List Str} {an n : Nat} {x1 x3 x4 x6 x7 x8 x9 x10 x11 x12 x13 x14 x15 x16 : Option D} (nl : ns.length = 9) (hn : j[an]? = some (.lst (ns.map D.str))) (hn3 : n ≤ 3) (hq : 0 ≤ q) (hp : q < 700000) :
    ∃ ps q' g' y4, (PlR ns n ps ∧ q ≤ q' ∧ q' ≤ q + 10 * n) ∧ forL [] (gN 4) l_law_drawn_2 (rngD 0 n) [some (.ref b), x1, some (.ref (h.length + an)), x3, x4, some (.ref (h.length + j.length)), x6, x7, x8, x9, x10, x11, x12, x13, x14, x15, x16] (bset h b dg q ++ (j ++ [.lst []]))
      = some (.nx [some (.ref b), x1, some (.ref (h.length + an)), x3, y4, some (.ref (h.length + j.length)), x6, x7, x8, x9, x10, x11, x12, x13, x14, x15, x16] (bset h b dg q' ++ (j ++ .lst (ps.map Prc.d) :: g'))) := by
  obtain ⟨τ', h', e, P⟩ := forRg0 (g := gN 4) (body := l_law_drawn_2) (n := n)
    (fun i τ hh => ∃ ps q' g' y4, (PlR ns i ps ∧ q ≤ q' ∧ q' ≤ q + 10 * i) ∧ τ = [some (.ref b), x1, some (.ref (h.length + an)), x3, y4, some (.ref (h.length + j.length)), x6, x7, x8, x9, x10, x11, x12, x13, x14, x15, x16] ∧ hh = bset h b dg q' ++ (j ++ .lst (ps.map Prc.d) :: g'))
    (fun i hi τ hh ⟨ps, q', g', y4, ⟨⟨r1, r3⟩, r4, r5⟩, h1, h2⟩ => by
      subst h1 h2
      have hx : ns[4 + i]? = some ns[4 + i] := List.getElem?_eq_getElem (by omega)
      obtain ⟨d, q2, g2, R, a1, a2, e1⟩ := d2_turn B (j := j) (g := g') (q := q') (ns := ns) (an := an) (i := i) (acc := ps.map Prc.d) (x1 := x1) (x3 := x3) (x6 := x6) (x7 := x7) (x8 := x8) (x9 := x9) (x10 := x10) (x11 := x11) (x12 := x12) (x13 := x13) (x14 := x14) (x15 := x15) (x16 := x16) nl hn hx (by rw [List.length_map]; omega) (by omega) (by omega)
      refine ⟨_, _, _, _, rfl, .inl e1, ps ++ [d], q2, g2, some (.int i), ⟨⟨by simp [r1], fun d' hd => ?_⟩, by omega, by omega⟩, rfl, by rw [List.map_append]; rfl⟩
      rcases List.mem_append.mp hd with z | z
      · exact r3 d' z
      · rw [List.mem_singleton.mp z]; exact ⟨_, List.getElem_mem _, R⟩)
    _ (bset h b dg q ++ (j ++ [.lst []])) ⟨[], q, [], x4, ⟨⟨rfl, fun _ h => by cases h⟩, Int.le_refl _, by simp⟩, rfl, by simp⟩
  obtain ⟨ps, q', g', y4, R, h1, h2⟩ := P
  subst h1 h2
  exact ⟨ps, q', g', y4, R, e⟩
/-- the data that are drawn -/
structure DaR (dl : List Dat) : Prop where
  len : dl.length ≤ 4
  ok : ∀ d ∈ dl, d.Ok
  nu : ∃ nm lo hi fi, Dat.num nm lo hi fi ∈ dl
  un : (dl.map Dat.nm).Nodup
theorem da_num {ns : List Str} {n : Nat} {dl : List Dat} (nl : ns.length = 9) (nn : ∀ n ∈ ns, n.length ≤ 9 ∧ NmP n) (nd : (ns.take 5).Nodup) (h0 : 0 < n) (h3 : n ≤ 3) (R : DlR ns n dl) : DaR dl where
  len := by rw [R.len]; omega
  ok := fun d hd => by
    obtain ⟨nm, hm, ⟨lo, hi, fi, rfl, a, b, c, e⟩⟩ := R.all d hd
    exact ⟨nm_ok (nn nm hm), a, b, c, e⟩
  nu := by
    cases dl with
    | nil => have := R.len; simp at this; omega
    | cons d t =>
      obtain ⟨nm, hm, ⟨lo, hi, fi, rfl, _⟩⟩ := R.all d List.mem_cons_self
      exact ⟨_, _, _, _, List.mem_cons_self⟩
  un := by
    rw [R.nms]
    refine List.Nodup.sublist ?_ nd
    rw [show ns.take n = (ns.take 5).take n by rw [List.take_take, Nat.min_eq_left (by omega)]]
    exact List.take_sublist _ _
theorem da_que {ns : List Str} {n : Nat} {dl : List Dat} {a3 : Str} {room lo hi : Int} (nl : ns.length = 9) (nn : ∀ n ∈ ns, n.length ≤ 9 ∧ NmP n) (nd : (ns.take 5).Nodup) (h0 : 0 < n) (h3 : n ≤ 3) (R : DlR ns n dl) (ha : ns[3]? = some a3) (r0 : 1 ≤ room) (r1 : room ≤ 10) (l0 : -100 ≤ lo) (l1 : lo ≤ hi) (l2 : hi ≤ 100) : DaR (dl ++ [.que a3 room lo hi]) where
  len := by rw [List.length_append, R.len, List.length_singleton]; omega
  ok := fun d hd => by
    rcases List.mem_append.mp hd with z | z
    · exact (da_num nl nn nd h0 h3 R).ok d z
    · rw [List.mem_singleton.mp z]
      exact ⟨nm_ok (nn _ (List.mem_of_getElem? ha)), r0, r1, l0, l1, l2⟩
  nu := by
    obtain ⟨a, b, c, d, hm⟩ := (da_num nl nn nd h0 h3 R).nu
    exact ⟨a, b, c, d, List.mem_append_left _ hm⟩
  un := by
    rw [List.map_append, R.nms]
    show (ns.take n ++ [a3]).Nodup
    have e : ns.take 5 = ns.take 3 ++ [a3] ++ (ns.drop 4).take 1 := by
      have h3' : 3 < ns.length := by omega
      have h4' : 4 < ns.length := by omega
      have := List.take_append_drop 4 (ns.take 5)
      rw [List.take_take, Nat.min_eq_left (by decide), List.drop_take] at this
      rw [← this, List.take_succ, ha]
      rfl
    rw [e] at nd
    refine List.Nodup.sublist ?_ nd
    refine List.Sublist.trans ?_ (List.sublist_append_left _ _)
    refine List.Sublist.append ?_ (List.Sublist.refl _)
    rw [show ns.take n = (ns.take 3).take n by rw [List.take_take, Nat.min_eq_left (by omega)]]
    exact List.take_sublist _ _
/-- the system that is drawn -/
theorem drawn_sys {ns : List Str} {n : Nat} {dl : List Dat} {ps0 ps : List Prc} {nm : Str} {q q' : Int} (nn : ∀ n ∈ ns, n.length ≤ 9 ∧ NmP n) (D : DaR dl) (n0 : 0 < n) (n3 : n ≤ 3) (P : PlR ns n ps0) (hn : ps.map Prc.nm = ps0.map Prc.nm)
    (hp : ∀ p' ∈ ps, ∃ p ∈ ps0, ∃ q q', D4R ⟨nm, dl, ps0⟩ p p' q q') (h1 : q ≤ q') (h2 : q' ≤ q + 20000) : SysR ⟨nm, dl, ps⟩ q q' := by
  have ln : ps.length = ps0.length := by have := congrArg List.length hn; rwa [List.length_map, List.length_map] at this
  have sm : SameN ⟨nm, dl, ps0⟩ ⟨nm, dl, ps⟩ := ⟨rfl, hn⟩
  refine ⟨⟨?_, ?_, D.ok, fun p' hp' => ?_, ?_, ?_, fun p' hp' => ?_, D.nu, D.un, fun p' hp' => ?_⟩, fun p' hp' => ?_, fun p' hp' => ?_, h1, h2⟩
  · exact Nat.le_trans D.len (by decide)
  · show ps.length ≤ 10
    rw [ln, P.len]; omega
  · obtain ⟨p, hm, _, _, R⟩ := hp p' hp'
    obtain ⟨x, hx, ⟨a1, a2, a3, a4, a5⟩⟩ := P.all p hm
    rw [R.pl]
    intro z
    rw [z] at a3
    exact absurd a3 (by simp)
  · obtain ⟨_, _, _, _, hm⟩ := D.nu
    exact List.length_pos_of_mem hm
  · show 0 < ps.length
    rw [ln, P.len]; exact n0
  · obtain ⟨p, hm, _, _, R⟩ := hp p' hp'
    obtain ⟨x, hx, ⟨a1, a2, a3, a4, a5⟩⟩ := P.all p hm
    rw [R.pl]
    exact fun z => nmp_no (a5 _ z).2 rfl
  · obtain ⟨p, hm, _, _, R⟩ := hp p' hp'
    obtain ⟨x, hx, ⟨a1, a2, a3, a4, a5⟩⟩ := P.all p hm
    obtain ⟨ms, m1, m2, m3⟩ := R.mv
    refine ⟨by rw [R.nm, a1]; exact nm_ok (nn x hx), fun l hl => nm_ok (a5 l (by rw [R.pl] at hl; exact hl)), ms, m1, by omega, fun m hm => ⟨⟨by rw [R.pl]; exact (m3 m hm).tg, ?_, fun e he => ((m3 m hm).ds e he).same sm⟩, (m3 m hm).tt⟩⟩
    obtain ⟨k, k1, k2⟩ := (m3 m hm).gd
    exact ⟨k, k1, k2.same sm⟩
  · obtain ⟨p, hm, _, _, R⟩ := hp p' hp'
    obtain ⟨ms, m1, m2, m3⟩ := R.mv
    rw [m1]
    exact lows_of fun d hd => by
      obtain ⟨m, hm, rfl⟩ := List.mem_map.mp hd
      exact (m3 m hm).lw
  · obtain ⟨p, hm, _, _, R⟩ := hp p' hp'
    obtain ⟨ms, m1, m2, m3⟩ := R.mv
    rw [m1, List.length_map]
    exact m2
theorem drawn_gb {ns : List Str} {n : Nat} {dl : List Dat} {ps0 : List Prc} {nm : Str} (D : DaR dl) (n0 : 0 < n) (n3 : n ≤ 3) (P : PlR ns n ps0) : Sys.Gb ⟨nm, dl, ps0⟩ where
  nd := Nat.le_trans D.len (by decide)
  np := by show ps0.length ≤ 10; rw [P.len]; omega
  dt := D.ok
  pc := fun p hp => by
    obtain ⟨x, hx, ⟨a1, a2, a3, a4, a5⟩⟩ := P.all p hp
    intro z
    rw [z] at a3
    exact absurd a3 (by simp)
  p0 := by show 0 < ps0.length; rw [P.len]; exact n0
  nu := D.nu
  un := D.un
  lw := fun p hp => by
    obtain ⟨x, hx, ⟨a1, a2, a3, a4, a5⟩⟩ := P.all p hp
    rw [a2]; rfl
end
end Sm
namespace Sm
open PySem PySem.Spec PyProof.Rows L2
def s_law_drawn_3 : SS := (mIfS (mB (mBin oEq (mCall F_law_draw (mCons (mVar 0) (mCons (mC (.int 3)) mNil))) (mC (.int 0)))) (mSeq (mAsg (gN 9) (mCall F_law_draw (mCons (mVar 0) (mCons (mC (.int 2)) mNil)))) (mExpr (mMeth isLs oApp (mVar 3) (mTup (mCons (mC (.str ("queue" : Str))) (mCons (mBin oIx (mVar 2) (mC (.int 3))) (mCons (mAd (mBin oAdd (mC (.int 1)) (mCall F_law_draw (mCons (mVar 0) (mCons (mC (.int 2)) mNil))))) (mCons (mVar 9) (mCons (mAd (mBin oAdd (mVar 9) (mCall F_law_draw (mCons (mVar 0) (mCons (mC (.int 2)) mNil))))) mNil))))))))) mPass)
def t_law_drawn_4 : SS := (mSeq (mAsg (gN 5) (mLst mNil)) (mSeq (mFor (mRng1 (mCons (mBin oAdd (mC (.int 2)) (mCall F_law_draw (mCons (mVar 0) (mCons (mBin oSub (mVar 1) (mC (.int 1))) mNil)))) mNil)) (gN 4) l_law_drawn_2) (mSeq (mAsg (gN 6) (mTup (mCons (mC (.str ("system" : Str))) (mCons (mBin oIx (mVar 2) (mC (.int 8))) (mCons (mFn oTuple (mCons (mVar 3) mNil)) (mCons (mFn oTuple (mCons (mVar 5) mNil)) mNil)))))) (mSeq (mAsg (gN 7) (mLst mNil)) (mSeq (mFor (mIter (mBin oIx (mVar 6) (mC (.int 3)))) (gN 8) l_law_drawn_4) (mRet (mBin oAdd (mSl (mVar 6) mNoP (mPart (mC (.int 3)))) (mTup (mCons (mFn oTuple (mCons (mVar 7) mNil)) mNil)))))))))
theorem b_law_drawn_cut : b_law_drawn = (mSeq (mAsg (gN 2) (mCall F_law_names (mCons (mVar 0) (mCons (mC (.int 9)) (mCons (mAd (mLst mNil)) mNil))))) (mSeq (mAsg (gN 3) (mLst mNil)) (mSeq (mFor (mRng1 (mCons (mBin oAdd (mC (.int 1)) (mCall F_law_draw (mCons (mVar 0) (mCons (mC (.int 3)) mNil)))) mNil)) (gN 4) l_law_drawn_1) (mSeq s_law_drawn_3 t_law_drawn_4)))) := rfl
section
variable {h : AH} {b dg : Nat} {ds : List Int} {p : Int}
/-- from the processes on -/
theorem drawn_t4 (B : Bx h b dg ds p) {j j0 : AH} {q qs : Int} {ns : List Str} {dl : List Dat} {x4 x9 x10 : Option D} (nl : ns.length = 9) (nn : ∀ n ∈ ns, n.length ≤ 9 ∧ NmP n) (DD : DaR dl) (hq : 0 ≤ q) (hp : q < 400000) (hs0 : qs ≤ q) (hs1 : q ≤ qs + 100)
    (hj : j = j0 ++ [.lst [], .lst (ns.map D.str), .lst (dl.map Dat.d)]) :
    ∃ S q' g', SysR S qs q' ∧ t_law_drawn_4 [some (.ref b), some (.int 3), some (.ref (h.length + (j0.length + 1))), some (.ref (h.length + (j0.length + 2))), x4, none, none, none, none, x9, x10, none, none, none, none, none, none] (bset h b dg q ++ j)
      = some (.rt (Sys.d S) (bset h b dg q' ++ (j ++ g'))) := by
  have DR := fun (q : Int) (j : AH) (m : Int) (a1 : 0 ≤ q) (a2 : q < 1000000) (a3 : 0 < m) => draw_loc (j := j) B a1 a2 a3
  have a0 := dr_lo (ds := ds) (p := q) (m := 2) (by omega)
  have a1 := dr_hi (ds := ds) (p := q) (m := 2) (by omega)
  obtain ⟨n, hn⟩ := Int.eq_ofNat_of_zero_le (show 0 ≤ 2 + dr ds q 2 by omega)
  have n0 : 0 < n := by omega
  have n3 : n ≤ 3 := by omega
  have n4 : n ≤ 4000000000 := by omega
  have lj : j.length = j0.length + 3 := by rw [hj]; simp
  have hnm : j[j0.length + 1]? = some (.lst (ns.map D.str)) := by rw [hj]; simp
  have hda : j[j0.length + 2]? = some (.lst (dl.map Dat.d)) := by rw [hj]; simp
  have h8 : ns[8]? = some ns[8] := List.getElem?_eq_getElem (by omega)
  generalize ns[8] = nm at h8
  have w8 := get_all h8
  obtain ⟨ps0, q1, g1, y4, ⟨P, p1, p2⟩, e1⟩ := d2_loop B (j := j) (q := q + 1) (ns := ns) (an := j0.length + 1) (n := n) (x1 := some (.int 3)) (x3 := some (.ref (h.length + (j0.length + 2)))) (x4 := x4) (x6 := none) (x7 := none) (x8 := none) (x9 := x9) (x10 := x10) (x11 := none) (x12 := none) (x13 := none) (x14 := none) (x15 := none) (x16 := none) nl hnm n3 (by omega) (by omega)
  have gb := drawn_gb (nm := nm) DD n0 n3 P
  obtain ⟨ps, q2, g2, y4', y8, y11, y12, y13, y14, y15, y16, ⟨k1, k2⟩, k3, k4, e2⟩ := d4_go B gb (j := j ++ .lst (ps0.map Prc.d) :: g1) (x1 := some (.int 3)) (x2 := some (.ref (h.length + (j0.length + 1)))) (x3 := some (.ref (h.length + (j0.length + 2)))) (x5 := some (.ref (h.length + j.length))) (x9 := x9) (x10 := x10) ps0 [] q1 [] y4 none none none none none none none (fun p hp => by
    obtain ⟨x, hx, ⟨a1, a2, a3, a4, a5⟩⟩ := P.all p hp
    refine ⟨fun z => ?_, a4⟩
    rw [z] at a3
    exact absurd a3 (by simp)) (by omega) (by rw [P.len]; omega) (by rw [P.len]; simp; omega)
  rw [P.len] at k4
  have R := drawn_sys (nm := nm) (q := qs) (q' := q2) nn DD n0 n3 P k1 k2 (by omega) (by omega)
  have hda2 : ∀ g : AH, (j ++ g)[j0.length + 2]? = some (.lst (dl.map Dat.d)) := fun g => by rw [List.getElem?_append_left (by omega)]; exact hda
  have hnm2 : ∀ g : AH, (j ++ g)[j0.length + 1]? = some (.lst (ns.map D.str)) := fun g => by rw [List.getElem?_append_left (by omega)]; exact hnm
  have psl : ps.length ≤ 16777216 := by have : ps.length ≤ 10 := R.gd.np; omega
  have c3 : ∀ x : D, cutA [.str "system", .str nm, .tup (dl.map Dat.d), x] none (some 3) = [.str "system", .str nm, .tup (dl.map Dat.d)] := fun x => cut_to3
  refine ⟨_, q2, .lst (ps0.map Prc.d) :: (g1 ++ .lst (ps.map Prc.d) :: g2), R, ?_⟩
  clear lj hj
  have sd : ∀ ps : List Prc, Sys.d ⟨nm, dl, ps⟩ = .tup [.str "system", .str nm, .tup (dl.map Dat.d), .tup (ps.map Prc.d)] := fun _ => rfl
  rw [sd] at e2 ⊢
  unfold t_law_drawn_4
  simp -implicitDefEqProofs (disch := first | assumption | omega | (simp only [List.length_cons, List.length_nil, List.length_map, List.length_set, List.length_append]; omega)) [] at e1 e2
  simp -implicitDefEqProofs (disch := first | assumption | omega | (simp only [List.length_cons, List.length_nil, List.length_map, List.length_set, List.length_append]; omega)) [DR, hn, n4]
  rw [e1]
  simp -implicitDefEqProofs (disch := first | assumption | omega | (simp only [List.length_cons, List.length_nil, List.length_map, List.length_set, List.length_append]; omega)) [hda2, hnm2, h8, w8]
  rw [e2]
  simp -implicitDefEqProofs (disch := first | assumption | omega | (simp only [List.length_cons, List.length_nil, List.length_map, List.length_set, List.length_append]; omega)) [c3, psl]
theorem drawn_loc (B : Bx h b dg ds p) {j : AH} {q : Int} (hq : 0 ≤ q) (hp : q < 300000) : ∃ S q', SysR S q q' ∧ F_law_drawn [.ref b, .int 3] (bset h b dg q ++ j) = some (S.d, bset h b dg q' ++ j) := by
  have DR := fun (q : Int) (j : AH) (m : Int) (a1 : 0 ≤ q) (a2 : q < 1000000) (a3 : 0 < m) => draw_loc (j := j) B a1 a2 a3
  obtain ⟨ns, nl, nn, nd, e⟩ := names_loc (j := j ++ [.lst []]) (u := h.length + j.length) (m := 9) (us := []) (q := q) B hq (by omega) (by decide) (by decide) (fun q j' => by simp)
  have nd := nd rfl
  have nq : q + 2 * (9 : Nat) = q + 18 := by omega
  rw [nq] at e
  have a0 := dr_lo (ds := ds) (p := q + 18) (m := 3) (by omega)
  have a1 := dr_hi (ds := ds) (p := q + 18) (m := 3) (by omega)
  obtain ⟨n, hn⟩ := Int.eq_ofNat_of_zero_le (show 0 ≤ 1 + dr ds (q + 18) 3 by omega)
  have n0 : 0 < n := by omega
  have n3 : n ≤ 3 := by omega
  have n4 : n ≤ 4000000000 := by omega
  obtain ⟨dl, y4, y9, y10, R, e1⟩ := d1_loop B (j := j ++ [.lst [], .lst (ns.map D.str)]) (q := q + 18 + 1) (ns := ns) (an := j.length + 1) (n := n) (x1 := some (.int 3)) (x4 := none) (x5 := none) (x6 := none) (x7 := none) (x8 := none) (x9 := none) (x10 := none) (x11 := none) (x12 := none) (x13 := none) (x14 := none) (x15 := none) (x16 := none) nl (by simp) n3 (by omega) (by omega)
  have h3 : ns[3]? = some ns[3] := List.getElem?_eq_getElem (by omega)
  generalize ns[3] = a3 at h3
  have w3 := get_all h3
  have fl : dl.length < 16777216 := by rw [R.len]; omega
  unfold F_law_drawn
  rw [b_law_drawn_cut]
  by_cases c : dr ds (q + 18 + 1 + 3 * n) 3 = 0
  · have b0 := dr_lo (ds := ds) (p := q + 18 + 1 + 3 * n + 1) (m := 2) (by omega)
    have b1 := dr_hi (ds := ds) (p := q + 18 + 1 + 3 * n + 1) (m := 2) (by omega)
    have c0 := dr_lo (ds := ds) (p := q + 18 + 1 + 3 * n + 1 + 1) (m := 2) (by omega)
    have c1 := dr_hi (ds := ds) (p := q + 18 + 1 + 3 * n + 1 + 1) (m := 2) (by omega)
    have d0 := dr_lo (ds := ds) (p := q + 18 + 1 + 3 * n + 1 + 1 + 1) (m := 2) (by omega)
    have d1 := dr_hi (ds := ds) (p := q + 18 + 1 + 3 * n + 1 + 1 + 1) (m := 2) (by omega)
    generalize hl : dr ds (q + 18 + 1 + 3 * n + 1) 2 = lo at b0 b1
    generalize hr : dr ds (q + 18 + 1 + 3 * n + 1 + 1) 2 = rm at c0 c1
    generalize hg : dr ds (q + 18 + 1 + 3 * n + 1 + 1 + 1) 2 = hg' at d0 d1
    have DD := da_que (room := 1 + rm) (lo := lo) (hi := lo + hg') nl nn nd n0 n3 R h3 (by omega) (by omega) (by omega) (by omega) (by omega)
    obtain ⟨S, q', g', Rs, e2⟩ := drawn_t4 B (j := j ++ [.lst [], .lst (ns.map D.str), .lst ((dl ++ [Dat.que a3 (1 + rm) lo (lo + hg')]).map Dat.d)]) (j0 := j) (q := q + 18 + 1 + 3 * n + 1 + 1 + 1 + 1) (qs := q) (x4 := y4) (x9 := some (.int lo)) (x10 := y10) nl nn DD (by omega) (by omega) (by omega) (by omega) rfl
    refine ⟨S, q', Rs, ?_⟩
    have gg := gc_loc (j := j) (j' := [.lst [], .lst (ns.map D.str), .lst ((dl ++ [Dat.que a3 (1 + rm) lo (lo + hg')]).map Dat.d)] ++ g') (q := q) (q' := q') B hq (sys_low Rs.lw)
    have qd : (Dat.que a3 (1 + rm) lo (lo + hg')).d = .tup [.str "queue", .str a3, .int (1 + rm), .int lo, .int (lo + hg')] := rfl
    simp -implicitDefEqProofs (disch := first | assumption | omega | (simp only [List.length_cons, List.length_nil, List.length_map, List.length_set, List.length_append]; omega)) [] at e e1
    rw [List.map_append, List.map_singleton, qd] at e2 gg
    simp -implicitDefEqProofs (disch := first | assumption | omega | (simp only [List.length_cons, List.length_nil, List.length_map, List.length_set, List.length_append]; omega)) [runDef_if, e, DR, hn, n4]
    rw [e1]
    unfold s_law_drawn_3
    simp -implicitDefEqProofs (disch := first | assumption | omega | (simp only [List.length_cons, List.length_nil, List.length_map, List.length_set, List.length_append]; omega)) [DR, c, hl, hr, hg, h3, w3, fl, -List.map_append]
    rw [e2]
    simp -implicitDefEqProofs (disch := first | assumption | omega | (simp only [List.length_cons, List.length_nil, List.length_map, List.length_set, List.length_append]; omega)) [-List.map_append]
    rw [← List.append_assoc] at gg
    simpa [-List.map_append] using gg
  · have DD := da_num nl nn nd n0 n3 R
    obtain ⟨S, q', g', Rs, e2⟩ := drawn_t4 B (j := j ++ [.lst [], .lst (ns.map D.str), .lst (dl.map Dat.d)]) (j0 := j) (q := q + 18 + 1 + 3 * n + 1) (qs := q) (x4 := y4) (x9 := y9) (x10 := y10) nl nn DD (by omega) (by omega) (by omega) (by omega) rfl
    refine ⟨S, q', Rs, ?_⟩
    have gg := gc_loc (j := j) (j' := [.lst [], .lst (ns.map D.str), .lst (dl.map Dat.d)] ++ g') (q := q) (q' := q') B hq (sys_low Rs.lw)
    simp -implicitDefEqProofs (disch := first | assumption | omega | (simp only [List.length_cons, List.length_nil, List.length_map, List.length_set, List.length_append]; omega)) [] at e e1
    simp -implicitDefEqProofs (disch := first | assumption | omega | (simp only [List.length_cons, List.length_nil, List.length_map, List.length_set, List.length_append]; omega)) [runDef_if, e, DR, hn, n4]
    rw [e1]
    unfold s_law_drawn_3
    simp -implicitDefEqProofs (disch := first | assumption | omega | (simp only [List.length_cons, List.length_nil, List.length_map, List.length_set, List.length_append]; omega)) [DR, c]
    rw [e2]
    simp -implicitDefEqProofs (disch := first | assumption | omega | (simp only [List.length_cons, List.length_nil, List.length_map, List.length_set, List.length_append]; omega)) []
    simpa using gg
structure SysZ (S : Sys) (q q' : Int) : Prop where
  gd : S.Gd
  lw : ∀ p ∈ S.prcs, D.lows 0 p.mvs = true
  ml : ∀ p ∈ S.prcs, p.mvs.length ≤ 50
  q0 : q ≤ q'
  q1 : q' ≤ q + 20010
theorem SysR.z {S : Sys} {q a q' : Int} (R : SysR S a q') (h1 : q ≤ a) (h2 : a ≤ q + 2) : SysZ S q q' := ⟨R.gd, R.lw, R.ml, by have := R.q0; omega, by have := R.q1; omega⟩
theorem system_loc (B : Bx h b dg ds p) {j : AH} {q : Int} (hq : 0 ≤ q) (hp : q < 200000) : ∃ S q', SysZ S q q' ∧ F_law_system [.ref b] (bset h b dg q ++ j) = some (S.d, bset h b dg q' ++ j) := by
  have DR := fun (q : Int) (j : AH) (m : Int) (a1 : 0 ≤ q) (a2 : q < 1000000) (a3 : 0 < m) => draw_loc (j := j) B a1 a2 a3
  unfold F_law_system b_law_system
  by_cases c0 : dr ds q 6 = 0
  · have a0 := dr_lo (ds := ds) (p := q + 1) (m := 3) (by omega)
    have a1 := dr_hi (ds := ds) (p := q + 1) (m := 3) (by omega)
    obtain ⟨n, hn⟩ := Int.eq_ofNat_of_zero_le (show 0 ≤ 2 + dr ds (q + 1) 3 by omega)
    obtain ⟨S, q', R, e⟩ := lock_loc B (j := j) (q := q + 1 + 1) (many := n) (by omega) (by omega) (by omega) (by omega)
    refine ⟨S, q', R.z (by omega) (by omega), ?_⟩
    simp -implicitDefEqProofs (disch := first | assumption | omega | (simp only [List.length_cons, List.length_nil, List.length_map, List.length_set, List.length_append]; omega)) [runDef_if, DR, c0, hn, e, gc_loc0 B hq (sys_low R.lw)]
  · by_cases c1 : dr ds q 6 = 1
    · have a0 := dr_lo (ds := ds) (p := q + 1) (m := 2) (by omega)
      have a1 := dr_hi (ds := ds) (p := q + 1) (m := 2) (by omega)
      obtain ⟨n, hn⟩ := Int.eq_ofNat_of_zero_le (show 0 ≤ 2 + dr ds (q + 1) 2 by omega)
      obtain ⟨S, q', R, e⟩ := line_loc B (j := j) (q := q + 1 + 1) (many := n) (by omega) (by omega) (by omega) (by omega)
      refine ⟨S, q', R.z (by omega) (by omega), ?_⟩
      simp -implicitDefEqProofs (disch := first | assumption | omega | (simp only [List.length_cons, List.length_nil, List.length_map, List.length_set, List.length_append]; omega)) [runDef_if, DR, c1, hn, e, gc_loc0 B hq (sys_low R.lw)]
    · obtain ⟨S, q', R, e⟩ := drawn_loc B (j := j) (q := q + 1) (by omega) (by omega)
      refine ⟨S, q', R.z (by omega) (by omega), ?_⟩
      simp -implicitDefEqProofs (disch := first | assumption | omega | (simp only [List.length_cons, List.length_nil, List.length_map, List.length_set, List.length_append]; omega)) [runDef_if, DR, c0, c1, e, gc_loc0 B hq (sys_low R.lw)]
end
end Sm
namespace Sm
open PySem PySem.Spec PyProof.Rows L2
def s_law_digits_3_2 : SS := (mIfS (mB (mBin oGe (mVar 5) (mBin oPow (mC (.int 10)) (mC (.int 18))))) (mFor (mRng1 (mCons (mC (.int 60)) mNil)) (gN 6) l_law_digits_1) (mSeq (mAsg (gN 7) (mBin oMod (mFn oInt (mCons (mBin oAdd (mBin oAdd (mBin oMul (mVar 5) (mC (.int 48271))) (mBin oMul (mVar 4) (mC (.int 69621)))) (mC (.int 11))) mNil)) (mC (.int 2147483647)))) (mFor (mRng1 (mCons (mC (.int 12)) mNil)) (gN 6) l_law_digits_2)))
theorem l_law_digits_3_cut : l_law_digits_3 = (mSeq (mAsg (gN 5) (mCall F_law_cell (mCons (mVar 0) (mCons (mVar 4) mNil)))) (mSeq (mIfS (mB (mBin oLt (mVar 5) (mC (.int 0)))) (mAsg (gN 5) (mBin oSub (mC (.int 1)) (mBin oMul (mC (.int 2)) (mVar 5)))) mPass) s_law_digits_3_2)) := rfl
theorem cell_ok {h : AH} {ns : List Int} {k : Nat} : ∃ c : Int, F_law_cell [.fl (ns.map D.int), .int (k : Int)] h = some (.int c, h) := by
  by_cases hk : k < ns.length
  · refine ⟨ns[k], ?_⟩
    have g := gc_pure0 (h := h) (d := .int ns[k]) rfl
    unfold F_law_cell b_law_cell
    simp -implicitDefEqProofs (disch := first | assumption | omega | (simp only [List.length_cons, List.length_nil, List.length_map, List.length_set, List.length_append]; omega)) [runDef_if, hk, atI_cast, g]
  · refine ⟨0, ?_⟩
    have g := gc_pure0 (h := h) (d := .int 0) rfl
    unfold F_law_cell b_law_cell
    simp -implicitDefEqProofs (disch := first | assumption | omega | (simp only [List.length_cons, List.length_nil, List.length_map, List.length_set, List.length_append]; omega)) [runDef_if, hk, g]
section
variable {h : AH} {x0 x1 x2 x4 x6 x7 : Option D} {ds : List Int} {c : Int}
theorem dig1 (dl : ds.length ≤ 1000000) : ∃ (ds' : List Int) (c' : Int) (y6 : Option D), ds'.length ≤ ds.length + 60 ∧ forL [] (gN 6) l_law_digits_1 (rngD 0 60) [x0, x1, x2, some (.ref h.length), x4, some (.int c), x6, x7] (h ++ [.lst (ds.map D.int)])
    = some (.nx [x0, x1, x2, some (.ref h.length), x4, some (.int c'), y6, x7] (h ++ [.lst (ds'.map D.int)])) := by
  obtain ⟨τ', h', e, P⟩ := forRg0 (g := gN 6) (body := l_law_digits_1) (n := 60)
    (fun i τ hh => ∃ (ds' : List Int) (c' : Int) (y6 : Option D), ds'.length ≤ ds.length + i ∧ τ = [x0, x1, x2, some (.ref h.length), x4, some (.int c'), y6, x7] ∧ hh = h ++ [.lst (ds'.map D.int)])
    (fun i hi τ hh ⟨ds', c', y6, h1, h2, h3⟩ => by
      subst h2 h3
      have al : ds'.length < 16777216 := by omega
      by_cases hc : 0 < c'
      · refine ⟨_, _, _, _, rfl, .inl ?_, ds' ++ [c'.fmod 1009], c'.fdiv 1009, some (.int i), by simp; omega, rfl, rfl⟩
        unfold l_law_digits_1
        simp -implicitDefEqProofs (disch := first | assumption | omega | (simp only [List.length_cons, List.length_nil, List.length_map, List.length_set, List.length_append]; omega)) [hc, al]
      · refine ⟨_, _, _, _, rfl, .inl ?_, ds', c', some (.int i), by omega, rfl, rfl⟩
        unfold l_law_digits_1
        simp -implicitDefEqProofs (disch := first | assumption | omega | (simp only [List.length_cons, List.length_nil, List.length_map, List.length_set, List.length_append]; omega)) [hc])
    [x0, x1, x2, some (.ref h.length), x4, some (.int c), x6, x7] (h ++ [.lst (ds.map D.int)]) ⟨ds, c, x6, by omega, rfl, rfl⟩
  obtain ⟨ds', c', y6, h1, h2, h3⟩ := P
  subst h2 h3
  exact ⟨ds', c', y6, h1, e⟩
theorem dig2 (dl : ds.length ≤ 1000000) {x5 : Option D} : ∃ (ds' : List Int) (y6 y7 : Option D), ds'.length ≤ ds.length + 12 ∧ forL [] (gN 6) l_law_digits_2 (rngD 0 12) [x0, x1, x2, some (.ref h.length), x4, x5, x6, some (.int c)] (h ++ [.lst (ds.map D.int)])
    = some (.nx [x0, x1, x2, some (.ref h.length), x4, x5, y6, y7] (h ++ [.lst (ds'.map D.int)])) := by
  obtain ⟨τ', h', e, P⟩ := forRg0 (g := gN 6) (body := l_law_digits_2) (n := 12)
    (fun i τ hh => ∃ (ds' : List Int) (c' : Int) (y6 : Option D), ds'.length ≤ ds.length + i ∧ τ = [x0, x1, x2, some (.ref h.length), x4, x5, y6, some (.int c')] ∧ hh = h ++ [.lst (ds'.map D.int)])
    (fun i hi τ hh ⟨ds', c', y6, h1, h2, h3⟩ => by
      subst h2 h3
      have al : ds'.length < 16777216 := by omega
      refine ⟨_, _, _, _, rfl, .inl ?_, ds' ++ [(((c' * 16807 + 7 * i + 1).fmod 2147483647).fdiv 997).fmod 1009], (c' * 16807 + 7 * i + 1).fmod 2147483647, some (.int i), by simp; omega, rfl, rfl⟩
      unfold l_law_digits_2
      simp -implicitDefEqProofs (disch := first | assumption | omega | (simp only [List.length_cons, List.length_nil, List.length_map, List.length_set, List.length_append]; omega)) [al])
    [x0, x1, x2, some (.ref h.length), x4, x5, x6, some (.int c)] (h ++ [.lst (ds.map D.int)]) ⟨ds, c, x6, by omega, rfl, rfl⟩
  obtain ⟨ds', c', y6, h1, h2, h3⟩ := P
  subst h2 h3
  exact ⟨ds', y6, _, h1, e⟩
theorem dig3m {ns : List Int} {k : Nat} (dl : ds.length ≤ 1000000) (c : Int) : ∃ (ds' : List Int) (y5 y6 y7 : Option D), ds'.length ≤ ds.length + 60 ∧
    s_law_digits_3_2 [some (.fl (ns.map D.int)), x1, x2, some (.ref h.length), some (.int (k : Int)), some (.int c), x6, x7] (h ++ [.lst (ds.map D.int)])
      = some (.nx [some (.fl (ns.map D.int)), x1, x2, some (.ref h.length), some (.int (k : Int)), y5, y6, y7] (h ++ [.lst (ds'.map D.int)])) := by
  by_cases hc : 1000000000000000000 ≤ c
  · obtain ⟨ds', c', y6, a1, e⟩ := dig1 (h := h) (x0 := some (.fl (ns.map D.int))) (x1 := x1) (x2 := x2) (x4 := some (.int (k : Int))) (x6 := x6) (x7 := x7) (c := c) dl
    refine ⟨ds', some (.int c'), y6, x7, a1, ?_⟩
    unfold s_law_digits_3_2
    simp -implicitDefEqProofs (disch := first | assumption | omega | (simp only [List.length_cons, List.length_nil, List.length_map, List.length_set, List.length_append]; omega)) [hc]
    exact e
  · obtain ⟨ds', y6, y7, a1, e⟩ := dig2 (h := h) (x0 := some (.fl (ns.map D.int))) (x1 := x1) (x2 := x2) (x4 := some (.int (k : Int))) (x5 := some (.int c)) (x6 := x6) (c := (c * 48271 + k * 69621 + 11).fmod 2147483647) dl
    refine ⟨ds', some (.int c), y6, y7, by omega, ?_⟩
    unfold s_law_digits_3_2
    simp -implicitDefEqProofs (disch := first | assumption | omega | (simp only [List.length_cons, List.length_nil, List.length_map, List.length_set, List.length_append]; omega)) [hc]
    exact e
theorem dig3 {ns : List Int} {k : Nat} {x5 : Option D} (dl : ds.length ≤ 1000000) : ∃ (ds' : List Int) (y5 y6 y7 : Option D), ds'.length ≤ ds.length + 60 ∧
    l_law_digits_3 [some (.fl (ns.map D.int)), x1, x2, some (.ref h.length), some (.int (k : Int)), x5, x6, x7] (h ++ [.lst (ds.map D.int)])
      = some (.nx [some (.fl (ns.map D.int)), x1, x2, some (.ref h.length), some (.int (k : Int)), y5, y6, y7] (h ++ [.lst (ds'.map D.int)])) := by
  obtain ⟨c, ec⟩ := cell_ok (h := h ++ [.lst (ds.map D.int)]) (ns := ns) (k := k)
  rw [l_law_digits_3_cut]
  by_cases h0 : c < 0
  · obtain ⟨ds', y5, y6, y7, a1, e⟩ := dig3m (h := h) (x1 := x1) (x2 := x2) (x6 := x6) (x7 := x7) (ns := ns) (k := k) dl (1 - 2 * c)
    refine ⟨ds', y5, y6, y7, a1, ?_⟩
    simp -implicitDefEqProofs (disch := first | assumption | omega | (simp only [List.length_cons, List.length_nil, List.length_map, List.length_set, List.length_append]; omega)) [ec, h0, e]
  · obtain ⟨ds', y5, y6, y7, a1, e⟩ := dig3m (h := h) (x1 := x1) (x2 := x2) (x6 := x6) (x7 := x7) (ns := ns) (k := k) dl c
    refine ⟨ds', y5, y6, y7, a1, ?_⟩
    simp -implicitDefEqProofs (disch := first | assumption | omega | (simp only [List.length_cons, List.length_nil, List.length_map, List.length_set, List.length_append]; omega)) [ec, h0, e]
end
theorem ints_low {n : Nat} (ds : List Int) : D.lows n (ds.map D.int) = true := lows_map (fun _ => rfl) _
theorem digits_ok {h : AH} {ns : List Int} : ∃ ds : List Int, F_law_digits [.fl (ns.map D.int), .int 0, .int 63] h = some (.ref h.length, h ++ [.lst (ds.map D.int)]) := by
  obtain ⟨τ', h', e, P⟩ := forRg0 (g := gN 4) (body := l_law_digits_3) (n := 63)
    (fun i τ hh => ∃ (ds' : List Int) (y4 y5 y6 y7 : Option D), ds'.length ≤ 60 * i ∧ τ = [some (.fl (ns.map D.int)), some (.int 0), some (.int 63), some (.ref h.length), y4, y5, y6, y7] ∧ hh = h ++ [.lst (ds'.map D.int)])
    (fun i hi τ hh ⟨ds', y4, y5, y6, y7, h1, h2, h3⟩ => by
      subst h2 h3
      obtain ⟨ds2, z5, z6, z7, a1, e⟩ := dig3 (h := h) (x1 := some (.int 0)) (x2 := some (.int 63)) (x5 := y5) (x6 := y6) (x7 := y7) (ns := ns) (k := i) (ds := ds') (by omega)
      exact ⟨_, _, _, _, rfl, .inl e, ds2, some (.int i), z5, z6, z7, by omega, rfl, rfl⟩)
    [some (.fl (ns.map D.int)), some (.int 0), some (.int 63), some (.ref h.length), none, none, none, none] (h ++ [.lst []]) ⟨[], none, none, none, none, Nat.zero_le _, rfl, rfl⟩
  obtain ⟨ds', y4, y5, y6, y7, h1, h2, h3⟩ := P
  subst h2 h3
  refine ⟨ds', ?_⟩
  unfold F_law_digits b_law_digits
  simp -implicitDefEqProofs (disch := first | assumption | omega | (simp only [List.length_cons, List.length_nil, List.length_map, List.length_set, List.length_append]; omega)) [runDef_if, e]
  rw [gc_list (ds := ds'.map D.int) (k := h.length) (Nat.le_refl _) (by simp) (ints_low ds')]
end Sm
namespace Sm
open PySem PySem.Spec PyProof.Rows L2
def t_law_3_5 : SS := (mSeq (mAsg (gN 9) (mBin oIx (mLst (mCons (mCall (F_law_truth 4) (mCons (mVar 1) (mCons (mVar 2) (mCons (mC (.int 2)) mNil)))) (mCons (mCall F_law_number (mCons (mVar 1) (mCons (mVar 2) mNil))) mNil))) (mCall F_law_draw (mCons (mVar 1) (mCons (mC (.int 2)) mNil))))) (mSeq (mIfS (mNot (mB (mCall F_law_same (mCons (mCall (F_value_of 8) (mCons (mVar 2) (mCons (mVar 6) (mCons (mVar 9) mNil)))) (mCons (mCall (F_law_value 8) (mCons (mVar 2) (mCons (mVar 6) (mCons (mVar 9) mNil)))) mNil))))) (mRet (mC (.bl false))) mPass) (mSeq (mAsg (gT 2 (gsC (gN 12) (gsC (gN 13) gsN))) (mCall F_law_spoilt (mCons (mVar 1) (mCons (mVar 2) (mCons (mVar 6) mNil))))) (mIfS (mNot (mB (mCall F_law_same (mCons (mCall F_is_state (mCons (mVar 2) (mCons (mVar 12) mNil))) (mCons (mVar 13) mNil))))) (mRet (mC (.bl false))) mPass))))
theorem l_law_3_cut : l_law_3 = (mSeq (mAsg (gN 7) (mCall F_law_enabled (mCons (mVar 2) (mCons (mVar 6) mNil)))) (mSeq (mIfS (mOr (mNot (mB (mCall F_law_same (mCons (mCall F_enabled (mCons (mVar 2) (mCons (mVar 6) mNil))) (mCons (mVar 7) mNil))))) (mNot (mB (mCall F_law_same (mCons (mCall F_enabled (mCons (mVar 3) (mCons (mVar 6) mNil))) (mCons (mCall F_law_enabled (mCons (mVar 3) (mCons (mVar 6) mNil))) mNil)))))) (mRet (mC (.bl false))) mPass) (mSeq (mAsg (gN 8) (mLst mNil)) (mSeq (mFor (mIter (mVar 7)) (gT 2 (gsC (gN 10) (gsC (gN 11) gsN))) l_law_2) (mSeq (mIfS (mNot (mB (mCall F_law_same (mCons (mCall F_next_states (mCons (mVar 2) (mCons (mVar 6) mNil))) (mCons (mAd (mOrX (mVar 8) (mLst (mCons (mVar 6) mNil)))) mNil))))) (mRet (mC (.bl false))) mPass) t_law_3_5))))) := rfl
section
variable {h : AH} {b dg : Nat} {ds : List Int} {p : Int}
theorem law3_t5 (B : Bx h b dg ds p) {S : Sys} {s : Sta} {j : AH} {q : Int} {x0 x3 x4 x5 x7 x8 x9 x10 x11 x12 x13 : Option D} (gd : S.Gd) (lw : ∀ p ∈ S.prcs, D.lows 0 p.mvs = true) (ok : StOk S s) (hq : 0 ≤ q) (hp : q < 500000) :
    ∃ q' g' y9 y12 y13, (q ≤ q' ∧ q' ≤ q + 400) ∧ t_law_3_5 [x0, some (.ref b), some S.d, x3, x4, x5, some s.d, x7, x8, x9, x10, x11, x12, x13] (bset h b dg q ++ j)
      = some (.nx [x0, some (.ref b), some S.d, x3, x4, x5, some s.d, x7, x8, y9, x10, x11, y12, y13] (bset h b dg q' ++ (j ++ g'))) := by
  have gb := gd.b lw
  have DR := fun (q : Int) (j : AH) (m : Int) (a1 : 0 ≤ q) (a2 : q < 1000000) (a3 : 0 < m) => draw_loc (j := j) B a1 a2 a3
  obtain ⟨tr, q1, ⟨T1, T2, T3, T4⟩, te⟩ := truth_loc B gb 2 4 (by decide) q j hq (by rw [show (30 * 3 ^ 2 : Nat) = 270 from rfl]; omega)
  rw [show (30 * 3 ^ 2 : Nat) = 270 from rfl] at T4
  have te : F_law_truth 4 [.ref b, S.d, .int 2] (bset h b dg q ++ j) = some (tr, bset h b dg q1 ++ j) := te
  obtain ⟨nu, q2, ⟨⟨n, n1, N1⟩, N2, N3, N4⟩, ne⟩ := number_loc (j := j) (q := q1) B gb (by omega) (by omega)
  have ix := atI_dr (xs := [tr, nu]) (dd := ds) (q := q2) (m := 2) (by omega) (by simp)
  have mm := dk_mem (xs := [tr, nu]) (dd := ds) (q := q2) (m := 2) (by omega) (by simp)
  generalize dk [tr, nu] ds q2 2 = e at ix mm
  have E : ∃ v, (∀ h, F_value_of 8 [S.d, s.d, e] h = some (v, h)) ∧ (∀ h, F_law_value 8 [S.d, s.d, e] h = some (v, h)) ∧ ∀ h, F_law_same [v, v] h = some (.bl true, h) := by
    simp only [List.mem_cons, List.not_mem_nil, or_false] at mm
    rcases mm with rfl | rfl
    · obtain ⟨v, ⟨c, rfl⟩, eb⟩ := val_both gd.sm ok T1
      exact ⟨_, fun h => (eb 8 h (by decide)).1, fun h => (eb 8 h (by decide)).2, fun h => same_bl⟩
    · obtain ⟨v, ⟨c, rfl, hc⟩, eb⟩ := val_both gd.sm ok N1
      exact ⟨_, fun h => (eb 8 h (by decide)).1, fun h => (eb 8 h (by decide)).2, fun h => same_int (by omega) (by omega)⟩
  obtain ⟨v, E1, E2, E3⟩ := E
  obtain ⟨X, r, q3, r1, r2, r3, r4⟩ := spoilt_ok (j := j) (q := q2 + 1) B gd ok (by omega) (by omega)
  have sb := fun h : AH => same_bl (h := h) (b := r)
  refine ⟨q3, [.lst [X, .bl r]], some e, some X, some (.bl r), ⟨by omega, by omega⟩, ?_⟩
  unfold t_law_3_5
  simp -implicitDefEqProofs (disch := first | assumption | omega | (simp only [List.length_cons, List.length_nil, List.length_map, List.length_set, List.length_append]; omega)) [te, ne, ix, DR, E1, E2, E3, r4, r3, sb, -atI_pos]
theorem law3_turn (B : Bx h b dg ds p) {S T : Sys} {s : Sta} {j : AH} {q : Int} {x0 x4 x5 x7 x8 x9 x10 x11 x12 x13 : Option D} (gd : S.Gd) (lw : ∀ p ∈ S.prcs, D.lows 0 p.mvs = true) (gt : T.Gd) (ok : StOk S s) (okT : StOk T s) (hq : 0 ≤ q) (hp : q < 500000) :
    ∃ q' g' y7 y8 y9 y10 y11 y12 y13, (q ≤ q' ∧ q' ≤ q + 400) ∧ l_law_3 [x0, some (.ref b), some S.d, some T.d, x4, x5, some s.d, x7, x8, x9, x10, x11, x12, x13] (bset h b dg q ++ j)
      = some (.nx [x0, some (.ref b), some S.d, some T.d, x4, x5, some s.d, y7, y8, y9, y10, y11, y12, y13] (bset h b dg q' ++ (j ++ g'))) := by
  obtain ⟨L, L1, L2, L3⟩ := enabled_both gd ok
  obtain ⟨M, M1, M2, M3⟩ := enabled_both gt okT
  have en := fun h => (L3 h).1
  have le := fun h => (L3 h).2
  have eT := fun h => (M3 h).1
  have lT := fun h => (M3 h).2
  have nx := fun h : AH => next_ok (h := h) gd ok L1 L2 en
  have pL := ents_pl gd L1 L2
  have pM := ents_pl gt M1 M2
  obtain ⟨N1, N2⟩ := nubG_ok (S := S) L [] L1 (fun _ h => by cases h)
  have pN : Pl 16777216 60 (.fl (nxt L s)) := by
    unfold nxt
    split
    · exact stds_pl gd (fun d hd => by rw [List.mem_singleton] at hd; exact ⟨s, ok, hd⟩) (by simp)
    · exact stds_pl gd N1 (by simp at N2; omega)
  have s1 := same_ref (h := bset h b dg q ++ (j ++ [.lst L, .lst L])) (a := h.length + (j.length + 1)) (b := h.length + j.length) (L := L) (by simp) (by simp) pL
  have s2 := same_ref (h := bset h b dg q ++ (j ++ [.lst L, .lst L, .lst M, .lst M])) (a := h.length + (j.length + 2)) (b := h.length + (j.length + 3)) (L := M) (by simp) (by simp) pM
  obtain ⟨y10, y11, lp⟩ := lw_go (S := S) (f := h.length + (j.length + 4)) (a := h.length + j.length) (L0 := L) gd (by omega) (x0 := x0) (x1 := some (.ref b)) (x2 := some S.d) (x3 := some T.d) (x4 := x4) (x5 := x5) (x6 := some s.d) (x7 := some (.ref (h.length + j.length))) (x9 := x9) (x12 := x12) (x13 := x13) L [] (bset h b dg q ++ (j ++ [.lst L, .lst L, .lst M, .lst M, .lst []])) x10 x11 L1 (fun _ h => by cases h) (by simp; omega) (by simp) (by simp)
  have ls : (bset h b dg q ++ (j ++ [O.lst L, .lst L, .lst M, .lst M, .lst []])).set (h.length + (j.length + 4)) (.lst (nubG [] L)) = bset h b dg q ++ (j ++ [.lst L, .lst L, .lst M, .lst M, .lst (nubG [] L)]) := by simp
  rw [ls] at lp
  by_cases hn : nubG [] L = []
  · have hx : nxt L s = [s.d] := by unfold nxt; rw [if_pos hn]
    have s3 := same_ref (h := bset h b dg q ++ (j ++ [.lst L, .lst L, .lst M, .lst M, .lst [], .lst [s.d], .lst [s.d]])) (a := h.length + (j.length + 5)) (b := h.length + (j.length + 6)) (L := [s.d]) (by simp) (by simp) (by rw [← hx]; exact pN)
    obtain ⟨q', g', y9, y12, y13, qq, te⟩ := law3_t5 B (j := j ++ [.lst L, .lst L, .lst M, .lst M, .lst [], .lst [s.d], .lst [s.d]]) (q := q) (x0 := x0) (x3 := some T.d) (x4 := x4) (x5 := x5) (x7 := some (.ref (h.length + j.length))) (x8 := some (.ref (h.length + (j.length + 4)))) (x9 := x9) (x10 := y10) (x11 := y11) (x12 := x12) (x13 := x13) gd lw ok hq hp
    rw [List.append_assoc] at te
    refine ⟨q', [.lst L, .lst L, .lst M, .lst M, .lst [], .lst [s.d], .lst [s.d]] ++ g', some (.ref (h.length + j.length)), some (.ref (h.length + (j.length + 4))), y9, y10, y11, y12, y13, qq, ?_⟩
    · rw [l_law_3_cut]
      rw [hn] at lp
      rw [hx] at nx
      simp -implicitDefEqProofs (disch := first | assumption | omega | (simp only [List.length_cons, List.length_nil, List.length_map, List.length_set, List.length_append]; omega)) [le, en, s1, eT, lT, s2]
      rw [lp]
      simp -implicitDefEqProofs (disch := first | assumption | omega | (simp only [List.length_cons, List.length_nil, List.length_map, List.length_set, List.length_append]; omega)) [nx, s3, te]
  · have hx : nxt L s = nubG [] L := by unfold nxt; rw [if_neg hn]
    rw [hx] at pN nx
    generalize nubG [] L = N at *
    have s3 := same_ref (h := bset h b dg q ++ (j ++ [.lst L, .lst L, .lst M, .lst M, .lst N, .lst N])) (a := h.length + (j.length + 5)) (b := h.length + (j.length + 4)) (L := N) (by simp) (by simp) pN
    obtain ⟨q', g', y9, y12, y13, qq, te⟩ := law3_t5 B (j := j ++ [.lst L, .lst L, .lst M, .lst M, .lst N, .lst N]) (q := q) (x0 := x0) (x3 := some T.d) (x4 := x4) (x5 := x5) (x7 := some (.ref (h.length + j.length))) (x8 := some (.ref (h.length + (j.length + 4)))) (x9 := x9) (x10 := y10) (x11 := y11) (x12 := x12) (x13 := x13) gd lw ok hq hp
    rw [List.append_assoc] at te
    have hne : N.isEmpty = false := by
      cases N with
      | nil => exact absurd rfl hn
      | cons _ _ => rfl
    refine ⟨q', [.lst L, .lst L, .lst M, .lst M, .lst N, .lst N] ++ g', some (.ref (h.length + j.length)), some (.ref (h.length + (j.length + 4))), y9, y10, y11, y12, y13, qq, ?_⟩
    · rw [l_law_3_cut]
      simp -implicitDefEqProofs (disch := first | assumption | omega | (simp only [List.length_cons, List.length_nil, List.length_map, List.length_set, List.length_append]; omega)) [le, en, s1, eT, lT, s2]
      rw [lp]
      simp -implicitDefEqProofs (disch := first | assumption | omega | (simp only [List.length_cons, List.length_nil, List.length_map, List.length_set, List.length_append]; omega)) [nx, s3, te, hne, hn]
end
end Sm
namespace Sm
open PySem PySem.Spec PyProof.Rows L2
def t_law_5 : SS := (mSeq (mFor (mRng1 (mCons (mC (.int 5)) mNil)) (gN 5) l_law_1) (mSeq (mFor (mIter (mVar 4)) (gN 6) l_law_3) (mRet (mC (.bl true)))))
theorem b_law_cut : b_law = (mSeq (mAsg (gN 1) (mLst (mCons (mCall F_law_digits (mCons (mVar 0) (mCons (mC (.int 0)) (mCons (mC (.int 63)) mNil)))) (mCons (mC (.int 0)) mNil)))) (mSeq (mAsg (gN 2) (mCall F_law_system (mCons (mVar 1) mNil))) (mSeq (mAsg (gN 3) (mCall F_law_asking (mCons (mVar 1) (mCons (mVar 2) mNil)))) (mSeq (mIfS (mNot (mB (mCall F_law_same (mCons (mCall F_beginning (mCons (mVar 2) mNil)) (mCons (mCall F_law_beginning (mCons (mVar 2) mNil)) mNil))))) (mRet (mC (.bl false))) mPass) (mSeq (mAsg (gN 4) (mLst (mCons (mCall F_law_beginning (mCons (mVar 2) mNil)) mNil))) t_law_5))))) := rfl
section
variable {h : AH} {b dg : Nat} {ds : List Int} {p : Int}
theorem law_t5 (B : Bx h b dg ds p) {S T : Sys} {q : Int} {x0 : Option D} (gd : S.Gd) (lw : ∀ p ∈ S.prcs, D.lows 0 p.mvs = true) (gt : T.Gd) (okT : ∀ s, StOk S s → StOk T s) (hq : 0 ≤ q) (hp : q < 200000) :
    ∃ h', t_law_5 [x0, some (.ref b), some S.d, some T.d, some (.ref h.length), none, none, none, none, none, none, none, none, none] (bset h b dg q ++ [.lst [S.beg.d]]) = some (.rt (.bl true) h') := by
  obtain ⟨τ', h', e, P⟩ := forRg0 (g := gN 5) (body := l_law_1) (n := 5)
    (fun i τ hh => ∃ (L : List Sta) (q' : Int) (y5 : Option D), L.length = i + 1 ∧ (∀ s ∈ L, StOk S s) ∧ q ≤ q' ∧ q' ≤ q + 300 * i ∧ τ = [x0, some (.ref b), some S.d, some T.d, some (.ref h.length), y5, none, none, none, none, none, none, none, none] ∧ hh = bset h b dg q' ++ [.lst (L.map Sta.d)])
    (fun i hi τ hh ⟨L, q', y5, h1, h2, h3, h4, h5, h6⟩ => by
      subst h5 h6
      obtain ⟨s, q2, ok, a1, a2, e1⟩ := state_loc (j := [.lst (L.map Sta.d)]) B gd (q := q') (by omega) (by omega)
      have fl : L.length < 16777216 := by omega
      refine ⟨_, _, _, _, rfl, .inl ?_, L ++ [s], q2, some (.int i), by simp [h1], fun s' hs => ?_, by omega, by omega, rfl, rfl⟩
      · unfold l_law_1
        simp -implicitDefEqProofs (disch := first | assumption | omega | (simp only [List.length_cons, List.length_nil, List.length_map, List.length_set, List.length_append]; omega)) [e1, fl]
      · rcases List.mem_append.mp hs with z | z
        · exact h2 _ z
        · rw [List.mem_singleton.mp z]; exact ok)
    [x0, some (.ref b), some S.d, some T.d, some (.ref h.length), none, none, none, none, none, none, none, none, none] (bset h b dg q ++ [.lst [S.beg.d]]) ⟨[S.beg], q, none, rfl, fun s hs => by rw [List.mem_singleton] at hs; rw [hs]; exact beg_ok gd, Int.le_refl _, by simp, rfl, rfl⟩
  obtain ⟨L, q', y5, h1, h2, h3, h4, h5, h6⟩ := P
  subst h5 h6
  obtain ⟨τ2, h2', e2, P⟩ := forIx (grd := [(h.length, L.map Sta.d)]) (g := gN 6) (body := l_law_3) (xs := L.map Sta.d)
    (fun i τ hh => ∃ (q2 : Int) (g : AH) (y6 y7 y8 y9 y10 y11 y12 y13 : Option D), q ≤ q2 ∧ q2 ≤ q + 1500 + 400 * i ∧ τ = [x0, some (.ref b), some S.d, some T.d, some (.ref h.length), y5, y6, y7, y8, y9, y10, y11, y12, y13] ∧ hh = bset h b dg q2 ++ (.lst (L.map Sta.d) :: g))
    (fun i τ hh ⟨q2, g, y6, y7, y8, y9, y10, y11, y12, y13, a1, a2, a3, a4⟩ => by
      subst a4
      simp)
    (fun i hi τ hh ⟨q2, g, y6, y7, y8, y9, y10, y11, y12, y13, a1, a2, a3, a4⟩ => by
      subst a3 a4
      rw [List.length_map] at hi
      have ok := h2 _ (List.getElem_mem hi)
      obtain ⟨q3, g', z7, z8, z9, z10, z11, z12, z13, ⟨b1, b2⟩, e3⟩ := law3_turn B (S := S) (T := T) (s := L[i]) (j := .lst (L.map Sta.d) :: g) (q := q2) (x0 := x0) (x4 := some (.ref h.length)) (x5 := y5) (x7 := y7) (x8 := y8) (x9 := y9) (x10 := y10) (x11 := y11) (x12 := y12) (x13 := y13) gd lw gt ok (okT _ ok) (by omega) (by omega)
      exact ⟨_, _, _, _, by rw [List.getElem_map]; rfl, .inl e3, q3, g ++ g', some L[i].d, z7, z8, z9, z10, z11, z12, z13, by omega, by omega, rfl, by rw [List.cons_append]⟩)
    [x0, some (.ref b), some S.d, some T.d, some (.ref h.length), y5, none, none, none, none, none, none, none, none] (bset h b dg q' ++ [.lst (L.map Sta.d)]) ⟨q', [], none, none, none, none, none, none, none, none, h3, by omega, rfl, rfl⟩
  obtain ⟨q2, g, y6, y7, y8, y9, y10, y11, y12, y13, a1, a2, a3, a4⟩ := P
  subst a3 a4
  refine ⟨bset h b dg q2 ++ (.lst (L.map Sta.d) :: g), ?_⟩
  unfold t_law_5
  simp -implicitDefEqProofs (disch := first | assumption | omega | (simp only [List.length_cons, List.length_nil, List.length_map, List.length_set, List.length_append]; omega)) []
  rw [e]
  simp -implicitDefEqProofs (disch := first | assumption | omega | (simp only [List.length_cons, List.length_nil, List.length_map, List.length_set, List.length_append]; omega)) []
  rw [e2]
  simp -implicitDefEqProofs (disch := first | assumption | omega | (simp only [List.length_cons, List.length_nil, List.length_map, List.length_set, List.length_append]; omega)) []
end
theorem gc_blx {h h' : AH} {b : Bool} : ∃ h2, gc h (.bl b) h' = (.bl b, h2) := by
  unfold gc
  split
  · exact ⟨_, rfl⟩
  · exact ⟨_, rfl⟩
theorem law_ok {h : AH} (ns : List Int) : ∃ h', F_law [.fl (ns.map D.int)] h = some (.bl true, h') := by
  obtain ⟨ds, ed⟩ := digits_ok (h := h) (ns := ns)
  have B : Bx (h ++ [.lst (ds.map D.int), .lst [.ref h.length, .int 0]]) (h.length + 1) h.length ds 0 := ⟨by simp, by simp, by omega, by omega⟩
  have Hl : (h ++ [O.lst (ds.map D.int), .lst [.ref h.length, .int 0]]).length = h.length + 2 := by simp
  generalize hH : h ++ [O.lst (ds.map D.int), .lst [.ref h.length, .int 0]] = H at *
  have hs : bset H (h.length + 1) h.length 0 ++ [] = H := by rw [List.append_nil]; exact B.same
  obtain ⟨S, q1, ⟨gd, lw, ml, a1, a2⟩, e1⟩ := system_loc (j := []) (q := 0) B (by omega) (by omega)
  rw [hs, List.append_nil] at e1
  obtain ⟨T, gt, okT, e2⟩ := asking_ok (j := []) (q := q1) B gd (by omega) (by omega) ml lw
  rw [List.append_nil, List.append_nil] at e2
  have b1 := fun h => (begin_both (h := h) gd).1
  have b2 := fun h => (begin_both (h := h) gd).2
  have s1 := fun h => same_st (h := h) gd (beg_ok gd)
  obtain ⟨h', e3⟩ := law_t5 B (x0 := some (.fl (ns.map D.int))) gd lw gt okT (q := q1 + 1) (by omega) (by omega)
  obtain ⟨h2, e4⟩ := gc_blx (h := h) (h' := h') (b := true)
  refine ⟨h2, ?_⟩
  unfold F_law
  rw [b_law_cut]
  simp -implicitDefEqProofs (disch := first | assumption | omega | (simp only [List.length_cons, List.length_nil, List.length_map, List.length_set, List.length_append]; omega)) [runDef_if, ed]
  rw [hH]
  simp -implicitDefEqProofs (disch := first | assumption | omega | (simp only [List.length_cons, List.length_nil, List.length_map, List.length_set, List.length_append]; omega)) [e1, e2, b1, b2, s1, e3]
  exact e4
end Sm
namespace Sm
open PySem PySem.Spec PyProof.Rows L2
def topS (i : Nat) : Stmt := PySem.Challenge.pw_allroads_k01_values_in_states.main.body.getD i (.Pass ⟨0, 0, 0, 0⟩)
structure Tx (K : PySem.W.Frag) (mg : Str → Option Value) (w : World) where
  f_place_in : Addr
  d_place_in : FuncData
  F_place_in : Fun K "place_in" "place_in" (topS 2) f_place_in d_place_in
  b_place_in : Binds K d_place_in ["rows", "name"] []
  m_place_in : mg "place_in" = some (.ref f_place_in)
  f_value_of_atom : Addr
  d_value_of_atom : FuncData
  F_value_of_atom : Fun K "value_of_atom" "value_of_atom" (topS 3) f_value_of_atom d_value_of_atom
  b_value_of_atom : Binds K d_value_of_atom ["system", "state", "expression"] []
  m_value_of_atom : mg "value_of_atom" = some (.ref f_value_of_atom)
  f_compared : Addr
  d_compared : FuncData
  F_compared : Fun K "compared" "compared" (topS 5) f_compared d_compared
  b_compared : Binds K d_compared ["word", "one", "other"] []
  m_compared : mg "compared" = some (.ref f_compared)
  f_value_of : Addr
  d_value_of : FuncData
  F_value_of : Fun K "value_of" "value_of" (topS 4) f_value_of d_value_of
  b_value_of : Binds K d_value_of ["system", "state", "expression"] []
  m_value_of : mg "value_of" = some (.ref f_value_of)
  f_beginning : Addr
  d_beginning : FuncData
  F_beginning : Fun K "beginning" "beginning" (topS 7) f_beginning d_beginning
  b_beginning : Binds K d_beginning ["system"] []
  m_beginning : mg "beginning" = some (.ref f_beginning)
  f_is_whole : Addr
  d_is_whole : FuncData
  F_is_whole : Fun K "is_whole" "is_whole" (topS 8) f_is_whole d_is_whole
  b_is_whole : Binds K d_is_whole ["number"] []
  m_is_whole : mg "is_whole" = some (.ref f_is_whole)
  f_is_value : Addr
  d_is_value : FuncData
  F_is_value : Fun K "is_value" "is_value" (topS 9) f_is_value d_is_value
  b_is_value : Binds K d_is_value ["datum", "value"] []
  m_is_value : mg "is_value" = some (.ref f_is_value)
  f_is_state : Addr
  d_is_state : FuncData
  F_is_state : Fun K "is_state" "is_state" (topS 10) f_is_state d_is_state
  b_is_state : Binds K d_is_state ["system", "state"] []
  m_is_state : mg "is_state" = some (.ref f_is_state)
  f_with_value : Addr
  d_with_value : FuncData
  F_with_value : Fun K "with_value" "with_value" (topS 11) f_with_value d_with_value
  b_with_value : Binds K d_with_value ["state", "at", "value"] []
  m_with_value : mg "with_value" = some (.ref f_with_value)
  f_set_done : Addr
  d_set_done : FuncData
  F_set_done : Fun K "set_done" "set_done" (topS 12) f_set_done d_set_done
  b_set_done : Binds K d_set_done ["system", "state", "deed"] []
  m_set_done : mg "set_done" = some (.ref f_set_done)
  f_put_done : Addr
  d_put_done : FuncData
  F_put_done : Fun K "put_done" "put_done" (topS 13) f_put_done d_put_done
  b_put_done : Binds K d_put_done ["system", "state", "deed"] []
  m_put_done : mg "put_done" = some (.ref f_put_done)
  f_take_done : Addr
  d_take_done : FuncData
  F_take_done : Fun K "take_done" "take_done" (topS 14) f_take_done d_take_done
  b_take_done : Binds K d_take_done ["system", "state", "deed"] []
  m_take_done : mg "take_done" = some (.ref f_take_done)
  f_deed_done : Addr
  d_deed_done : FuncData
  F_deed_done : Fun K "deed_done" "deed_done" (topS 15) f_deed_done d_deed_done
  b_deed_done : Binds K d_deed_done ["system", "state", "deed"] []
  m_deed_done : mg "deed_done" = some (.ref f_deed_done)
  f_move_done : Addr
  d_move_done : FuncData
  F_move_done : Fun K "move_done" "move_done" (topS 16) f_move_done d_move_done
  b_move_done : Binds K d_move_done ["system", "state", "at", "move"] []
  m_move_done : mg "move_done" = some (.ref f_move_done)
  f_enabled : Addr
  d_enabled : FuncData
  F_enabled : Fun K "enabled" "enabled" (topS 17) f_enabled d_enabled
  b_enabled : Binds K d_enabled ["system", "state"] []
  m_enabled : mg "enabled" = some (.ref f_enabled)
  f_next_states : Addr
  d_next_states : FuncData
  F_next_states : Fun K "next_states" "next_states" (topS 18) f_next_states d_next_states
  b_next_states : Binds K d_next_states ["system", "state"] []
  m_next_states : mg "next_states" = some (.ref f_next_states)
  f_law_cell : Addr
  d_law_cell : FuncData
  F_law_cell : Fun K "_law_cell" "_law_cell" (topS 20) f_law_cell d_law_cell
  b_law_cell : Binds K d_law_cell ["script", "k"] []
  m_law_cell : mg "_law_cell" = some (.ref f_law_cell)
  f_law_digits : Addr
  d_law_digits : FuncData
  F_law_digits : Fun K "_law_digits" "_law_digits" (topS 21) f_law_digits d_law_digits
  b_law_digits : Binds K d_law_digits ["script", "first", "last"] []
  m_law_digits : mg "_law_digits" = some (.ref f_law_digits)
  f_law_draw : Addr
  d_law_draw : FuncData
  F_law_draw : Fun K "_law_draw" "_law_draw" (topS 22) f_law_draw d_law_draw
  b_law_draw : Binds K d_law_draw ["box", "many"] []
  m_law_draw : mg "_law_draw" = some (.ref f_law_draw)
  f_law_pick : Addr
  d_law_pick : FuncData
  F_law_pick : Fun K "_law_pick" "_law_pick" (topS 23) f_law_pick d_law_pick
  b_law_pick : Binds K d_law_pick ["box", "rows"] []
  m_law_pick : mg "_law_pick" = some (.ref f_law_pick)
  f_law_names : Addr
  d_law_names : FuncData
  F_law_names : Fun K "_law_names" "_law_names" (topS 24) f_law_names d_law_names
  b_law_names : Binds K d_law_names ["box", "many", "used"] []
  m_law_names : mg "_law_names" = some (.ref f_law_names)
  f_law_place : Addr
  d_law_place : FuncData
  F_law_place : Fun K "_law_place" "_law_place" (topS 25) f_law_place d_law_place
  b_law_place : Binds K d_law_place ["rows", "name"] []
  m_law_place : mg "_law_place" = some (.ref f_law_place)
  f_law_value : Addr
  d_law_value : FuncData
  F_law_value : Fun K "_law_value" "_law_value" (topS 26) f_law_value d_law_value
  b_law_value : Binds K d_law_value ["system", "state", "e"] []
  m_law_value : mg "_law_value" = some (.ref f_law_value)
  f_law_done : Addr
  d_law_done : FuncData
  F_law_done : Fun K "_law_done" "_law_done" (topS 27) f_law_done d_law_done
  b_law_done : Binds K d_law_done ["system", "state", "deed"] []
  m_law_done : mg "_law_done" = some (.ref f_law_done)
  f_law_moved : Addr
  d_law_moved : FuncData
  F_law_moved : Fun K "_law_moved" "_law_moved" (topS 28) f_law_moved d_law_moved
  b_law_moved : Binds K d_law_moved ["system", "state", "k", "move"] []
  m_law_moved : mg "_law_moved" = some (.ref f_law_moved)
  f_law_enabled : Addr
  d_law_enabled : FuncData
  F_law_enabled : Fun K "_law_enabled" "_law_enabled" (topS 29) f_law_enabled d_law_enabled
  b_law_enabled : Binds K d_law_enabled ["system", "state"] []
  m_law_enabled : mg "_law_enabled" = some (.ref f_law_enabled)
  f_law_beginning : Addr
  d_law_beginning : FuncData
  F_law_beginning : Fun K "_law_beginning" "_law_beginning" (topS 30) f_law_beginning d_law_beginning
  b_law_beginning : Binds K d_law_beginning ["system"] []
  m_law_beginning : mg "_law_beginning" = some (.ref f_law_beginning)
  f_law_number : Addr
  d_law_number : FuncData
  F_law_number : Fun K "_law_number" "_law_number" (topS 31) f_law_number d_law_number
  b_law_number : Binds K d_law_number ["box", "system"] []
  m_law_number : mg "_law_number" = some (.ref f_law_number)
  f_law_truth : Addr
  d_law_truth : FuncData
  F_law_truth : Fun K "_law_truth" "_law_truth" (topS 32) f_law_truth d_law_truth
  b_law_truth : Binds K d_law_truth ["box", "system", "deep"] []
  m_law_truth : mg "_law_truth" = some (.ref f_law_truth)
  f_law_deed : Addr
  d_law_deed : FuncData
  F_law_deed : Fun K "_law_deed" "_law_deed" (topS 33) f_law_deed d_law_deed
  b_law_deed : Binds K d_law_deed ["box", "system"] []
  m_law_deed : mg "_law_deed" = some (.ref f_law_deed)
  f_law_drawn : Addr
  d_law_drawn : FuncData
  F_law_drawn : Fun K "_law_drawn" "_law_drawn" (topS 34) f_law_drawn d_law_drawn
  b_law_drawn : Binds K d_law_drawn ["box", "many"] []
  m_law_drawn : mg "_law_drawn" = some (.ref f_law_drawn)
  f_law_lock : Addr
  d_law_lock : FuncData
  F_law_lock : Fun K "_law_lock" "_law_lock" (topS 35) f_law_lock d_law_lock
  b_law_lock : Binds K d_law_lock ["box", "many"] []
  m_law_lock : mg "_law_lock" = some (.ref f_law_lock)
  f_law_line : Addr
  d_law_line : FuncData
  F_law_line : Fun K "_law_line" "_law_line" (topS 36) f_law_line d_law_line
  b_law_line : Binds K d_law_line ["box", "many"] []
  m_law_line : mg "_law_line" = some (.ref f_law_line)
  f_law_system : Addr
  d_law_system : FuncData
  F_law_system : Fun K "_law_system" "_law_system" (topS 37) f_law_system d_law_system
  b_law_system : Binds K d_law_system ["box"] []
  m_law_system : mg "_law_system" = some (.ref f_law_system)
  f_law_same : Addr
  d_law_same : FuncData
  F_law_same : Fun K "_law_same" "_law_same" (topS 38) f_law_same d_law_same
  b_law_same : Binds K d_law_same ["actual", "due"] []
  m_law_same : mg "_law_same" = some (.ref f_law_same)
  f_law_state : Addr
  d_law_state : FuncData
  F_law_state : Fun K "_law_state" "_law_state" (topS 39) f_law_state d_law_state
  b_law_state : Binds K d_law_state ["box", "system"] []
  m_law_state : mg "_law_state" = some (.ref f_law_state)
  f_law_spoilt : Addr
  d_law_spoilt : FuncData
  F_law_spoilt : Fun K "_law_spoilt" "_law_spoilt" (topS 40) f_law_spoilt d_law_spoilt
  b_law_spoilt : Binds K d_law_spoilt ["box", "system", "state"] []
  m_law_spoilt : mg "_law_spoilt" = some (.ref f_law_spoilt)
  f_law_asking : Addr
  d_law_asking : FuncData
  F_law_asking : Fun K "_law_asking" "_law_asking" (topS 41) f_law_asking d_law_asking
  b_law_asking : Binds K d_law_asking ["box", "system"] []
  m_law_asking : mg "_law_asking" = some (.ref f_law_asking)
  f_law : Addr
  d_law : FuncData
  F_law : Fun K "law" "law" (topS 42) f_law d_law
  b_law : Binds K d_law ["script"] []
  m_law : mg "law" = some (.ref f_law)
  z_all : mg "all" = none
  z_bool : mg "bool" = none
  z_enumerate : mg "enumerate" = none
  z_int : mg "int" = none
  z_isinstance : mg "isinstance" = none
  z_len : mg "len" = none
  z_list : mg "list" = none
  z_max : mg "max" = none
  z_range : mg "range" = none
  z_repr : mg "repr" = none
  z_tuple : mg "tuple" = none
  z_zip : mg "zip" = none
  o_LEVELS : Addr
  d0_LEVELS : mg "LEVELS" = some (.ref o_LEVELS)
  k_LEVELS : He.dicW K o_LEVELS = some (He.keysIn w.params ks_LEVELS)
section
variable {P : Program} {w : World} {K : PySem.W.Frag} {mg : Str → Option Value} {base : Heap}
theorem sc_place_in : FnScope ["rows", "name", "at", "row"] ["rows", "name"] (defScope (topS 2)) := ⟨rfl, rfl, rfl, by decide +kernel, rfl, by decide +kernel, by decide +kernel⟩
theorem ok_place_in (T : Tx K mg w) : FnOk P w K mg base CX0 1 T.f_place_in T.d_place_in ["rows", "name"] (spF K 2 F_place_in) :=
  fn_sem (k := 0) T.F_place_in sc_place_in rfl rfl fun cdv A outer s H E hr =>
  (jb_cons (js_for (vs := [2, 3]) PassesOwn.never rfl (ji_enum (by rfl) T.z_enumerate (ja_cons (je_var 0) ja_nil)) (jg_tup rfl (jgs_cons (jg_name (i := 2) sc_place_in.nd rfl (by first | exact .inl rfl | exact .inr rfl) (by decide)) (jgs_cons (jg_name (i := 3) sc_place_in.nd rfl (by first | exact .inl rfl | exact .inr rfl) (by decide)) jgs_nil))) (jb_one (js_if (jt_c (c_eq hr) (je_at (je_var 3) je_int) (je_var 1)) (jb_one (js_ret (je_var 2))) jb_nil))) (jb_one (js_ret je_non)))
theorem sc_value_of_atom : FnScope ["system", "state", "expression", "word", "value"] ["system", "state", "expression"] (defScope (topS 3)) := ⟨rfl, rfl, rfl, by decide +kernel, rfl, by decide +kernel, by decide +kernel⟩
theorem ok_value_of_atom (T : Tx K mg w) : FnOk P w K mg base CX0 2 T.f_value_of_atom T.d_value_of_atom ["system", "state", "expression"] (spF K 3 F_value_of_atom) :=
  fn_sem (k := 1) T.F_value_of_atom sc_value_of_atom rfl rfl fun cdv A outer s H E hr =>
  (jb_cons (js_set (i := 3) sc_value_of_atom.nd rfl (by first | exact .inl rfl | exact .inr rfl) (je_at (je_var 2) je_int)) (jb_cons (js_if (jt_c (c_eq hr) (je_var 3) je_str) (jb_one (js_ret (je_at (je_var 2) je_int))) jb_nil) (jb_cons (js_if (jt_c c_in (je_var 3) (je_tup (ja_cons je_str (ja_cons je_str ja_nil)))) (jb_one (js_ret (je_c (c_eq hr) (je_var 3) je_str))) jb_nil) (jb_cons (js_if (jt_c (c_eq hr) (je_var 3) je_str) (jb_one (js_ret (je_c (c_eq hr) (je_at (je_at (je_var 1) je_int) (je_call (ok_place_in T) (hr.mono (by decide)) (by rfl) T.m_place_in T.F_place_in.kp T.b_place_in (ja_cons (je_at (je_var 0) je_int) (ja_cons (je_at (je_var 2) je_int) ja_nil)) (lenA_cons (lenA_cons lenA_nil)) rfl)) (je_at (je_var 2) je_int)))) jb_nil) (jb_cons (js_set (i := 4) sc_value_of_atom.nd rfl (by first | exact .inl rfl | exact .inr rfl) (je_at (je_at (je_var 1) je_int) (je_call (ok_place_in T) (hr.mono (by decide)) (by rfl) T.m_place_in T.F_place_in.kp T.b_place_in (ja_cons (je_at (je_var 0) je_int) (ja_cons (je_at (je_var 2) je_int) ja_nil)) (lenA_cons (lenA_cons lenA_nil)) rfl))) (jb_one (js_ret (je_if (jt_c (c_eq hr) (je_var 3) je_str) (je_var 4) (je_len (by rfl) T.z_len (ja_cons (je_var 4) ja_nil))))))))))
theorem sc_compared : FnScope ["word", "one", "other"] ["word", "one", "other"] (defScope (topS 5)) := ⟨rfl, rfl, rfl, by decide +kernel, rfl, by decide +kernel, by decide +kernel⟩
theorem ok_compared (T : Tx K mg w) : FnOk P w K mg base CX0 1 T.f_compared T.d_compared ["word", "one", "other"] (spF K 3 F_compared) :=
  fn_sem (k := 0) T.F_compared sc_compared rfl rfl fun cdv A outer s H E hr =>
  (jb_cons (js_if (jt_c (c_eq hr) (je_var 0) je_str) (jb_one (js_ret (je_add (je_var 1) (je_var 2)))) jb_nil) (jb_cons (js_if (jt_c (c_eq hr) (je_var 0) je_str) (jb_one (js_ret (je_sub (je_var 1) (je_var 2)))) jb_nil) (jb_cons (js_if (jt_c (c_eq hr) (je_var 0) je_str) (jb_one (js_ret (je_mul (je_var 1) (je_var 2)))) jb_nil) (jb_cons (js_if (jt_c (c_eq hr) (je_var 0) je_str) (jb_one (js_ret (je_c (c_eq hr) (je_var 1) (je_var 2)))) jb_nil) (jb_one (js_ret (je_if (jt_c (c_eq hr) (je_var 0) je_str) (je_c c_lt (je_var 1) (je_var 2)) (je_c c_le (je_var 1) (je_var 2)))))))))
theorem sc_value_of : FnScope ["system", "state", "expression", "word", "values", "one"] ["system", "state", "expression"] (defScope (topS 4)) := ⟨rfl, rfl, rfl, by decide +kernel, rfl, by decide +kernel, by decide +kernel⟩
theorem ok_value_of (T : Tx K mg w) : ∀ k : Nat, FnOk P w K mg base CX0 (2 + k) T.f_value_of T.d_value_of ["system", "state", "expression"] (spF K 3 (F_value_of k))
  | 0 => fn_none fun vs H Q E ⟨m, h, ds, d, h', S, r, hl, e, q⟩ => by cases e
  | k + 1 => by
    have ih := ok_value_of T k
    exact fn_sem (k := 2 + k) T.F_value_of sc_value_of rfl rfl fun cdv A outer s H E hr =>
      (jb_cons (js_set (i := 3) sc_value_of.nd rfl (by first | exact .inl rfl | exact .inr rfl) (je_at (je_var 2) je_int)) (jb_cons (js_if (jt_notinKd T.k_LEVELS (by rfl) T.d0_LEVELS (je_var 3)) (jb_one (js_ret (je_call (ok_value_of_atom T) (hr.mono (by omega)) (by rfl) T.m_value_of_atom T.F_value_of_atom.kp T.b_value_of_atom (ja_cons (je_var 0) (ja_cons (je_var 1) (ja_cons (je_var 2) ja_nil))) (lenA_cons (lenA_cons (lenA_cons lenA_nil))) rfl))) jb_nil) (jb_cons (js_setComp (i := 4) (own := [(("one" : Str), 5)]) rfl sc_value_of.nd rfl rfl (sw_true rfl rfl rfl (by decide +kernel)) (ji_seq (je_sl (je_var 2) (jo_some je_int) jo_none)) (blkOk_by (by kernel_rfl)) (fun _ _ _ _ _ => (jg_name (i := 5) sc_value_of.nd rfl (by first | exact .inl rfl | exact .inr rfl) (by decide))) (fun _ _ _ _ _ => jts_nil) (fun _ _ _ _ _ => (je_call ih (hr.mono (Nat.le_refl _)) (by rfl) T.m_value_of T.F_value_of.kp T.b_value_of (ja_cons (je_var 0) (ja_cons (je_var 1) (ja_cons (je_var 5) ja_nil))) (lenA_cons (lenA_cons (lenA_cons lenA_nil))) rfl))) (jb_cons (js_if (jt_c (c_eq hr) (je_var 3) je_str) (jb_one (js_ret (je_if (jt_tr (je_at (je_var 4) je_int)) (je_at (je_var 4) je_int) (je_at (je_var 4) je_int)))) jb_nil) (jb_cons (js_if (jt_c (c_eq hr) (je_var 3) je_str) (jb_one (js_ret (je_andX (je_at (je_var 4) je_int) (je_and1 (je_at (je_var 4) je_int))))) jb_nil) (jb_cons (js_if (jt_c (c_eq hr) (je_var 3) je_str) (jb_one (js_ret (je_orX (je_at (je_var 4) je_int) (je_and1 (je_at (je_var 4) je_int))))) jb_nil) (jb_cons (js_if (jt_c (c_eq hr) (je_var 3) je_str) (jb_one (js_ret (je_notX (je_at (je_var 4) je_int)))) jb_nil) (jb_one (js_ret (je_call (ok_compared T) (hr.mono (by omega)) (by rfl) T.m_compared T.F_compared.kp T.b_compared (ja_cons (je_var 3) (ja_cons (je_at (je_var 4) je_int) (ja_cons (je_at (je_var 4) je_int) ja_nil))) (lenA_cons (lenA_cons (lenA_cons lenA_nil))) rfl))))))))))
theorem sc_beginning : FnScope ["system", "places", "process", "datum"] ["system"] (defScope (topS 7)) := ⟨rfl, rfl, rfl, by decide +kernel, rfl, by decide +kernel, by decide +kernel⟩
theorem ok_beginning (T : Tx K mg w) : FnOk P w K mg base CX0 1 T.f_beginning T.d_beginning ["system"] (spF K 1 F_beginning) :=
  fn_sem (k := 0) T.F_beginning sc_beginning rfl rfl fun cdv A outer s H E hr =>
  (jb_cons (js_set (i := 1) sc_beginning.nd rfl (by first | exact .inl rfl | exact .inr rfl) (je_tuple (by rfl) T.z_tuple (ja_cons (je_comp (own := [(("process" : Str), 2)]) rfl sc_beginning.nd (ji_seq (je_at (je_var 0) je_int)) (blkOk_by (by kernel_rfl)) (fun _ _ _ _ _ => (jg_name (i := 2) sc_beginning.nd rfl (by first | exact .inl rfl | exact .inr rfl) (by decide))) (fun _ _ _ _ _ => jts_nil) (fun _ _ _ _ _ => (je_at (je_at (je_var 2) je_int) je_int))) ja_nil))) (jb_one (js_ret (je_tup (ja_cons (je_var 1) (ja_cons (je_tuple (by rfl) T.z_tuple (ja_cons (je_comp (own := [(("datum" : Str), 3)]) rfl sc_beginning.nd (ji_seq (je_at (je_var 0) je_int)) (blkOk_by (by kernel_rfl)) (fun _ _ _ _ _ => (jg_name (i := 3) sc_beginning.nd rfl (by first | exact .inl rfl | exact .inr rfl) (by decide))) (fun _ _ _ _ _ => jts_nil) (fun _ _ _ _ _ => (je_if (jt_c (c_eq hr) (je_at (je_var 3) je_int) je_str) (je_at (je_var 3) je_int) (je_tup ja_nil)))) ja_nil)) ja_nil))))))
theorem sc_is_whole : FnScope ["number"] ["number"] (defScope (topS 8)) := ⟨rfl, rfl, rfl, by decide +kernel, rfl, by decide +kernel, by decide +kernel⟩
theorem ok_is_whole (T : Tx K mg w) : FnOk P w K mg base CX0 1 T.f_is_whole T.d_is_whole ["number"] (spF K 1 F_is_whole) :=
  fn_sem (k := 0) T.F_is_whole sc_is_whole rfl rfl fun cdv A outer s H E hr =>
  (jb_one (js_ret (je_and (je_isi (by rfl) T.z_isinstance (ja_cons (je_var 0) (ja_cons (je_ty (by rfl) T.z_int PyProof.Rows.boot_int) ja_nil))) (je_and1 (je_not (je_isi (by rfl) T.z_isinstance (ja_cons (je_var 0) (ja_cons (je_ty (by rfl) T.z_bool PyProof.Rows.boot_bool) ja_nil))))))))
theorem sc_is_value : FnScope ["datum", "value", "letter"] ["datum", "value"] (defScope (topS 9)) := ⟨rfl, rfl, rfl, by decide +kernel, rfl, by decide +kernel, by decide +kernel⟩
theorem ok_is_value (T : Tx K mg w) : FnOk P w K mg base CX0 2 T.f_is_value T.d_is_value ["datum", "value"] (spF K 2 F_is_value) :=
  fn_sem (k := 1) T.F_is_value sc_is_value rfl rfl fun cdv A outer s H E hr =>
  (jb_cons (js_if (jt_c (c_eq hr) (je_at (je_var 0) je_int) je_str) (jb_one (js_ret (je_and (je_call (ok_is_whole T) (hr.mono (by decide)) (by rfl) T.m_is_whole T.F_is_whole.kp T.b_is_whole (ja_cons (je_var 1) ja_nil) (lenA_cons lenA_nil) rfl) (je_and1 (je_chain c_le c_le (je_at (je_var 0) je_int) (je_var 1) (je_at (je_var 0) je_int)))))) jb_nil) (jb_cons (js_if (JW.t (jw_or (jt_not (jt_val (je_isi (by rfl) T.z_isinstance (ja_cons (je_var 1) (ja_cons (je_ty (by rfl) T.z_tuple PyProof.Rows.boot_tuple) ja_nil))))) (jw_or1 (jt_c c_gt (je_len (by rfl) T.z_len (ja_cons (je_var 1) ja_nil)) (je_at (je_var 0) je_int))))) (jb_one (js_ret je_bl)) jb_nil) (jb_one (js_ret (je_all rfl (by rfl) T.z_all (ja_cons (je_comp (own := [(("letter" : Str), 2)]) rfl sc_is_value.nd (ji_seq (je_var 1)) (blkOk_by (by kernel_rfl)) (fun _ _ _ _ _ => (jg_name (i := 2) sc_is_value.nd rfl (by first | exact .inl rfl | exact .inr rfl) (by decide))) (fun _ _ _ _ _ => jts_nil) (fun _ _ _ _ _ => (je_and (je_call (ok_is_whole T) (hr.mono (by decide)) (by rfl) T.m_is_whole T.F_is_whole.kp T.b_is_whole (ja_cons (je_var 2) ja_nil) (lenA_cons lenA_nil) rfl) (je_and1 (je_chain c_le c_le (je_at (je_var 0) je_int) (je_var 2) (je_at (je_var 0) je_int)))))) ja_nil))))))
theorem sc_is_state : FnScope ["system", "state", "places", "values", "datum", "value", "place", "process"] ["system", "state"] (defScope (topS 10)) := ⟨rfl, rfl, rfl, by decide +kernel, rfl, by decide +kernel, by decide +kernel⟩
theorem ok_is_state (T : Tx K mg w) : FnOk P w K mg base CX0 3 T.f_is_state T.d_is_state ["system", "state"] (spF K 2 F_is_state) :=
  fn_sem (k := 2) T.F_is_state sc_is_state rfl rfl fun cdv A outer s H E hr =>
  (jb_cons (js_asg (vs := [2, 3]) (je_var 1) (jg_tup rfl (jgs_cons (jg_name (i := 2) sc_is_state.nd rfl (by first | exact .inl rfl | exact .inr rfl) (by decide)) (jgs_cons (jg_name (i := 3) sc_is_state.nd rfl (by first | exact .inl rfl | exact .inr rfl) (by decide)) jgs_nil)))) (jb_cons (js_if (JW.t (jw_or (jt_c (c_ne hr) (je_len (by rfl) T.z_len (ja_cons (je_var 2) ja_nil)) (je_len (by rfl) T.z_len (ja_cons (je_at (je_var 0) je_int) ja_nil))) (jw_or1 (jt_c (c_ne hr) (je_len (by rfl) T.z_len (ja_cons (je_var 3) ja_nil)) (je_len (by rfl) T.z_len (ja_cons (je_at (je_var 0) je_int) ja_nil)))))) (jb_one (js_ret je_bl)) jb_nil) (jb_cons (js_if (jt_not (jt_val (je_all rfl (by rfl) T.z_all (ja_cons (je_comp (own := [(("place" : Str), 6), (("process" : Str), 7)]) rfl sc_is_state.nd (ji_zip (by rfl) T.z_zip (ja_cons (je_var 2) (ja_cons (je_at (je_var 0) je_int) ja_nil))) (blkOk_by (by kernel_rfl)) (fun _ _ _ _ _ => (jg_tup rfl (jgs_cons (jg_name (i := 6) sc_is_state.nd rfl (by first | exact .inl rfl | exact .inr rfl) (by decide)) (jgs_cons (jg_name (i := 7) sc_is_state.nd rfl (by first | exact .inl rfl | exact .inr rfl) (by decide)) jgs_nil)))) (fun _ _ _ _ _ => jts_nil) (fun _ _ _ _ _ => (je_c c_in (je_var 6) (je_at (je_var 7) je_int)))) ja_nil)))) (jb_one (js_ret je_bl)) jb_nil) (jb_one (js_ret (je_all rfl (by rfl) T.z_all (ja_cons (je_comp (own := [(("datum" : Str), 4), (("value" : Str), 5)]) rfl sc_is_state.nd (ji_zip (by rfl) T.z_zip (ja_cons (je_at (je_var 0) je_int) (ja_cons (je_var 3) ja_nil))) (blkOk_by (by kernel_rfl)) (fun _ _ _ _ _ => (jg_tup rfl (jgs_cons (jg_name (i := 4) sc_is_state.nd rfl (by first | exact .inl rfl | exact .inr rfl) (by decide)) (jgs_cons (jg_name (i := 5) sc_is_state.nd rfl (by first | exact .inl rfl | exact .inr rfl) (by decide)) jgs_nil)))) (fun _ _ _ _ _ => jts_nil) (fun _ _ _ _ _ => (je_call (ok_is_value T) (hr.mono (by decide)) (by rfl) T.m_is_value T.F_is_value.kp T.b_is_value (ja_cons (je_var 4) (ja_cons (je_var 5) ja_nil)) (lenA_cons (lenA_cons lenA_nil)) rfl))) ja_nil)))))))
theorem sc_with_value : FnScope ["state", "at", "value"] ["state", "at", "value"] (defScope (topS 11)) := ⟨rfl, rfl, rfl, by decide +kernel, rfl, by decide +kernel, by decide +kernel⟩
theorem ok_with_value (T : Tx K mg w) : FnOk P w K mg base CX0 1 T.f_with_value T.d_with_value ["state", "at", "value"] (spF K 3 F_with_value) :=
  fn_sem (k := 0) T.F_with_value sc_with_value rfl rfl fun cdv A outer s H E hr =>
  (jb_one (js_ret (je_tup (ja_cons (je_at (je_var 0) je_int) (ja_cons (je_ad (je_add (je_add (je_sl (je_at (je_var 0) je_int) jo_none (jo_some (je_var 1))) (je_tup (ja_cons (je_var 2) ja_nil))) (je_sl (je_at (je_var 0) je_int) (jo_some (je_add (je_var 1) je_int)) jo_none))) ja_nil)))))
theorem sc_set_done : FnScope ["system", "state", "deed", "at", "value"] ["system", "state", "deed"] (defScope (topS 12)) := ⟨rfl, rfl, rfl, by decide +kernel, rfl, by decide +kernel, by decide +kernel⟩
theorem ok_set_done (T : Tx K mg w) : FnOk P w K mg base CX0 11 T.f_set_done T.d_set_done ["system", "state", "deed"] (spF K 3 F_set_done) :=
  fn_sem (k := 10) T.F_set_done sc_set_done rfl rfl fun cdv A outer s H E hr =>
  (jb_cons (js_set (i := 3) sc_set_done.nd rfl (by first | exact .inl rfl | exact .inr rfl) (je_call (ok_place_in T) (hr.mono (by decide)) (by rfl) T.m_place_in T.F_place_in.kp T.b_place_in (ja_cons (je_at (je_var 0) je_int) (ja_cons (je_at (je_var 2) je_int) ja_nil)) (lenA_cons (lenA_cons lenA_nil)) rfl)) (jb_cons (js_set (i := 4) sc_set_done.nd rfl (by first | exact .inl rfl | exact .inr rfl) (je_call (ok_value_of T 8) (hr.mono (by decide)) (by rfl) T.m_value_of T.F_value_of.kp T.b_value_of (ja_cons (je_var 0) (ja_cons (je_var 1) (ja_cons (je_at (je_var 2) je_int) ja_nil))) (lenA_cons (lenA_cons (lenA_cons lenA_nil))) rfl)) (jb_one (js_ret (je_if (jt_val (je_call (ok_is_value T) (hr.mono (by decide)) (by rfl) T.m_is_value T.F_is_value.kp T.b_is_value (ja_cons (je_at (je_at (je_var 0) je_int) (je_var 3)) (ja_cons (je_var 4) ja_nil)) (lenA_cons (lenA_cons lenA_nil)) rfl)) (je_call (ok_with_value T) (hr.mono (by decide)) (by rfl) T.m_with_value T.F_with_value.kp T.b_with_value (ja_cons (je_var 1) (ja_cons (je_var 3) (ja_cons (je_var 4) ja_nil))) (lenA_cons (lenA_cons (lenA_cons lenA_nil))) rfl) je_non)))))
theorem sc_put_done : FnScope ["system", "state", "deed", "at", "row"] ["system", "state", "deed"] (defScope (topS 13)) := ⟨rfl, rfl, rfl, by decide +kernel, rfl, by decide +kernel, by decide +kernel⟩
theorem ok_put_done (T : Tx K mg w) : FnOk P w K mg base CX0 11 T.f_put_done T.d_put_done ["system", "state", "deed"] (spF K 3 F_put_done) :=
  fn_sem (k := 10) T.F_put_done sc_put_done rfl rfl fun cdv A outer s H E hr =>
  (jb_cons (js_set (i := 3) sc_put_done.nd rfl (by first | exact .inl rfl | exact .inr rfl) (je_call (ok_place_in T) (hr.mono (by decide)) (by rfl) T.m_place_in T.F_place_in.kp T.b_place_in (ja_cons (je_at (je_var 0) je_int) (ja_cons (je_at (je_var 2) je_int) ja_nil)) (lenA_cons (lenA_cons lenA_nil)) rfl)) (jb_cons (js_set (i := 4) sc_put_done.nd rfl (by first | exact .inl rfl | exact .inr rfl) (je_add (je_at (je_at (je_var 1) je_int) (je_var 3)) (je_tup (ja_cons (je_call (ok_value_of T 8) (hr.mono (by decide)) (by rfl) T.m_value_of T.F_value_of.kp T.b_value_of (ja_cons (je_var 0) (ja_cons (je_var 1) (ja_cons (je_at (je_var 2) je_int) ja_nil))) (lenA_cons (lenA_cons (lenA_cons lenA_nil))) rfl) ja_nil)))) (jb_one (js_ret (je_if (jt_val (je_call (ok_is_value T) (hr.mono (by decide)) (by rfl) T.m_is_value T.F_is_value.kp T.b_is_value (ja_cons (je_at (je_at (je_var 0) je_int) (je_var 3)) (ja_cons (je_var 4) ja_nil)) (lenA_cons (lenA_cons lenA_nil)) rfl)) (je_call (ok_with_value T) (hr.mono (by decide)) (by rfl) T.m_with_value T.F_with_value.kp T.b_with_value (ja_cons (je_var 1) (ja_cons (je_var 3) (ja_cons (je_var 4) ja_nil))) (lenA_cons (lenA_cons (lenA_cons lenA_nil))) rfl) je_non)))))
theorem sc_take_done : FnScope ["system", "state", "deed", "at", "to", "row"] ["system", "state", "deed"] (defScope (topS 14)) := ⟨rfl, rfl, rfl, by decide +kernel, rfl, by decide +kernel, by decide +kernel⟩
theorem ok_take_done (T : Tx K mg w) : FnOk P w K mg base CX0 3 T.f_take_done T.d_take_done ["system", "state", "deed"] (spF K 3 F_take_done) :=
  fn_sem (k := 2) T.F_take_done sc_take_done rfl rfl fun cdv A outer s H E hr =>
  (jb_cons (js_set (i := 3) sc_take_done.nd rfl (by first | exact .inl rfl | exact .inr rfl) (je_call (ok_place_in T) (hr.mono (by decide)) (by rfl) T.m_place_in T.F_place_in.kp T.b_place_in (ja_cons (je_at (je_var 0) je_int) (ja_cons (je_at (je_var 2) je_int) ja_nil)) (lenA_cons (lenA_cons lenA_nil)) rfl)) (jb_cons (js_set (i := 4) sc_take_done.nd rfl (by first | exact .inl rfl | exact .inr rfl) (je_call (ok_place_in T) (hr.mono (by decide)) (by rfl) T.m_place_in T.F_place_in.kp T.b_place_in (ja_cons (je_at (je_var 0) je_int) (ja_cons (je_at (je_var 2) je_int) ja_nil)) (lenA_cons (lenA_cons lenA_nil)) rfl)) (jb_cons (js_set (i := 5) sc_take_done.nd rfl (by first | exact .inl rfl | exact .inr rfl) (je_at (je_at (je_var 1) je_int) (je_var 3))) (jb_cons (js_if (JW.t (jw_or (jt_not (jt_tr (je_var 5))) (jw_or1 (jt_not (jt_val (je_call (ok_is_value T) (hr.mono (by decide)) (by rfl) T.m_is_value T.F_is_value.kp T.b_is_value (ja_cons (je_at (je_at (je_var 0) je_int) (je_var 4)) (ja_cons (je_at (je_var 5) je_int) ja_nil)) (lenA_cons (lenA_cons lenA_nil)) rfl)))))) (jb_one (js_ret je_non)) jb_nil) (jb_one (js_ret (je_call (ok_with_value T) (hr.mono (by decide)) (by rfl) T.m_with_value T.F_with_value.kp T.b_with_value (ja_cons (je_call (ok_with_value T) (hr.mono (by decide)) (by rfl) T.m_with_value T.F_with_value.kp T.b_with_value (ja_cons (je_var 1) (ja_cons (je_var 3) (ja_cons (je_ad (je_sl (je_var 5) (jo_some je_int) jo_none)) ja_nil))) (lenA_cons (lenA_cons (lenA_cons lenA_nil))) rfl) (ja_cons (je_var 4) (ja_cons (je_at (je_var 5) je_int) ja_nil))) (lenA_cons (lenA_cons (lenA_cons lenA_nil))) rfl)))))))
theorem sc_deed_done : FnScope ["system", "state", "deed"] ["system", "state", "deed"] (defScope (topS 15)) := ⟨rfl, rfl, rfl, by decide +kernel, rfl, by decide +kernel, by decide +kernel⟩
theorem ok_deed_done (T : Tx K mg w) : FnOk P w K mg base CX0 12 T.f_deed_done T.d_deed_done ["system", "state", "deed"] (spF K 3 F_deed_done) :=
  fn_sem (k := 11) T.F_deed_done sc_deed_done rfl rfl fun cdv A outer s H E hr =>
  (jb_cons (js_if (jt_c (c_eq hr) (je_at (je_var 2) je_int) je_str) (jb_one (js_ret (je_call (ok_set_done T) (hr.mono (by decide)) (by rfl) T.m_set_done T.F_set_done.kp T.b_set_done (ja_cons (je_var 0) (ja_cons (je_var 1) (ja_cons (je_var 2) ja_nil))) (lenA_cons (lenA_cons (lenA_cons lenA_nil))) rfl))) jb_nil) (jb_cons (js_if (jt_c (c_eq hr) (je_at (je_var 2) je_int) je_str) (jb_one (js_ret (je_call (ok_put_done T) (hr.mono (by decide)) (by rfl) T.m_put_done T.F_put_done.kp T.b_put_done (ja_cons (je_var 0) (ja_cons (je_var 1) (ja_cons (je_var 2) ja_nil))) (lenA_cons (lenA_cons (lenA_cons lenA_nil))) rfl))) jb_nil) (jb_one (js_ret (je_call (ok_take_done T) (hr.mono (by decide)) (by rfl) T.m_take_done T.F_take_done.kp T.b_take_done (ja_cons (je_var 0) (ja_cons (je_var 1) (ja_cons (je_var 2) ja_nil))) (lenA_cons (lenA_cons (lenA_cons lenA_nil))) rfl)))))
theorem sc_move_done : FnScope ["system", "state", "at", "move", "deed", "name", "origin", "target", "guard", "deeds"] ["system", "state", "at", "move"] (defScope (topS 16)) := ⟨rfl, rfl, rfl, by decide +kernel, rfl, by decide +kernel, by decide +kernel⟩
theorem ok_move_done (T : Tx K mg w) : FnOk P w K mg base CX0 13 T.f_move_done T.d_move_done ["system", "state", "at", "move"] (spF K 4 F_move_done) :=
  fn_sem (k := 12) T.F_move_done sc_move_done rfl rfl fun cdv A outer s H E hr =>
  (jb_cons (js_asg (vs := [5, 6, 7, 8, 9]) (je_var 3) (jg_tup rfl (jgs_cons (jg_name (i := 5) sc_move_done.nd rfl (by first | exact .inl rfl | exact .inr rfl) (by decide)) (jgs_cons (jg_name (i := 6) sc_move_done.nd rfl (by first | exact .inl rfl | exact .inr rfl) (by decide)) (jgs_cons (jg_name (i := 7) sc_move_done.nd rfl (by first | exact .inl rfl | exact .inr rfl) (by decide)) (jgs_cons (jg_name (i := 8) sc_move_done.nd rfl (by first | exact .inl rfl | exact .inr rfl) (by decide)) (jgs_cons (jg_name (i := 9) sc_move_done.nd rfl (by first | exact .inl rfl | exact .inr rfl) (by decide)) jgs_nil))))))) (jb_cons (js_if (JW.t (jw_or (jt_c (c_ne hr) (je_at (je_at (je_var 1) je_int) (je_var 2)) (je_var 6)) (jw_or1 (jt_not (jt_tr (je_call (ok_value_of T 8) (hr.mono (by decide)) (by rfl) T.m_value_of T.F_value_of.kp T.b_value_of (ja_cons (je_var 0) (ja_cons (je_var 1) (ja_cons (je_var 8) ja_nil))) (lenA_cons (lenA_cons (lenA_cons lenA_nil))) rfl)))))) (jb_one (js_ret je_non)) jb_nil) (jb_cons (js_for (vs := [4]) PassesOwn.never rfl (ji_seq (je_var 9)) (jg_name (i := 4) sc_move_done.nd rfl (by first | exact .inl rfl | exact .inr rfl) (by decide)) (jb_cons (js_set (i := 1) sc_move_done.nd rfl (by first | exact .inl rfl | exact .inr rfl) (je_call (ok_deed_done T) (hr.mono (by decide)) (by rfl) T.m_deed_done T.F_deed_done.kp T.b_deed_done (ja_cons (je_var 0) (ja_cons (je_var 1) (ja_cons (je_var 4) ja_nil))) (lenA_cons (lenA_cons (lenA_cons lenA_nil))) rfl)) (jb_one (js_if (jt_c c_is (je_var 1) je_non) (jb_one (js_ret je_non)) jb_nil)))) (jb_one (js_ret (je_tup (ja_cons (je_ad (je_add (je_add (je_sl (je_at (je_var 1) je_int) jo_none (jo_some (je_var 2))) (je_tup (ja_cons (je_var 7) ja_nil))) (je_sl (je_at (je_var 1) je_int) (jo_some (je_add (je_var 2) je_int)) jo_none))) (ja_cons (je_at (je_var 1) je_int) ja_nil))))))))
theorem sc_enabled : FnScope ["system", "state", "found", "at", "process", "move", "behind"] ["system", "state"] (defScope (topS 17)) := ⟨rfl, rfl, rfl, by decide +kernel, rfl, by decide +kernel, by decide +kernel⟩
theorem ok_enabled (T : Tx K mg w) : FnOk P w K mg base CX0 14 T.f_enabled T.d_enabled ["system", "state"] (spF K 2 F_enabled) :=
  fn_sem (k := 13) T.F_enabled sc_enabled rfl rfl fun cdv A outer s H E hr =>
  (jb_cons (js_set (i := 2) sc_enabled.nd rfl (by first | exact .inl rfl | exact .inr rfl) (je_lst ja_nil)) (jb_cons (js_for (vs := [3, 4]) PassesOwn.never rfl (ji_enum (by rfl) T.z_enumerate (ja_cons (je_at (je_var 0) je_int) ja_nil)) (jg_tup rfl (jgs_cons (jg_name (i := 3) sc_enabled.nd rfl (by first | exact .inl rfl | exact .inr rfl) (by decide)) (jgs_cons (jg_name (i := 4) sc_enabled.nd rfl (by first | exact .inl rfl | exact .inr rfl) (by decide)) jgs_nil))) (jb_one (js_for (vs := [5]) PassesOwn.never rfl (ji_seq (je_at (je_var 4) je_int)) (jg_name (i := 5) sc_enabled.nd rfl (by first | exact .inl rfl | exact .inr rfl) (by decide)) (jb_cons (js_set (i := 6) sc_enabled.nd rfl (by first | exact .inl rfl | exact .inr rfl) (je_call (ok_move_done T) (hr.mono (by decide)) (by rfl) T.m_move_done T.F_move_done.kp T.b_move_done (ja_cons (je_var 0) (ja_cons (je_var 1) (ja_cons (je_var 3) (ja_cons (je_var 5) ja_nil)))) (lenA_cons (lenA_cons (lenA_cons (lenA_cons lenA_nil)))) rfl)) (jb_one (js_if (jt_c c_isnot (je_var 6) je_non) (jb_one (js_expr (je_append (je_var 2) (je_tup (ja_cons (je_tup (ja_cons (je_at (je_var 4) je_int) (ja_cons (je_at (je_var 5) je_int) ja_nil))) (ja_cons (je_var 6) ja_nil)))))) jb_nil)))))) (jb_one (js_ret (je_var 2)))))
theorem sc_next_states : FnScope ["system", "state", "found", "step", "behind"] ["system", "state"] (defScope (topS 18)) := ⟨rfl, rfl, rfl, by decide +kernel, rfl, by decide +kernel, by decide +kernel⟩
theorem ok_next_states (T : Tx K mg w) : FnOk P w K mg base CX0 15 T.f_next_states T.d_next_states ["system", "state"] (spF K 2 F_next_states) :=
  fn_sem (k := 14) T.F_next_states sc_next_states rfl rfl fun cdv A outer s H E hr =>
  (jb_cons (js_set (i := 2) sc_next_states.nd rfl (by first | exact .inl rfl | exact .inr rfl) (je_lst ja_nil)) (jb_cons (js_for (vs := [3, 4]) PassesOwn.never rfl (ji_seq (je_call (ok_enabled T) (hr.mono (by decide)) (by rfl) T.m_enabled T.F_enabled.kp T.b_enabled (ja_cons (je_var 0) (ja_cons (je_var 1) ja_nil)) (lenA_cons (lenA_cons lenA_nil)) rfl)) (jg_tup rfl (jgs_cons (jg_name (i := 3) sc_next_states.nd rfl (by first | exact .inl rfl | exact .inr rfl) (by decide)) (jgs_cons (jg_name (i := 4) sc_next_states.nd rfl (by first | exact .inl rfl | exact .inr rfl) (by decide)) jgs_nil))) (jb_one (js_if (jt_c (c_notinD hr) (je_var 4) (je_var 2)) (jb_one (js_expr (je_append (je_var 2) (je_var 4)))) jb_nil))) (jb_one (js_ret (je_if (jt_tr (je_var 2)) (je_var 2) (je_lst (ja_cons (je_var 1) ja_nil)))))))
theorem sc_law_cell : FnScope ["script", "k"] ["script", "k"] (defScope (topS 20)) := ⟨rfl, rfl, rfl, by decide +kernel, rfl, by decide +kernel, by decide +kernel⟩
theorem ok_law_cell (T : Tx K mg w) : FnOk P w K mg base CX0 1 T.f_law_cell T.d_law_cell ["script", "k"] (spF K 2 F_law_cell) :=
  fn_sem (k := 0) T.F_law_cell sc_law_cell rfl rfl fun cdv A outer s H E hr =>
  (jb_cons (js_if (jt_c c_lt (je_var 1) (je_len (by rfl) T.z_len (ja_cons (je_var 0) ja_nil))) (jb_one (js_ret (je_at (je_var 0) (je_var 1)))) jb_nil) (jb_one (js_ret je_int)))
theorem sc_law_digits : FnScope ["script", "first", "last", "digits", "k", "cell", "turn", "seed"] ["script", "first", "last"] (defScope (topS 21)) := ⟨rfl, rfl, rfl, by decide +kernel, rfl, by decide +kernel, by decide +kernel⟩
theorem ok_law_digits (T : Tx K mg w) : FnOk P w K mg base CX0 2 T.f_law_digits T.d_law_digits ["script", "first", "last"] (spF K 3 F_law_digits) :=
  fn_sem (k := 1) T.F_law_digits sc_law_digits rfl rfl fun cdv A outer s H E hr =>
  (jb_cons (js_set (i := 3) sc_law_digits.nd rfl (by first | exact .inl rfl | exact .inr rfl) (je_lst ja_nil)) (jb_cons (js_for (vs := [4]) PassesOwn.never rfl (ji_rng2 (by rfl) T.z_range (ja_cons (je_var 1) (ja_cons (je_var 2) ja_nil))) (jg_name (i := 4) sc_law_digits.nd rfl (by first | exact .inl rfl | exact .inr rfl) (by decide)) (jb_cons (js_set (i := 5) sc_law_digits.nd rfl (by first | exact .inl rfl | exact .inr rfl) (je_call (ok_law_cell T) (hr.mono (by decide)) (by rfl) T.m_law_cell T.F_law_cell.kp T.b_law_cell (ja_cons (je_var 0) (ja_cons (je_var 4) ja_nil)) (lenA_cons (lenA_cons lenA_nil)) rfl)) (jb_cons (js_if (jt_c c_lt (je_var 5) je_int) (jb_one (js_set (i := 5) sc_law_digits.nd rfl (by first | exact .inl rfl | exact .inr rfl) (je_sub je_int (je_mul je_int (je_var 5))))) jb_nil) (jb_one (js_if (jt_c c_ge (je_var 5) (je_pow je_int je_int)) (jb_one (js_for (vs := [6]) PassesOwn.never rfl (ji_rng1 (by rfl) T.z_range (ja_cons je_int ja_nil)) (jg_name (i := 6) sc_law_digits.nd rfl (by first | exact .inl rfl | exact .inr rfl) (by decide)) (jb_one (js_if (jt_c c_gt (je_var 5) je_int) (jb_cons (js_expr (je_append (je_var 3) (je_mod (je_intc (by rfl) T.z_int (ja_cons (je_var 5) ja_nil)) je_int))) (jb_one (js_set (i := 5) sc_law_digits.nd rfl (by first | exact .inl rfl | exact .inr rfl) (je_div (je_var 5) je_int)))) jb_nil)))) (jb_cons (js_set (i := 7) sc_law_digits.nd rfl (by first | exact .inl rfl | exact .inr rfl) (je_mod (je_intc (by rfl) T.z_int (ja_cons (je_add (je_add (je_mul (je_var 5) je_int) (je_mul (je_var 4) je_int)) je_int) ja_nil)) je_int)) (jb_one (js_for (vs := [6]) PassesOwn.never rfl (ji_rng1 (by rfl) T.z_range (ja_cons je_int ja_nil)) (jg_name (i := 6) sc_law_digits.nd rfl (by first | exact .inl rfl | exact .inr rfl) (by decide)) (jb_cons (js_set (i := 7) sc_law_digits.nd rfl (by first | exact .inl rfl | exact .inr rfl) (je_mod (je_intc (by rfl) T.z_int (ja_cons (je_add (je_add (je_mul (je_var 7) je_int) (je_mul je_int (je_var 6))) je_int) ja_nil)) je_int)) (jb_one (js_expr (je_append (je_var 3) (je_mod (je_intc (by rfl) T.z_int (ja_cons (je_div (je_var 7) je_int) ja_nil)) je_int))))))))))))) (jb_one (js_ret (je_var 3)))))
theorem sc_law_draw : FnScope ["box", "many", "at"] ["box", "many"] (defScope (topS 22)) := ⟨rfl, rfl, rfl, by decide +kernel, rfl, by decide +kernel, by decide +kernel⟩
theorem ok_law_draw (T : Tx K mg w) : FnOk P w K mg base CX0 1 T.f_law_draw T.d_law_draw ["box", "many"] (spF K 2 F_law_draw) :=
  fn_sem (k := 0) T.F_law_draw sc_law_draw rfl rfl fun cdv A outer s H E hr =>
  (jb_cons (js_set (i := 2) sc_law_draw.nd rfl (by first | exact .inl rfl | exact .inr rfl) (je_at (je_var 0) je_int)) (jb_cons (js_asg (vs := []) (je_add (je_var 2) je_int) (jg_sub (je_var 0) je_int)) (jb_cons (js_if (jt_c c_lt (je_var 2) (je_len (by rfl) T.z_len (ja_cons (je_at (je_var 0) je_int) ja_nil))) (jb_one (js_ret (je_mod (je_intc (by rfl) T.z_int (ja_cons (je_at (je_at (je_var 0) je_int) (je_var 2)) ja_nil)) (je_var 1)))) jb_nil) (jb_one (js_ret (je_mod (je_intc (by rfl) T.z_int (ja_cons (je_add (je_add (je_add (je_mul (je_mul (je_var 2) (je_var 2)) je_int) (je_mul (je_var 2) je_int)) (je_div (je_var 2) je_int)) je_int) ja_nil)) (je_var 1)))))))
theorem sc_law_pick : FnScope ["box", "rows"] ["box", "rows"] (defScope (topS 23)) := ⟨rfl, rfl, rfl, by decide +kernel, rfl, by decide +kernel, by decide +kernel⟩
theorem ok_law_pick (T : Tx K mg w) : FnOk P w K mg base CX0 2 T.f_law_pick T.d_law_pick ["box", "rows"] (spF K 2 F_law_pick) :=
  fn_sem (k := 1) T.F_law_pick sc_law_pick rfl rfl fun cdv A outer s H E hr =>
  (jb_one (js_ret (je_at (je_var 1) (je_call (ok_law_draw T) (hr.mono (by decide)) (by rfl) T.m_law_draw T.F_law_draw.kp T.b_law_draw (ja_cons (je_var 0) (ja_cons (je_len (by rfl) T.z_len (ja_cons (je_var 1) ja_nil)) ja_nil)) (lenA_cons (lenA_cons lenA_nil)) rfl))))
theorem sc_law_names : FnScope ["box", "many", "used", "found", "k", "sign", "other", "name", "turn"] ["box", "many", "used"] (defScope (topS 24)) := ⟨rfl, rfl, rfl, by decide +kernel, rfl, by decide +kernel, by decide +kernel⟩
theorem ok_law_names (T : Tx K mg w) : FnOk P w K mg base CX0 2 T.f_law_names T.d_law_names ["box", "many", "used"] (spF K 3 F_law_names) :=
  fn_sem (k := 1) T.F_law_names sc_law_names rfl rfl fun cdv A outer s H E hr =>
  (jb_cons (js_set (i := 3) sc_law_names.nd rfl (by first | exact .inl rfl | exact .inr rfl) (je_lst ja_nil)) (jb_cons (js_for (vs := [4]) PassesOwn.never rfl (ji_rng1 (by rfl) T.z_range (ja_cons (je_var 1) ja_nil)) (jg_name (i := 4) sc_law_names.nd rfl (by first | exact .inl rfl | exact .inr rfl) (by decide)) (jb_cons (js_set (i := 5) sc_law_names.nd rfl (by first | exact .inl rfl | exact .inr rfl) (je_at je_str (je_var 4))) (jb_cons (js_set (i := 6) sc_law_names.nd rfl (by first | exact .inl rfl | exact .inr rfl) (je_at je_str (je_call (ok_law_draw T) (hr.mono (by decide)) (by rfl) T.m_law_draw T.F_law_draw.kp T.b_law_draw (ja_cons (je_var 0) (ja_cons je_int ja_nil)) (lenA_cons (lenA_cons lenA_nil)) rfl))) (jb_cons (js_set (i := 7) sc_law_names.nd rfl (by first | exact .inl rfl | exact .inr rfl) (je_at (je_lst (ja_cons (je_var 5) (ja_cons (je_ad (je_add (je_var 5) (je_var 6))) (ja_cons (je_ad (je_add (je_var 6) (je_var 5))) (ja_cons (je_ad (je_add (je_add (je_var 6) (je_var 5)) je_str)) (ja_cons (je_ad (je_add (je_add (je_var 6) je_str) (je_var 5))) ja_nil)))))) (je_call (ok_law_draw T) (hr.mono (by decide)) (by rfl) T.m_law_draw T.F_law_draw.kp T.b_law_draw (ja_cons (je_var 0) (ja_cons je_int ja_nil)) (lenA_cons (lenA_cons lenA_nil)) rfl))) (jb_cons (js_for (vs := [8]) PassesOwn.never rfl (ji_rng1 (by rfl) T.z_range (ja_cons je_int ja_nil)) (jg_name (i := 8) sc_law_names.nd rfl (by first | exact .inl rfl | exact .inr rfl) (by decide)) (jb_one (js_if (jt_c c_in (je_var 7) (je_add (je_var 3) (je_var 2))) (jb_one (js_set (i := 7) sc_law_names.nd rfl (by first | exact .inl rfl | exact .inr rfl) (je_add (je_var 7) (je_at je_str (je_var 8))))) jb_nil))) (jb_one (js_expr (je_append (je_var 3) (je_var 7))))))))) (jb_one (js_ret (je_var 3)))))
theorem sc_law_place : FnScope ["rows", "name", "k"] ["rows", "name"] (defScope (topS 25)) := ⟨rfl, rfl, rfl, by decide +kernel, rfl, by decide +kernel, by decide +kernel⟩
theorem ok_law_place (T : Tx K mg w) : FnOk P w K mg base CX0 1 T.f_law_place T.d_law_place ["rows", "name"] (spF K 2 F_law_place) :=
  fn_sem (k := 0) T.F_law_place sc_law_place rfl rfl fun cdv A outer s H E hr =>
  (jb_cons (js_for (vs := [2]) PassesOwn.never rfl (ji_rng1 (by rfl) T.z_range (ja_cons (je_len (by rfl) T.z_len (ja_cons (je_var 0) ja_nil)) ja_nil)) (jg_name (i := 2) sc_law_place.nd rfl (by first | exact .inl rfl | exact .inr rfl) (by decide)) (jb_one (js_if (jt_c (c_eq hr) (je_at (je_at (je_var 0) (je_var 2)) je_int) (je_var 1)) (jb_one (js_ret (je_var 2))) jb_nil))) (jb_one (js_ret (je_neg je_int))))
theorem sc_law_value : FnScope ["system", "state", "e", "word", "a", "b"] ["system", "state", "e"] (defScope (topS 26)) := ⟨rfl, rfl, rfl, by decide +kernel, rfl, by decide +kernel, by decide +kernel⟩
theorem ok_law_value (T : Tx K mg w) : ∀ k : Nat, FnOk P w K mg base CX0 (1 + k) T.f_law_value T.d_law_value ["system", "state", "e"] (spF K 3 (F_law_value k))
  | 0 => fn_none fun vs H Q E ⟨m, h, ds, d, h', S, r, hl, e, q⟩ => by cases e
  | k + 1 => by
    have ih := ok_law_value T k
    exact fn_sem (k := 1 + k) T.F_law_value sc_law_value rfl rfl fun cdv A outer s H E hr =>
      (jb_cons (js_set (i := 3) sc_law_value.nd rfl (by first | exact .inl rfl | exact .inr rfl) (je_at (je_var 2) je_int)) (jb_cons (js_if (jt_c (c_eq hr) (je_var 3) je_str) (jb_one (js_ret (je_at (je_var 2) je_int))) jb_nil) (jb_cons (js_if (jt_c (c_eq hr) (je_var 3) je_str) (jb_one (js_ret je_bl)) jb_nil) (jb_cons (js_if (jt_c (c_eq hr) (je_var 3) je_str) (jb_one (js_ret je_bl)) jb_nil) (jb_cons (js_if (jt_c (c_eq hr) (je_var 3) je_str) (jb_one (js_ret (je_c (c_eq hr) (je_at (je_at (je_var 1) je_int) (je_call (ok_law_place T) (hr.mono (by omega)) (by rfl) T.m_law_place T.F_law_place.kp T.b_law_place (ja_cons (je_at (je_var 0) je_int) (ja_cons (je_at (je_var 2) je_int) ja_nil)) (lenA_cons (lenA_cons lenA_nil)) rfl)) (je_at (je_var 2) je_int)))) jb_nil) (jb_cons (js_if (jt_c (c_eq hr) (je_var 3) je_str) (jb_one (js_ret (je_at (je_at (je_var 1) je_int) (je_call (ok_law_place T) (hr.mono (by omega)) (by rfl) T.m_law_place T.F_law_place.kp T.b_law_place (ja_cons (je_at (je_var 0) je_int) (ja_cons (je_at (je_var 2) je_int) ja_nil)) (lenA_cons (lenA_cons lenA_nil)) rfl)))) jb_nil) (jb_cons (js_if (jt_c (c_eq hr) (je_var 3) je_str) (jb_one (js_ret (je_len (by rfl) T.z_len (ja_cons (je_at (je_at (je_var 1) je_int) (je_call (ok_law_place T) (hr.mono (by omega)) (by rfl) T.m_law_place T.F_law_place.kp T.b_law_place (ja_cons (je_at (je_var 0) je_int) (ja_cons (je_at (je_var 2) je_int) ja_nil)) (lenA_cons (lenA_cons lenA_nil)) rfl)) ja_nil)))) jb_nil) (jb_cons (js_set (i := 4) sc_law_value.nd rfl (by first | exact .inl rfl | exact .inr rfl) (je_call ih (hr.mono (Nat.le_refl _)) (by rfl) T.m_law_value T.F_law_value.kp T.b_law_value (ja_cons (je_var 0) (ja_cons (je_var 1) (ja_cons (je_at (je_var 2) je_int) ja_nil))) (lenA_cons (lenA_cons (lenA_cons lenA_nil))) rfl)) (jb_cons (js_if (jt_c (c_eq hr) (je_var 3) je_str) (jb_one (js_ret (je_notX (je_var 4)))) jb_nil) (jb_cons (js_if (jt_c (c_eq hr) (je_var 3) je_str) (jb_one (js_ret (je_if (jt_tr (je_var 4)) (je_call ih (hr.mono (Nat.le_refl _)) (by rfl) T.m_law_value T.F_law_value.kp T.b_law_value (ja_cons (je_var 0) (ja_cons (je_var 1) (ja_cons (je_at (je_var 2) je_int) ja_nil))) (lenA_cons (lenA_cons (lenA_cons lenA_nil))) rfl) (je_call ih (hr.mono (Nat.le_refl _)) (by rfl) T.m_law_value T.F_law_value.kp T.b_law_value (ja_cons (je_var 0) (ja_cons (je_var 1) (ja_cons (je_at (je_var 2) je_int) ja_nil))) (lenA_cons (lenA_cons (lenA_cons lenA_nil))) rfl)))) jb_nil) (jb_cons (js_set (i := 5) sc_law_value.nd rfl (by first | exact .inl rfl | exact .inr rfl) (je_call ih (hr.mono (Nat.le_refl _)) (by rfl) T.m_law_value T.F_law_value.kp T.b_law_value (ja_cons (je_var 0) (ja_cons (je_var 1) (ja_cons (je_at (je_var 2) je_int) ja_nil))) (lenA_cons (lenA_cons (lenA_cons lenA_nil))) rfl)) (jb_cons (js_if (jt_c (c_eq hr) (je_var 3) je_str) (jb_one (js_ret (je_andX (je_var 4) (je_and1 (je_var 5))))) jb_nil) (jb_cons (js_if (jt_c (c_eq hr) (je_var 3) je_str) (jb_one (js_ret (je_orX (je_var 4) (je_and1 (je_var 5))))) jb_nil) (jb_cons (js_if (jt_c (c_eq hr) (je_var 3) je_str) (jb_one (js_ret (je_add (je_var 4) (je_var 5)))) jb_nil) (jb_cons (js_if (jt_c (c_eq hr) (je_var 3) je_str) (jb_one (js_ret (je_sub (je_var 4) (je_var 5)))) jb_nil) (jb_cons (js_if (jt_c (c_eq hr) (je_var 3) je_str) (jb_one (js_ret (je_mul (je_var 4) (je_var 5)))) jb_nil) (jb_cons (js_if (jt_c (c_eq hr) (je_var 3) je_str) (jb_one (js_ret (je_c (c_eq hr) (je_var 4) (je_var 5)))) jb_nil) (jb_one (js_ret (je_if (jt_c (c_eq hr) (je_var 3) je_str) (je_c c_lt (je_var 4) (je_var 5)) (je_c c_le (je_var 4) (je_var 5))))))))))))))))))))))
theorem sc_law_done : FnScope ["system", "state", "deed", "values", "at", "datum", "value", "to"] ["system", "state", "deed"] (defScope (topS 27)) := ⟨rfl, rfl, rfl, by decide +kernel, rfl, by decide +kernel, by decide +kernel⟩
theorem ok_law_done (T : Tx K mg w) : FnOk P w K mg base CX0 10 T.f_law_done T.d_law_done ["system", "state", "deed"] (spF K 3 F_law_done) :=
  fn_sem (k := 9) T.F_law_done sc_law_done rfl rfl fun cdv A outer s H E hr =>
  (jb_cons (js_set (i := 3) sc_law_done.nd rfl (by first | exact .inl rfl | exact .inr rfl) (je_list (by rfl) T.z_list (ja_cons (je_at (je_var 1) je_int) ja_nil))) (jb_cons (js_set (i := 4) sc_law_done.nd rfl (by first | exact .inl rfl | exact .inr rfl) (je_call (ok_law_place T) (hr.mono (by decide)) (by rfl) T.m_law_place T.F_law_place.kp T.b_law_place (ja_cons (je_at (je_var 0) je_int) (ja_cons (je_at (je_var 2) je_int) ja_nil)) (lenA_cons (lenA_cons lenA_nil)) rfl)) (jb_cons (js_set (i := 5) sc_law_done.nd rfl (by first | exact .inl rfl | exact .inr rfl) (je_at (je_at (je_var 0) je_int) (je_var 4))) (jb_cons (js_if (jt_c (c_eq hr) (je_at (je_var 2) je_int) je_str) (jb_cons (js_set (i := 6) sc_law_done.nd rfl (by first | exact .inl rfl | exact .inr rfl) (je_call (ok_law_value T 8) (hr.mono (by decide)) (by rfl) T.m_law_value T.F_law_value.kp T.b_law_value (ja_cons (je_var 0) (ja_cons (je_var 1) (ja_cons (je_at (je_var 2) je_int) ja_nil))) (lenA_cons (lenA_cons (lenA_cons lenA_nil))) rfl)) (jb_cons (js_if (JW.t (jw_or (jt_c c_lt (je_var 6) (je_at (je_var 5) je_int)) (jw_or1 (jt_c c_gt (je_var 6) (je_at (je_var 5) je_int))))) (jb_one (js_ret je_non)) jb_nil) (jb_one (js_asg (vs := []) (je_var 6) (jg_sub (je_var 3) (je_var 4)))))) (jb_one (js_if (jt_c (c_eq hr) (je_at (je_var 2) je_int) je_str) (jb_cons (js_set (i := 6) sc_law_done.nd rfl (by first | exact .inl rfl | exact .inr rfl) (je_call (ok_law_value T 8) (hr.mono (by decide)) (by rfl) T.m_law_value T.F_law_value.kp T.b_law_value (ja_cons (je_var 0) (ja_cons (je_var 1) (ja_cons (je_at (je_var 2) je_int) ja_nil))) (lenA_cons (lenA_cons (lenA_cons lenA_nil))) rfl)) (jb_cons (js_if (JW.t (jw_or (jt_c c_lt (je_var 6) (je_at (je_var 5) je_int)) (jw_or (jt_c c_gt (je_var 6) (je_at (je_var 5) je_int)) (jw_or1 (jt_c (c_eq hr) (je_len (by rfl) T.z_len (ja_cons (je_at (je_var 3) (je_var 4)) ja_nil)) (je_at (je_var 5) je_int)))))) (jb_one (js_ret je_non)) jb_nil) (jb_one (js_asg (vs := []) (je_add (je_at (je_var 3) (je_var 4)) (je_tup (ja_cons (je_var 6) ja_nil))) (jg_sub (je_var 3) (je_var 4)))))) (jb_cons (js_set (i := 7) sc_law_done.nd rfl (by first | exact .inl rfl | exact .inr rfl) (je_call (ok_law_place T) (hr.mono (by decide)) (by rfl) T.m_law_place T.F_law_place.kp T.b_law_place (ja_cons (je_at (je_var 0) je_int) (ja_cons (je_at (je_var 2) je_int) ja_nil)) (lenA_cons (lenA_cons lenA_nil)) rfl)) (jb_cons (js_if (JW.t (jw_or (jt_c (c_eq hr) (je_len (by rfl) T.z_len (ja_cons (je_at (je_var 3) (je_var 4)) ja_nil)) je_int) (jw_or (jt_c c_lt (je_at (je_at (je_var 3) (je_var 4)) je_int) (je_at (je_at (je_at (je_var 0) je_int) (je_var 7)) je_int)) (jw_or1 (jt_c c_gt (je_at (je_at (je_var 3) (je_var 4)) je_int) (je_at (je_at (je_at (je_var 0) je_int) (je_var 7)) je_int)))))) (jb_one (js_ret je_non)) jb_nil) (jb_cons (js_asg (vs := []) (je_at (je_at (je_var 3) (je_var 4)) je_int) (jg_sub (je_var 3) (je_var 7))) (jb_one (js_asg (vs := []) (je_sl (je_at (je_var 3) (je_var 4)) (jo_some je_int) jo_none) (jg_sub (je_var 3) (je_var 4)))))))))) (jb_one (js_ret (je_tup (ja_cons (je_at (je_var 1) je_int) (ja_cons (je_tuple (by rfl) T.z_tuple (ja_cons (je_var 3) ja_nil)) ja_nil)))))))))
theorem sc_law_moved : FnScope ["system", "state", "k", "move", "deed", "places"] ["system", "state", "k", "move"] (defScope (topS 28)) := ⟨rfl, rfl, rfl, by decide +kernel, rfl, by decide +kernel, by decide +kernel⟩
theorem ok_law_moved (T : Tx K mg w) : FnOk P w K mg base CX0 11 T.f_law_moved T.d_law_moved ["system", "state", "k", "move"] (spF K 4 F_law_moved) :=
  fn_sem (k := 10) T.F_law_moved sc_law_moved rfl rfl fun cdv A outer s H E hr =>
  (jb_cons (js_if (JW.t (jw_or (jt_c (c_ne hr) (je_at (je_at (je_var 1) je_int) (je_var 2)) (je_at (je_var 3) je_int)) (jw_or1 (jt_not (jt_tr (je_call (ok_law_value T 8) (hr.mono (by decide)) (by rfl) T.m_law_value T.F_law_value.kp T.b_law_value (ja_cons (je_var 0) (ja_cons (je_var 1) (ja_cons (je_at (je_var 3) je_int) ja_nil))) (lenA_cons (lenA_cons (lenA_cons lenA_nil))) rfl)))))) (jb_one (js_ret je_non)) jb_nil) (jb_cons (js_for (vs := [4]) PassesOwn.never rfl (ji_seq (je_at (je_var 3) je_int)) (jg_name (i := 4) sc_law_moved.nd rfl (by first | exact .inl rfl | exact .inr rfl) (by decide)) (jb_one (js_if (jt_c c_isnot (je_var 1) je_non) (jb_one (js_set (i := 1) sc_law_moved.nd rfl (by first | exact .inl rfl | exact .inr rfl) (je_call (ok_law_done T) (hr.mono (by decide)) (by rfl) T.m_law_done T.F_law_done.kp T.b_law_done (ja_cons (je_var 0) (ja_cons (je_var 1) (ja_cons (je_var 4) ja_nil))) (lenA_cons (lenA_cons (lenA_cons lenA_nil))) rfl))) jb_nil))) (jb_cons (js_if (jt_c c_is (je_var 1) je_non) (jb_one (js_ret je_non)) jb_nil) (jb_cons (js_set (i := 5) sc_law_moved.nd rfl (by first | exact .inl rfl | exact .inr rfl) (je_list (by rfl) T.z_list (ja_cons (je_at (je_var 1) je_int) ja_nil))) (jb_cons (js_asg (vs := []) (je_at (je_var 3) je_int) (jg_sub (je_var 5) (je_var 2))) (jb_one (js_ret (je_tup (ja_cons (je_tuple (by rfl) T.z_tuple (ja_cons (je_var 5) ja_nil)) (ja_cons (je_at (je_var 1) je_int) ja_nil))))))))))
theorem sc_law_enabled : FnScope ["system", "state", "found", "k", "move", "behind"] ["system", "state"] (defScope (topS 29)) := ⟨rfl, rfl, rfl, by decide +kernel, rfl, by decide +kernel, by decide +kernel⟩
theorem ok_law_enabled (T : Tx K mg w) : FnOk P w K mg base CX0 12 T.f_law_enabled T.d_law_enabled ["system", "state"] (spF K 2 F_law_enabled) :=
  fn_sem (k := 11) T.F_law_enabled sc_law_enabled rfl rfl fun cdv A outer s H E hr =>
  (jb_cons (js_set (i := 2) sc_law_enabled.nd rfl (by first | exact .inl rfl | exact .inr rfl) (je_lst ja_nil)) (jb_cons (js_for (vs := [3]) PassesOwn.never rfl (ji_rng1 (by rfl) T.z_range (ja_cons (je_len (by rfl) T.z_len (ja_cons (je_at (je_var 0) je_int) ja_nil)) ja_nil)) (jg_name (i := 3) sc_law_enabled.nd rfl (by first | exact .inl rfl | exact .inr rfl) (by decide)) (jb_one (js_for (vs := [4]) PassesOwn.never rfl (ji_seq (je_at (je_at (je_at (je_var 0) je_int) (je_var 3)) je_int)) (jg_name (i := 4) sc_law_enabled.nd rfl (by first | exact .inl rfl | exact .inr rfl) (by decide)) (jb_cons (js_set (i := 5) sc_law_enabled.nd rfl (by first | exact .inl rfl | exact .inr rfl) (je_call (ok_law_moved T) (hr.mono (by decide)) (by rfl) T.m_law_moved T.F_law_moved.kp T.b_law_moved (ja_cons (je_var 0) (ja_cons (je_var 1) (ja_cons (je_var 3) (ja_cons (je_var 4) ja_nil)))) (lenA_cons (lenA_cons (lenA_cons (lenA_cons lenA_nil)))) rfl)) (jb_one (js_if (jt_c c_isnot (je_var 5) je_non) (jb_one (js_expr (je_append (je_var 2) (je_tup (ja_cons (je_tup (ja_cons (je_at (je_at (je_at (je_var 0) je_int) (je_var 3)) je_int) (ja_cons (je_at (je_var 4) je_int) ja_nil))) (ja_cons (je_var 5) ja_nil)))))) jb_nil)))))) (jb_one (js_ret (je_var 2)))))
theorem sc_law_beginning : FnScope ["system", "values", "datum", "process"] ["system"] (defScope (topS 30)) := ⟨rfl, rfl, rfl, by decide +kernel, rfl, by decide +kernel, by decide +kernel⟩
theorem ok_law_beginning (T : Tx K mg w) : FnOk P w K mg base CX0 1 T.f_law_beginning T.d_law_beginning ["system"] (spF K 1 F_law_beginning) :=
  fn_sem (k := 0) T.F_law_beginning sc_law_beginning rfl rfl fun cdv A outer s H E hr =>
  (jb_cons (js_setComp (i := 1) (own := [(("datum" : Str), 2)]) rfl sc_law_beginning.nd rfl rfl (sw_true rfl rfl rfl (by decide +kernel)) (ji_seq (je_at (je_var 0) je_int)) (blkOk_by (by kernel_rfl)) (fun _ _ _ _ _ => (jg_name (i := 2) sc_law_beginning.nd rfl (by first | exact .inl rfl | exact .inr rfl) (by decide))) (fun _ _ _ _ _ => jts_nil) (fun _ _ _ _ _ => (je_if (jt_c (c_eq hr) (je_at (je_var 2) je_int) je_str) (je_at (je_var 2) je_int) (je_tup ja_nil)))) (jb_one (js_ret (je_tup (ja_cons (je_tuple (by rfl) T.z_tuple (ja_cons (je_comp (own := [(("process" : Str), 3)]) rfl sc_law_beginning.nd (ji_seq (je_at (je_var 0) je_int)) (blkOk_by (by kernel_rfl)) (fun _ _ _ _ _ => (jg_name (i := 3) sc_law_beginning.nd rfl (by first | exact .inl rfl | exact .inr rfl) (by decide))) (fun _ _ _ _ _ => jts_nil) (fun _ _ _ _ _ => (je_at (je_at (je_var 3) je_int) je_int))) ja_nil)) (ja_cons (je_tuple (by rfl) T.z_tuple (ja_cons (je_var 1) ja_nil)) ja_nil))))))
theorem sc_law_number : FnScope ["box", "system", "names", "one", "kind", "datum"] ["box", "system"] (defScope (topS 31)) := ⟨rfl, rfl, rfl, by decide +kernel, rfl, by decide +kernel, by decide +kernel⟩
theorem ok_law_number (T : Tx K mg w) : FnOk P w K mg base CX0 3 T.f_law_number T.d_law_number ["box", "system"] (spF K 2 F_law_number) :=
  fn_sem (k := 2) T.F_law_number sc_law_number rfl rfl fun cdv A outer s H E hr =>
  (jb_cons (js_setComp (i := 2) (own := [(("datum" : Str), 5)]) rfl sc_law_number.nd rfl rfl (sw_true rfl rfl rfl (by decide +kernel)) (ji_seq (je_at (je_var 1) je_int)) (blkOk_by (by kernel_rfl)) (fun _ _ _ _ _ => (jg_name (i := 5) sc_law_number.nd rfl (by first | exact .inl rfl | exact .inr rfl) (by decide))) (fun _ _ _ _ _ => (jts_one (jt_c (c_eq hr) (je_at (je_var 5) je_int) je_str))) (fun _ _ _ _ _ => (je_tup (ja_cons je_str (ja_cons (je_at (je_var 5) je_int) ja_nil))))) (jb_cons (js_set (i := 2) sc_law_number.nd rfl (by first | exact .inl rfl | exact .inr rfl) (je_add (je_var 2) (je_comp (own := [(("datum" : Str), 5)]) rfl sc_law_number.nd (ji_seq (je_at (je_var 1) je_int)) (blkOk_by (by kernel_rfl)) (fun _ _ _ _ _ => (jg_name (i := 5) sc_law_number.nd rfl (by first | exact .inl rfl | exact .inr rfl) (by decide))) (fun _ _ _ _ _ => (jts_one (jt_c (c_eq hr) (je_at (je_var 5) je_int) je_str))) (fun _ _ _ _ _ => (je_tup (ja_cons je_str (ja_cons (je_at (je_var 5) je_int) ja_nil))))))) (jb_cons (js_set (i := 3) sc_law_number.nd rfl (by first | exact .inl rfl | exact .inr rfl) (je_call (ok_law_pick T) (hr.mono (by decide)) (by rfl) T.m_law_pick T.F_law_pick.kp T.b_law_pick (ja_cons (je_var 0) (ja_cons (je_ad (je_add (je_var 2) (je_lst (ja_cons (je_tup (ja_cons je_str (ja_cons (je_call (ok_law_draw T) (hr.mono (by decide)) (by rfl) T.m_law_draw T.F_law_draw.kp T.b_law_draw (ja_cons (je_var 0) (ja_cons je_int ja_nil)) (lenA_cons (lenA_cons lenA_nil)) rfl) ja_nil))) ja_nil)))) ja_nil)) (lenA_cons (lenA_cons lenA_nil)) rfl)) (jb_cons (js_set (i := 4) sc_law_number.nd rfl (by first | exact .inl rfl | exact .inr rfl) (je_call (ok_law_draw T) (hr.mono (by decide)) (by rfl) T.m_law_draw T.F_law_draw.kp T.b_law_draw (ja_cons (je_var 0) (ja_cons je_int ja_nil)) (lenA_cons (lenA_cons lenA_nil)) rfl)) (jb_cons (js_if (jt_c (c_eq hr) (je_var 4) je_int) (jb_one (js_ret (je_tup (ja_cons je_str (ja_cons (je_var 3) (ja_cons (je_tup (ja_cons je_str (ja_cons (je_ad (je_add je_int (je_call (ok_law_draw T) (hr.mono (by decide)) (by rfl) T.m_law_draw T.F_law_draw.kp T.b_law_draw (ja_cons (je_var 0) (ja_cons je_int ja_nil)) (lenA_cons (lenA_cons lenA_nil)) rfl))) ja_nil))) ja_nil)))))) jb_nil) (jb_cons (js_if (jt_c (c_eq hr) (je_var 4) je_int) (jb_one (js_ret (je_tup (ja_cons je_str (ja_cons (je_var 3) (ja_cons (je_call (ok_law_pick T) (hr.mono (by decide)) (by rfl) T.m_law_pick T.F_law_pick.kp T.b_law_pick (ja_cons (je_var 0) (ja_cons (je_ad (je_add (je_var 2) (je_lst (ja_cons (je_tup (ja_cons je_str (ja_cons je_int ja_nil))) ja_nil)))) ja_nil)) (lenA_cons (lenA_cons lenA_nil)) rfl) ja_nil)))))) jb_nil) (jb_cons (js_if (jt_c (c_eq hr) (je_var 4) je_int) (jb_one (js_ret (je_tup (ja_cons je_str (ja_cons (je_var 3) (ja_cons (je_tup (ja_cons je_str (ja_cons (je_call (ok_law_draw T) (hr.mono (by decide)) (by rfl) T.m_law_draw T.F_law_draw.kp T.b_law_draw (ja_cons (je_var 0) (ja_cons je_int ja_nil)) (lenA_cons (lenA_cons lenA_nil)) rfl) ja_nil))) ja_nil)))))) jb_nil) (jb_one (js_ret (je_var 3))))))))))
theorem sc_law_truth : FnScope ["box", "system", "deep", "kind", "process"] ["box", "system", "deep"] (defScope (topS 32)) := ⟨rfl, rfl, rfl, by decide +kernel, rfl, by decide +kernel, by decide +kernel⟩
theorem ok_law_truth (T : Tx K mg w) : ∀ k : Nat, FnOk P w K mg base CX0 (3 + k) T.f_law_truth T.d_law_truth ["box", "system", "deep"] (spF K 3 (F_law_truth k))
  | 0 => fn_none fun vs H Q E ⟨m, h, ds, d, h', S, r, hl, e, q⟩ => by cases e
  | k + 1 => by
    have ih := ok_law_truth T k
    exact fn_sem (k := 3 + k) T.F_law_truth sc_law_truth rfl rfl fun cdv A outer s H E hr =>
      (jb_cons (js_set (i := 3) sc_law_truth.nd rfl (by first | exact .inl rfl | exact .inr rfl) (je_call (ok_law_draw T) (hr.mono (by omega)) (by rfl) T.m_law_draw T.F_law_draw.kp T.b_law_draw (ja_cons (je_var 0) (ja_cons (je_at (je_lst (ja_cons je_int (ja_cons je_int ja_nil))) (je_intc (by rfl) T.z_int (ja_cons (je_c c_gt (je_var 2) je_int) ja_nil))) ja_nil)) (lenA_cons (lenA_cons lenA_nil)) rfl)) (jb_cons (js_if (jt_c c_lt (je_var 3) je_int) (jb_one (js_ret (je_tup (ja_cons (je_at (je_lst (ja_cons je_str (ja_cons je_str (ja_cons je_str ja_nil)))) (je_var 3)) (ja_cons (je_call (ok_law_number T) (hr.mono (by omega)) (by rfl) T.m_law_number T.F_law_number.kp T.b_law_number (ja_cons (je_var 0) (ja_cons (je_var 1) ja_nil)) (lenA_cons (lenA_cons lenA_nil)) rfl) (ja_cons (je_call (ok_law_number T) (hr.mono (by omega)) (by rfl) T.m_law_number T.F_law_number.kp T.b_law_number (ja_cons (je_var 0) (ja_cons (je_var 1) ja_nil)) (lenA_cons (lenA_cons lenA_nil)) rfl) ja_nil)))))) jb_nil) (jb_cons (js_if (jt_c c_lt (je_var 3) je_int) (jb_cons (js_set (i := 4) sc_law_truth.nd rfl (by first | exact .inl rfl | exact .inr rfl) (je_call (ok_law_pick T) (hr.mono (by omega)) (by rfl) T.m_law_pick T.F_law_pick.kp T.b_law_pick (ja_cons (je_var 0) (ja_cons (je_at (je_var 1) je_int) ja_nil)) (lenA_cons (lenA_cons lenA_nil)) rfl)) (jb_one (js_ret (je_tup (ja_cons je_str (ja_cons (je_at (je_var 4) je_int) (ja_cons (je_call (ok_law_pick T) (hr.mono (by omega)) (by rfl) T.m_law_pick T.F_law_pick.kp T.b_law_pick (ja_cons (je_var 0) (ja_cons (je_at (je_var 4) je_int) ja_nil)) (lenA_cons (lenA_cons lenA_nil)) rfl) ja_nil))))))) jb_nil) (jb_cons (js_if (jt_c (c_eq hr) (je_var 3) je_int) (jb_one (js_ret (je_tup (ja_cons je_str (ja_cons (je_call ih (hr.mono (Nat.le_refl _)) (by rfl) T.m_law_truth T.F_law_truth.kp T.b_law_truth (ja_cons (je_var 0) (ja_cons (je_var 1) (ja_cons (je_sub (je_var 2) je_int) ja_nil))) (lenA_cons (lenA_cons (lenA_cons lenA_nil))) rfl) ja_nil))))) jb_nil) (jb_one (js_ret (je_tup (ja_cons (je_at (je_lst (ja_cons je_str (ja_cons je_str ja_nil))) (je_sub (je_var 3) je_int)) (ja_cons (je_call ih (hr.mono (Nat.le_refl _)) (by rfl) T.m_law_truth T.F_law_truth.kp T.b_law_truth (ja_cons (je_var 0) (ja_cons (je_var 1) (ja_cons (je_sub (je_var 2) je_int) ja_nil))) (lenA_cons (lenA_cons (lenA_cons lenA_nil))) rfl) (ja_cons (je_call ih (hr.mono (Nat.le_refl _)) (by rfl) T.m_law_truth T.F_law_truth.kp T.b_law_truth (ja_cons (je_var 0) (ja_cons (je_var 1) (ja_cons (je_sub (je_var 2) je_int) ja_nil))) (lenA_cons (lenA_cons (lenA_cons lenA_nil))) rfl) ja_nil))))))))))
theorem sc_law_deed : FnScope ["box", "system", "queues", "numbers", "kind", "datum", "queue"] ["box", "system"] (defScope (topS 33)) := ⟨rfl, rfl, rfl, by decide +kernel, rfl, by decide +kernel, by decide +kernel⟩
theorem ok_law_deed (T : Tx K mg w) : FnOk P w K mg base CX0 4 T.f_law_deed T.d_law_deed ["box", "system"] (spF K 2 F_law_deed) :=
  fn_sem (k := 3) T.F_law_deed sc_law_deed rfl rfl fun cdv A outer s H E hr =>
  (jb_cons (js_setComp (i := 2) (own := [(("datum" : Str), 5)]) rfl sc_law_deed.nd rfl rfl (sw_true rfl rfl rfl (by decide +kernel)) (ji_seq (je_at (je_var 1) je_int)) (blkOk_by (by kernel_rfl)) (fun _ _ _ _ _ => (jg_name (i := 5) sc_law_deed.nd rfl (by first | exact .inl rfl | exact .inr rfl) (by decide))) (fun _ _ _ _ _ => (jts_one (jt_c (c_eq hr) (je_at (je_var 5) je_int) je_str))) (fun _ _ _ _ _ => (je_var 5))) (jb_cons (js_setComp (i := 3) (own := [(("datum" : Str), 5)]) rfl sc_law_deed.nd rfl rfl (sw_true rfl rfl rfl (by decide +kernel)) (ji_seq (je_at (je_var 1) je_int)) (blkOk_by (by kernel_rfl)) (fun _ _ _ _ _ => (jg_name (i := 5) sc_law_deed.nd rfl (by first | exact .inl rfl | exact .inr rfl) (by decide))) (fun _ _ _ _ _ => (jts_one (jt_c (c_eq hr) (je_at (je_var 5) je_int) je_str))) (fun _ _ _ _ _ => (je_var 5))) (jb_cons (js_set (i := 4) sc_law_deed.nd rfl (by first | exact .inl rfl | exact .inr rfl) (je_call (ok_law_draw T) (hr.mono (by decide)) (by rfl) T.m_law_draw T.F_law_draw.kp T.b_law_draw (ja_cons (je_var 0) (ja_cons je_int ja_nil)) (lenA_cons (lenA_cons lenA_nil)) rfl)) (jb_cons (js_if (JW.t (jw_and (jt_c c_lt (je_var 4) je_int) (jw_and1 (jt_c c_gt (je_len (by rfl) T.z_len (ja_cons (je_var 2) ja_nil)) je_int)))) (jb_cons (js_set (i := 6) sc_law_deed.nd rfl (by first | exact .inl rfl | exact .inr rfl) (je_call (ok_law_pick T) (hr.mono (by decide)) (by rfl) T.m_law_pick T.F_law_pick.kp T.b_law_pick (ja_cons (je_var 0) (ja_cons (je_var 2) ja_nil)) (lenA_cons (lenA_cons lenA_nil)) rfl)) (jb_cons (js_if (jt_c (c_eq hr) (je_var 4) je_int) (jb_one (js_ret (je_tup (ja_cons je_str (ja_cons (je_at (je_var 6) je_int) (ja_cons (je_at (je_lst (ja_cons (je_call (ok_law_number T) (hr.mono (by decide)) (by rfl) T.m_law_number T.F_law_number.kp T.b_law_number (ja_cons (je_var 0) (ja_cons (je_var 1) ja_nil)) (lenA_cons (lenA_cons lenA_nil)) rfl) (ja_cons (je_tup (ja_cons je_str (ja_cons (je_at (je_var 6) je_int) ja_nil))) ja_nil))) (je_call (ok_law_draw T) (hr.mono (by decide)) (by rfl) T.m_law_draw T.F_law_draw.kp T.b_law_draw (ja_cons (je_var 0) (ja_cons je_int ja_nil)) (lenA_cons (lenA_cons lenA_nil)) rfl)) ja_nil)))))) jb_nil) (jb_one (js_ret (je_tup (ja_cons je_str (ja_cons (je_at (je_var 6) je_int) (ja_cons (je_at (je_call (ok_law_pick T) (hr.mono (by decide)) (by rfl) T.m_law_pick T.F_law_pick.kp T.b_law_pick (ja_cons (je_var 0) (ja_cons (je_var 3) ja_nil)) (lenA_cons (lenA_cons lenA_nil)) rfl) je_int) ja_nil)))))))) jb_nil) (jb_cons (js_set (i := 5) sc_law_deed.nd rfl (by first | exact .inl rfl | exact .inr rfl) (je_call (ok_law_pick T) (hr.mono (by decide)) (by rfl) T.m_law_pick T.F_law_pick.kp T.b_law_pick (ja_cons (je_var 0) (ja_cons (je_var 3) ja_nil)) (lenA_cons (lenA_cons lenA_nil)) rfl)) (jb_cons (js_if (jt_c c_lt (je_var 4) je_int) (jb_one (js_ret (je_tup (ja_cons je_str (ja_cons (je_at (je_var 5) je_int) (ja_cons (je_tup (ja_cons je_str (ja_cons (je_tup (ja_cons je_str (ja_cons (je_tup (ja_cons je_str (ja_cons (je_at (je_var 5) je_int) ja_nil))) (ja_cons (je_tup (ja_cons je_str (ja_cons (je_at (je_var 5) je_int) ja_nil))) ja_nil)))) (ja_cons (je_tup (ja_cons je_str (ja_cons (je_tup (ja_cons je_str (ja_cons (je_at (je_var 5) je_int) ja_nil))) (ja_cons (je_tup (ja_cons je_str (ja_cons je_int ja_nil))) ja_nil)))) (ja_cons (je_tup (ja_cons je_str (ja_cons (je_at (je_var 5) je_int) ja_nil))) ja_nil))))) ja_nil)))))) jb_nil) (jb_one (js_ret (je_tup (ja_cons je_str (ja_cons (je_at (je_var 5) je_int) (ja_cons (je_at (je_lst (ja_cons (je_call (ok_law_number T) (hr.mono (by decide)) (by rfl) T.m_law_number T.F_law_number.kp T.b_law_number (ja_cons (je_var 0) (ja_cons (je_var 1) ja_nil)) (lenA_cons (lenA_cons lenA_nil)) rfl) (ja_cons (je_tup (ja_cons je_str (ja_cons (je_ad (je_add (je_at (je_var 5) je_int) (je_call (ok_law_draw T) (hr.mono (by decide)) (by rfl) T.m_law_draw T.F_law_draw.kp T.b_law_draw (ja_cons (je_var 0) (ja_cons (je_ad (je_add (je_sub (je_at (je_var 5) je_int) (je_at (je_var 5) je_int)) je_int)) ja_nil)) (lenA_cons (lenA_cons lenA_nil)) rfl))) ja_nil))) ja_nil))) (je_call (ok_law_draw T) (hr.mono (by decide)) (by rfl) T.m_law_draw T.F_law_draw.kp T.b_law_draw (ja_cons (je_var 0) (ja_cons je_int ja_nil)) (lenA_cons (lenA_cons lenA_nil)) rfl)) ja_nil))))))))))))
theorem sc_law_drawn : FnScope ["box", "many", "names", "data", "k", "processes", "system", "found", "process", "low", "high", "moves", "places", "titles", "guard", "deeds", "turn"] ["box", "many"] (defScope (topS 34)) := ⟨rfl, rfl, rfl, by decide +kernel, rfl, by decide +kernel, by decide +kernel⟩
theorem ok_law_drawn (T : Tx K mg w) : FnOk P w K mg base CX0 8 T.f_law_drawn T.d_law_drawn ["box", "many"] (spF K 2 F_law_drawn) :=
  fn_sem (k := 7) T.F_law_drawn sc_law_drawn rfl rfl fun cdv A outer s H E hr =>
  (jb_cons (js_set (i := 2) sc_law_drawn.nd rfl (by first | exact .inl rfl | exact .inr rfl) (je_call (ok_law_names T) (hr.mono (by decide)) (by rfl) T.m_law_names T.F_law_names.kp T.b_law_names (ja_cons (je_var 0) (ja_cons je_int (ja_cons (je_ad (je_lst ja_nil)) ja_nil))) (lenA_cons (lenA_cons (lenA_cons lenA_nil))) rfl)) (jb_cons (js_set (i := 3) sc_law_drawn.nd rfl (by first | exact .inl rfl | exact .inr rfl) (je_lst ja_nil)) (jb_cons (js_for (vs := [4]) PassesOwn.never rfl (ji_rng1 (by rfl) T.z_range (ja_cons (je_add je_int (je_call (ok_law_draw T) (hr.mono (by decide)) (by rfl) T.m_law_draw T.F_law_draw.kp T.b_law_draw (ja_cons (je_var 0) (ja_cons je_int ja_nil)) (lenA_cons (lenA_cons lenA_nil)) rfl)) ja_nil)) (jg_name (i := 4) sc_law_drawn.nd rfl (by first | exact .inl rfl | exact .inr rfl) (by decide)) (jb_cons (js_set (i := 9) sc_law_drawn.nd rfl (by first | exact .inl rfl | exact .inr rfl) (je_at (je_lst (ja_cons je_int (ja_cons je_int (ja_cons je_int (ja_cons (je_neg je_int) ja_nil))))) (je_call (ok_law_draw T) (hr.mono (by decide)) (by rfl) T.m_law_draw T.F_law_draw.kp T.b_law_draw (ja_cons (je_var 0) (ja_cons je_int ja_nil)) (lenA_cons (lenA_cons lenA_nil)) rfl))) (jb_cons (js_set (i := 10) sc_law_drawn.nd rfl (by first | exact .inl rfl | exact .inr rfl) (je_add (je_add (je_var 9) je_int) (je_call (ok_law_draw T) (hr.mono (by decide)) (by rfl) T.m_law_draw T.F_law_draw.kp T.b_law_draw (ja_cons (je_var 0) (ja_cons je_int ja_nil)) (lenA_cons (lenA_cons lenA_nil)) rfl))) (jb_one (js_expr (je_append (je_var 3) (je_tup (ja_cons je_str (ja_cons (je_at (je_var 2) (je_var 4)) (ja_cons (je_var 9) (ja_cons (je_var 10) (ja_cons (je_ad (je_add (je_var 9) (je_call (ok_law_draw T) (hr.mono (by decide)) (by rfl) T.m_law_draw T.F_law_draw.kp T.b_law_draw (ja_cons (je_var 0) (ja_cons (je_ad (je_add (je_sub (je_var 10) (je_var 9)) je_int)) ja_nil)) (lenA_cons (lenA_cons lenA_nil)) rfl))) ja_nil)))))))))))) (jb_cons (js_if (jt_c (c_eq hr) (je_call (ok_law_draw T) (hr.mono (by decide)) (by rfl) T.m_law_draw T.F_law_draw.kp T.b_law_draw (ja_cons (je_var 0) (ja_cons je_int ja_nil)) (lenA_cons (lenA_cons lenA_nil)) rfl) je_int) (jb_cons (js_set (i := 9) sc_law_drawn.nd rfl (by first | exact .inl rfl | exact .inr rfl) (je_call (ok_law_draw T) (hr.mono (by decide)) (by rfl) T.m_law_draw T.F_law_draw.kp T.b_law_draw (ja_cons (je_var 0) (ja_cons je_int ja_nil)) (lenA_cons (lenA_cons lenA_nil)) rfl)) (jb_one (js_expr (je_append (je_var 3) (je_tup (ja_cons je_str (ja_cons (je_at (je_var 2) je_int) (ja_cons (je_ad (je_add je_int (je_call (ok_law_draw T) (hr.mono (by decide)) (by rfl) T.m_law_draw T.F_law_draw.kp T.b_law_draw (ja_cons (je_var 0) (ja_cons je_int ja_nil)) (lenA_cons (lenA_cons lenA_nil)) rfl))) (ja_cons (je_var 9) (ja_cons (je_ad (je_add (je_var 9) (je_call (ok_law_draw T) (hr.mono (by decide)) (by rfl) T.m_law_draw T.F_law_draw.kp T.b_law_draw (ja_cons (je_var 0) (ja_cons je_int ja_nil)) (lenA_cons (lenA_cons lenA_nil)) rfl))) ja_nil)))))))))) jb_nil) (jb_cons (js_set (i := 5) sc_law_drawn.nd rfl (by first | exact .inl rfl | exact .inr rfl) (je_lst ja_nil)) (jb_cons (js_for (vs := [4]) PassesOwn.never rfl (ji_rng1 (by rfl) T.z_range (ja_cons (je_add je_int (je_call (ok_law_draw T) (hr.mono (by decide)) (by rfl) T.m_law_draw T.F_law_draw.kp T.b_law_draw (ja_cons (je_var 0) (ja_cons (je_sub (je_var 1) je_int) ja_nil)) (lenA_cons (lenA_cons lenA_nil)) rfl)) ja_nil)) (jg_name (i := 4) sc_law_drawn.nd rfl (by first | exact .inl rfl | exact .inr rfl) (by decide)) (jb_one (js_expr (je_append (je_var 5) (je_tup (ja_cons je_str (ja_cons (je_at (je_var 2) (je_add je_int (je_var 4))) (ja_cons (je_tuple (by rfl) T.z_tuple (ja_cons (je_call (ok_law_names T) (hr.mono (by decide)) (by rfl) T.m_law_names T.F_law_names.kp T.b_law_names (ja_cons (je_var 0) (ja_cons (je_ad (je_add je_int (je_call (ok_law_draw T) (hr.mono (by decide)) (by rfl) T.m_law_draw T.F_law_draw.kp T.b_law_draw (ja_cons (je_var 0) (ja_cons je_int ja_nil)) (lenA_cons (lenA_cons lenA_nil)) rfl))) (ja_cons (je_var 2) ja_nil))) (lenA_cons (lenA_cons (lenA_cons lenA_nil))) rfl) ja_nil)) (ja_cons (je_tup ja_nil) ja_nil))))))))) (jb_cons (js_set (i := 6) sc_law_drawn.nd rfl (by first | exact .inl rfl | exact .inr rfl) (je_tup (ja_cons je_str (ja_cons (je_at (je_var 2) je_int) (ja_cons (je_tuple (by rfl) T.z_tuple (ja_cons (je_var 3) ja_nil)) (ja_cons (je_tuple (by rfl) T.z_tuple (ja_cons (je_var 5) ja_nil)) ja_nil)))))) (jb_cons (js_set (i := 7) sc_law_drawn.nd rfl (by first | exact .inl rfl | exact .inr rfl) (je_lst ja_nil)) (jb_cons (js_for (vs := [8]) PassesOwn.never rfl (ji_seq (je_at (je_var 6) je_int)) (jg_name (i := 8) sc_law_drawn.nd rfl (by first | exact .inl rfl | exact .inr rfl) (by decide)) (jb_cons (js_set (i := 11) sc_law_drawn.nd rfl (by first | exact .inl rfl | exact .inr rfl) (je_lst ja_nil)) (jb_cons (js_set (i := 12) sc_law_drawn.nd rfl (by first | exact .inl rfl | exact .inr rfl) (je_at (je_var 8) je_int)) (jb_cons (js_set (i := 13) sc_law_drawn.nd rfl (by first | exact .inl rfl | exact .inr rfl) (je_call (ok_law_names T) (hr.mono (by decide)) (by rfl) T.m_law_names T.F_law_names.kp T.b_law_names (ja_cons (je_var 0) (ja_cons (je_ad (je_add (je_len (by rfl) T.z_len (ja_cons (je_var 12) ja_nil)) (je_call (ok_law_draw T) (hr.mono (by decide)) (by rfl) T.m_law_draw T.F_law_draw.kp T.b_law_draw (ja_cons (je_var 0) (ja_cons je_int ja_nil)) (lenA_cons (lenA_cons lenA_nil)) rfl))) (ja_cons (je_ad (je_lst ja_nil)) ja_nil))) (lenA_cons (lenA_cons (lenA_cons lenA_nil))) rfl)) (jb_cons (js_for (vs := [4]) PassesOwn.never rfl (ji_rng1 (by rfl) T.z_range (ja_cons (je_len (by rfl) T.z_len (ja_cons (je_var 13) ja_nil)) ja_nil)) (jg_name (i := 4) sc_law_drawn.nd rfl (by first | exact .inl rfl | exact .inr rfl) (by decide)) (jb_cons (js_set (i := 14) sc_law_drawn.nd rfl (by first | exact .inl rfl | exact .inr rfl) (je_at (je_lst (ja_cons (je_tup (ja_cons je_str ja_nil)) (ja_cons (je_call (ok_law_truth T 4) (hr.mono (by decide)) (by rfl) T.m_law_truth T.F_law_truth.kp T.b_law_truth (ja_cons (je_var 0) (ja_cons (je_var 6) (ja_cons je_int ja_nil))) (lenA_cons (lenA_cons (lenA_cons lenA_nil))) rfl) ja_nil))) (je_intc (by rfl) T.z_int (ja_cons (je_c c_gt (je_call (ok_law_draw T) (hr.mono (by decide)) (by rfl) T.m_law_draw T.F_law_draw.kp T.b_law_draw (ja_cons (je_var 0) (ja_cons je_int ja_nil)) (lenA_cons (lenA_cons lenA_nil)) rfl) je_int) ja_nil)))) (jb_cons (js_set (i := 15) sc_law_drawn.nd rfl (by first | exact .inl rfl | exact .inr rfl) (je_tuple (by rfl) T.z_tuple (ja_cons (je_comp (own := [(("turn" : Str), 16)]) rfl sc_law_drawn.nd (ji_rng1 (by rfl) T.z_range (ja_cons (je_at (je_lst (ja_cons je_int (ja_cons je_int (ja_cons je_int (ja_cons je_int ja_nil))))) (je_call (ok_law_draw T) (hr.mono (by decide)) (by rfl) T.m_law_draw T.F_law_draw.kp T.b_law_draw (ja_cons (je_var 0) (ja_cons je_int ja_nil)) (lenA_cons (lenA_cons lenA_nil)) rfl)) ja_nil)) (blkOk_by (by kernel_rfl)) (fun _ _ _ _ _ => (jg_name (i := 16) sc_law_drawn.nd rfl (by first | exact .inl rfl | exact .inr rfl) (by decide))) (fun _ _ _ _ _ => jts_nil) (fun _ _ _ _ _ => (je_call (ok_law_deed T) (hr.mono (by decide)) (by rfl) T.m_law_deed T.F_law_deed.kp T.b_law_deed (ja_cons (je_var 0) (ja_cons (je_var 6) ja_nil)) (lenA_cons (lenA_cons lenA_nil)) rfl))) ja_nil))) (jb_one (js_if (jt_c c_lt (je_var 4) (je_len (by rfl) T.z_len (ja_cons (je_var 12) ja_nil))) (jb_one (js_expr (je_append (je_var 11) (je_tup (ja_cons (je_at (je_var 13) (je_var 4)) (ja_cons (je_at (je_var 12) (je_var 4)) (ja_cons (je_at (je_var 12) (je_mod (je_add (je_var 4) je_int) (je_len (by rfl) T.z_len (ja_cons (je_var 12) ja_nil)))) (ja_cons (je_var 14) (ja_cons (je_var 15) ja_nil))))))))) (jb_one (js_expr (je_append (je_var 11) (je_tup (ja_cons (je_at (je_var 13) (je_var 4)) (ja_cons (je_call (ok_law_pick T) (hr.mono (by decide)) (by rfl) T.m_law_pick T.F_law_pick.kp T.b_law_pick (ja_cons (je_var 0) (ja_cons (je_var 12) ja_nil)) (lenA_cons (lenA_cons lenA_nil)) rfl) (ja_cons (je_call (ok_law_pick T) (hr.mono (by decide)) (by rfl) T.m_law_pick T.F_law_pick.kp T.b_law_pick (ja_cons (je_var 0) (ja_cons (je_var 12) ja_nil)) (lenA_cons (lenA_cons lenA_nil)) rfl) (ja_cons (je_var 14) (ja_cons (je_var 15) ja_nil)))))))))))))) (jb_one (js_expr (je_append (je_var 7) (je_ad (je_add (je_sl (je_var 8) jo_none (jo_some je_int)) (je_tup (ja_cons (je_tuple (by rfl) T.z_tuple (ja_cons (je_var 11) ja_nil)) ja_nil)))))))))))) (jb_one (js_ret (je_add (je_sl (je_var 6) jo_none (jo_some je_int)) (je_tup (ja_cons (je_tuple (by rfl) T.z_tuple (ja_cons (je_var 7) ja_nil)) ja_nil))))))))))))))
theorem sc_law_lock : FnScope ["box", "many", "names", "spoilt", "free", "processes", "k", "enter", "leave", "moves"] ["box", "many"] (defScope (topS 35)) := ⟨rfl, rfl, rfl, by decide +kernel, rfl, by decide +kernel, by decide +kernel⟩
theorem ok_law_lock (T : Tx K mg w) : FnOk P w K mg base CX0 3 T.f_law_lock T.d_law_lock ["box", "many"] (spF K 2 F_law_lock) :=
  fn_sem (k := 2) T.F_law_lock sc_law_lock rfl rfl fun cdv A outer s H E hr =>
  (jb_cons (js_set (i := 2) sc_law_lock.nd rfl (by first | exact .inl rfl | exact .inr rfl) (je_call (ok_law_names T) (hr.mono (by decide)) (by rfl) T.m_law_names T.F_law_names.kp T.b_law_names (ja_cons (je_var 0) (ja_cons je_int (ja_cons (je_ad (je_lst ja_nil)) ja_nil))) (lenA_cons (lenA_cons (lenA_cons lenA_nil))) rfl)) (jb_cons (js_set (i := 3) sc_law_lock.nd rfl (by first | exact .inl rfl | exact .inr rfl) (je_call (ok_law_draw T) (hr.mono (by decide)) (by rfl) T.m_law_draw T.F_law_draw.kp T.b_law_draw (ja_cons (je_var 0) (ja_cons je_int ja_nil)) (lenA_cons (lenA_cons lenA_nil)) rfl)) (jb_cons (js_set (i := 4) sc_law_lock.nd rfl (by first | exact .inl rfl | exact .inr rfl) (je_tup (ja_cons je_str (ja_cons (je_tup (ja_cons je_str (ja_cons (je_at (je_var 2) je_int) ja_nil))) (ja_cons (je_tup (ja_cons je_str (ja_cons je_int ja_nil))) ja_nil))))) (jb_cons (js_set (i := 5) sc_law_lock.nd rfl (by first | exact .inl rfl | exact .inr rfl) (je_lst ja_nil)) (jb_cons (js_for (vs := [6]) PassesOwn.never rfl (ji_rng1 (by rfl) T.z_range (ja_cons (je_var 1) ja_nil)) (jg_name (i := 6) sc_law_lock.nd rfl (by first | exact .inl rfl | exact .inr rfl) (by decide)) (jb_cons (js_set (i := 7) sc_law_lock.nd rfl (by first | exact .inl rfl | exact .inr rfl) (je_tup (ja_cons je_str (ja_cons je_str (ja_cons je_str (ja_cons (je_at (je_lst (ja_cons (je_var 4) (ja_cons (je_tup (ja_cons je_str ja_nil)) ja_nil))) (je_intc (by rfl) T.z_int (ja_cons (je_c (c_eq hr) (je_var 3) (je_var 6)) ja_nil))) (ja_cons (je_tup (ja_cons (je_tup (ja_cons je_str (ja_cons (je_at (je_var 2) je_int) (ja_cons (je_tup (ja_cons je_str (ja_cons je_int ja_nil))) ja_nil)))) ja_nil)) ja_nil))))))) (jb_cons (js_set (i := 8) sc_law_lock.nd rfl (by first | exact .inl rfl | exact .inr rfl) (je_tup (ja_cons je_str (ja_cons je_str (ja_cons je_str (ja_cons (je_tup (ja_cons je_str ja_nil)) (ja_cons (je_tup (ja_cons (je_tup (ja_cons je_str (ja_cons (je_at (je_var 2) je_int) (ja_cons (je_tup (ja_cons je_str (ja_cons (je_intc (by rfl) T.z_int (ja_cons (je_c (c_eq hr) (je_var 3) je_int) ja_nil)) ja_nil))) ja_nil)))) ja_nil)) ja_nil))))))) (jb_cons (js_set (i := 9) sc_law_lock.nd rfl (by first | exact .inl rfl | exact .inr rfl) (je_lst (ja_cons (je_var 7) (ja_cons (je_var 8) ja_nil)))) (jb_cons (js_if (jt_c (c_eq hr) (je_var 3) je_int) (jb_one (js_set (i := 9) sc_law_lock.nd rfl (by first | exact .inl rfl | exact .inr rfl) (je_lst (ja_cons (je_tup (ja_cons je_str (ja_cons je_str (ja_cons je_str (ja_cons (je_tup (ja_cons je_str ja_nil)) (ja_cons (je_tup ja_nil) ja_nil)))))) (ja_cons (je_var 7) (ja_cons (je_tup (ja_cons je_str (ja_cons je_str (ja_cons je_str (ja_cons (je_tup (ja_cons je_str ja_nil)) (ja_cons (je_at (je_var 8) je_int) ja_nil)))))) ja_nil)))))) jb_nil) (jb_one (js_expr (je_append (je_var 5) (je_tup (ja_cons je_str (ja_cons (je_at (je_var 2) (je_add je_int (je_var 6))) (ja_cons (je_at (je_lst (ja_cons (je_tup (ja_cons je_str (ja_cons je_str ja_nil))) (ja_cons (je_tup (ja_cons je_str (ja_cons je_str (ja_cons je_str ja_nil)))) ja_nil))) (je_intc (by rfl) T.z_int (ja_cons (je_c (c_eq hr) (je_var 3) je_int) ja_nil))) (ja_cons (je_tuple (by rfl) T.z_tuple (ja_cons (je_var 9) ja_nil)) ja_nil))))))))))))) (jb_one (js_ret (je_tup (ja_cons je_str (ja_cons (je_at (je_var 2) je_int) (ja_cons (je_tup (ja_cons (je_tup (ja_cons je_str (ja_cons (je_at (je_var 2) je_int) (ja_cons je_int (ja_cons je_int (ja_cons je_int ja_nil)))))) ja_nil)) (ja_cons (je_tuple (by rfl) T.z_tuple (ja_cons (je_var 5) ja_nil)) ja_nil))))))))))))
theorem sc_law_line : FnScope ["box", "many", "names", "room", "data", "put", "one", "guard", "two", "back", "three"] ["box", "many"] (defScope (topS 36)) := ⟨rfl, rfl, rfl, by decide +kernel, rfl, by decide +kernel, by decide +kernel⟩
theorem ok_law_line (T : Tx K mg w) : FnOk P w K mg base CX0 3 T.f_law_line T.d_law_line ["box", "many"] (spF K 2 F_law_line) :=
  fn_sem (k := 2) T.F_law_line sc_law_line rfl rfl fun cdv A outer s H E hr =>
  (jb_cons (js_set (i := 2) sc_law_line.nd rfl (by first | exact .inl rfl | exact .inr rfl) (je_call (ok_law_names T) (hr.mono (by decide)) (by rfl) T.m_law_names T.F_law_names.kp T.b_law_names (ja_cons (je_var 0) (ja_cons je_int (ja_cons (je_ad (je_lst ja_nil)) ja_nil))) (lenA_cons (lenA_cons (lenA_cons lenA_nil))) rfl)) (jb_cons (js_set (i := 3) sc_law_line.nd rfl (by first | exact .inl rfl | exact .inr rfl) (je_add je_int (je_call (ok_law_draw T) (hr.mono (by decide)) (by rfl) T.m_law_draw T.F_law_draw.kp T.b_law_draw (ja_cons (je_var 0) (ja_cons je_int ja_nil)) (lenA_cons (lenA_cons lenA_nil)) rfl))) (jb_cons (js_set (i := 4) sc_law_line.nd rfl (by first | exact .inl rfl | exact .inr rfl) (je_tup (ja_cons (je_tup (ja_cons je_str (ja_cons (je_at (je_var 2) je_int) (ja_cons je_int (ja_cons je_int (ja_cons je_int ja_nil)))))) (ja_cons (je_tup (ja_cons je_str (ja_cons (je_at (je_var 2) je_int) (ja_cons (je_var 3) (ja_cons je_int (ja_cons je_int ja_nil)))))) (ja_cons (je_tup (ja_cons je_str (ja_cons (je_at (je_var 2) je_int) (ja_cons je_int (ja_cons je_int (ja_cons je_int ja_nil)))))) (ja_cons (je_tup (ja_cons je_str (ja_cons (je_at (je_var 2) je_int) (ja_cons je_int (ja_cons je_int (ja_cons je_int ja_nil)))))) ja_nil)))))) (jb_cons (js_set (i := 5) sc_law_line.nd rfl (by first | exact .inl rfl | exact .inr rfl) (je_tup (ja_cons je_str (ja_cons (je_at (je_var 2) je_int) (ja_cons (je_at (je_lst (ja_cons (je_tup (ja_cons je_str (ja_cons je_int ja_nil))) (ja_cons (je_tup (ja_cons je_str (ja_cons (je_at (je_var 2) je_int) ja_nil))) ja_nil))) (je_call (ok_law_draw T) (hr.mono (by decide)) (by rfl) T.m_law_draw T.F_law_draw.kp T.b_law_draw (ja_cons (je_var 0) (ja_cons je_int ja_nil)) (lenA_cons (lenA_cons lenA_nil)) rfl)) ja_nil))))) (jb_cons (js_set (i := 6) sc_law_line.nd rfl (by first | exact .inl rfl | exact .inr rfl) (je_tup (ja_cons je_str (ja_cons (je_at (je_var 2) je_int) (ja_cons (je_tup (ja_cons je_str ja_nil)) (ja_cons (je_tup (ja_cons (je_tup (ja_cons je_str (ja_cons je_str (ja_cons je_str (ja_cons (je_tup (ja_cons je_str (ja_cons (je_tup (ja_cons je_str (ja_cons (je_at (je_var 2) je_int) ja_nil))) (ja_cons (je_tup (ja_cons je_str (ja_cons je_int ja_nil))) ja_nil)))) (ja_cons (je_tup (ja_cons (je_var 5) (ja_cons (je_tup (ja_cons je_str (ja_cons (je_at (je_var 2) je_int) (ja_cons (je_tup (ja_cons je_str (ja_cons (je_tup (ja_cons je_str (ja_cons (je_at (je_var 2) je_int) ja_nil))) (ja_cons (je_tup (ja_cons je_str (ja_cons je_int ja_nil))) ja_nil)))) ja_nil)))) ja_nil))) ja_nil)))))) ja_nil)) ja_nil)))))) (jb_cons (js_set (i := 7) sc_law_line.nd rfl (by first | exact .inl rfl | exact .inr rfl) (je_at (je_lst (ja_cons (je_tup (ja_cons je_str ja_nil)) (ja_cons (je_tup (ja_cons je_str (ja_cons (je_tup (ja_cons je_str (ja_cons (je_at (je_var 2) je_int) ja_nil))) (ja_cons (je_tup (ja_cons je_str (ja_cons je_int ja_nil))) ja_nil)))) (ja_cons (je_tup (ja_cons je_str (ja_cons (je_tup (ja_cons je_str (ja_cons (je_at (je_var 2) je_int) ja_nil))) (ja_cons (je_tup (ja_cons je_str (ja_cons je_int ja_nil))) ja_nil)))) ja_nil)))) (je_call (ok_law_draw T) (hr.mono (by decide)) (by rfl) T.m_law_draw T.F_law_draw.kp T.b_law_draw (ja_cons (je_var 0) (ja_cons je_int ja_nil)) (lenA_cons (lenA_cons lenA_nil)) rfl))) (jb_cons (js_set (i := 8) sc_law_line.nd rfl (by first | exact .inl rfl | exact .inr rfl) (je_tup (ja_cons je_str (ja_cons (je_at (je_var 2) je_int) (ja_cons (je_tup (ja_cons je_str (ja_cons je_str ja_nil))) (ja_cons (je_tup (ja_cons (je_tup (ja_cons je_str (ja_cons je_str (ja_cons je_str (ja_cons (je_tup (ja_cons je_str ja_nil)) (ja_cons (je_tup (ja_cons (je_tup (ja_cons je_str (ja_cons (je_at (je_var 2) je_int) (ja_cons (je_at (je_var 2) je_int) ja_nil)))) ja_nil)) ja_nil)))))) (ja_cons (je_tup (ja_cons je_str (ja_cons je_str (ja_cons je_str (ja_cons (je_var 7) (ja_cons (je_tup (ja_cons (je_tup (ja_cons je_str (ja_cons (je_at (je_var 2) je_int) (ja_cons (je_tup (ja_cons je_str (ja_cons (je_at (je_var 2) je_int) ja_nil))) ja_nil)))) ja_nil)) ja_nil)))))) ja_nil))) ja_nil)))))) (jb_cons (js_set (i := 9) sc_law_line.nd rfl (by first | exact .inl rfl | exact .inr rfl) (je_at (je_lst (ja_cons (je_tup (ja_cons je_str (ja_cons (je_at (je_var 2) je_int) (ja_cons (je_tup (ja_cons je_str (ja_cons (je_tup (ja_cons je_str (ja_cons (je_at (je_var 2) je_int) ja_nil))) (ja_cons (je_tup (ja_cons je_str (ja_cons je_int ja_nil))) ja_nil)))) ja_nil)))) (ja_cons (je_tup (ja_cons je_str (ja_cons (je_at (je_var 2) je_int) (ja_cons (je_tup (ja_cons je_str (ja_cons je_int ja_nil))) ja_nil)))) ja_nil))) (je_call (ok_law_draw T) (hr.mono (by decide)) (by rfl) T.m_law_draw T.F_law_draw.kp T.b_law_draw (ja_cons (je_var 0) (ja_cons je_int ja_nil)) (lenA_cons (lenA_cons lenA_nil)) rfl))) (jb_cons (js_set (i := 10) sc_law_line.nd rfl (by first | exact .inl rfl | exact .inr rfl) (je_tup (ja_cons je_str (ja_cons (je_at (je_var 2) je_int) (ja_cons (je_tup (ja_cons je_str ja_nil)) (ja_cons (je_tup (ja_cons (je_tup (ja_cons je_str (ja_cons je_str (ja_cons je_str (ja_cons (je_tup (ja_cons je_str ja_nil)) (ja_cons (je_tup (ja_cons (je_tup (ja_cons je_str (ja_cons (je_at (je_var 2) je_int) (ja_cons (je_at (je_var 2) je_int) ja_nil)))) (ja_cons (je_var 9) ja_nil))) ja_nil)))))) ja_nil)) ja_nil)))))) (jb_one (js_ret (je_tup (ja_cons je_str (ja_cons (je_at (je_var 2) je_int) (ja_cons (je_var 4) (ja_cons (je_tuple (by rfl) T.z_tuple (ja_cons (je_sl (je_lst (ja_cons (je_var 6) (ja_cons (je_var 8) (ja_cons (je_var 10) ja_nil)))) jo_none (jo_some (je_max rfl (by rfl) T.z_max (ja_cons je_int (ja_cons (je_var 1) ja_nil))))) ja_nil)) ja_nil))))))))))))))))
theorem sc_law_system : FnScope ["box", "kind"] ["box"] (defScope (topS 37)) := ⟨rfl, rfl, rfl, by decide +kernel, rfl, by decide +kernel, by decide +kernel⟩
theorem ok_law_system (T : Tx K mg w) : FnOk P w K mg base CX0 9 T.f_law_system T.d_law_system ["box"] (spF K 1 F_law_system) :=
  fn_sem (k := 8) T.F_law_system sc_law_system rfl rfl fun cdv A outer s H E hr =>
  (jb_cons (js_set (i := 1) sc_law_system.nd rfl (by first | exact .inl rfl | exact .inr rfl) (je_call (ok_law_draw T) (hr.mono (by decide)) (by rfl) T.m_law_draw T.F_law_draw.kp T.b_law_draw (ja_cons (je_var 0) (ja_cons je_int ja_nil)) (lenA_cons (lenA_cons lenA_nil)) rfl)) (jb_cons (js_if (jt_c (c_eq hr) (je_var 1) je_int) (jb_one (js_ret (je_call (ok_law_lock T) (hr.mono (by decide)) (by rfl) T.m_law_lock T.F_law_lock.kp T.b_law_lock (ja_cons (je_var 0) (ja_cons (je_ad (je_add je_int (je_call (ok_law_draw T) (hr.mono (by decide)) (by rfl) T.m_law_draw T.F_law_draw.kp T.b_law_draw (ja_cons (je_var 0) (ja_cons je_int ja_nil)) (lenA_cons (lenA_cons lenA_nil)) rfl))) ja_nil)) (lenA_cons (lenA_cons lenA_nil)) rfl))) jb_nil) (jb_cons (js_if (jt_c (c_eq hr) (je_var 1) je_int) (jb_one (js_ret (je_call (ok_law_line T) (hr.mono (by decide)) (by rfl) T.m_law_line T.F_law_line.kp T.b_law_line (ja_cons (je_var 0) (ja_cons (je_ad (je_add je_int (je_call (ok_law_draw T) (hr.mono (by decide)) (by rfl) T.m_law_draw T.F_law_draw.kp T.b_law_draw (ja_cons (je_var 0) (ja_cons je_int ja_nil)) (lenA_cons (lenA_cons lenA_nil)) rfl))) ja_nil)) (lenA_cons (lenA_cons lenA_nil)) rfl))) jb_nil) (jb_one (js_ret (je_call (ok_law_drawn T) (hr.mono (by decide)) (by rfl) T.m_law_drawn T.F_law_drawn.kp T.b_law_drawn (ja_cons (je_var 0) (ja_cons je_int ja_nil)) (lenA_cons (lenA_cons lenA_nil)) rfl))))))
theorem sc_law_same : FnScope ["actual", "due"] ["actual", "due"] (defScope (topS 38)) := ⟨rfl, rfl, rfl, by decide +kernel, rfl, by decide +kernel, by decide +kernel⟩
theorem ok_law_same (T : Tx K mg w) : FnG P w K mg base 1 T.f_law_same T.d_law_same ["actual", "due"] (spF K 2 F_law_same) :=
  fn_semG (k := 0) T.F_law_same sc_law_same rfl rfl fun cdv A outer s H E hr hgu =>
  (jb_one (js_ret (je_c (c_eq hr) (je_repr hr hgu (by rfl) T.z_repr (ja_cons (je_var 0) ja_nil)) (je_repr hr hgu (by rfl) T.z_repr (ja_cons (je_var 1) ja_nil)))))
theorem sc_law_state : FnScope ["box", "system", "values", "datum", "process", "k"] ["box", "system"] (defScope (topS 39)) := ⟨rfl, rfl, rfl, by decide +kernel, rfl, by decide +kernel, by decide +kernel⟩
theorem ok_law_state (T : Tx K mg w) : FnOk P w K mg base CX0 3 T.f_law_state T.d_law_state ["box", "system"] (spF K 2 F_law_state) :=
  fn_sem (k := 2) T.F_law_state sc_law_state rfl rfl fun cdv A outer s H E hr =>
  (jb_cons (js_set (i := 2) sc_law_state.nd rfl (by first | exact .inl rfl | exact .inr rfl) (je_lst ja_nil)) (jb_cons (js_for (vs := [3]) PassesOwn.never rfl (ji_seq (je_at (je_var 1) je_int)) (jg_name (i := 3) sc_law_state.nd rfl (by first | exact .inl rfl | exact .inr rfl) (by decide)) (jb_one (js_if (jt_c (c_eq hr) (je_at (je_var 3) je_int) je_str) (jb_one (js_expr (je_append (je_var 2) (je_ad (je_add (je_at (je_var 3) je_int) (je_call (ok_law_draw T) (hr.mono (by decide)) (by rfl) T.m_law_draw T.F_law_draw.kp T.b_law_draw (ja_cons (je_var 0) (ja_cons (je_ad (je_add (je_sub (je_at (je_var 3) je_int) (je_at (je_var 3) je_int)) je_int)) ja_nil)) (lenA_cons (lenA_cons lenA_nil)) rfl)))))) (jb_one (js_expr (je_append (je_var 2) (je_tuple (by rfl) T.z_tuple (ja_cons (je_comp (own := [(("k" : Str), 5)]) rfl sc_law_state.nd (ji_rng1 (by rfl) T.z_range (ja_cons (je_call (ok_law_draw T) (hr.mono (by decide)) (by rfl) T.m_law_draw T.F_law_draw.kp T.b_law_draw (ja_cons (je_var 0) (ja_cons (je_ad (je_add (je_at (je_var 3) je_int) je_int)) ja_nil)) (lenA_cons (lenA_cons lenA_nil)) rfl) ja_nil)) (blkOk_by (by kernel_rfl)) (fun _ _ _ _ _ => (jg_name (i := 5) sc_law_state.nd rfl (by first | exact .inl rfl | exact .inr rfl) (by decide))) (fun _ _ _ _ _ => jts_nil) (fun _ _ _ _ _ => (je_add (je_at (je_var 3) je_int) (je_call (ok_law_draw T) (hr.mono (by decide)) (by rfl) T.m_law_draw T.F_law_draw.kp T.b_law_draw (ja_cons (je_var 0) (ja_cons (je_ad (je_add (je_sub (je_at (je_var 3) je_int) (je_at (je_var 3) je_int)) je_int)) ja_nil)) (lenA_cons (lenA_cons lenA_nil)) rfl)))) ja_nil)))))))) (jb_one (js_ret (je_tup (ja_cons (je_tuple (by rfl) T.z_tuple (ja_cons (je_comp (own := [(("process" : Str), 4)]) rfl sc_law_state.nd (ji_seq (je_at (je_var 1) je_int)) (blkOk_by (by kernel_rfl)) (fun _ _ _ _ _ => (jg_name (i := 4) sc_law_state.nd rfl (by first | exact .inl rfl | exact .inr rfl) (by decide))) (fun _ _ _ _ _ => jts_nil) (fun _ _ _ _ _ => (je_call (ok_law_pick T) (hr.mono (by decide)) (by rfl) T.m_law_pick T.F_law_pick.kp T.b_law_pick (ja_cons (je_var 0) (ja_cons (je_at (je_var 4) je_int) ja_nil)) (lenA_cons (lenA_cons lenA_nil)) rfl))) ja_nil)) (ja_cons (je_tuple (by rfl) T.z_tuple (ja_cons (je_var 2) ja_nil)) ja_nil)))))))
theorem sc_law_spoilt : FnScope ["box", "system", "state", "places", "values", "at", "datum", "kind", "k"] ["box", "system", "state"] (defScope (topS 40)) := ⟨rfl, rfl, rfl, by decide +kernel, rfl, by decide +kernel, by decide +kernel⟩
theorem ok_law_spoilt (T : Tx K mg w) : FnOk P w K mg base CX0 2 T.f_law_spoilt T.d_law_spoilt ["box", "system", "state"] (spF K 3 F_law_spoilt) :=
  fn_sem (k := 1) T.F_law_spoilt sc_law_spoilt rfl rfl fun cdv A outer s H E hr =>
  (jb_cons (js_set (i := 3) sc_law_spoilt.nd rfl (by first | exact .inl rfl | exact .inr rfl) (je_list (by rfl) T.z_list (ja_cons (je_at (je_var 2) je_int) ja_nil))) (jb_cons (js_set (i := 4) sc_law_spoilt.nd rfl (by first | exact .inl rfl | exact .inr rfl) (je_list (by rfl) T.z_list (ja_cons (je_at (je_var 2) je_int) ja_nil))) (jb_cons (js_set (i := 5) sc_law_spoilt.nd rfl (by first | exact .inl rfl | exact .inr rfl) (je_call (ok_law_draw T) (hr.mono (by decide)) (by rfl) T.m_law_draw T.F_law_draw.kp T.b_law_draw (ja_cons (je_var 0) (ja_cons (je_len (by rfl) T.z_len (ja_cons (je_var 4) ja_nil)) ja_nil)) (lenA_cons (lenA_cons lenA_nil)) rfl)) (jb_cons (js_set (i := 6) sc_law_spoilt.nd rfl (by first | exact .inl rfl | exact .inr rfl) (je_at (je_at (je_var 1) je_int) (je_var 5))) (jb_cons (js_set (i := 7) sc_law_spoilt.nd rfl (by first | exact .inl rfl | exact .inr rfl) (je_call (ok_law_draw T) (hr.mono (by decide)) (by rfl) T.m_law_draw T.F_law_draw.kp T.b_law_draw (ja_cons (je_var 0) (ja_cons je_int ja_nil)) (lenA_cons (lenA_cons lenA_nil)) rfl)) (jb_cons (js_if (jt_c (c_eq hr) (je_var 7) je_int) (jb_one (js_ret (je_lst (ja_cons (je_tup (ja_cons (je_tuple (by rfl) T.z_tuple (ja_cons (je_sl (je_var 3) (jo_some je_int) jo_none) ja_nil)) (ja_cons (je_at (je_var 2) je_int) ja_nil))) (ja_cons je_bl ja_nil))))) jb_nil) (jb_cons (js_if (jt_c (c_eq hr) (je_var 7) je_int) (jb_one (js_ret (je_lst (ja_cons (je_tup (ja_cons (je_at (je_var 2) je_int) (ja_cons (je_tuple (by rfl) T.z_tuple (ja_cons (je_add (je_var 4) (je_lst (ja_cons je_int ja_nil))) ja_nil)) ja_nil))) (ja_cons je_bl ja_nil))))) jb_nil) (jb_cons (js_if (jt_c (c_eq hr) (je_var 7) je_int) (jb_cons (js_set (i := 8) sc_law_spoilt.nd rfl (by first | exact .inl rfl | exact .inr rfl) (je_call (ok_law_draw T) (hr.mono (by decide)) (by rfl) T.m_law_draw T.F_law_draw.kp T.b_law_draw (ja_cons (je_var 0) (ja_cons (je_len (by rfl) T.z_len (ja_cons (je_var 3) ja_nil)) ja_nil)) (lenA_cons (lenA_cons lenA_nil)) rfl)) (jb_cons (js_asg (vs := []) je_str (jg_sub (je_var 3) (je_var 8))) (jb_one (js_ret (je_lst (ja_cons (je_tup (ja_cons (je_tuple (by rfl) T.z_tuple (ja_cons (je_var 3) ja_nil)) (ja_cons (je_at (je_var 2) je_int) ja_nil))) (ja_cons je_bl ja_nil))))))) jb_nil) (jb_cons (js_if (jt_c (c_eq hr) (je_at (je_var 6) je_int) je_str) (jb_one (js_asg (vs := []) (je_at (je_lst (ja_cons (je_ad (je_add (je_at (je_var 6) je_int) je_int)) (ja_cons (je_sub (je_at (je_var 6) je_int) je_int) (ja_cons (je_tup ja_nil) (ja_cons je_bl ja_nil))))) (je_call (ok_law_draw T) (hr.mono (by decide)) (by rfl) T.m_law_draw T.F_law_draw.kp T.b_law_draw (ja_cons (je_var 0) (ja_cons je_int ja_nil)) (lenA_cons (lenA_cons lenA_nil)) rfl)) (jg_sub (je_var 4) (je_var 5)))) (jb_one (js_asg (vs := []) (je_at (je_lst (ja_cons (je_ad (je_tmul (je_tup (ja_cons (je_at (je_var 6) je_int) ja_nil)) (je_add (je_at (je_var 6) je_int) je_int))) (ja_cons (je_tup (ja_cons (je_ad (je_add (je_at (je_var 6) je_int) je_int)) ja_nil)) (ja_cons (je_tup (ja_cons (je_sub (je_at (je_var 6) je_int) je_int) ja_nil)) (ja_cons je_int (ja_cons (je_tup (ja_cons je_bl ja_nil)) ja_nil)))))) (je_call (ok_law_draw T) (hr.mono (by decide)) (by rfl) T.m_law_draw T.F_law_draw.kp T.b_law_draw (ja_cons (je_var 0) (ja_cons je_int ja_nil)) (lenA_cons (lenA_cons lenA_nil)) rfl)) (jg_sub (je_var 4) (je_var 5))))) (jb_cons (js_if (jt_c (c_eq hr) (je_var 7) je_int) (jb_one (js_ret (je_lst (ja_cons (je_tup (ja_cons (je_at (je_var 2) je_int) (ja_cons (je_tuple (by rfl) T.z_tuple (ja_cons (je_var 4) ja_nil)) ja_nil))) (ja_cons je_bl ja_nil))))) jb_nil) (jb_one (js_ret (je_lst (ja_cons (je_var 2) (ja_cons je_bl ja_nil)))))))))))))))
theorem sc_law_asking : FnScope ["box", "system", "process", "number", "value", "move", "origin", "target", "datum"] ["box", "system"] (defScope (topS 41)) := ⟨rfl, rfl, rfl, by decide +kernel, rfl, by decide +kernel, by decide +kernel⟩
theorem ok_law_asking (T : Tx K mg w) : FnOk P w K mg base CX0 2 T.f_law_asking T.d_law_asking ["box", "system"] (spF K 2 F_law_asking) :=
  fn_sem (k := 1) T.F_law_asking sc_law_asking rfl rfl fun cdv A outer s H E hr =>
  (jb_cons (js_set (i := 2) sc_law_asking.nd rfl (by first | exact .inl rfl | exact .inr rfl) (je_at (je_at (je_var 1) je_int) je_int)) (jb_cons (js_set (i := 3) sc_law_asking.nd rfl (by first | exact .inl rfl | exact .inr rfl) (je_at (je_comp (own := [(("datum" : Str), 8)]) rfl sc_law_asking.nd (ji_seq (je_at (je_var 1) je_int)) (blkOk_by (by kernel_rfl)) (fun _ _ _ _ _ => (jg_name (i := 8) sc_law_asking.nd rfl (by first | exact .inl rfl | exact .inr rfl) (by decide))) (fun _ _ _ _ _ => (jts_one (jt_c (c_eq hr) (je_at (je_var 8) je_int) je_str))) (fun _ _ _ _ _ => (je_var 8))) je_int)) (jb_cons (js_par (i := 6) (j := 7) sc_law_asking.nd rfl rfl (by decide) rfl rfl (ja_cons (je_at (je_at (je_var 2) je_int) je_int) (ja_cons (je_at (je_at (je_var 2) je_int) (je_neg je_int)) ja_nil))) (jb_cons (js_set (i := 4) sc_law_asking.nd rfl (by first | exact .inl rfl | exact .inr rfl) (je_tup (ja_cons je_str (ja_cons (je_tup (ja_cons je_str (ja_cons (je_at (je_var 2) je_int) (ja_cons (je_at (je_lst (ja_cons (je_var 6) (ja_cons (je_var 7) ja_nil))) (je_call (ok_law_draw T) (hr.mono (by decide)) (by rfl) T.m_law_draw T.F_law_draw.kp T.b_law_draw (ja_cons (je_var 0) (ja_cons je_int ja_nil)) (lenA_cons (lenA_cons lenA_nil)) rfl)) ja_nil)))) (ja_cons (je_tup (ja_cons je_str (ja_cons (je_at (je_var 3) je_int) ja_nil))) (ja_cons (je_tup (ja_cons je_str (ja_cons (je_at (je_var 3) je_int) ja_nil))) ja_nil)))))) (jb_cons (js_set (i := 5) sc_law_asking.nd rfl (by first | exact .inl rfl | exact .inr rfl) (je_tup (ja_cons je_str (ja_cons (je_var 6) (ja_cons (je_var 7) (ja_cons (je_tup (ja_cons je_str ja_nil)) (ja_cons (je_tup (ja_cons (je_tup (ja_cons je_str (ja_cons (je_at (je_var 3) je_int) (ja_cons (je_var 4) ja_nil)))) ja_nil)) ja_nil))))))) (jb_one (js_ret (je_add (je_sl (je_var 1) jo_none (jo_some je_int)) (je_tup (ja_cons (je_ad (je_add (je_tup (ja_cons (je_ad (je_add (je_sl (je_var 2) jo_none (jo_some je_int)) (je_tup (ja_cons (je_ad (je_add (je_tup (ja_cons (je_var 5) ja_nil)) (je_at (je_var 2) je_int))) ja_nil)))) ja_nil)) (je_sl (je_at (je_var 1) je_int) (jo_some je_int) jo_none))) ja_nil))))))))))
theorem sc_law : FnScope ["script", "box", "system", "asking", "states", "turn", "state", "due", "behind", "e", "step", "target", "other", "right"] ["script"] (defScope (topS 42)) := ⟨rfl, rfl, rfl, by decide +kernel, rfl, by decide +kernel, by decide +kernel⟩
theorem ok_law (T : Tx K mg w) : FnG P w K mg base 16 T.f_law T.d_law ["script"] (spF K 1 F_law) :=
  fn_semG (k := 15) T.F_law sc_law rfl rfl fun cdv A outer s H E hr hgu =>
  (jb_cons (js_set (i := 1) sc_law.nd rfl (by first | exact .inl rfl | exact .inr rfl) (je_lst (ja_cons (je_call (ok_law_digits T) (hr.mono (by decide)) (by rfl) T.m_law_digits T.F_law_digits.kp T.b_law_digits (ja_cons (je_var 0) (ja_cons je_int (ja_cons je_int ja_nil))) (lenA_cons (lenA_cons (lenA_cons lenA_nil))) rfl) (ja_cons je_int ja_nil)))) (jb_cons (js_set (i := 2) sc_law.nd rfl (by first | exact .inl rfl | exact .inr rfl) (je_call (ok_law_system T) (hr.mono (by decide)) (by rfl) T.m_law_system T.F_law_system.kp T.b_law_system (ja_cons (je_var 1) ja_nil) (lenA_cons lenA_nil) rfl)) (jb_cons (js_set (i := 3) sc_law.nd rfl (by first | exact .inl rfl | exact .inr rfl) (je_call (ok_law_asking T) (hr.mono (by decide)) (by rfl) T.m_law_asking T.F_law_asking.kp T.b_law_asking (ja_cons (je_var 1) (ja_cons (je_var 2) ja_nil)) (lenA_cons (lenA_cons lenA_nil)) rfl)) (jb_cons (js_if (jt_not (jt_val (je_callG (ok_law_same T) (hr.mono (by decide)) hgu (by rfl) T.m_law_same T.F_law_same.kp T.b_law_same (ja_cons (je_call (ok_beginning T) (hr.mono (by decide)) (by rfl) T.m_beginning T.F_beginning.kp T.b_beginning (ja_cons (je_var 2) ja_nil) (lenA_cons lenA_nil) rfl) (ja_cons (je_call (ok_law_beginning T) (hr.mono (by decide)) (by rfl) T.m_law_beginning T.F_law_beginning.kp T.b_law_beginning (ja_cons (je_var 2) ja_nil) (lenA_cons lenA_nil) rfl) ja_nil)) (lenA_cons (lenA_cons lenA_nil)) rfl))) (jb_one (js_ret je_bl)) jb_nil) (jb_cons (js_set (i := 4) sc_law.nd rfl (by first | exact .inl rfl | exact .inr rfl) (je_lst (ja_cons (je_call (ok_law_beginning T) (hr.mono (by decide)) (by rfl) T.m_law_beginning T.F_law_beginning.kp T.b_law_beginning (ja_cons (je_var 2) ja_nil) (lenA_cons lenA_nil) rfl) ja_nil))) (jb_cons (js_for (vs := [5]) PassesOwn.never rfl (ji_rng1 (by rfl) T.z_range (ja_cons je_int ja_nil)) (jg_name (i := 5) sc_law.nd rfl (by first | exact .inl rfl | exact .inr rfl) (by decide)) (jb_one (js_expr (je_append (je_var 4) (je_call (ok_law_state T) (hr.mono (by decide)) (by rfl) T.m_law_state T.F_law_state.kp T.b_law_state (ja_cons (je_var 1) (ja_cons (je_var 2) ja_nil)) (lenA_cons (lenA_cons lenA_nil)) rfl))))) (jb_cons (js_for (vs := [6]) PassesOwn.never rfl (ji_seq (je_var 4)) (jg_name (i := 6) sc_law.nd rfl (by first | exact .inl rfl | exact .inr rfl) (by decide)) (jb_cons (js_set (i := 7) sc_law.nd rfl (by first | exact .inl rfl | exact .inr rfl) (je_call (ok_law_enabled T) (hr.mono (by decide)) (by rfl) T.m_law_enabled T.F_law_enabled.kp T.b_law_enabled (ja_cons (je_var 2) (ja_cons (je_var 6) ja_nil)) (lenA_cons (lenA_cons lenA_nil)) rfl)) (jb_cons (js_if (JW.t (jw_or (jt_not (jt_val (je_callG (ok_law_same T) (hr.mono (by decide)) hgu (by rfl) T.m_law_same T.F_law_same.kp T.b_law_same (ja_cons (je_call (ok_enabled T) (hr.mono (by decide)) (by rfl) T.m_enabled T.F_enabled.kp T.b_enabled (ja_cons (je_var 2) (ja_cons (je_var 6) ja_nil)) (lenA_cons (lenA_cons lenA_nil)) rfl) (ja_cons (je_var 7) ja_nil)) (lenA_cons (lenA_cons lenA_nil)) rfl))) (jw_or1 (jt_not (jt_val (je_callG (ok_law_same T) (hr.mono (by decide)) hgu (by rfl) T.m_law_same T.F_law_same.kp T.b_law_same (ja_cons (je_call (ok_enabled T) (hr.mono (by decide)) (by rfl) T.m_enabled T.F_enabled.kp T.b_enabled (ja_cons (je_var 3) (ja_cons (je_var 6) ja_nil)) (lenA_cons (lenA_cons lenA_nil)) rfl) (ja_cons (je_call (ok_law_enabled T) (hr.mono (by decide)) (by rfl) T.m_law_enabled T.F_law_enabled.kp T.b_law_enabled (ja_cons (je_var 3) (ja_cons (je_var 6) ja_nil)) (lenA_cons (lenA_cons lenA_nil)) rfl) ja_nil)) (lenA_cons (lenA_cons lenA_nil)) rfl)))))) (jb_one (js_ret je_bl)) jb_nil) (jb_cons (js_set (i := 8) sc_law.nd rfl (by first | exact .inl rfl | exact .inr rfl) (je_lst ja_nil)) (jb_cons (js_for (vs := [10, 11]) PassesOwn.never rfl (ji_seq (je_var 7)) (jg_tup rfl (jgs_cons (jg_name (i := 10) sc_law.nd rfl (by first | exact .inl rfl | exact .inr rfl) (by decide)) (jgs_cons (jg_name (i := 11) sc_law.nd rfl (by first | exact .inl rfl | exact .inr rfl) (by decide)) jgs_nil))) (jb_one (js_if (jt_c (c_notinD hr) (je_var 11) (je_var 8)) (jb_one (js_expr (je_append (je_var 8) (je_var 11)))) jb_nil))) (jb_cons (js_if (jt_not (jt_val (je_callG (ok_law_same T) (hr.mono (by decide)) hgu (by rfl) T.m_law_same T.F_law_same.kp T.b_law_same (ja_cons (je_call (ok_next_states T) (hr.mono (by decide)) (by rfl) T.m_next_states T.F_next_states.kp T.b_next_states (ja_cons (je_var 2) (ja_cons (je_var 6) ja_nil)) (lenA_cons (lenA_cons lenA_nil)) rfl) (ja_cons (je_ad (je_orX (je_var 8) (je_and1 (je_lst (ja_cons (je_var 6) ja_nil))))) ja_nil)) (lenA_cons (lenA_cons lenA_nil)) rfl))) (jb_one (js_ret je_bl)) jb_nil) (jb_cons (js_set (i := 9) sc_law.nd rfl (by first | exact .inl rfl | exact .inr rfl) (je_at (je_lst (ja_cons (je_call (ok_law_truth T 4) (hr.mono (by decide)) (by rfl) T.m_law_truth T.F_law_truth.kp T.b_law_truth (ja_cons (je_var 1) (ja_cons (je_var 2) (ja_cons je_int ja_nil))) (lenA_cons (lenA_cons (lenA_cons lenA_nil))) rfl) (ja_cons (je_call (ok_law_number T) (hr.mono (by decide)) (by rfl) T.m_law_number T.F_law_number.kp T.b_law_number (ja_cons (je_var 1) (ja_cons (je_var 2) ja_nil)) (lenA_cons (lenA_cons lenA_nil)) rfl) ja_nil))) (je_call (ok_law_draw T) (hr.mono (by decide)) (by rfl) T.m_law_draw T.F_law_draw.kp T.b_law_draw (ja_cons (je_var 1) (ja_cons je_int ja_nil)) (lenA_cons (lenA_cons lenA_nil)) rfl))) (jb_cons (js_if (jt_not (jt_val (je_callG (ok_law_same T) (hr.mono (by decide)) hgu (by rfl) T.m_law_same T.F_law_same.kp T.b_law_same (ja_cons (je_call (ok_value_of T 8) (hr.mono (by decide)) (by rfl) T.m_value_of T.F_value_of.kp T.b_value_of (ja_cons (je_var 2) (ja_cons (je_var 6) (ja_cons (je_var 9) ja_nil))) (lenA_cons (lenA_cons (lenA_cons lenA_nil))) rfl) (ja_cons (je_call (ok_law_value T 8) (hr.mono (by decide)) (by rfl) T.m_law_value T.F_law_value.kp T.b_law_value (ja_cons (je_var 2) (ja_cons (je_var 6) (ja_cons (je_var 9) ja_nil))) (lenA_cons (lenA_cons (lenA_cons lenA_nil))) rfl) ja_nil)) (lenA_cons (lenA_cons lenA_nil)) rfl))) (jb_one (js_ret je_bl)) jb_nil) (jb_cons (js_asg (vs := [12, 13]) (je_call (ok_law_spoilt T) (hr.mono (by decide)) (by rfl) T.m_law_spoilt T.F_law_spoilt.kp T.b_law_spoilt (ja_cons (je_var 1) (ja_cons (je_var 2) (ja_cons (je_var 6) ja_nil))) (lenA_cons (lenA_cons (lenA_cons lenA_nil))) rfl) (jg_tup rfl (jgs_cons (jg_name (i := 12) sc_law.nd rfl (by first | exact .inl rfl | exact .inr rfl) (by decide)) (jgs_cons (jg_name (i := 13) sc_law.nd rfl (by first | exact .inl rfl | exact .inr rfl) (by decide)) jgs_nil)))) (jb_one (js_if (jt_not (jt_val (je_callG (ok_law_same T) (hr.mono (by decide)) hgu (by rfl) T.m_law_same T.F_law_same.kp T.b_law_same (ja_cons (je_call (ok_is_state T) (hr.mono (by decide)) (by rfl) T.m_is_state T.F_is_state.kp T.b_is_state (ja_cons (je_var 2) (ja_cons (je_var 12) ja_nil)) (lenA_cons (lenA_cons lenA_nil)) rfl) (ja_cons (je_var 13) ja_nil)) (lenA_cons (lenA_cons lenA_nil)) rfl))) (jb_one (js_ret je_bl)) jb_nil))))))))))) (jb_one (js_ret je_bl)))))))))
end
end Sm
namespace Sm
open PySem PySem.Spec PyProof.Rows L2
theorem sq_fz {K : PySem.W.Frag} {H : Hp} {a : Addr} {vs : List V} (O : L2.Only H) (h : SqL K H a vs) : FzL K H a vs := by
  rcases h with h | h
  · rcases O a with e | ⟨o, xs, e⟩
    · rcases h with h | ⟨o, h⟩ <;> (rw [e] at h; cases h)
    · rcases h with h | ⟨o', h⟩
      · rw [e] at h; cases h
      · exact .inl ⟨o', h⟩
  · exact .inr (.inr h)
theorem rv_ints {K : PySem.W.Frag} {m : List Addr} {H : Hp} : ∀ ns : List Int, RVs K m H (ns.map V.int) (ns.map D.int)
  | [] => .nil
  | n :: r => .cons (.int n) (rv_ints r)
theorem sim_nil {K : PySem.W.Frag} {H : Hp} : Sim K [] [] H := ⟨rfl, List.nodup_nil, fun i a o h => by cases h⟩
set_option maxHeartbeats 0 in
theorem all_mk {l : PySem.W.OpenLaw} {w : World} {K : PySem.W.Frag} {h : Heap} {mg : Str → Option Value} {dd1 : Addr} {fa f1 f2 f3 f4 f5 f6 f7 f8 f9 f10 f11 f12 f13 f14 f15 f16 f17 f18 f19 f20 f21 f22 f23 f24 f25 f26 f27 f28 f29 f30 f31 f32 f33 f34 f35 f36 f37 f38 f39 : Addr} {od1 an1 od2 an2 od3 an3 od4 an4 od5 an5 od6 an6 od7 an7 od8 an8 od9 an9 od10 an10 od11 an11 od12 an12 od13 an13 od14 an14 od15 an15 od16 an16 od17 an17 od18 an18 od19 an19 od20 an20 od21 an21 od22 an22 od23 an23 od24 an24 od25 an25 od26 an26 od27 an27 od28 an28 od29 an29 od30 an30 od31 an31 od32 an32 od33 an33 od34 an34 od35 an35 od36 an36 od37 an37 od38 an38 od39 an39 : Option Addr} {sl1 sl2 sl3 sl4 sl5 sl6 sl7 sl8 sl9 sl10 sl11 sl12 sl13 sl14 sl15 sl16 sl17 sl18 sl19 sl20 sl21 sl22 sl23 sl24 sl25 sl26 sl27 sl28 sl29 sl30 sl31 sl32 sl33 sl34 sl35 sl36 sl37 sl38 sl39 : Array (Option Value)} {oc1 kV1 dc1 pm1 cd1 ct1 oc2 kV2 dc2 pm2 cd2 ct2 oc3 kV3 dc3 pm3 cd3 ct3 oc4 kV4 dc4 pm4 cd4 ct4 oc5 kV5 dc5 pm5 cd5 ct5 oc6 kV6 dc6 pm6 cd6 ct6 oc7 kV7 dc7 pm7 cd7 ct7 oc8 kV8 dc8 pm8 cd8 ct8 oc9 kV9 dc9 pm9 cd9 ct9 oc10 kV10 dc10 pm10 cd10 ct10 oc11 kV11 dc11 pm11 cd11 ct11 oc12 kV12 dc12 pm12 cd12 ct12 oc13 kV13 dc13 pm13 cd13 ct13 oc14 kV14 dc14 pm14 cd14 ct14 oc15 kV15 dc15 pm15 cd15 ct15 oc16 kV16 dc16 pm16 cd16 ct16 oc17 kV17 dc17 pm17 cd17 ct17 oc18 kV18 dc18 pm18 cd18 ct18 oc19 kV19 dc19 pm19 cd19 ct19 oc20 kV20 dc20 pm20 cd20 ct20 oc21 kV21 dc21 pm21 cd21 ct21 oc22 kV22 dc22 pm22 cd22 ct22 oc23 kV23 dc23 pm23 cd23 ct23 oc24 kV24 dc24 pm24 cd24 ct24 oc25 kV25 dc25 pm25 cd25 ct25 oc26 kV26 dc26 pm26 cd26 ct26 oc27 kV27 dc27 pm27 cd27 ct27 oc28 kV28 dc28 pm28 cd28 ct28 oc29 kV29 dc29 pm29 cd29 ct29 oc30 kV30 dc30 pm30 cd30 ct30 oc31 kV31 dc31 pm31 cd31 ct31 oc32 kV32 dc32 pm32 cd32 ct32 oc33 kV33 dc33 pm33 cd33 ct33 oc34 kV34 dc34 pm34 cd34 ct34 oc35 kV35 dc35 pm35 cd35 ct35 oc36 kV36 dc36 pm36 cd36 ct36 oc37 kV37 dc37 pm37 cd37 ct37 oc38 kV38 dc38 pm38 cd38 ct38 oc39 kV39 dc39 pm39 cd39 ct39 : Value} (X : K.In h) (G : h.Ns mainGlobals mg) (hfa : mg "law" = some (.ref fa))
    (a1 : PySem.W.nsIn K mainGlobals "place_in" = some (some (.ref f1))) (l1 : K.lookup f1 = some ⟨oc1, od1, .func (PySem.W.fnOf "place_in" "place_in" (defArgs (topS 2)) (defBody (topS 2)) (defScope (topS 2)) .none kV1 dc1 pm1 an1 cd1 ct1), sl1⟩) (c1 : PySem.W.codeIn K cd1 "place_in" = true) (k1 : PySem.W.keepIn K (.ref f1) = true)
    (a2 : PySem.W.nsIn K mainGlobals "value_of_atom" = some (some (.ref f2))) (l2 : K.lookup f2 = some ⟨oc2, od2, .func (PySem.W.fnOf "value_of_atom" "value_of_atom" (defArgs (topS 3)) (defBody (topS 3)) (defScope (topS 3)) .none kV2 dc2 pm2 an2 cd2 ct2), sl2⟩) (c2 : PySem.W.codeIn K cd2 "value_of_atom" = true) (k2 : PySem.W.keepIn K (.ref f2) = true)
    (a3 : PySem.W.nsIn K mainGlobals "compared" = some (some (.ref f3))) (l3 : K.lookup f3 = some ⟨oc3, od3, .func (PySem.W.fnOf "compared" "compared" (defArgs (topS 5)) (defBody (topS 5)) (defScope (topS 5)) .none kV3 dc3 pm3 an3 cd3 ct3), sl3⟩) (c3 : PySem.W.codeIn K cd3 "compared" = true) (k3 : PySem.W.keepIn K (.ref f3) = true)
    (a4 : PySem.W.nsIn K mainGlobals "value_of" = some (some (.ref f4))) (l4 : K.lookup f4 = some ⟨oc4, od4, .func (PySem.W.fnOf "value_of" "value_of" (defArgs (topS 4)) (defBody (topS 4)) (defScope (topS 4)) .none kV4 dc4 pm4 an4 cd4 ct4), sl4⟩) (c4 : PySem.W.codeIn K cd4 "value_of" = true) (k4 : PySem.W.keepIn K (.ref f4) = true)
    (a5 : PySem.W.nsIn K mainGlobals "beginning" = some (some (.ref f5))) (l5 : K.lookup f5 = some ⟨oc5, od5, .func (PySem.W.fnOf "beginning" "beginning" (defArgs (topS 7)) (defBody (topS 7)) (defScope (topS 7)) .none kV5 dc5 pm5 an5 cd5 ct5), sl5⟩) (c5 : PySem.W.codeIn K cd5 "beginning" = true) (k5 : PySem.W.keepIn K (.ref f5) = true)
    (a6 : PySem.W.nsIn K mainGlobals "is_whole" = some (some (.ref f6))) (l6 : K.lookup f6 = some ⟨oc6, od6, .func (PySem.W.fnOf "is_whole" "is_whole" (defArgs (topS 8)) (defBody (topS 8)) (defScope (topS 8)) .none kV6 dc6 pm6 an6 cd6 ct6), sl6⟩) (c6 : PySem.W.codeIn K cd6 "is_whole" = true) (k6 : PySem.W.keepIn K (.ref f6) = true)
    (a7 : PySem.W.nsIn K mainGlobals "is_value" = some (some (.ref f7))) (l7 : K.lookup f7 = some ⟨oc7, od7, .func (PySem.W.fnOf "is_value" "is_value" (defArgs (topS 9)) (defBody (topS 9)) (defScope (topS 9)) .none kV7 dc7 pm7 an7 cd7 ct7), sl7⟩) (c7 : PySem.W.codeIn K cd7 "is_value" = true) (k7 : PySem.W.keepIn K (.ref f7) = true)
    (a8 : PySem.W.nsIn K mainGlobals "is_state" = some (some (.ref f8))) (l8 : K.lookup f8 = some ⟨oc8, od8, .func (PySem.W.fnOf "is_state" "is_state" (defArgs (topS 10)) (defBody (topS 10)) (defScope (topS 10)) .none kV8 dc8 pm8 an8 cd8 ct8), sl8⟩) (c8 : PySem.W.codeIn K cd8 "is_state" = true) (k8 : PySem.W.keepIn K (.ref f8) = true)
    (a9 : PySem.W.nsIn K mainGlobals "with_value" = some (some (.ref f9))) (l9 : K.lookup f9 = some ⟨oc9, od9, .func (PySem.W.fnOf "with_value" "with_value" (defArgs (topS 11)) (defBody (topS 11)) (defScope (topS 11)) .none kV9 dc9 pm9 an9 cd9 ct9), sl9⟩) (c9 : PySem.W.codeIn K cd9 "with_value" = true) (k9 : PySem.W.keepIn K (.ref f9) = true)
    (a10 : PySem.W.nsIn K mainGlobals "set_done" = some (some (.ref f10))) (l10 : K.lookup f10 = some ⟨oc10, od10, .func (PySem.W.fnOf "set_done" "set_done" (defArgs (topS 12)) (defBody (topS 12)) (defScope (topS 12)) .none kV10 dc10 pm10 an10 cd10 ct10), sl10⟩) (c10 : PySem.W.codeIn K cd10 "set_done" = true) (k10 : PySem.W.keepIn K (.ref f10) = true)
    (a11 : PySem.W.nsIn K mainGlobals "put_done" = some (some (.ref f11))) (l11 : K.lookup f11 = some ⟨oc11, od11, .func (PySem.W.fnOf "put_done" "put_done" (defArgs (topS 13)) (defBody (topS 13)) (defScope (topS 13)) .none kV11 dc11 pm11 an11 cd11 ct11), sl11⟩) (c11 : PySem.W.codeIn K cd11 "put_done" = true) (k11 : PySem.W.keepIn K (.ref f11) = true)
    (a12 : PySem.W.nsIn K mainGlobals "take_done" = some (some (.ref f12))) (l12 : K.lookup f12 = some ⟨oc12, od12, .func (PySem.W.fnOf "take_done" "take_done" (defArgs (topS 14)) (defBody (topS 14)) (defScope (topS 14)) .none kV12 dc12 pm12 an12 cd12 ct12), sl12⟩) (c12 : PySem.W.codeIn K cd12 "take_done" = true) (k12 : PySem.W.keepIn K (.ref f12) = true)
    (a13 : PySem.W.nsIn K mainGlobals "deed_done" = some (some (.ref f13))) (l13 : K.lookup f13 = some ⟨oc13, od13, .func (PySem.W.fnOf "deed_done" "deed_done" (defArgs (topS 15)) (defBody (topS 15)) (defScope (topS 15)) .none kV13 dc13 pm13 an13 cd13 ct13), sl13⟩) (c13 : PySem.W.codeIn K cd13 "deed_done" = true) (k13 : PySem.W.keepIn K (.ref f13) = true)
    (a14 : PySem.W.nsIn K mainGlobals "move_done" = some (some (.ref f14))) (l14 : K.lookup f14 = some ⟨oc14, od14, .func (PySem.W.fnOf "move_done" "move_done" (defArgs (topS 16)) (defBody (topS 16)) (defScope (topS 16)) .none kV14 dc14 pm14 an14 cd14 ct14), sl14⟩) (c14 : PySem.W.codeIn K cd14 "move_done" = true) (k14 : PySem.W.keepIn K (.ref f14) = true)
    (a15 : PySem.W.nsIn K mainGlobals "enabled" = some (some (.ref f15))) (l15 : K.lookup f15 = some ⟨oc15, od15, .func (PySem.W.fnOf "enabled" "enabled" (defArgs (topS 17)) (defBody (topS 17)) (defScope (topS 17)) .none kV15 dc15 pm15 an15 cd15 ct15), sl15⟩) (c15 : PySem.W.codeIn K cd15 "enabled" = true) (k15 : PySem.W.keepIn K (.ref f15) = true)
    (a16 : PySem.W.nsIn K mainGlobals "next_states" = some (some (.ref f16))) (l16 : K.lookup f16 = some ⟨oc16, od16, .func (PySem.W.fnOf "next_states" "next_states" (defArgs (topS 18)) (defBody (topS 18)) (defScope (topS 18)) .none kV16 dc16 pm16 an16 cd16 ct16), sl16⟩) (c16 : PySem.W.codeIn K cd16 "next_states" = true) (k16 : PySem.W.keepIn K (.ref f16) = true)
    (a17 : PySem.W.nsIn K mainGlobals "_law_cell" = some (some (.ref f17))) (l17 : K.lookup f17 = some ⟨oc17, od17, .func (PySem.W.fnOf "_law_cell" "_law_cell" (defArgs (topS 20)) (defBody (topS 20)) (defScope (topS 20)) .none kV17 dc17 pm17 an17 cd17 ct17), sl17⟩) (c17 : PySem.W.codeIn K cd17 "_law_cell" = true) (k17 : PySem.W.keepIn K (.ref f17) = true)
    (a18 : PySem.W.nsIn K mainGlobals "_law_digits" = some (some (.ref f18))) (l18 : K.lookup f18 = some ⟨oc18, od18, .func (PySem.W.fnOf "_law_digits" "_law_digits" (defArgs (topS 21)) (defBody (topS 21)) (defScope (topS 21)) .none kV18 dc18 pm18 an18 cd18 ct18), sl18⟩) (c18 : PySem.W.codeIn K cd18 "_law_digits" = true) (k18 : PySem.W.keepIn K (.ref f18) = true)
    (a19 : PySem.W.nsIn K mainGlobals "_law_draw" = some (some (.ref f19))) (l19 : K.lookup f19 = some ⟨oc19, od19, .func (PySem.W.fnOf "_law_draw" "_law_draw" (defArgs (topS 22)) (defBody (topS 22)) (defScope (topS 22)) .none kV19 dc19 pm19 an19 cd19 ct19), sl19⟩) (c19 : PySem.W.codeIn K cd19 "_law_draw" = true) (k19 : PySem.W.keepIn K (.ref f19) = true)
    (a20 : PySem.W.nsIn K mainGlobals "_law_pick" = some (some (.ref f20))) (l20 : K.lookup f20 = some ⟨oc20, od20, .func (PySem.W.fnOf "_law_pick" "_law_pick" (defArgs (topS 23)) (defBody (topS 23)) (defScope (topS 23)) .none kV20 dc20 pm20 an20 cd20 ct20), sl20⟩) (c20 : PySem.W.codeIn K cd20 "_law_pick" = true) (k20 : PySem.W.keepIn K (.ref f20) = true)
    (a21 : PySem.W.nsIn K mainGlobals "_law_names" = some (some (.ref f21))) (l21 : K.lookup f21 = some ⟨oc21, od21, .func (PySem.W.fnOf "_law_names" "_law_names" (defArgs (topS 24)) (defBody (topS 24)) (defScope (topS 24)) .none kV21 dc21 pm21 an21 cd21 ct21), sl21⟩) (c21 : PySem.W.codeIn K cd21 "_law_names" = true) (k21 : PySem.W.keepIn K (.ref f21) = true)
    (a22 : PySem.W.nsIn K mainGlobals "_law_place" = some (some (.ref f22))) (l22 : K.lookup f22 = some ⟨oc22, od22, .func (PySem.W.fnOf "_law_place" "_law_place" (defArgs (topS 25)) (defBody (topS 25)) (defScope (topS 25)) .none kV22 dc22 pm22 an22 cd22 ct22), sl22⟩) (c22 : PySem.W.codeIn K cd22 "_law_place" = true) (k22 : PySem.W.keepIn K (.ref f22) = true)
    (a23 : PySem.W.nsIn K mainGlobals "_law_value" = some (some (.ref f23))) (l23 : K.lookup f23 = some ⟨oc23, od23, .func (PySem.W.fnOf "_law_value" "_law_value" (defArgs (topS 26)) (defBody (topS 26)) (defScope (topS 26)) .none kV23 dc23 pm23 an23 cd23 ct23), sl23⟩) (c23 : PySem.W.codeIn K cd23 "_law_value" = true) (k23 : PySem.W.keepIn K (.ref f23) = true)
    (a24 : PySem.W.nsIn K mainGlobals "_law_done" = some (some (.ref f24))) (l24 : K.lookup f24 = some ⟨oc24, od24, .func (PySem.W.fnOf "_law_done" "_law_done" (defArgs (topS 27)) (defBody (topS 27)) (defScope (topS 27)) .none kV24 dc24 pm24 an24 cd24 ct24), sl24⟩) (c24 : PySem.W.codeIn K cd24 "_law_done" = true) (k24 : PySem.W.keepIn K (.ref f24) = true)
    (a25 : PySem.W.nsIn K mainGlobals "_law_moved" = some (some (.ref f25))) (l25 : K.lookup f25 = some ⟨oc25, od25, .func (PySem.W.fnOf "_law_moved" "_law_moved" (defArgs (topS 28)) (defBody (topS 28)) (defScope (topS 28)) .none kV25 dc25 pm25 an25 cd25 ct25), sl25⟩) (c25 : PySem.W.codeIn K cd25 "_law_moved" = true) (k25 : PySem.W.keepIn K (.ref f25) = true)
    (a26 : PySem.W.nsIn K mainGlobals "_law_enabled" = some (some (.ref f26))) (l26 : K.lookup f26 = some ⟨oc26, od26, .func (PySem.W.fnOf "_law_enabled" "_law_enabled" (defArgs (topS 29)) (defBody (topS 29)) (defScope (topS 29)) .none kV26 dc26 pm26 an26 cd26 ct26), sl26⟩) (c26 : PySem.W.codeIn K cd26 "_law_enabled" = true) (k26 : PySem.W.keepIn K (.ref f26) = true)
    (a27 : PySem.W.nsIn K mainGlobals "_law_beginning" = some (some (.ref f27))) (l27 : K.lookup f27 = some ⟨oc27, od27, .func (PySem.W.fnOf "_law_beginning" "_law_beginning" (defArgs (topS 30)) (defBody (topS 30)) (defScope (topS 30)) .none kV27 dc27 pm27 an27 cd27 ct27), sl27⟩) (c27 : PySem.W.codeIn K cd27 "_law_beginning" = true) (k27 : PySem.W.keepIn K (.ref f27) = true)
    (a28 : PySem.W.nsIn K mainGlobals "_law_number" = some (some (.ref f28))) (l28 : K.lookup f28 = some ⟨oc28, od28, .func (PySem.W.fnOf "_law_number" "_law_number" (defArgs (topS 31)) (defBody (topS 31)) (defScope (topS 31)) .none kV28 dc28 pm28 an28 cd28 ct28), sl28⟩) (c28 : PySem.W.codeIn K cd28 "_law_number" = true) (k28 : PySem.W.keepIn K (.ref f28) = true)
    (a29 : PySem.W.nsIn K mainGlobals "_law_truth" = some (some (.ref f29))) (l29 : K.lookup f29 = some ⟨oc29, od29, .func (PySem.W.fnOf "_law_truth" "_law_truth" (defArgs (topS 32)) (defBody (topS 32)) (defScope (topS 32)) .none kV29 dc29 pm29 an29 cd29 ct29), sl29⟩) (c29 : PySem.W.codeIn K cd29 "_law_truth" = true) (k29 : PySem.W.keepIn K (.ref f29) = true)
    (a30 : PySem.W.nsIn K mainGlobals "_law_deed" = some (some (.ref f30))) (l30 : K.lookup f30 = some ⟨oc30, od30, .func (PySem.W.fnOf "_law_deed" "_law_deed" (defArgs (topS 33)) (defBody (topS 33)) (defScope (topS 33)) .none kV30 dc30 pm30 an30 cd30 ct30), sl30⟩) (c30 : PySem.W.codeIn K cd30 "_law_deed" = true) (k30 : PySem.W.keepIn K (.ref f30) = true)
    (a31 : PySem.W.nsIn K mainGlobals "_law_drawn" = some (some (.ref f31))) (l31 : K.lookup f31 = some ⟨oc31, od31, .func (PySem.W.fnOf "_law_drawn" "_law_drawn" (defArgs (topS 34)) (defBody (topS 34)) (defScope (topS 34)) .none kV31 dc31 pm31 an31 cd31 ct31), sl31⟩) (c31 : PySem.W.codeIn K cd31 "_law_drawn" = true) (k31 : PySem.W.keepIn K (.ref f31) = true)
    (a32 : PySem.W.nsIn K mainGlobals "_law_lock" = some (some (.ref f32))) (l32 : K.lookup f32 = some ⟨oc32, od32, .func (PySem.W.fnOf "_law_lock" "_law_lock" (defArgs (topS 35)) (defBody (topS 35)) (defScope (topS 35)) .none kV32 dc32 pm32 an32 cd32 ct32), sl32⟩) (c32 : PySem.W.codeIn K cd32 "_law_lock" = true) (k32 : PySem.W.keepIn K (.ref f32) = true)
    (a33 : PySem.W.nsIn K mainGlobals "_law_line" = some (some (.ref f33))) (l33 : K.lookup f33 = some ⟨oc33, od33, .func (PySem.W.fnOf "_law_line" "_law_line" (defArgs (topS 36)) (defBody (topS 36)) (defScope (topS 36)) .none kV33 dc33 pm33 an33 cd33 ct33), sl33⟩) (c33 : PySem.W.codeIn K cd33 "_law_line" = true) (k33 : PySem.W.keepIn K (.ref f33) = true)
    (a34 : PySem.W.nsIn K mainGlobals "_law_system" = some (some (.ref f34))) (l34 : K.lookup f34 = some ⟨oc34, od34, .func (PySem.W.fnOf "_law_system" "_law_system" (defArgs (topS 37)) (defBody (topS 37)) (defScope (topS 37)) .none kV34 dc34 pm34 an34 cd34 ct34), sl34⟩) (c34 : PySem.W.codeIn K cd34 "_law_system" = true) (k34 : PySem.W.keepIn K (.ref f34) = true)
    (a35 : PySem.W.nsIn K mainGlobals "_law_same" = some (some (.ref f35))) (l35 : K.lookup f35 = some ⟨oc35, od35, .func (PySem.W.fnOf "_law_same" "_law_same" (defArgs (topS 38)) (defBody (topS 38)) (defScope (topS 38)) .none kV35 dc35 pm35 an35 cd35 ct35), sl35⟩) (c35 : PySem.W.codeIn K cd35 "_law_same" = true) (k35 : PySem.W.keepIn K (.ref f35) = true)
    (a36 : PySem.W.nsIn K mainGlobals "_law_state" = some (some (.ref f36))) (l36 : K.lookup f36 = some ⟨oc36, od36, .func (PySem.W.fnOf "_law_state" "_law_state" (defArgs (topS 39)) (defBody (topS 39)) (defScope (topS 39)) .none kV36 dc36 pm36 an36 cd36 ct36), sl36⟩) (c36 : PySem.W.codeIn K cd36 "_law_state" = true) (k36 : PySem.W.keepIn K (.ref f36) = true)
    (a37 : PySem.W.nsIn K mainGlobals "_law_spoilt" = some (some (.ref f37))) (l37 : K.lookup f37 = some ⟨oc37, od37, .func (PySem.W.fnOf "_law_spoilt" "_law_spoilt" (defArgs (topS 40)) (defBody (topS 40)) (defScope (topS 40)) .none kV37 dc37 pm37 an37 cd37 ct37), sl37⟩) (c37 : PySem.W.codeIn K cd37 "_law_spoilt" = true) (k37 : PySem.W.keepIn K (.ref f37) = true)
    (a38 : PySem.W.nsIn K mainGlobals "_law_asking" = some (some (.ref f38))) (l38 : K.lookup f38 = some ⟨oc38, od38, .func (PySem.W.fnOf "_law_asking" "_law_asking" (defArgs (topS 41)) (defBody (topS 41)) (defScope (topS 41)) .none kV38 dc38 pm38 an38 cd38 ct38), sl38⟩) (c38 : PySem.W.codeIn K cd38 "_law_asking" = true) (k38 : PySem.W.keepIn K (.ref f38) = true)
    (a39 : PySem.W.nsIn K mainGlobals "law" = some (some (.ref f39))) (l39 : K.lookup f39 = some ⟨oc39, od39, .func (PySem.W.fnOf "law" "law" (defArgs (topS 42)) (defBody (topS 42)) (defScope (topS 42)) .none kV39 dc39 pm39 an39 cd39 ct39), sl39⟩) (c39 : PySem.W.codeIn K cd39 "law" = true) (k39 : PySem.W.keepIn K (.ref f39) = true)
    (z1 : PySem.W.nsIn K mainGlobals "all" = some none)
    (z2 : PySem.W.nsIn K mainGlobals "bool" = some none)
    (z3 : PySem.W.nsIn K mainGlobals "enumerate" = some none)
    (z4 : PySem.W.nsIn K mainGlobals "int" = some none)
    (z5 : PySem.W.nsIn K mainGlobals "isinstance" = some none)
    (z6 : PySem.W.nsIn K mainGlobals "len" = some none)
    (z7 : PySem.W.nsIn K mainGlobals "list" = some none)
    (z8 : PySem.W.nsIn K mainGlobals "max" = some none)
    (z9 : PySem.W.nsIn K mainGlobals "range" = some none)
    (z10 : PySem.W.nsIn K mainGlobals "repr" = some none)
    (z11 : PySem.W.nsIn K mainGlobals "tuple" = some none)
    (z12 : PySem.W.nsIn K mainGlobals "zip" = some none)
    (t1 : PySem.W.nsIn K mainGlobals "LEVELS" = some (some (.ref dd1))) (u1 : He.dicW K dd1 = some (He.keysIn w.params ks_LEVELS)) :
    ∃ fd : FuncData, (∀ (s : Shared) (v : Value), BindsTo s fd ⟨[v], []⟩ [("script", v)]) ∧ ∀ base : Heap, K.In base → base.Ns mainGlobals mg → FnG l.prog w K mg base 16 fa fd ["script"] (spF K 1 F_law) := by
  have e := hfa.symm.trans (PySem.W.mg_of X G a39)
  cases e
  have F1 := fun_mk (st := topS 2) l1 c1 k1
  have b1 := F1.binds (ps := ["rows", "name"]) fun _ _ _ _ _ _ us hl => match us, hl with | [_, _], _ => rfl
  have F2 := fun_mk (st := topS 3) l2 c2 k2
  have b2 := F2.binds (ps := ["system", "state", "expression"]) fun _ _ _ _ _ _ us hl => match us, hl with | [_, _, _], _ => rfl
  have F3 := fun_mk (st := topS 5) l3 c3 k3
  have b3 := F3.binds (ps := ["word", "one", "other"]) fun _ _ _ _ _ _ us hl => match us, hl with | [_, _, _], _ => rfl
  have F4 := fun_mk (st := topS 4) l4 c4 k4
  have b4 := F4.binds (ps := ["system", "state", "expression"]) fun _ _ _ _ _ _ us hl => match us, hl with | [_, _, _], _ => rfl
  have F5 := fun_mk (st := topS 7) l5 c5 k5
  have b5 := F5.binds (ps := ["system"]) fun _ _ _ _ _ _ us hl => match us, hl with | [_], _ => rfl
  have F6 := fun_mk (st := topS 8) l6 c6 k6
  have b6 := F6.binds (ps := ["number"]) fun _ _ _ _ _ _ us hl => match us, hl with | [_], _ => rfl
  have F7 := fun_mk (st := topS 9) l7 c7 k7
  have b7 := F7.binds (ps := ["datum", "value"]) fun _ _ _ _ _ _ us hl => match us, hl with | [_, _], _ => rfl
  have F8 := fun_mk (st := topS 10) l8 c8 k8
  have b8 := F8.binds (ps := ["system", "state"]) fun _ _ _ _ _ _ us hl => match us, hl with | [_, _], _ => rfl
  have F9 := fun_mk (st := topS 11) l9 c9 k9
  have b9 := F9.binds (ps := ["state", "at", "value"]) fun _ _ _ _ _ _ us hl => match us, hl with | [_, _, _], _ => rfl
  have F10 := fun_mk (st := topS 12) l10 c10 k10
  have b10 := F10.binds (ps := ["system", "state", "deed"]) fun _ _ _ _ _ _ us hl => match us, hl with | [_, _, _], _ => rfl
  have F11 := fun_mk (st := topS 13) l11 c11 k11
  have b11 := F11.binds (ps := ["system", "state", "deed"]) fun _ _ _ _ _ _ us hl => match us, hl with | [_, _, _], _ => rfl
  have F12 := fun_mk (st := topS 14) l12 c12 k12
  have b12 := F12.binds (ps := ["system", "state", "deed"]) fun _ _ _ _ _ _ us hl => match us, hl with | [_, _, _], _ => rfl
  have F13 := fun_mk (st := topS 15) l13 c13 k13
  have b13 := F13.binds (ps := ["system", "state", "deed"]) fun _ _ _ _ _ _ us hl => match us, hl with | [_, _, _], _ => rfl
  have F14 := fun_mk (st := topS 16) l14 c14 k14
  have b14 := F14.binds (ps := ["system", "state", "at", "move"]) fun _ _ _ _ _ _ us hl => match us, hl with | [_, _, _, _], _ => rfl
  have F15 := fun_mk (st := topS 17) l15 c15 k15
  have b15 := F15.binds (ps := ["system", "state"]) fun _ _ _ _ _ _ us hl => match us, hl with | [_, _], _ => rfl
  have F16 := fun_mk (st := topS 18) l16 c16 k16
  have b16 := F16.binds (ps := ["system", "state"]) fun _ _ _ _ _ _ us hl => match us, hl with | [_, _], _ => rfl
  have F17 := fun_mk (st := topS 20) l17 c17 k17
  have b17 := F17.binds (ps := ["script", "k"]) fun _ _ _ _ _ _ us hl => match us, hl with | [_, _], _ => rfl
  have F18 := fun_mk (st := topS 21) l18 c18 k18
  have b18 := F18.binds (ps := ["script", "first", "last"]) fun _ _ _ _ _ _ us hl => match us, hl with | [_, _, _], _ => rfl
  have F19 := fun_mk (st := topS 22) l19 c19 k19
  have b19 := F19.binds (ps := ["box", "many"]) fun _ _ _ _ _ _ us hl => match us, hl with | [_, _], _ => rfl
  have F20 := fun_mk (st := topS 23) l20 c20 k20
  have b20 := F20.binds (ps := ["box", "rows"]) fun _ _ _ _ _ _ us hl => match us, hl with | [_, _], _ => rfl
  have F21 := fun_mk (st := topS 24) l21 c21 k21
  have b21 := F21.binds (ps := ["box", "many", "used"]) fun _ _ _ _ _ _ us hl => match us, hl with | [_, _, _], _ => rfl
  have F22 := fun_mk (st := topS 25) l22 c22 k22
  have b22 := F22.binds (ps := ["rows", "name"]) fun _ _ _ _ _ _ us hl => match us, hl with | [_, _], _ => rfl
  have F23 := fun_mk (st := topS 26) l23 c23 k23
  have b23 := F23.binds (ps := ["system", "state", "e"]) fun _ _ _ _ _ _ us hl => match us, hl with | [_, _, _], _ => rfl
  have F24 := fun_mk (st := topS 27) l24 c24 k24
  have b24 := F24.binds (ps := ["system", "state", "deed"]) fun _ _ _ _ _ _ us hl => match us, hl with | [_, _, _], _ => rfl
  have F25 := fun_mk (st := topS 28) l25 c25 k25
  have b25 := F25.binds (ps := ["system", "state", "k", "move"]) fun _ _ _ _ _ _ us hl => match us, hl with | [_, _, _, _], _ => rfl
  have F26 := fun_mk (st := topS 29) l26 c26 k26
  have b26 := F26.binds (ps := ["system", "state"]) fun _ _ _ _ _ _ us hl => match us, hl with | [_, _], _ => rfl
  have F27 := fun_mk (st := topS 30) l27 c27 k27
  have b27 := F27.binds (ps := ["system"]) fun _ _ _ _ _ _ us hl => match us, hl with | [_], _ => rfl
  have F28 := fun_mk (st := topS 31) l28 c28 k28
  have b28 := F28.binds (ps := ["box", "system"]) fun _ _ _ _ _ _ us hl => match us, hl with | [_, _], _ => rfl
  have F29 := fun_mk (st := topS 32) l29 c29 k29
  have b29 := F29.binds (ps := ["box", "system", "deep"]) fun _ _ _ _ _ _ us hl => match us, hl with | [_, _, _], _ => rfl
  have F30 := fun_mk (st := topS 33) l30 c30 k30
  have b30 := F30.binds (ps := ["box", "system"]) fun _ _ _ _ _ _ us hl => match us, hl with | [_, _], _ => rfl
  have F31 := fun_mk (st := topS 34) l31 c31 k31
  have b31 := F31.binds (ps := ["box", "many"]) fun _ _ _ _ _ _ us hl => match us, hl with | [_, _], _ => rfl
  have F32 := fun_mk (st := topS 35) l32 c32 k32
  have b32 := F32.binds (ps := ["box", "many"]) fun _ _ _ _ _ _ us hl => match us, hl with | [_, _], _ => rfl
  have F33 := fun_mk (st := topS 36) l33 c33 k33
  have b33 := F33.binds (ps := ["box", "many"]) fun _ _ _ _ _ _ us hl => match us, hl with | [_, _], _ => rfl
  have F34 := fun_mk (st := topS 37) l34 c34 k34
  have b34 := F34.binds (ps := ["box"]) fun _ _ _ _ _ _ us hl => match us, hl with | [_], _ => rfl
  have F35 := fun_mk (st := topS 38) l35 c35 k35
  have b35 := F35.binds (ps := ["actual", "due"]) fun _ _ _ _ _ _ us hl => match us, hl with | [_, _], _ => rfl
  have F36 := fun_mk (st := topS 39) l36 c36 k36
  have b36 := F36.binds (ps := ["box", "system"]) fun _ _ _ _ _ _ us hl => match us, hl with | [_, _], _ => rfl
  have F37 := fun_mk (st := topS 40) l37 c37 k37
  have b37 := F37.binds (ps := ["box", "system", "state"]) fun _ _ _ _ _ _ us hl => match us, hl with | [_, _, _], _ => rfl
  have F38 := fun_mk (st := topS 41) l38 c38 k38
  have b38 := F38.binds (ps := ["box", "system"]) fun _ _ _ _ _ _ us hl => match us, hl with | [_, _], _ => rfl
  have F39 := fun_mk (st := topS 42) l39 c39 k39
  have b39 := F39.binds (ps := ["script"]) fun _ _ _ _ _ _ us hl => match us, hl with | [_], _ => rfl
  refine ⟨PySem.W.fnOf "law" "law" (defArgs (topS 42)) (defBody (topS 42)) (defScope (topS 42)) .none kV39 dc39 pm39 an39 cd39 ct39, fun s v => .of_eq rfl, fun base _ _ => ?_⟩
  exact ok_law (P := l.prog) (w := w) (base := base) (Tx.mk _ _ F1 b1 (PySem.W.mg_of X G a1) _ _ F2 b2 (PySem.W.mg_of X G a2) _ _ F3 b3 (PySem.W.mg_of X G a3) _ _ F4 b4 (PySem.W.mg_of X G a4) _ _ F5 b5 (PySem.W.mg_of X G a5) _ _ F6 b6 (PySem.W.mg_of X G a6) _ _ F7 b7 (PySem.W.mg_of X G a7) _ _ F8 b8 (PySem.W.mg_of X G a8) _ _ F9 b9 (PySem.W.mg_of X G a9) _ _ F10 b10 (PySem.W.mg_of X G a10) _ _ F11 b11 (PySem.W.mg_of X G a11) _ _ F12 b12 (PySem.W.mg_of X G a12) _ _ F13 b13 (PySem.W.mg_of X G a13) _ _ F14 b14 (PySem.W.mg_of X G a14) _ _ F15 b15 (PySem.W.mg_of X G a15) _ _ F16 b16 (PySem.W.mg_of X G a16) _ _ F17 b17 (PySem.W.mg_of X G a17) _ _ F18 b18 (PySem.W.mg_of X G a18) _ _ F19 b19 (PySem.W.mg_of X G a19) _ _ F20 b20 (PySem.W.mg_of X G a20) _ _ F21 b21 (PySem.W.mg_of X G a21) _ _ F22 b22 (PySem.W.mg_of X G a22) _ _ F23 b23 (PySem.W.mg_of X G a23) _ _ F24 b24 (PySem.W.mg_of X G a24) _ _ F25 b25 (PySem.W.mg_of X G a25) _ _ F26 b26 (PySem.W.mg_of X G a26) _ _ F27 b27 (PySem.W.mg_of X G a27) _ _ F28 b28 (PySem.W.mg_of X G a28) _ _ F29 b29 (PySem.W.mg_of X G a29) _ _ F30 b30 (PySem.W.mg_of X G a30) _ _ F31 b31 (PySem.W.mg_of X G a31) _ _ F32 b32 (PySem.W.mg_of X G a32) _ _ F33 b33 (PySem.W.mg_of X G a33) _ _ F34 b34 (PySem.W.mg_of X G a34) _ _ F35 b35 (PySem.W.mg_of X G a35) _ _ F36 b36 (PySem.W.mg_of X G a36) _ _ F37 b37 (PySem.W.mg_of X G a37) _ _ F38 b38 (PySem.W.mg_of X G a38) _ _ F39 b39 (PySem.W.mg_of X G a39) (PySem.W.mg_none_of X G z1) (PySem.W.mg_none_of X G z2) (PySem.W.mg_none_of X G z3) (PySem.W.mg_none_of X G z4) (PySem.W.mg_none_of X G z5) (PySem.W.mg_none_of X G z6) (PySem.W.mg_none_of X G z7) (PySem.W.mg_none_of X G z8) (PySem.W.mg_none_of X G z9) (PySem.W.mg_none_of X G z10) (PySem.W.mg_none_of X G z11) (PySem.W.mg_none_of X G z12) _ (PySem.W.mg_of X G t1) u1)
theorem walk {l : PySem.W.OpenLaw} {q : Program} {loose : List Str} {XP : (Str → Option Value) → Heap → Prop} {YP : World → Heap → Prop} {d : DefRec} {K : Params → PySem.W.Frag} (hn : l.most = some 63) (hdf : d.params.defaults = [])
    (hY : ∀ (w : World) (h : Heap), YP w h → (K w.params).In h)
    (F : ∀ (w : World) (mg : Str → Option Value) (fa : Addr) (h : Heap), (K w.params).In h → h.Ns mainGlobals mg → mg d.name = some (.ref fa) →
      ∃ fd : FuncData, (∀ (s : Shared) (u : Value), BindsTo s fd ⟨[u], []⟩ [("script", u)]) ∧ ∀ base : Heap, (K w.params).In base → base.Ns mainGlobals mg → FnG l.prog w (K w.params) mg base 16 fa fd ["script"] (spF (K w.params) 1 F_law)) :
    PySem.W.WalkO q loose XP YP l.row.toRowW d [] (fun f vs => PySem.call f vs) :=
  walk_ofG (n := 63) (k := 16) (x := "script") (sp := fun w => spF (K w.params) 1 F_law) hn (by decide) hdf ⟨rfl, by decide, by decide⟩ hY F (fun w H a ns hl O hS => by
    obtain ⟨h', e⟩ := law_ok (h := []) ns
    exact ⟨[], [], [.fl (ns.map D.int)], .bl true, h', sim_nil, .cons (.fl (sq_fz O hS) (rv_ints ns)) .nil, rfl, e, fun m' H' v _ _ r => by cases r; rfl⟩)
end Sm
open PySem PySem.W PyProof.Rows
set_option maxRecDepth 100000 in
set_option maxHeartbeats 0 in
theorem PySem.Challenge.cw_allroads_k01_values_in_states_holds : PySem.Challenge.rw_allroads_k01_values_in_states.Holds := by
  w_on; o_law; k_head; (case hw => w_witness2)
  k_fill
  refine Sm.walk (l := PySem.Challenge.rw_allroads_k01_values_in_states) rfl rfl (fun w h Y => PySem.W.kIn_of Y) ?F
  case F =>
    intro w mg fa h KX G hmg
    refine' Sm.all_mk KX G hmg ?a1 ?l1 ?c1 ?k1 ?a2 ?l2 ?c2 ?k2 ?a3 ?l3 ?c3 ?k3 ?a4 ?l4 ?c4 ?k4 ?a5 ?l5 ?c5 ?k5 ?a6 ?l6 ?c6 ?k6 ?a7 ?l7 ?c7 ?k7 ?a8 ?l8 ?c8 ?k8 ?a9 ?l9 ?c9 ?k9 ?a10 ?l10 ?c10 ?k10 ?a11 ?l11 ?c11 ?k11 ?a12 ?l12 ?c12 ?k12 ?a13 ?l13 ?c13 ?k13 ?a14 ?l14 ?c14 ?k14 ?a15 ?l15 ?c15 ?k15 ?a16 ?l16 ?c16 ?k16 ?a17 ?l17 ?c17 ?k17 ?a18 ?l18 ?c18 ?k18 ?a19 ?l19 ?c19 ?k19 ?a20 ?l20 ?c20 ?k20 ?a21 ?l21 ?c21 ?k21 ?a22 ?l22 ?c22 ?k22 ?a23 ?l23 ?c23 ?k23 ?a24 ?l24 ?c24 ?k24 ?a25 ?l25 ?c25 ?k25 ?a26 ?l26 ?c26 ?k26 ?a27 ?l27 ?c27 ?k27 ?a28 ?l28 ?c28 ?k28 ?a29 ?l29 ?c29 ?k29 ?a30 ?l30 ?c30 ?k30 ?a31 ?l31 ?c31 ?k31 ?a32 ?l32 ?c32 ?k32 ?a33 ?l33 ?c33 ?k33 ?a34 ?l34 ?c34 ?k34 ?a35 ?l35 ?c35 ?k35 ?a36 ?l36 ?c36 ?k36 ?a37 ?l37 ?c37 ?k37 ?a38 ?l38 ?c38 ?k38 ?a39 ?l39 ?c39 ?k39 ?z1 ?z2 ?z3 ?z4 ?z5 ?z6 ?z7 ?z8 ?z9 ?z10 ?z11 ?z12 ?t1 ?u1
    (case a1 => k_is)
    (case l1 => k_is)
    (case c1 => k_is)
    (case k1 => k_is)
    (case a2 => k_is)
    (case l2 => k_is)
    (case c2 => k_is)
    (case k2 => k_is)
    (case a3 => k_is)
    (case l3 => k_is)
    (case c3 => k_is)
    (case k3 => k_is)
    (case a4 => k_is)
    (case l4 => k_is)
    (case c4 => k_is)
    (case k4 => k_is)
    (case a5 => k_is)
    (case l5 => k_is)
    (case c5 => k_is)
    (case k5 => k_is)
    (case a6 => k_is)
    (case l6 => k_is)
    (case c6 => k_is)
    (case k6 => k_is)
    (case a7 => k_is)
    (case l7 => k_is)
    (case c7 => k_is)
    (case k7 => k_is)
    (case a8 => k_is)
    (case l8 => k_is)
    (case c8 => k_is)
    (case k8 => k_is)
    (case a9 => k_is)
    (case l9 => k_is)
    (case c9 => k_is)
    (case k9 => k_is)
    (case a10 => k_is)
    (case l10 => k_is)
    (case c10 => k_is)
    (case k10 => k_is)
    (case a11 => k_is)
    (case l11 => k_is)
    (case c11 => k_is)
    (case k11 => k_is)
    (case a12 => k_is)
    (case l12 => k_is)
    (case c12 => k_is)
    (case k12 => k_is)
    (case a13 => k_is)
    (case l13 => k_is)
    (case c13 => k_is)
    (case k13 => k_is)
    (case a14 => k_is)
    (case l14 => k_is)
    (case c14 => k_is)
    (case k14 => k_is)
    (case a15 => k_is)
    (case l15 => k_is)
    (case c15 => k_is)
    (case k15 => k_is)
    (case a16 => k_is)
    (case l16 => k_is)
    (case c16 => k_is)
    (case k16 => k_is)
    (case a17 => k_is)
    (case l17 => k_is)
    (case c17 => k_is)
    (case k17 => k_is)
    (case a18 => k_is)
    (case l18 => k_is)
    (case c18 => k_is)
    (case k18 => k_is)
    (case a19 => k_is)
    (case l19 => k_is)
    (case c19 => k_is)
    (case k19 => k_is)
    (case a20 => k_is)
    (case l20 => k_is)
    (case c20 => k_is)
    (case k20 => k_is)
    (case a21 => k_is)
    (case l21 => k_is)
    (case c21 => k_is)
    (case k21 => k_is)
    (case a22 => k_is)
    (case l22 => k_is)
    (case c22 => k_is)
    (case k22 => k_is)
    (case a23 => k_is)
    (case l23 => k_is)
    (case c23 => k_is)
    (case k23 => k_is)
    (case a24 => k_is)
    (case l24 => k_is)
    (case c24 => k_is)
    (case k24 => k_is)
    (case a25 => k_is)
    (case l25 => k_is)
    (case c25 => k_is)
    (case k25 => k_is)
    (case a26 => k_is)
    (case l26 => k_is)
    (case c26 => k_is)
    (case k26 => k_is)
    (case a27 => k_is)
    (case l27 => k_is)
    (case c27 => k_is)
    (case k27 => k_is)
    (case a28 => k_is)
    (case l28 => k_is)
    (case c28 => k_is)
    (case k28 => k_is)
    (case a29 => k_is)
    (case l29 => k_is)
    (case c29 => k_is)
    (case k29 => k_is)
    (case a30 => k_is)
    (case l30 => k_is)
    (case c30 => k_is)
    (case k30 => k_is)
    (case a31 => k_is)
    (case l31 => k_is)
    (case c31 => k_is)
    (case k31 => k_is)
    (case a32 => k_is)
    (case l32 => k_is)
    (case c32 => k_is)
    (case k32 => k_is)
    (case a33 => k_is)
    (case l33 => k_is)
    (case c33 => k_is)
    (case k33 => k_is)
    (case a34 => k_is)
    (case l34 => k_is)
    (case c34 => k_is)
    (case k34 => k_is)
    (case a35 => k_is)
    (case l35 => k_is)
    (case c35 => k_is)
    (case k35 => k_is)
    (case a36 => k_is)
    (case l36 => k_is)
    (case c36 => k_is)
    (case k36 => k_is)
    (case a37 => k_is)
    (case l37 => k_is)
    (case c37 => k_is)
    (case k37 => k_is)
    (case a38 => k_is)
    (case l38 => k_is)
    (case c38 => k_is)
    (case k38 => k_is)
    (case a39 => k_is)
    (case l39 => k_is)
    (case c39 => k_is)
    (case k39 => k_is)
    (case z1 => k_is)
    (case z2 => k_is)
    (case z3 => k_is)
    (case z4 => k_is)
    (case z5 => k_is)
    (case z6 => k_is)
    (case z7 => k_is)
    (case z8 => k_is)
    (case z9 => k_is)
    (case z10 => k_is)
    (case z11 => k_is)
    (case z12 => k_is)
    (case t1 => k_is)
    (case u1 => first | k_is | rfl)
#print axioms PySem.Challenge.cw_allroads_k01_values_in_states_holds
