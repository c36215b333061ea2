import PyProof.Rows.All
import Wide.All
import OpenK.AllK
import Wide.FinOn
import HandS.ForMost
import HandS.ForExc
import HandS.CallSlots
import HandS.Strs
import HandS.TupAny
import HandS.Deep
import HandS.Conv
import HandS.SortInts
import PyProof.ReprRoads
import HandS.Style
import HandS.ExcOwn
import HandS.SetFor
import PySem.Challenge.RW_maybegone_k30_heaps_walked
import PyProof.ReprLen
set_option Elab.async false
set_option linter.all false
set_option maxRecDepth 100000
set_option maxHeartbeats 4000000
/-! S0: a pure world beside the abstract heap: values, objects, stores, results; how they stand for each other -/
namespace Sm
open PySem L2

/-- pure values: a tuple is its items, a mutable object is its number -/
inductive Vl where
  | non | bl (b : Bool) | int (i : Int) | str (x : Str) | tup (xs : List Vl) | ref (i : Nat) | scr (ns : List Int) | ty (n : String) | fn (i : Nat)
/-- mutable objects -/
inductive Ob where
  | lst (xs : List Vl)
  | dic (kvs : List (Key × Vl))
  | dit (kvs : List (List Key × Vl))
  | fdic (kvs : List (Key × Vl))
  | ins (c : Nat) (fs : List (Str × Vl))
  | set (xs : List Int)
abbrev Sto := List Ob
/-- an exception: its class, its fields (none: it has no dict) -/
structure Ex where
  c : Nat
  fs : Option (List (Str × Vl))
inductive Res (α : Type) where
  | ok (a : α) (s : Sto) | exc (e : Ex) (s : Sto) | fail
abbrev M (α : Type) := Sto → Res α
abbrev Lo := List (Option Vl)
def bnd {α β : Type} (m : M α) (f : α → M β) : M β := fun s => match m s with
  | .ok a s' => f a s'
  | .exc e s' => .exc e s'
  | .fail => .fail
def ret {α : Type} (a : α) : M α := fun s => .ok a s
def failM {α : Type} : M α := fun _ => .fail
def lift {α : Type} (f : Sto → Option (α × Sto)) : M α := fun s => match f s with
  | some (a, s') => .ok a s'
  | none => .fail

/-- the tables: the written part, the classes, the defs held as values -/
structure Tb where
  K : PySem.W.Frag
  w : World
  cl : List Addr
  fns : List Addr

mutual
inductive RV (T : Tb) (ρ : List Addr) (H : Hp) : Vl → V → Prop
  | non : RV T ρ H .non .non
  | bl (b : Bool) : RV T ρ H (.bl b) (.bl b)
  | int (i : Int) : RV T ρ H (.int i) (.int i)
  | str (x : Str) : RV T ρ H (.str x) (.str x)
  | tup {a : Addr} {vs : List V} {xs : List Vl} : SqT T.K H a vs → RVs T ρ H xs vs → RV T ρ H (.tup xs) (.ref a)
  | ref {i : Nat} {a : Addr} : ρ[i]? = some a → RV T ρ H (.ref i) (.ref a)
  | scr {ns : List Int} {a : Addr} {o : Obj} : H a = some (.frz o (.lst (ns.map V.int))) → RV T ρ H (.scr ns) (.ref a)
  | scrK {ns : List Int} {a : Addr} : (∀ H' : Hp, SqL T.K H' a (ns.map V.int)) → RV T ρ H (.scr ns) (.ref a)
  | ty (n : String) : RV T ρ H (.ty n) (.ty n)
  | fn {i : Nat} {a : Addr} : T.fns[i]? = some a → RV T ρ H (.fn i) (.ref a)
inductive RVs (T : Tb) (ρ : List Addr) (H : Hp) : List Vl → List V → Prop
  | nil : RVs T ρ H [] []
  | cons {x : Vl} {v : V} {xs : List Vl} {vs : List V} : RV T ρ H x v → RVs T ρ H xs vs → RVs T ρ H (x :: xs) (v :: vs)
end

/-- more is known, nothing that cannot change has changed -/
structure Ext0 (T : Tb) (ρ : List Addr) (H : Hp) (ρ' : List Addr) (H' : Hp) : Prop where
  pre : ∀ (i : Nat) (a : Addr), ρ[i]? = some a → ρ'[i]? = some a
  tup : ∀ a vs, SqT T.K H a vs → SqT T.K H' a vs
  frz : ∀ a o u, H a = some (.frz o (.lst u)) → H' a = some (.frz o (.lst u))
structure Ext (T : Tb) (ρ : List Addr) (H : Hp) (ρ' : List Addr) (H' : Hp) : Prop extends Ext0 T ρ H ρ' H' where
  frd : ∀ a o u, H a = some (.frz o (.dK u)) → H' a = some (.frz o (.dK u))
theorem Ext.refl {T : Tb} {ρ : List Addr} {H : Hp} : Ext T ρ H ρ H := ⟨⟨fun _ _ h => h, fun _ _ h => h, fun _ _ _ h => h⟩, fun _ _ _ h => h⟩
theorem Ext.trans {T : Tb} {ρ ρ1 ρ2 : List Addr} {H H1 H2 : Hp} (a : Ext T ρ H ρ1 H1) (b : Ext T ρ1 H1 ρ2 H2) : Ext T ρ H ρ2 H2 :=
  ⟨⟨fun i x h => b.pre i x (a.pre i x h), fun x vs h => b.tup x vs (a.tup x vs h), fun x o u h => b.frz x o u (a.frz x o u h)⟩, fun x o u h => b.frd x o u (a.frd x o u h)⟩

section
variable {T : Tb} {ρ ρ' : List Addr} {H H' : Hp}
mutual
theorem RV.mono0 (e : Ext0 T ρ H ρ' H') : ∀ {x : Vl} {v : V}, RV T ρ H x v → RV T ρ' H' x v
  | _, _, .non => .non
  | _, _, .bl b => .bl b
  | _, _, .int i => .int i
  | _, _, .str x => .str x
  | _, _, .tup h hs => .tup (e.tup _ _ h) (RVs.mono0 e hs)
  | _, _, .ref h => .ref (e.pre _ _ h)
  | _, _, .scr h => .scr (e.frz _ _ _ h)
  | _, _, .scrK h => .scrK h
  | _, _, .ty n => .ty n
  | _, _, .fn h => .fn h
theorem RVs.mono0 (e : Ext0 T ρ H ρ' H') : ∀ {xs : List Vl} {vs : List V}, RVs T ρ H xs vs → RVs T ρ' H' xs vs
  | _, _, .nil => .nil
  | _, _, .cons h hs => .cons (RV.mono0 e h) (RVs.mono0 e hs)
end
theorem RV.mono {x : Vl} {v : V} (h : RV T ρ H x v) (e : Ext T ρ H ρ' H') : RV T ρ' H' x v := h.mono0 e.toExt0
theorem RVs.mono {xs : List Vl} {vs : List V} (h : RVs T ρ H xs vs) (e : Ext T ρ H ρ' H') : RVs T ρ' H' xs vs := h.mono0 e.toExt0
theorem RVs.length : ∀ {xs : List Vl} {vs : List V}, RVs T ρ H xs vs → xs.length = vs.length
  | _, _, .nil => rfl
  | _, _, .cons _ hs => by
    rw [List.length_cons, List.length_cons, RVs.length hs]
theorem RVs.append : ∀ {xs ys : List Vl} {vs us : List V}, RVs T ρ H xs vs → RVs T ρ H ys us → RVs T ρ H (xs ++ ys) (vs ++ us)
  | _, _, _, _, .nil, h => h
  | _, _, _, _, .cons a b, h => .cons a (RVs.append b h)
theorem RVs.get : ∀ {xs : List Vl} {vs : List V} {i : Nat} {x : Vl}, RVs T ρ H xs vs → xs[i]? = some x → ∃ v, vs[i]? = some v ∧ RV T ρ H x v
  | _, _, _, _, .nil, e => by simp at e
  | _, _, 0, _, .cons a _, e => by simp at e; subst e; exact ⟨_, rfl, a⟩
  | _, _, i + 1, x, .cons _ b, e => by
    obtain ⟨v, h1, h2⟩ := RVs.get (i := i) (x := x) b (by simpa using e)
    exact ⟨v, by simpa using h1, h2⟩
theorem RVs.get' : ∀ {xs : List Vl} {vs : List V} {i : Nat} {v : V}, RVs T ρ H xs vs → vs[i]? = some v → ∃ x, xs[i]? = some x ∧ RV T ρ H x v
  | _, _, _, _, .nil, e => by simp at e
  | _, _, 0, _, .cons a _, e => by simp at e; subst e; exact ⟨_, rfl, a⟩
  | _, _, i + 1, v, .cons _ b, e => by
    obtain ⟨x, h1, h2⟩ := RVs.get' (i := i) (v := v) b (by simpa using e)
    exact ⟨x, by simpa using h1, h2⟩
theorem RVs.set {x : Vl} {v : V} (r : RV T ρ H x v) : ∀ {xs : List Vl} {vs : List V} (i : Nat), RVs T ρ H xs vs → RVs T ρ H (xs.set i x) (vs.set i v)
  | _, _, _, .nil => .nil
  | _, _, 0, .cons _ t => .cons r t
  | _, _, i + 1, .cons q t => .cons q (RVs.set r i t)
theorem RVs.take : ∀ {xs : List Vl} {vs : List V} (n : Nat), RVs T ρ H xs vs → RVs T ρ H (xs.take n) (vs.take n)
  | _, _, 0, _ => .nil
  | _, _, _ + 1, .nil => .nil
  | _, _, n + 1, .cons r t => .cons r (RVs.take n t)
theorem RVs.drop : ∀ {xs : List Vl} {vs : List V} (n : Nat), RVs T ρ H xs vs → RVs T ρ H (xs.drop n) (vs.drop n)
  | _, _, 0, r => r
  | _, _, _ + 1, .nil => .nil
  | _, _, n + 1, .cons _ t => RVs.drop n t
end

/-- an object of the store and what stands at its address -/
def RO (T : Tb) (ρ : List Addr) (H : Hp) : Ob → Addr → Prop
  | .lst xs, a => ∃ vs, H a = some (.lst vs) ∧ RVs T ρ H xs vs
  | .dic kvs, a => ∃ vs : List (Key × V), H a = some (.dK vs) ∧ vs.map (·.1) = kvs.map (·.1) ∧ RVs T ρ H (kvs.map (·.2)) (vs.map (·.2))
  | .dit kvs, a => ∃ vs : List (List Key × V), H a = some (.dT vs) ∧ vs.map (·.1) = kvs.map (·.1) ∧ RVs T ρ H (kvs.map (·.2)) (vs.map (·.2))
  | .fdic kvs, a => ∃ (o : Obj) (vs : List (Key × V)), H a = some (.frz o (.dK vs)) ∧ vs.map (·.1) = kvs.map (·.1) ∧ RVs T ρ H (kvs.map (·.2)) (vs.map (·.2))
  | .set xs, a => xs.Nodup ∧ ∃ S : Int → Bool, (∀ k, S k = true ↔ k ∈ xs) ∧ H a = some (SetO T.w a S xs.length)
  | .ins c fs, a => ∃ (C dx : Addr) (vs : List (Str × V)), T.cl[c]? = some C ∧ H a = some (.ins C dx vs) ∧ vs.map (·.1) = fs.map (·.1) ∧ RVs T ρ H (fs.map (·.2)) (vs.map (·.2))
/-- what never stands at a store's address -/
def Fixd : HO → Prop
  | .tup _ => True
  | .frz _ _ => True
  | _ => False
/-- what a store's address never holds -/
def FixT : HO → Prop
  | .tup _ => True
  | .frz _ (.lst _) => True
  | .frz _ (.tup _) => True
  | _ => False
theorem RO.some {T : Tb} {ρ : List Addr} {H : Hp} {o : Ob} {a : Addr} (h : RO T ρ H o a) : ∃ u, H a = some u ∧ ¬ FixT u := by
  cases o with
  | lst xs => obtain ⟨vs, h, _⟩ := h; exact ⟨_, h, fun z => z⟩
  | dic xs => obtain ⟨vs, h, _⟩ := h; exact ⟨_, h, fun z => z⟩
  | dit xs => obtain ⟨vs, h, _⟩ := h; exact ⟨_, h, fun z => z⟩
  | fdic xs => obtain ⟨o, vs, h, _⟩ := h; exact ⟨_, h, fun z => z⟩
  | set xs => obtain ⟨_, S, _, h⟩ := h; exact ⟨_, h, fun z => z⟩
  | ins c xs => obtain ⟨C, dx, vs, _, h, _⟩ := h; exact ⟨_, h, fun z => z⟩
theorem RO.mono {T : Tb} {ρ ρ' : List Addr} {H H' : Hp} {o : Ob} {a : Addr} (h : RO T ρ H o a) (e : Ext0 T ρ H ρ' H') (k : H' a = H a) : RO T ρ' H' o a := by
  cases o with
  | lst xs => obtain ⟨vs, h, r⟩ := h; exact ⟨vs, k.trans h, r.mono0 e⟩
  | dic xs => obtain ⟨vs, h, n, r⟩ := h; exact ⟨vs, k.trans h, n, r.mono0 e⟩
  | dit xs => obtain ⟨vs, h, n, r⟩ := h; exact ⟨vs, k.trans h, n, r.mono0 e⟩
  | fdic xs => obtain ⟨o, vs, h, n, r⟩ := h; exact ⟨o, vs, k.trans h, n, r.mono0 e⟩
  | set xs => obtain ⟨n, S, q, h⟩ := h; exact ⟨n, S, q, k.trans h⟩
  | ins c xs => obtain ⟨C, dx, vs, hc, h, n, r⟩ := h; exact ⟨C, dx, vs, hc, k.trans h, n, r.mono0 e⟩

structure Rel (T : Tb) (ρ : List Addr) (H : Hp) (s : Sto) : Prop where
  len : ρ.length = s.length
  nd : ρ.Nodup
  ob : ∀ (i : Nat) (a : Addr) (o : Ob), ρ[i]? = some a → s[i]? = some o → RO T ρ H o a

section
variable {T : Tb} {ρ ρ' : List Addr} {H H' : Hp} {s : Sto}
theorem Rel.at (r : Rel T ρ H s) {i : Nat} {o : Ob} (h : s[i]? = some o) : ∃ a, ρ[i]? = some a ∧ RO T ρ H o a := by
  have hi : i < ρ.length := by
    have := (List.getElem?_eq_some_iff.mp h).1
    rw [r.len]; exact this
  exact ⟨ρ[i], List.getElem?_eq_getElem hi, r.ob i _ o (List.getElem?_eq_getElem hi) h⟩
theorem Rel.tracked (r : Rel T ρ H s) {i : Nat} {a : Addr} (h : ρ[i]? = some a) : ∃ u, H a = some u ∧ ¬ FixT u := by
  have hi : i < s.length := by
    have := (List.getElem?_eq_some_iff.mp h).1
    rw [← r.len]; exact this
  exact (r.ob i a _ h (List.getElem?_eq_getElem hi)).some
theorem rd_ne {H : Hp} {a p : Addr} {u o : HO} (h : Rd H a u) (hp : H p = none) : Rd (upd H p o) a u := by
  rcases h with h | ⟨z, h⟩
  · exact .inl (by rw [upd_ne (ne_of_none h hp)]; exact h)
  · exact .inr ⟨z, by rw [upd_ne (ne_of_none h hp)]; exact h⟩
/-- a new address -/
theorem ext_upd {p : Addr} {o : HO} (hp : H p = none) : Ext T ρ H ρ (upd H p o) :=
  ⟨⟨fun _ _ h => h, fun a vs h => h.elim (fun q => .inl (rd_ne q hp)) .inr, fun a z u h => by rw [upd_ne (ne_of_none h hp)]; exact h⟩, fun a z u h => by rw [upd_ne (ne_of_none h hp)]; exact h⟩
theorem ext_push {p : Addr} : Ext T ρ H (ρ ++ [p]) H :=
  ⟨⟨fun i a h => by rw [List.getElem?_append_left (List.getElem?_eq_some_iff.mp h).1]; exact h, fun _ _ h => h, fun _ _ _ h => h⟩, fun _ _ _ h => h⟩
/-- a change where nothing fixed stands -/
theorem ext0_set {a : Addr} {u o : HO} (ha : H a = some u) (hu : ¬ FixT u) : Ext0 T ρ H ρ (upd H a o) := by
  refine ⟨fun _ _ h => h, fun b vs h => ?_, fun b z w h => ?_⟩
  · rcases h with (h | ⟨z, h⟩) | h
    · have : b ≠ a := fun e => by subst e; rw [h] at ha; cases ha; exact hu trivial
      exact .inl (.inl (by rw [upd_ne this]; exact h))
    · have : b ≠ a := fun e => by subst e; rw [h] at ha; cases ha; exact hu trivial
      exact .inl (.inr ⟨z, by rw [upd_ne this]; exact h⟩)
    · exact .inr h
  · have : b ≠ a := fun e => by subst e; rw [h] at ha; cases ha; exact hu trivial
    rw [upd_ne this]; exact h
theorem FixT.fixd {u : HO} (h : FixT u) : Fixd u := by
  cases u <;> first | exact trivial | exact h
theorem ext_set {a : Addr} {u o : HO} (ha : H a = some u) (hu : ¬ Fixd u) : Ext T ρ H ρ (upd H a o) :=
  ⟨ext0_set ha fun z => hu z.fixd, fun b z w h => by
    have : b ≠ a := fun e => by subst e; rw [h] at ha; cases ha; exact hu trivial
    rw [upd_ne this]; exact h⟩
/-- something that the store does not know is laid -/
theorem Rel.laid (r : Rel T ρ H s) {p : Addr} {o : HO} (hp : H p = none) : Rel T ρ (upd H p o) s :=
  ⟨r.len, r.nd, fun i a o h1 h2 => (r.ob i a o h1 h2).mono (ext_upd hp).toExt0 (by
    obtain ⟨u, hu, _⟩ := r.tracked h1
    exact upd_ne (ne_of_none hu hp))⟩
theorem getElem?_snoc {α : Type} {l : List α} {x y : α} {i : Nat} (h : (l ++ [x])[i]? = some y) : l[i]? = some y ∨ (i = l.length ∧ y = x) := by
  by_cases hi : i < l.length
  · rw [List.getElem?_append_left hi] at h; exact .inl h
  · rw [List.getElem?_append_right (by omega)] at h
    have h' := h
    have : i - l.length = 0 := by
      cases e : i - l.length with
      | zero => rfl
      | succ n => rw [e] at h; simp at h
    rw [this] at h
    simp at h
    exact .inr ⟨by omega, h.symm⟩
/-- a new object -/
theorem Rel.new (r : Rel T ρ H s) {p : Addr} {o : HO} {b : Ob} (hp : H p = none) (hb : RO T (ρ ++ [p]) (upd H p o) b p) : Rel T (ρ ++ [p]) (upd H p o) (s ++ [b]) := by
  refine ⟨by rw [List.length_append, List.length_append, r.len]; rfl, ?_, fun i a o' h1 h2 => ?_⟩
  · rw [List.nodup_append]
    refine ⟨r.nd, by simp, fun x hx y hy => ?_⟩
    simp at hy
    subst hy
    obtain ⟨i, hi⟩ := List.getElem?_of_mem hx
    obtain ⟨u, hu, _⟩ := r.tracked hi
    exact ne_of_none hu hp
  · rcases getElem?_snoc h1 with q1 | ⟨e1, e2⟩
    · rcases getElem?_snoc h2 with q2 | ⟨e3, e4⟩
      · obtain ⟨u, hu, _⟩ := r.tracked q1
        exact (r.ob i a o' q1 q2).mono ((ext_upd hp).trans ext_push).toExt0 (upd_ne (ne_of_none hu hp))
      · exfalso
        have := (List.getElem?_eq_some_iff.mp q1).1
        have := r.len
        omega
    · rcases getElem?_snoc h2 with q2 | ⟨e3, e4⟩
      · exfalso
        have := (List.getElem?_eq_some_iff.mp q2).1
        have := r.len
        omega
      · subst e2 e4
        exact hb
theorem Rel.newExt (r : Rel T ρ H s) {p : Addr} {o : HO} (hp : H p = none) : Ext T ρ H (ρ ++ [p]) (upd H p o) := (ext_upd hp).trans ext_push
theorem Rel.newRef (r : Rel T ρ H s) {p : Addr} {H1 : Hp} : RV T (ρ ++ [p]) H1 (.ref s.length) (.ref p) :=
  .ref (by rw [← r.len, List.getElem?_append_right (Nat.le_refl _)]; simp)
/-- an object changed -/
theorem Rel.set (r : Rel T ρ H s) {i : Nat} {a : Addr} {o : HO} {b : Ob} (ha : ρ[i]? = some a) (hb : RO T ρ (upd H a o) b a) : Rel T ρ (upd H a o) (s.set i b) := by
  obtain ⟨u, hu, nf⟩ := r.tracked ha
  refine ⟨by rw [List.length_set]; exact r.len, r.nd, fun j c o' h1 h2 => ?_⟩
  by_cases e : j = i
  · subst e
    have ec : c = a := Option.some.inj (h1.symm.trans ha)
    subst ec
    have hl : j < s.length := by rw [← r.len]; exact (List.getElem?_eq_some_iff.mp h1).1
    rw [List.getElem?_set_self hl] at h2
    cases h2
    exact hb
  · rw [List.getElem?_set_ne (fun z => e z.symm)] at h2
    have nc : c ≠ a := fun z => by
      subst z
      exact e (nodup_at r.nd h1 ha)
    exact (r.ob j c o' h1 h2).mono (ext0_set hu nf) (upd_ne nc)
where
  nodup_at {α : Type} {l : List α} {x : α} {i j : Nat} (nd : l.Nodup) (a : l[i]? = some x) (b : l[j]? = some x) : i = j := by
    exact (List.getElem?_inj (List.getElem?_eq_some_iff.mp a).1 nd).mp (a.trans b.symm)
theorem Rel.setExt (r : Rel T ρ H s) {i : Nat} {a : Addr} {o u : HO} (ha : ρ[i]? = some a) (hu : H a = some u) (nf : ¬ Fixd u := by exact fun z => z) : Ext T ρ H ρ (upd H a o) := ext_set hu nf
end

/-- the frame's slots -/
structure RL (T : Tb) (ρ : List Addr) (H : Hp) (lo : Lo) (σ : St) : Prop where
  len : lo.length = σ.length
  at_ : ∀ (i : Nat) (x : Vl), lo[i]? = some (some x) → ∃ v, σ[i]? = some (some v) ∧ RV T ρ H x v
theorem RL.mono {T : Tb} {ρ ρ' : List Addr} {H H' : Hp} {lo : Lo} {σ : St} (r : RL T ρ H lo σ) (e : Ext T ρ H ρ' H') : RL T ρ' H' lo σ :=
  ⟨r.len, fun i x h => let ⟨v, h1, h2⟩ := r.at_ i x h; ⟨v, h1, h2.mono e⟩⟩
theorem RL.set {T : Tb} {ρ : List Addr} {H : Hp} {lo : Lo} {σ : St} (r : RL T ρ H lo σ) {x : Vl} {v : V} (i : Nat) (h : RV T ρ H x v) : RL T ρ H (lo.set i (some x)) (σ.set i (some v)) := by
  refine ⟨by rw [List.length_set, List.length_set]; exact r.len, fun j y hj => ?_⟩
  by_cases e : j = i
  · subst e
    have hl : j < lo.length := by have := (List.getElem?_eq_some_iff.mp hj).1; rw [List.length_set] at this; exact this
    rw [List.getElem?_set_self hl] at hj
    cases hj
    exact ⟨v, List.getElem?_set_self (by rw [← r.len]; exact hl), h⟩
  · rw [List.getElem?_set_ne (fun z => e z.symm)] at hj
    obtain ⟨w, h1, h2⟩ := r.at_ j y hj
    exact ⟨w, by rw [List.getElem?_set_ne (fun z => e z.symm)]; exact h1, h2⟩

/-- an exception as it is handed on -/
def PoX (T : Tb) (W : XK) (ρ : List Addr) (H : Hp) (e : Ex) (s : Sto) : Prop :=
  ∀ (ρ' : List Addr) (H' : Hp) (C : Addr), Ext T ρ H ρ' H' → Rel T ρ' H' s → T.cl[e.c]? = some C →
    match e.fs with
    | none => W (.ref C) none H'
    | some fs => ∀ (d : Addr) (vs : List (Str × V)), H' d = some (.xd vs) → vs.map (·.1) = fs.map (·.1) → RVs T ρ' H' (fs.map (·.2)) (vs.map (·.2)) → W (.ref C) (some d) H'
/-- what is asked behind a computation -/
def Po {α β : Type} (R : List Addr → Hp → α → β → Prop) (T : Tb) (W : XK) (ρ : List Addr) (H : Hp) (r : Res α) (Q : β → Hp → Prop) : Prop := match r with
  | .ok a s => ∀ (ρ' : List Addr) (H' : Hp) (b : β), Ext T ρ H ρ' H' → Rel T ρ' H' s → R ρ' H' a b → Q b H'
  | .exc e s => PoX T W ρ H e s
  | .fail => False
theorem Po.mono {α β : Type} {R : List Addr → Hp → α → β → Prop} {T : Tb} {W : XK} {ρ ρ' : List Addr} {H H' : Hp} {r : Res α} {Q : β → Hp → Prop} (p : Po R T W ρ H r Q) (e : Ext T ρ H ρ' H') : Po R T W ρ' H' r Q := by
  cases r with
  | ok a s => exact fun ρ2 H2 b e2 => p ρ2 H2 b (e.trans e2)
  | exc x s => exact fun ρ2 H2 C e2 => p ρ2 H2 C (e.trans e2)
  | fail => exact p
/-- the reading of a computation -/
def tG {α β : Type} (R : List Addr → Hp → α → β → Prop) (T : Tb) (W : WX) (m : Lo → M α) : St → Hp → (β → Hp → Prop) → Prop := fun σ H Q =>
  ∃ (ρ : List Addr) (s : Sto) (lo : Lo), Rel T ρ H s ∧ RL T ρ H lo σ ∧ Po R T (fun c d H' => W c d σ H') ρ H (m lo s) Q
abbrev tE (T : Tb) (W : WX) (m : Lo → M Vl) : TE := tG (RV T) T W m
abbrev tA (T : Tb) (W : WX) (m : Lo → M (List Vl)) : TA := tG (RVs T) T W m
abbrev RB : List Addr → Hp → Bool → Bool → Prop := fun _ _ a b => a = b
abbrev tT (T : Tb) (W : WX) (m : Lo → M Bool) : TT := tG RB T W m
/-- the state behind a part -/
structure Bh {α β : Type} (R : List Addr → Hp → α → β → Prop) (T : Tb) (σ : St) (H : Hp) (b : β) (k : List Addr → Sto → Lo → α → Prop) : Prop where
  ex : ∃ (ρ : List Addr) (s : Sto) (lo : Lo) (a : α), Rel T ρ H s ∧ RL T ρ H lo σ ∧ R ρ H a b ∧ k ρ s lo a
/-- THE step: a part, then the rest -/
theorem tG_bnd {α β γ δ : Type} {R : List Addr → Hp → α → β → Prop} {R' : List Addr → Hp → γ → δ → Prop} {T : Tb} {W : WX} {m : Lo → M α} {f : Lo → α → M γ} {σ : St} {H : Hp} {Q : δ → Hp → Prop} {Q' : β → Hp → Prop}
    (h : tG R' T W (fun lo => bnd (m lo) (f lo)) σ H Q)
    (k : ∀ (ρ : List Addr) (s : Sto) (lo : Lo) (a : α) (b : β) (H1 : Hp), Rel T ρ H1 s → RL T ρ H1 lo σ → R ρ H1 a b → Po R' T (fun c d H' => W c d σ H') ρ H1 (f lo a s) Q → Q' b H1) : tG R T W m σ H Q' := by
  obtain ⟨ρ, s, lo, r, rl, p⟩ := h
  refine ⟨ρ, s, lo, r, rl, ?_⟩
  have p : Po R' T _ ρ H (bnd (m lo) (f lo) s) Q := p
  unfold bnd at p
  cases e : m lo s with
  | ok a s1 =>
    rw [e] at p
    exact fun ρ' H' b x r' hb => k ρ' s1 lo a b H' r' (rl.mono x) hb (p.mono x)
  | exc z s1 =>
    rw [e] at p
    exact p
  | fail =>
    rw [e] at p
    exact p
end Sm

/-! S1: expressions: names, constants, operators, tests, displays -/
namespace Sm
open PySem L2

theorem pe_mono {X : Cx} {e : Expr} {t t' : TE} (h : PE X e t) (k : ∀ σ H Q, t' σ H Q → t σ H Q) : PE X e t' := ⟨fun pins s σ H Q I q => h.run pins s σ H Q I (k σ H Q q)⟩
theorem pt_mono {X : Cx} {e : Expr} {t t' : TT} (h : PT X e t) (k : ∀ σ H Q, t' σ H Q → t σ H Q) : PT X e t' := ⟨fun pins s σ H Q I q => h.run pins s σ H Q I (k σ H Q q)⟩
theorem pw_mono {X : Cx} {e : Expr} {t t' : TT} (h : PW X e t) (k : ∀ σ H Q, t' σ H Q → t σ H Q) : PW X e t' := ⟨fun w pins s σ H Q I q => h.run w pins s σ H Q I (k σ H Q q)⟩
theorem pa_mono {X : Cx} {es : List Expr} {t t' : TA} (h : PA X es t) (k : ∀ σ H Q, t' σ H Q → t σ H Q) : PA X es t' := ⟨fun p pins s σ H Q I q => h.run p pins s σ H Q I (k σ H Q q)⟩

/-! ### the combinators -/
abbrev EM := Lo → M Vl
abbrev TM := Lo → M Bool
abbrev AM := Lo → M (List Vl)
abbrev O1 := Vl → Sto → Option (Vl × Sto)
abbrev O2 := Vl → Vl → Sto → Option (Vl × Sto)
abbrev OC := List Vl → Sto → Option (Vl × Sto)
abbrev OMt := Vl → List Vl → Sto → Option (Vl × Sto)
def eVar (i : Nat) : EM := fun lo s => match lo[i]? with
  | some (some v) => .ok v s
  | _ => .fail
def eC (v : Vl) : EM := fun _ s => .ok v s
def eOp1 (f : O1) (a : EM) : EM := fun lo => bnd (a lo) fun x => lift (f x)
def eOp (f : O2) (a b : EM) : EM := fun lo => bnd (a lo) fun x => bnd (b lo) fun y => lift (f x y)
def aNil : AM := fun _ s => .ok [] s
def aCons (a : EM) (r : AM) : AM := fun lo => bnd (a lo) fun x => bnd (r lo) fun xs => ret (x :: xs)
def eCB (f : OC) (a : AM) : EM := fun lo => bnd (a lo) fun xs => lift (f xs)
def eMt (f : OMt) (o : EM) (a : AM) : EM := fun lo => bnd (o lo) fun x => bnd (a lo) fun xs => lift (f x xs)
def tVal (a : EM) : TM := fun lo => bnd (a lo) fun x => match x with
  | .bl b => ret b
  | _ => failM
def tAndM (a b : TM) : TM := fun lo => bnd (a lo) fun x => match x with
  | true => b lo
  | false => ret false
def tOrM (a b : TM) : TM := fun lo => bnd (a lo) fun x => match x with
  | true => ret true
  | false => b lo
def tNotM (a : TM) : TM := fun lo => bnd (a lo) fun x => ret (!x)
def eAndM (a b : EM) : EM := fun lo => bnd (a lo) fun x => match x with
  | .bl true => b lo
  | .bl false => ret (.bl false)
  | _ => failM
def eOrM (a b : EM) : EM := fun lo => bnd (a lo) fun x => match x with
  | .bl false => b lo
  | .bl true => ret (.bl true)
  | _ => failM
def eNotM (a : EM) : EM := fun lo => bnd (a lo) fun x => match x with
  | .bl b => ret (.bl (!b))
  | _ => failM
def eIfM (t : TM) (a b : EM) : EM := fun lo => bnd (t lo) fun x => match x with
  | true => a lo
  | false => b lo
abbrev LIM : Nat := 16777216
theorem lim_eq : sizeLine = LIM := sizeLine_eq
def oTup : OC := fun xs s => if xs.length ≤ LIM then some (.tup xs, s) else none
def oLst : OC := fun xs s => if xs.length ≤ LIM then some (.ref s.length, s ++ [.lst xs]) else none

/-! ### behind an operation -/
def Aft (T : Tb) (ρ : List Addr) (H : Hp) (s : Sto) (v : Vl) (Q : VK) : Prop := ∀ (ρ' : List Addr) (H' : Hp) (z : V), Ext T ρ H ρ' H' → Rel T ρ' H' s → RV T ρ' H' v z → Q z H'
section
variable {T : Tb} {ρ : List Addr} {H : Hp} {s s' : Sto} {v : Vl} {Q : VK}
theorem Aft.here (k : Aft T ρ H s v Q) (r : Rel T ρ H s) {z : V} (h : RV T ρ H v z) : Q z H := k ρ H z .refl r h
theorem Aft.tup {xs : List Vl} {vs : List V} (k : Aft T ρ H s (.tup xs) Q) (r : Rel T ρ H s) (h : RVs T ρ H xs vs) {p : Addr} (hp : H p = none) : Q (.ref p) (upd H p (.tup vs)) :=
  k ρ _ _ (ext_upd hp) (r.laid hp) (.tup (SqT.of upd_same) (h.mono (ext_upd hp)))
theorem Aft.new {b : Ob} {o : HO} (k : Aft T ρ H (s ++ [b]) (.ref s.length) Q) (r : Rel T ρ H s) {p : Addr} (hp : H p = none) (hb : RO T (ρ ++ [p]) (upd H p o) b p) : Q (.ref p) (upd H p o) :=
  k _ _ _ (r.newExt hp) (r.new hp hb) r.newRef
theorem Aft.lst {xs : List Vl} {vs : List V} (k : Aft T ρ H (s ++ [.lst xs]) (.ref s.length) Q) (r : Rel T ρ H s) (h : RVs T ρ H xs vs) {p : Addr} (hp : H p = none) : Q (.ref p) (upd H p (.lst vs)) :=
  k.new r hp ⟨vs, upd_same, h.mono (r.newExt hp)⟩
theorem Aft.set {i : Nat} {b : Ob} {o u : HO} {a : Addr} {v : Vl} {z : V} (k : Aft T ρ H (s.set i b) v Q) (r : Rel T ρ H s) (ha : ρ[i]? = some a) (hu : H a = some u) (nf : ¬ Fixd u) (hb : RO T ρ (upd H a o) b a) (hv : RV T ρ H v z) : Q z (upd H a o) :=
  k _ _ _ (r.setExt ha hu nf) (r.set ha hb) (hv.mono (r.setExt ha hu nf))
end
def rO1 (T : Tb) (f : O1) : V → Hp → VK → Prop := fun x H Q => ∃ ρ s a v s', Rel T ρ H s ∧ RV T ρ H a x ∧ f a s = some (v, s') ∧ Aft T ρ H s' v Q
def rO (T : Tb) (f : O2) : R2 := fun x y H Q => ∃ ρ s a b v s', Rel T ρ H s ∧ RV T ρ H a x ∧ RV T ρ H b y ∧ f a b s = some (v, s') ∧ Aft T ρ H s' v Q
def rC (T : Tb) (f : OC) : List V → Hp → VK → Prop := fun xs H Q => ∃ ρ s as v s', Rel T ρ H s ∧ RVs T ρ H as xs ∧ f as s = some (v, s') ∧ Aft T ρ H s' v Q
def rMt (T : Tb) (f : OMt) : V → List V → Hp → VK → Prop := fun x xs H Q => ∃ ρ s a as v s', Rel T ρ H s ∧ RV T ρ H a x ∧ RVs T ρ H as xs ∧ f a as s = some (v, s') ∧ Aft T ρ H s' v Q
theorem po_lift {T : Tb} {W : XK} {ρ : List Addr} {H : Hp} {s : Sto} {f : Sto → Option (Vl × Sto)} {Q : VK} (p : Po (RV T) T W ρ H (lift f s) Q) : ∃ v s', f s = some (v, s') ∧ Aft T ρ H s' v Q := by
  unfold lift at p
  cases e : f s with
  | none => rw [e] at p; exact p.elim
  | some q =>
    obtain ⟨v, s'⟩ := q
    rw [e] at p
    exact ⟨v, s', rfl, p⟩
theorem po_ret {α β : Type} {R : List Addr → Hp → α → β → Prop} {T : Tb} {W : XK} {ρ : List Addr} {H : Hp} {s : Sto} {a : α} {Q : β → Hp → Prop} (p : Po R T W ρ H (ret a s) Q) (r : Rel T ρ H s) {b : β} (h : R ρ H a b) : Q b H := p ρ H b .refl r h
theorem po_bnd {α β γ δ : Type} {R : List Addr → Hp → α → β → Prop} {R' : List Addr → Hp → γ → δ → Prop} {T : Tb} {W : WX} {m : Lo → M α} {f : α → M γ} {ρ : List Addr} {s : Sto} {lo : Lo} {σ : St} {H : Hp} {Q : δ → Hp → Prop} {Q' : β → Hp → Prop}
    (r : Rel T ρ H s) (rl : RL T ρ H lo σ) (p : Po R' T (fun c d H' => W c d σ H') ρ H (bnd (m lo) f s) Q)
    (k : ∀ (ρ' : List Addr) (s' : Sto) (a : α) (b : β) (H' : Hp), Ext T ρ H ρ' H' → Rel T ρ' H' s' → RL T ρ' H' lo σ → R ρ' H' a b → Po R' T (fun c d H' => W c d σ H') ρ' H' (f a s') Q → Q' b H') : tG R T W m σ H Q' := by
  refine ⟨ρ, s, lo, r, rl, ?_⟩
  unfold bnd at p
  cases e : m lo s with
  | ok a s1 =>
    rw [e] at p
    exact fun ρ' H' b x r' hb => k ρ' s1 a b H' x r' (rl.mono x) hb (p.mono x)
  | exc z s1 => rw [e] at p; exact p
  | fail => rw [e] at p; exact p

section
variable {X : Cx} {T : Tb} {W : WX} {a b c e : Expr} {es : List Expr} {ma mb mc me : EM} {ta tb : TM} {mr : AM} {pos : Pos}
theorem ce_var (i : Nat) {x : Str} (hN : X.N[i]? = some x := by rfl) (hv : Vis X.env.scope x := by first | exact Or.inl rfl | exact Or.inr (Or.inl rfl) | exact Or.inr (Or.inr rfl)) (hd : (x == ("__debug__" : Str)) = false := by decide)
    (hcd : (x == ("__classdict__" : Str)) = false := by decide) : PE X (.Name x pos) (tE T W (eVar i)) :=
  pe_mono (pe_var hN hv hd hcd) fun σ H Q h => by
    obtain ⟨ρ, s, lo, r, rl, p⟩ := h
    have p : Po (RV T) T _ ρ H (eVar i lo s) Q := p
    unfold eVar at p
    split at p
    · rename_i v hv
      obtain ⟨z, h1, h2⟩ := rl.at_ i v hv
      exact ⟨z, h1, p ρ H z .refl r h2⟩
    · exact p.elim
theorem ce_of {v : Vl} {z : V} (h : PE X e (tC z)) (hv : ∀ ρ H, RV T ρ H v z) : PE X e (tE T W (eC v)) :=
  pe_mono h fun σ H Q h => by
    obtain ⟨ρ, s, lo, r, rl, p⟩ := h
    exact p ρ H z .refl r (hv ρ H)
theorem ce_int {i j} : PE X (.Constant (.int i) j pos) (tE T W (eC (.int i))) := ce_of pe_int fun _ _ => .int i
theorem ce_bl {i j} : PE X (.Constant (.bool i) j pos) (tE T W (eC (.bl i))) := ce_of pe_bl fun _ _ => .bl i
theorem ce_non {j} : PE X (.Constant .none j pos) (tE T W (eC .non)) := ce_of pe_non fun _ _ => .non
theorem ce_str {i j} : PE X (.Constant (.str i) j pos) (tE T W (eC (.str i))) := ce_of pe_str fun _ _ => .str i
/-- two parts and an operation of their values -/
theorem top_le {f : O2} {σ : St} {H : Hp} {Q : VK} (h : tE T W (eOp f ma mb) σ H Q) : tOp (rO T f) (tE T W ma) (tE T W mb) σ H Q :=
  tG_bnd (f := fun lo x => bnd (mb lo) fun y => lift (f x y)) h fun ρ s lo x z H1 r rl hx p =>
    po_bnd (m := mb) r rl p fun ρ' s' y z' H' ext r' rl' hy p' => by
      obtain ⟨v, s2, e, k⟩ := po_lift p'
      exact ⟨ρ', s', x, y, v, s2, r', hx.mono ext, hy, e, k⟩
theorem ce_op {op : Operator} {f : O2} (ho : OpR X (binaryOp op) (rO T f)) (ha : PE X a (tE T W ma)) (hb : PE X b (tE T W mb)) : PE X (.BinOp a op b pos) (tE T W (eOp f ma mb)) :=
  pe_mono (pe_op ho ha hb) fun _ _ _ h => top_le h
theorem ce_cmp {op : CmpOp} {f : O2} (ho : OpR X (compareOp op) (rO T f)) (ha : PE X a (tE T W ma)) (hb : PE X b (tE T W mb)) (hm : behindInMarks op b = false := by first | exact nomark _ | rfl) : PE X (.Compare a [op] [b] pos) (tE T W (eOp f ma mb)) :=
  pe_mono (pe_cmpR ho ha hb hm) fun _ _ _ h => top_le h
theorem ce_ix {f : O2} (ho : IxR X (rO T f)) (ha : PE X a (tE T W ma)) (hb : PE X b (tE T W mb)) (hs : PlainIx b := by exact fun _ _ => rfl) : PE X (.Subscript a b pos) (tE T W (eOp f ma mb)) :=
  pe_mono (pe_ix ho ha hb hs) fun _ _ _ h => top_le h
theorem ce_un {op : UnaryOp} {f : O1} (ho : UnR X (unaryOp op) (rO1 T f)) (ha : PE X a (tE T W ma)) : PE X (.UnaryOp op a pos) (tE T W (eOp1 f ma)) :=
  pe_mono (pe_un ho ha) fun σ H Q h =>
    tG_bnd (f := fun lo x => lift (f x)) h fun ρ s lo x z H1 r rl hx p => by
      obtain ⟨v, s2, e, k⟩ := po_lift p
      exact ⟨ρ, s, x, v, s2, r, hx, e, k⟩
/-! ### tests -/
theorem tval_le {σ : St} {H : Hp} {Q : Bool → Hp → Prop} (h : tT T W (tVal ma) σ H Q) : tE T W ma σ H fun x H1 => ∃ k, x = .bl k ∧ Q k H1 :=
  tG_bnd h fun ρ s lo x z H1 r rl hx p => by
    cases hx with
    | bl k => exact ⟨k, rfl, p ρ H1 k .refl r rfl⟩
    | _ => exact p.elim
theorem ct_val (h : PE X e (tE T W me)) (he : ∀ whole, isTrue e X.env whole = (do let v ← whole; standAt e.pos; holding [v] (truthy v)) := by intro _; rfl) : PT X e (tT T W (tVal me)) :=
  pt_mono (pt_val h he) fun _ _ _ h => tval_le h
theorem ct_cmp {op : CmpOp} {f : O2} (ho : OpR X (compareOp op) (rO T f)) (ha : PE X a (tE T W ma)) (hb : PE X b (tE T W mb)) (hm : behindInMarks op b = false := by first | exact nomark _ | rfl) : PT X (.Compare a [op] [b] pos) (tT T W (tVal (eOp f ma mb))) :=
  pt_mono (pt_cmpR ho ha hb hm) fun _ _ _ h => top_le (tval_le h)
theorem ct_not (h : PT X a (tT T W ta)) : PT X (.UnaryOp .Not a pos) (tT T W (tNotM ta)) :=
  pt_mono (pt_not h) fun _ _ _ h => tG_bnd h fun ρ s lo x z H1 r rl hx p => by
    cases hx
    exact po_ret (R := RB) p r rfl
theorem cw_and1 (ha : PT X a (tT T W ta)) : PW X (.BoolOp .And [a] pos) (tT T W ta) := pw_and1 ha
theorem cw_or1 (ha : PT X a (tT T W ta)) : PW X (.BoolOp .Or [a] pos) (tT T W ta) := pw_or1 ha
theorem cw_and (ha : PT X a (tT T W ta)) (hb : PW X (.BoolOp .And (b :: es) pos) (tT T W tb)) : PW X (.BoolOp .And (a :: b :: es) pos) (tT T W (tAndM ta tb)) :=
  pw_mono (pw_and ha hb) fun _ _ _ h => tG_bnd h fun ρ s lo x z H1 r rl hx p => by
    cases hx
    cases x with
    | true => exact ⟨ρ, s, lo, r, rl, p⟩
    | false => exact po_ret (R := RB) p r rfl
theorem cw_or (ha : PT X a (tT T W ta)) (hb : PW X (.BoolOp .Or (b :: es) pos) (tT T W tb)) : PW X (.BoolOp .Or (a :: b :: es) pos) (tT T W (tOrM ta tb)) :=
  pw_mono (pw_or ha hb) fun _ _ _ h => tG_bnd h fun ρ s lo x z H1 r rl hx p => by
    cases hx
    cases x with
    | false => exact ⟨ρ, s, lo, r, rl, p⟩
    | true => exact po_ret (R := RB) p r rfl
/-! ### and, or, not, if as values -/
theorem ce_one {op} (h : PE X a (tE T W ma)) : PE X (.BoolOp op [a] pos) (tE T W ma) := pe_one h
theorem ce_and (ha : PE X a (tE T W ma)) (hb : PE X (.BoolOp .And (b :: es) pos) (tE T W mb)) : PE X (.BoolOp .And (a :: b :: es) pos) (tE T W (eAndM ma mb)) :=
  pe_mono (pe_and ha hb) fun _ _ _ h => tG_bnd h fun ρ s lo x z H1 r rl hx p => by
    cases hx with
    | bl k =>
      cases k with
      | true => exact ⟨true, rfl, ρ, s, lo, r, rl, p⟩
      | false => exact ⟨false, rfl, po_ret (R := RV T) p r (.bl false)⟩
    | _ => exact p.elim
theorem ce_or (ha : PE X a (tE T W ma)) (hb : PE X (.BoolOp .Or (b :: es) pos) (tE T W mb)) : PE X (.BoolOp .Or (a :: b :: es) pos) (tE T W (eOrM ma mb)) :=
  pe_mono (pe_or ha hb) fun _ _ _ h => tG_bnd h fun ρ s lo x z H1 r rl hx p => by
    cases hx with
    | bl k =>
      cases k with
      | false => exact ⟨false, rfl, ρ, s, lo, r, rl, p⟩
      | true => exact ⟨true, rfl, po_ret (R := RV T) p r (.bl true)⟩
    | _ => exact p.elim
theorem ce_not (ha : PE X a (tE T W ma)) : PE X (.UnaryOp .Not a pos) (tE T W (eNotM ma)) :=
  pe_mono (pe_not ha) fun _ _ _ h => tG_bnd h fun ρ s lo x z H1 r rl hx p => by
    cases hx with
    | bl k => exact ⟨k, rfl, po_ret (R := RV T) p r (.bl _)⟩
    | _ => exact p.elim
theorem ce_if (hc : PT X c (tT T W ta)) (ha : PE X a (tE T W ma)) (hb : PE X b (tE T W mb)) : PE X (.IfExp c a b pos) (tE T W (eIfM ta ma mb)) :=
  pe_mono (pe_ifExp hc ha hb) fun _ _ _ h => tG_bnd h fun ρ s lo x z H1 r rl hx p => by
    cases hx
    cases x with
    | true => exact ⟨ρ, s, lo, r, rl, p⟩
    | false => exact ⟨ρ, s, lo, r, rl, p⟩
/-! ### argument lists, displays -/
theorem ca_nil : PA X [] (tA T W aNil) := pa_mono pa_nil fun σ H Q h => by
  obtain ⟨ρ, s, lo, r, rl, p⟩ := h
  exact p ρ H [] .refl r .nil
theorem ca_cons (ha : PE X e (tE T W me)) (hr : PA X es (tA T W mr)) (hs : starEach (e :: es) X.env = (false, eval e X.env) :: starEach es X.env := by rfl) : PA X (e :: es) (tA T W (aCons me mr)) :=
  pa_mono (pa_cons ha hr hs) fun _ _ _ h => tG_bnd (R := RV T) h fun ρ s lo x z H1 r rl hx p =>
    po_bnd (R := RVs T) (m := mr) r rl p fun ρ' s' xs zs H' ext r' rl' hxs p' => po_ret (R := RVs T) p' r' (.cons (hx.mono ext) hxs)
theorem tcb_le {f : OC} {σ : St} {H : Hp} {Q : VK} (h : tE T W (eCB f mr) σ H Q) : tA T W mr σ H fun vs H1 => rC T f vs H1 Q :=
  tG_bnd (R := RVs T) h fun ρ s lo xs zs H1 r rl hx p => by
    obtain ⟨v, s2, e, k⟩ := po_lift p
    exact ⟨ρ, s, xs, v, s2, r, hx, e, k⟩
theorem ce_tup {x1} (h : PA X es (tA T W mr)) : PE X (.Tuple es x1 pos) (tE T W (eCB oTup mr)) :=
  pe_mono (pe_tup h) fun _ _ _ h => tG_bnd (R := RVs T) h fun ρ s lo xs zs H1 r rl hx p => by
    obtain ⟨v, s2, e, k⟩ := po_lift p
    unfold oTup at e
    split at e
    · rename_i hl
      cases e
      exact ⟨by rw [← hx.length, lim_eq]; exact hl, fun q hq => k.tup r hx hq⟩
    · cases e
theorem ce_lst (h : PA X es (tA T W mr)) : PE X (.List es pos) (tE T W (eCB oLst mr)) :=
  pe_mono (pe_lst h) fun _ _ _ h => tG_bnd (R := RVs T) h fun ρ s lo xs zs H1 r rl hx p => by
    obtain ⟨v, s2, e, k⟩ := po_lift p
    unfold oLst at e
    split at e
    · rename_i hl
      cases e
      exact ⟨by rw [← hx.length, lim_eq]; exact hl, fun q hq => k.lst r hx hq⟩
    · cases e
/-! ### built-ins by name; methods of built-in types -/
theorem ce_callB {x : Str} {p : Pos} {id : String} {f : OC} (hc : CallR X (.builtin id) (rC T f)) (hg : Gl X x) (hm : X.mg x = none) (hv : bootBuiltins x = some (.builtin id)) (ha : PA X (e :: es) (tA T W mr)) (hn : x ≠ "__name__" := by decide) (hdb : (x == ("__debug__" : Str)) = false := by decide)
    (he : starEach (e :: es) X.env = (false, eval e X.env) :: starEach es X.env := by rfl) (hpl : (backTo pos (starEach es X.env)).any (·.1) = false := by rfl) : PE X (.Call (.Name x p) (e :: es) [] pos) (tE T W (eCB f mr)) :=
  pe_mono (pe_callB hc hg hm hv ha hn hdb he hpl) fun _ _ _ h => tcb_le h
theorem ce_callTy {x : Str} {p : Pos} {id : String} {f : OC} (hc : CallR X (.type id) (rC T f)) (hg : Gl X x) (hm : X.mg x = none) (hv : bootBuiltins x = some (.type id)) (ha : PA X (e :: es) (tA T W mr)) (hn : x ≠ "__name__" := by decide) (hdb : (x == ("__debug__" : Str)) = false := by decide)
    (he : starEach (e :: es) X.env = (false, eval e X.env) :: starEach es X.env := by rfl) (hpl : (backTo pos (starEach es X.env)).any (·.1) = false := by rfl) : PE X (.Call (.Name x p) (e :: es) [] pos) (tE T W (eCB f mr)) :=
  pe_mono (pe_callTy hc hg hm hv ha hn hdb he hpl) fun _ _ _ h => tcb_le h
end
end Sm

/-! S2: operators on values -/
namespace Sm
open PySem L2

/-! ### values that are known by their form -/
section
variable {T : Tb} {ρ : List Addr} {H : Hp} {z : V}
theorem RV.nonE (h : RV T ρ H .non z) : z = .non := by cases h; rfl
theorem RV.blE {b : Bool} (h : RV T ρ H (.bl b) z) : z = .bl b := by cases h; rfl
theorem RV.intE {i : Int} (h : RV T ρ H (.int i) z) : z = .int i := by cases h; rfl
theorem RV.strE {x : Str} (h : RV T ρ H (.str x) z) : z = .str x := by cases h; rfl
theorem RV.refE {i : Nat} (h : RV T ρ H (.ref i) z) : ∃ a, z = .ref a ∧ ρ[i]? = some a := by cases h; exact ⟨_, rfl, by assumption⟩
theorem RV.tupE {xs : List Vl} (h : RV T ρ H (.tup xs) z) : ∃ a vs, z = .ref a ∧ SqT T.K H a vs ∧ RVs T ρ H xs vs := by cases h; exact ⟨_, _, rfl, by assumption, by assumption⟩
theorem RV.scrE {ns : List Int} (h : RV T ρ H (.scr ns) z) : ∃ a, z = .ref a ∧ SqL T.K H a (ns.map V.int) := by
  cases h with
  | scr h => exact ⟨_, rfl, .inl (.inr ⟨_, h⟩)⟩
  | scrK h => exact ⟨_, rfl, h H⟩
theorem Rel.lst {s : Sto} {i : Nat} {xs : List Vl} {a : Addr} (r : Rel T ρ H s) (h : s[i]? = some (.lst xs)) (ha : ρ[i]? = some a) : ∃ vs, H a = some (.lst vs) ∧ RVs T ρ H xs vs := r.ob i a _ ha h
theorem Rel.dic {s : Sto} {i : Nat} {kvs : List (Key × Vl)} {a : Addr} (r : Rel T ρ H s) (h : s[i]? = some (.dic kvs)) (ha : ρ[i]? = some a) :
    ∃ vs : List (Key × V), H a = some (.dK vs) ∧ vs.map (·.1) = kvs.map (·.1) ∧ RVs T ρ H (kvs.map (·.2)) (vs.map (·.2)) := r.ob i a _ ha h
end

/-! ### ints -/
def opSub : O2
  | .int i, .int j, s => some (.int (i - j), s)
  | _, _, _ => none
def opMul : O2
  | .int i, .int j, s => if (-(2 ^ 64) < i ∧ i < 2 ^ 64) ∨ (-(2 ^ 64) < j ∧ j < 2 ^ 64) then some (.int (i * j), s) else none
  | .ref i, .int k, s => match s[i]? with
    | some (.lst xs) => if 0 ≤ k ∧ k < 2 ^ 60 ∧ xs.length * k.toNat ≤ LIM then some (.ref s.length, s ++ [.lst (List.replicate k.toNat xs).flatten]) else none
    | _ => none
  | _, _, _ => none
def opFdiv : O2
  | .int i, .int j, s => if 0 < j ∧ j < 1073741824 then some (.int (i / j), s) else none
  | _, _, _ => none
def opMod : O2
  | .int i, .int j, s => if 0 < j then some (.int (i % j), s) else none
  | _, _, _ => none
def opPow : O2
  | .int i, .int j, s => if 0 ≤ j ∧ j ≤ 1000000 ∧ i.natAbs < 2 ^ 64 then some (.int (i ^ j.toNat), s) else none
  | _, _, _ => none
def opAdd : O2
  | .int i, .int j, s => some (.int (i + j), s)
  | .str x, .str y, s => if x.length + y.length ≤ LIM then some (.str (x ++ y), s) else none
  | .tup xs, .tup ys, s => if xs.length + ys.length ≤ LIM then some (.tup (xs ++ ys), s) else none
  | .ref i, .ref j, s => match s[i]?, s[j]? with
    | some (.lst xs), some (.lst ys) => if xs.length + ys.length ≤ LIM then some (.ref s.length, s ++ [.lst (xs ++ ys)]) else none
    | _, _ => none
  | _, _, _ => none
def opLt : O2
  | .int i, .int j, s => some (.bl (decide (i < j)), s)
  | _, _, _ => none
def opLe : O2
  | .int i, .int j, s => some (.bl (decide (i ≤ j)), s)
  | _, _, _ => none
def opGt : O2
  | .int i, .int j, s => some (.bl (decide (j < i)), s)
  | _, _, _ => none
def opGe : O2
  | .int i, .int j, s => some (.bl (decide (j ≤ i)), s)
  | _, _, _ => none
def isNon : Vl → Bool
  | .non => true
  | _ => false
def opIsN : O2
  | x, .non, s => some (.bl (isNon x), s)
  | _, _, _ => none
def opNotN : O2
  | x, .non, s => some (.bl (!isNon x), s)
  | _, _, _ => none
def opNeg : O1
  | .int i, s => some (.int (-i), s)
  | _, _ => none
section
variable {X : Cx} {T : Tb}
theorem OpR.imp {f : Value → Value → Sem Value} {r r' : R2} (h : OpR X f r) (k : ∀ x y H Q, r' x y H Q → r x y H Q) : OpR X f r' := fun pins s σ H x y v u Q I rx ry q => h pins s σ H x y v u Q I rx ry (k x y H Q q)
theorem oi {f : Value → Value → Sem Value} {C : Int → Int → Prop} {g : Int → Int → Vl} {gv : Int → Int → V} {op : O2} (hg : ∀ ρ H i j, RV T ρ H (g i j) (gv i j)) (h : OpR X f (rI C gv))
    (hop : ∀ a b s v s', op a b s = some (v, s') → ∃ i j, a = .int i ∧ b = .int j ∧ C i j ∧ v = g i j ∧ s' = s) : OpR X f (rO T op) := OpR.imp h fun x y H Q q => by
  obtain ⟨ρ, s, a, b, v, s', r, ha, hb, e, k⟩ := q
  obtain ⟨i, j, rfl, rfl, c, rfl, rfl⟩ := hop a b s v s' e
  exact ⟨i, j, ha.intE, hb.intE, c, k.here r (hg ρ H i j)⟩
theorem oi0 {f : Value → Value → Sem Value} {g : Int → Int → Vl} {gv : Int → Int → V} {op : O2} (hg : ∀ ρ H i j, RV T ρ H (g i j) (gv i j)) (h : OpR X f (rI0 gv))
    (hop : ∀ a b s v s', op a b s = some (v, s') → ∃ i j, a = .int i ∧ b = .int j ∧ v = g i j ∧ s' = s) : OpR X f (rO T op) := OpR.imp h fun x y H Q q => by
  obtain ⟨ρ, s, a, b, v, s', r, ha, hb, e, k⟩ := q
  obtain ⟨i, j, rfl, rfl, rfl, rfl⟩ := hop a b s v s' e
  exact ⟨i, j, ha.intE, hb.intE, k.here r (hg ρ H i j)⟩
theorem o_sub : OpR X (binaryOp .Sub) (rO T opSub) := oi0 (g := fun i j => .int (i - j)) (fun _ _ i j => .int _) op_sub fun a b s v s' e => by
  cases a <;> cases b <;> simp [opSub] at e
  exact ⟨_, _, rfl, rfl, e.1.symm, e.2.symm⟩
theorem o_lt : OpR X (compareOp .Lt) (rO T opLt) := oi0 (g := fun i j => .bl (decide (i < j))) (fun _ _ i j => .bl _) op_lt fun a b s v s' e => by
  cases a <;> cases b <;> simp [opLt] at e
  exact ⟨_, _, rfl, rfl, e.1.symm, e.2.symm⟩
theorem o_le : OpR X (compareOp .LtE) (rO T opLe) := oi0 (g := fun i j => .bl (decide (i ≤ j))) (fun _ _ i j => .bl _) op_le fun a b s v s' e => by
  cases a <;> cases b <;> simp [opLe] at e
  exact ⟨_, _, rfl, rfl, e.1.symm, e.2.symm⟩
theorem o_gt : OpR X (compareOp .Gt) (rO T opGt) := oi0 (g := fun i j => .bl (decide (j < i))) (fun _ _ i j => .bl _) op_gt fun a b s v s' e => by
  cases a <;> cases b <;> simp [opGt] at e
  exact ⟨_, _, rfl, rfl, e.1.symm, e.2.symm⟩
theorem o_ge : OpR X (compareOp .GtE) (rO T opGe) := oi0 (g := fun i j => .bl (decide (j ≤ i))) (fun _ _ i j => .bl _) op_ge fun a b s v s' e => by
  cases a <;> cases b <;> simp [opGe] at e
  exact ⟨_, _, rfl, rfl, e.1.symm, e.2.symm⟩
theorem o_fdiv : OpR X (binaryOp .FloorDiv) (rO T opFdiv) := oi (C := CDiv) (g := fun i j => .int (i / j)) (fun _ _ i j => .int _) op_fdiv fun a b s v s' e => by
  cases a <;> cases b <;> simp [opFdiv] at e
  exact ⟨_, _, rfl, rfl, e.1, e.2.1.symm, e.2.2.symm⟩
theorem o_mod : OpR X (binaryOp .Mod) (rO T opMod) := oi (C := fun _ j => 0 < j) (g := fun i j => .int (i % j)) (fun _ _ i j => .int _) op_mod fun a b s v s' e => by
  cases a <;> cases b <;> simp [opMod] at e
  exact ⟨_, _, rfl, rfl, e.1, e.2.1.symm, e.2.2.symm⟩
theorem o_pow : OpR X (binaryOp .Pow) (rO T opPow) := oi (C := CPow) (g := fun i j => .int (i ^ j.toNat)) (fun _ _ i j => .int _) op_pow fun a b s v s' e => by
  cases a <;> cases b <;> simp only [opPow] at e <;> try cases e
  split at e
  · rename_i h
    cases e
    exact ⟨_, _, rfl, rfl, h, rfl, rfl⟩
  · cases e
theorem o_neg : UnR X (unaryOp .USub) (rO1 T opNeg) := fun pins s σ H x v Q I rx q => by
  obtain ⟨ρ, st, a, w, s', r, ha, e, k⟩ := q
  cases a <;> simp [opNeg] at e
  obtain ⟨rfl, rfl⟩ := e
  exact un_neg pins s σ H x v Q I rx ⟨_, ha.intE, k.here r (.int _)⟩
theorem o_add (hK : X.K = T.K := by rfl) : OpR X (binaryOp .Add) (rO T opAdd) := fun pins s σ H x y v u Q I rx ry q => by
  obtain ⟨ρ, st, a, b, w, s', r, ha, hb, e, k⟩ := q
  cases a <;> cases b <;> simp only [opAdd] at e <;> try cases e
  · exact op_add pins s σ H x y v u Q I rx ry ⟨_, _, ha.intE, hb.intE, k.here r (.int _)⟩
  · split at e
    · rename_i h
      cases e
      exact op_add_str pins s σ H x y v u Q I rx ry ⟨_, _, ha.strE, hb.strE, by rw [lim_eq]; exact h, k.here r (.str _)⟩
    · cases e
  · split at e
    · rename_i xs ys h
      cases e
      obtain ⟨p, vs, rfl, h1, h2⟩ := ha.tupE
      obtain ⟨p', vs', rfl, h1', h2'⟩ := hb.tupE
      refine op_catA pins s σ H _ _ v u Q I rx ry ⟨p, p', vs, vs', rfl, rfl, by rw [hK]; exact h1, by rw [hK]; exact h1', by rw [← h2.length, ← h2'.length, lim_eq]; exact h, ?_, ?_, ?_⟩
      · intro e
        subst e
        cases h2
        exact k.here r (.tup h1' h2')
      · intro _ e
        subst e
        cases h2'
        rw [List.append_nil] at k
        exact k.here r (.tup h1 h2)
      · intro _ _ q hq
        exact k.tup r (h2.append h2') hq
    · cases e
  · rename_i i j
    split at e
    · rename_i xs ys h1 h2
      split at e
      · rename_i h
        cases e
        obtain ⟨p, rfl, hp⟩ := ha.refE
        obtain ⟨p', rfl, hp'⟩ := hb.refE
        obtain ⟨vs, g1, g2⟩ := r.lst h1 hp
        obtain ⟨vs', g1', g2'⟩ := r.lst h2 hp'
        exact op_cat pins s σ H _ _ v u Q I rx ry ⟨p, p', vs, vs', rfl, rfl, g1, g1', by rw [← g2.length, ← g2'.length, lim_eq]; exact h, fun q hq => k.lst r (g2.append g2') hq⟩
      · cases e
    · cases e
theorem RVs.rep {ρ : List Addr} {H : Hp} {xs : List Vl} {vs : List V} (h : RVs T ρ H xs vs) : ∀ n : Nat, RVs T ρ H (List.replicate n xs).flatten (List.replicate n vs).flatten
  | 0 => .nil
  | n + 1 => by
    rw [List.replicate_succ, List.replicate_succ, List.flatten_cons, List.flatten_cons]
    exact h.append (RVs.rep h n)
theorem o_mul : OpR X (binaryOp .Mult) (rO T opMul) := fun pins s σ H x y v u Q I rx ry q => by
  obtain ⟨ρ, st, a, b, w, s', r, ha, hb, e, k⟩ := q
  cases a <;> cases b <;> simp only [opMul] at e <;> try cases e
  · split at e
    · rename_i h
      cases e
      exact op_mul pins s σ H x y v u Q I rx ry ⟨_, _, ha.intE, hb.intE, h, k.here r (.int _)⟩
    · cases e
  · split at e
    · rename_i xs h1
      split at e
      · rename_i h
        cases e
        obtain ⟨p, rfl, hp⟩ := ha.refE
        obtain ⟨vs, g1, g2⟩ := r.lst h1 hp
        have hz := h.2.1
        exact op_rep pins s σ H _ _ v u Q I rx ry ⟨p, _, vs, rfl, hb.intE, g1, by omega, by omega, by rw [← g2.length, lim_eq]; exact h.2.2, fun q hq => k.lst r (g2.rep _) hq⟩
      · cases e
    · cases e
theorem RV.non_iff {ρ : List Addr} {H : Hp} {a : Vl} {x : V} (h : RV T ρ H a x) : decide (x = .non) = isNon a := by
  cases h <;> simp [isNon]
theorem o_isN : OpR X (compareOp .Is) (rO T opIsN) := fun pins s σ H x y v u Q I rx ry q => by
  obtain ⟨ρ, st, a, b, w, s', r, ha, hb, e, k⟩ := q
  cases b <;> simp only [opIsN] at e <;> try cases e
  exact op_isN pins s σ H x y v u Q I rx ry ⟨hb.nonE, by rw [ha.non_iff]; exact k.here r (.bl _)⟩
theorem o_notN : OpR X (compareOp .IsNot) (rO T opNotN) := fun pins s σ H x y v u Q I rx ry q => by
  obtain ⟨ρ, st, a, b, w, s', r, ha, hb, e, k⟩ := q
  cases b <;> simp only [opNotN] at e <;> try cases e
  refine op_notN pins s σ H x y v u Q I rx ry ⟨hb.nonE, ?_⟩
  rw [ha.non_iff]
  exact k.here r (.bl _)
end

/-! ### data -/
def mapO {α β : Type} (f : α → Option β) : List α → Option (List β)
  | [] => some []
  | x :: xs => match f x, mapO f xs with
    | some y, some ys => some (y :: ys)
    | _, _ => none
def toD : Nat → Sto → Vl → Option PyData
  | 0, _, _ => none
  | n + 1, s, v => match v with
    | .non => some .none
    | .bl b => some (.bool b)
    | .int i => some (.int i)
    | .str x => some (.str x)
    | .tup xs => (mapO (toD n s) xs).map .tuple
    | .ref i => match s[i]? with
      | some (.lst xs) => (mapO (toD n s) xs).map .list
      | _ => none
    | _ => none
section
variable {T : Tb} {ρ : List Addr} {H : Hp} {s : Sto}
theorem toDs_dp {f : Vl → Option PyData} {n : Nat} (hf : ∀ v z d, RV T ρ H v z → f v = some d → Dp T.K H z d ∧ d.depth ≤ n) : ∀ {xs : List Vl} {vs : List V} {ds : List PyData}, RVs T ρ H xs vs → mapO f xs = some ds → DpAll T.K H vs ds ∧ PyData.depthAll ds ≤ n
  | _, _, _, .nil, e => by
    simp only [mapO] at e
    cases e
    exact ⟨.nil, by simp only [PyData.depthAll]; omega⟩
  | _, _, _, .cons h hs, e => by
    simp only [mapO] at e
    split at e
    · rename_i y ys e1 e2
      cases e
      obtain ⟨a1, a2⟩ := hf _ _ _ h e1
      obtain ⟨b1, b2⟩ := toDs_dp hf hs e2
      refine ⟨.cons a1 b1, ?_⟩
      simp only [PyData.depthAll]
      omega
    · cases e
theorem toD_dp (r : Rel T ρ H s) : ∀ (n : Nat) (v : Vl) (z : V) (d : PyData), RV T ρ H v z → toD n s v = some d → Dp T.K H z d ∧ d.depth ≤ n
  | 0, _, _, _, _, e => by cases e
  | n + 1, v, z, d, h, e => by
    have ih := toD_dp r n
    cases v <;> simp only [toD] at e <;> try cases e
    · rw [h.nonE]; exact ⟨.non, by simp only [PyData.depth]; omega⟩
    · rw [h.blE]; exact ⟨.bl _, by simp only [PyData.depth]; omega⟩
    · rw [h.intE]; exact ⟨.int _, by simp only [PyData.depth]; omega⟩
    · rw [h.strE]; exact ⟨.str _, by simp only [PyData.depth]; omega⟩
    · rename_i xs
      cases e1 : mapO (toD n s) xs with
      | none => rw [e1] at e; cases e
      | some ds =>
        rw [e1] at e
        cases e
        obtain ⟨a, vs, rfl, h1, h2⟩ := h.tupE
        obtain ⟨b1, b2⟩ := toDs_dp ih h2 e1
        exact ⟨.tup h1 b1, by simp only [PyData.depth]; omega⟩
    · rename_i i
      split at e
      · rename_i xs hx
        cases e1 : mapO (toD n s) xs with
        | none => rw [e1] at e; cases e
        | some ds =>
          rw [e1] at e
          cases e
          obtain ⟨a, rfl, ha⟩ := h.refE
          obtain ⟨vs, h1, h2⟩ := r.lst hx ha
          obtain ⟨b1, b2⟩ := toDs_dp ih h2 e1
          exact ⟨.lst (SqL.of h1) b1, by simp only [PyData.depth]; omega⟩
      · cases e
end
/-- == -/
def eqS : Vl → Vl → Option Bool
  | .non, .non => some true
  | .int i, .int j => some (i == j)
  | .bl i, .bl j => some (i == j)
  | .str i, .str j => some (i == j)
  | .non, .int _ => some false
  | .non, .str _ => some false
  | .int _, .non => some false
  | .int _, .str _ => some false
  | .str _, .non => some false
  | .str _, .int _ => some false
  | _, _ => none
def eqM (a b : Vl) (s : Sto) : Option Bool := match eqS a b with
  | some k => some k
  | none => match toD 40 s a, toD 40 s b with
    | some d, some e => if d.canLay0 && e.canLay0 then some (PyData.eqv d e) else none
    | _, _ => none
def opEq : O2 := fun a b s => match eqM a b s with
  | some k => some (.bl k, s)
  | none => none
def opNe : O2 := fun a b s => match eqM a b s with
  | some k => some (.bl (!k), s)
  | none => none
section
variable {X : Cx} {T : Tb}
theorem eqS_ok {ρ : List Addr} {H : Hp} {a b : Vl} {x y : V} {k : Bool} (ha : RV T ρ H a x) (hb : RV T ρ H b y) (e : eqS a b = some k) : scal x y = true ∧ decide (x = y) = k := by
  cases ha <;> cases hb <;> simp only [eqS] at e <;> try cases e
  all_goals (refine ⟨rfl, ?_⟩)
  all_goals first
    | (rw [dec_int]; done)
    | (rw [dec_bl]; done)
    | (rw [dec_str]; done)
    | simp
theorem sh40 {d : PyData} (h : d.canLay0 = true) (h2 : d.depth ≤ 40) : SeqAt.shaped d = true := by
  unfold SeqAt.shaped
  rw [h, decide_eq_true (by omega)]
  rfl
theorem o_eq (hu : X.A.units + 64 < cLine) (hK : X.K = T.K := by rfl) : OpR X (compareOp .Eq) (rO T opEq) := fun pins s σ H x y v u Q I rx ry q => by
  obtain ⟨ρ, st, a, b, w, s', r, ha, hb, e, k⟩ := q
  unfold opEq at e
  split at e
  · rename_i c hc
    cases e
    unfold eqM at hc
    split at hc
    · rename_i c' hs
      cases hc
      obtain ⟨h1, h2⟩ := eqS_ok ha hb hs
      exact op_eq pins s σ H x y v u Q I rx ry ⟨h1, by rw [h2]; exact k.here r (.bl _)⟩
    · split at hc
      · rename_i d e hd he
        split at hc
        · rename_i hl
          cases hc
          obtain ⟨l1, l2⟩ := Bool.and_eq_true_iff.mp hl
          obtain ⟨p1, p2⟩ := toD_dp r 40 a x d ha hd
          obtain ⟨q1, q2⟩ := toD_dp r 40 b y e hb he
          exact op_eqD hu pins s σ H x y v u Q I rx ry ⟨d, e, by rw [hK]; exact p1, by rw [hK]; exact q1, sh40 l1 p2, sh40 l2 q2, k.here r (.bl _)⟩
        · cases hc
      · cases hc
  · cases e
theorem o_ne (hu : X.A.units + 64 < cLine) (hK : X.K = T.K := by rfl) : OpR X (compareOp .NotEq) (rO T opNe) := fun pins s σ H x y v u Q I rx ry q => by
  obtain ⟨ρ, st, a, b, w, s', r, ha, hb, e, k⟩ := q
  unfold opNe at e
  split at e
  · rename_i c hc
    cases e
    unfold eqM at hc
    split at hc
    · rename_i c' hs
      cases hc
      obtain ⟨h1, h2⟩ := eqS_ok ha hb hs
      exact op_ne pins s σ H x y v u Q I rx ry ⟨h1, by rw [h2]; exact k.here r (.bl _)⟩
    · split at hc
      · rename_i d e hd he
        split at hc
        · rename_i hl
          cases hc
          obtain ⟨l1, l2⟩ := Bool.and_eq_true_iff.mp hl
          obtain ⟨p1, p2⟩ := toD_dp r 40 a x d ha hd
          obtain ⟨q1, q2⟩ := toD_dp r 40 b y e hb he
          exact op_neD hu pins s σ H x y v u Q I rx ry ⟨d, e, by rw [hK]; exact p1, by rw [hK]; exact q1, sh40 l1 p2, sh40 l2 q2, k.here r (.bl _)⟩
        · cases hc
      · cases hc
  · cases e
end
end Sm

/-! S3: subscripts, slices, in, stores, built-in calls, methods of built-in types -/
namespace Sm
open PySem L2

/-! ### dicts as lists of pairs -/
section
variable {κ : Type} [DecidableEq κ]
def look (kvs : List (κ × Vl)) (k : κ) : Option Vl := match kvs with
  | [] => none
  | p :: r => if p.1 = k then some p.2 else look r k
def hasK (kvs : List (κ × Vl)) (k : κ) : Bool := match kvs with
  | [] => false
  | p :: r => if p.1 = k then true else hasK r k
/-- in its place, or at the end -/
def put (kvs : List (κ × Vl)) (k : κ) (v : Vl) : List (κ × Vl) := match kvs with
  | [] => [(k, v)]
  | p :: r => if p.1 = k then (k, v) :: r else p :: put r k v
variable {T : Tb} {ρ : List Addr} {H : Hp}
theorem look_ok {k : κ} : ∀ {kvs : List (κ × Vl)} {vs : List (κ × V)}, vs.map (·.1) = kvs.map (·.1) → RVs T ρ H (kvs.map (·.2)) (vs.map (·.2)) →
    (look kvs k = none → valV vs k = none) ∧ ∀ v, look kvs k = some v → ∃ z, valV vs k = some z ∧ RV T ρ H v z
  | [], [], _, _ => ⟨fun _ => rfl, fun v e => by simp [look] at e⟩
  | [], _ :: _, e, _ => by simp at e
  | _ :: _, [], e, _ => by simp at e
  | p :: r, q :: t, e, h => by
    simp only [List.map_cons, List.cons.injEq] at e
    rw [List.map_cons, List.map_cons] at h
    cases h with
    | cons h1 h2 =>
      have ih := look_ok (k := k) e.2 h2
      by_cases hk : p.1 = k
      · have hq : q.1 = k := e.1.trans hk
        rw [valV_pos hq]
        refine ⟨fun z => ?_, fun v z => ?_⟩
        · simp only [look, if_pos hk] at z; cases z
        · simp only [look, if_pos hk] at z; cases z; exact ⟨_, rfl, h1⟩
      · have hq : ¬ q.1 = k := fun z => hk (e.1.symm.trans z)
        rw [valV_neg hq]
        simp only [look, if_neg hk]
        exact ih
theorem hasK_look (kvs : List (κ × Vl)) (k : κ) : hasK kvs k = (look kvs k).isSome := by
  induction kvs with
  | nil => rfl
  | cons p r ih =>
    unfold hasK look
    by_cases h : p.1 = k
    · rw [if_pos h, if_pos h]; rfl
    · rw [if_neg h, if_neg h]; exact ih
theorem hasK_ok {k : κ} {kvs : List (κ × Vl)} {vs : List (κ × V)} (e : vs.map (·.1) = kvs.map (·.1)) (h : RVs T ρ H (kvs.map (·.2)) (vs.map (·.2))) : hasK kvs k = (valV vs k).isSome := by
  rw [hasK_look]
  obtain ⟨h1, h2⟩ := look_ok (k := k) e h
  cases q : look kvs k with
  | none => rw [h1 q]; rfl
  | some v => obtain ⟨z, hz, _⟩ := h2 v q; rw [hz]; rfl
theorem putK_cons_eq {k : κ} {q : κ × V} {t : List (κ × V)} {z : V} (nd : q.1 = k) (hn : valV t k = none) : putK (q :: t) k z = (k, z) :: t := by
  unfold putK
  rw [if_pos (by simp [nd])]
  rw [List.map_cons, if_pos nd, nd]
  congr 1
  rw [List.map_congr_left (g := id)]
  · simp
  · intro p hp
    have : ¬ p.1 = k := fun e => by
      have h2 : (valV t k).isSome = true := by
        rw [← valV_any]
        exact List.any_eq_true.mpr ⟨p, hp, by simp [e]⟩
      rw [hn] at h2; cases h2
    rw [if_neg this]; rfl
theorem putK_cons_ne {k : κ} {q : κ × V} {t : List (κ × V)} {z : V} (h : ¬ q.1 = k) : putK (q :: t) k z = q :: putK t k z := by
  unfold putK
  rw [List.any_cons, decide_eq_false h, Bool.false_or]
  split
  · rw [List.map_cons, if_neg h]
  · rfl
theorem put_ok {k : κ} {v : Vl} {z : V} (hv : RV T ρ H v z) : ∀ {kvs : List (κ × Vl)} {vs : List (κ × V)}, (vs.map (·.1)).Nodup → vs.map (·.1) = kvs.map (·.1) → RVs T ρ H (kvs.map (·.2)) (vs.map (·.2)) →
    (putK vs k z).map (·.1) = (put kvs k v).map (·.1) ∧ RVs T ρ H ((put kvs k v).map (·.2)) ((putK vs k z).map (·.2))
  | [], [], _, _, _ => ⟨rfl, .cons hv .nil⟩
  | [], _ :: _, _, e, _ => by simp at e
  | _ :: _, [], _, e, _ => by simp at e
  | p :: r, q :: t, nd, e, h => by
    simp only [List.map_cons, List.cons.injEq] at e
    rw [List.map_cons, List.nodup_cons] at nd
    rw [List.map_cons, List.map_cons] at h
    cases h with
    | cons h1 h2 =>
      by_cases hk : p.1 = k
      · have hq : q.1 = k := e.1.trans hk
        have hn : valV t k = none := by
          cases w : valV t k with
          | none => rfl
          | some u =>
            exfalso
            have h3 : (t.any fun kv => decide (kv.1 = k)) = true := by rw [valV_any, w]; rfl
            obtain ⟨p', hp, e'⟩ := List.any_eq_true.mp h3
            exact nd.1 (by rw [hq, ← of_decide_eq_true e']; exact List.mem_map_of_mem hp)
        rw [putK_cons_eq hq hn]
        simp only [put, if_pos hk]
        exact ⟨by simp [e.2], .cons hv h2⟩
      · have hq : ¬ q.1 = k := fun z => hk (e.1.symm.trans z)
        rw [putK_cons_ne hq]
        simp only [put, if_neg hk]
        obtain ⟨a, b⟩ := put_ok hv nd.2 e.2 h2
        exact ⟨by simp [e.1, a], .cons h1 b⟩
end
def keyOf : Vl → Option Key
  | .int i => some (.inl i)
  | .str x => some (.inr x)
  | _ => none
def keyVl : Key → Vl
  | .inl i => .int i
  | .inr x => .str x
section
variable {T : Tb} {ρ : List Addr} {H : Hp}
theorem keyOf_ok {a : Vl} {x : V} {k : Key} (h : RV T ρ H a x) (e : keyOf a = some k) : x = kV k := by
  cases a <;> simp [keyOf] at e
  · subst e; exact h.intE
  · subst e; exact h.strE
theorem keyVl_ok (k : Key) : RV T ρ H (keyVl k) (kV k) := by
  cases k with
  | inl i => exact .int i
  | inr x => exact .str x
theorem RVs.at : ∀ {xs : List Vl} {vs : List V} {i : Int} {x : Vl}, RVs T ρ H xs vs → atI xs i = some x → ∃ v, atI vs i = some v ∧ RV T ρ H x v := fun {xs vs i x} h e => by
  unfold atI at e ⊢
  rw [← h.length]
  cases q : ixN xs.length i with
  | none => rw [q] at e; cases e
  | some j =>
    rw [q] at e
    exact h.get e
end
/-- the dict's keys are unlike: by the abstract heap -/
theorem dk_nodup {X : Cx} {pins : List (Addr × Obj)} {σ : St} {H : Hp} {s : Shared} {a : Addr} {vs : List (Key × V)} (I : Inv X pins σ H s) (h : H a = some (.dK vs)) : (vs.map (·.1)).Nodup := by
  obtain ⟨_, _, us, rel, dd⟩ := dk_of I.hok h
  have e := rel.keys
  rw [e]
  obtain ⟨_, _, _, _, _, _, _, _, nd⟩ := dd
  exact nd
/-! ### subscripts -/
def opIx : O2
  | .tup xs, .int i, s => (atI xs i).map fun v => (v, s)
  | .scr ns, .int i, s => (atI ns i).map fun v => (.int v, s)
  | .str x, .int i, s => if x.length ≤ LIM then (atI x.cps.toList i).map fun c => (.str ⟨#[c]⟩, s) else none
  | .ref j, y, s => match s[j]? with
    | some (.lst xs) => match y with
      | .int i => (atI xs i).map fun v => (v, s)
      | _ => none
    | some (.dic kvs) => match keyOf y with
      | some k => (look kvs k).map fun v => (v, s)
      | none => none
    | _ => none
  | _, _, _ => none
section
variable {X : Cx} {T : Tb}
theorem o_ix (hu : X.A.units + 1 < cLine) (hK : X.K = T.K := by rfl) : IxR X (rO T opIx) := fun value slice pins s σ H x y v u Q I rx ry q hs => by
  obtain ⟨ρ, st, a, b, w, s', r, ha, hb, e, k⟩ := q
  cases a with
  | tup xs =>
    cases b <;> simp only [opIx] at e <;> try cases e
    obtain ⟨z, hz, e⟩ := Option.map_eq_some_iff.mp e
    cases e
    obtain ⟨p, vs, rfl, h1, h2⟩ := ha.tupE
    obtain ⟨z', h3, h4⟩ := h2.at hz
    exact ix_tup value slice pins s σ H _ y v u Q I rx ry ⟨p, vs, _, z', rfl, hb.intE, by rw [hK]; exact h1, h3, k.here r h4⟩ hs
  | scr ns =>
    cases b <;> simp only [opIx] at e <;> try cases e
    obtain ⟨z, hz, e⟩ := Option.map_eq_some_iff.mp e
    cases e
    obtain ⟨p, rfl, h1⟩ := ha.scrE
    refine ix_list value slice pins s σ H _ y v u Q I rx ry ⟨p, _, _, .int z, rfl, hb.intE, by rw [hK]; exact h1, ?_, k.here r (.int z)⟩ hs
    unfold atI at hz ⊢
    rw [List.length_map]
    cases q : ixN ns.length _ with
    | none => rw [q] at hz; cases hz
    | some j =>
      rw [q] at hz
      have hz : ns[j]? = some z := hz
      show (ns.map V.int)[j]? = some (V.int z)
      rw [List.getElem?_map, hz]; rfl
  | str t =>
    cases b <;> simp only [opIx] at e <;> try cases e
    split at e
    · rename_i hl
      obtain ⟨z, hz, e⟩ := Option.map_eq_some_iff.mp e
      cases e
      exact ix_str value slice pins s σ H x y v u Q I rx ry ⟨t, _, z, ha.strE, hb.intE, by rw [lim_eq]; exact hl, hz, k.here r (.str _)⟩ hs
    · cases e
  | ref j =>
    obtain ⟨p, rfl, hp⟩ := ha.refE
    simp only [opIx] at e
    split at e
    · rename_i xs hx
      split at e
      · obtain ⟨z, hz, e⟩ := Option.map_eq_some_iff.mp e
        cases e
        obtain ⟨vs, h1, h2⟩ := r.lst hx hp
        obtain ⟨z', h3, h4⟩ := h2.at hz
        exact ix_list value slice pins s σ H _ y v u Q I rx ry ⟨p, vs, _, z', rfl, hb.intE, SqL.of h1, h3, k.here r h4⟩ hs
      · cases e
    · rename_i kvs hx
      split at e
      · rename_i key hk
        obtain ⟨z, hz, e⟩ := Option.map_eq_some_iff.mp e
        cases e
        obtain ⟨vs, h1, h2, h3⟩ := r.dic hx hp
        obtain ⟨z', h4, h5⟩ := (look_ok (k := key) h2 h3).2 _ hz
        have ey := keyOf_ok hb hk
        subst ey
        have g : DGet H p (kV key) (some z') := by rw [← h4]; exact DGet.k h1
        obtain rfl : v = Value.ref p := rx
        exact PyProof.Rows.tail_any (dict_typeIs I g) PySem.F.slot_dict_getitem.lookup (d_getItem hu I g ry fun w' s3 I3 rw' => ⟨z', H, I3, rw', k.here r h5⟩) hs
      · cases e
    · cases e
  | _ => simp only [opIx] at e; cases e
end
/-! ### slices -/
def cutL {α : Type} (xs : List α) (lo hi : Option Int) : List α := (xs.drop (HT.sIx xs.length 0 lo)).take (HT.sIx xs.length xs.length hi - HT.sIx xs.length 0 lo)
abbrev OSl := Vl → Option Int → Option Int → Sto → Option (Vl × Sto)
def opSl : OSl
  | .tup xs, lo, hi, s => some (.tup (cutL xs lo hi), s)
  | .scr ns, lo, hi, s => some (.ref s.length, s ++ [.lst ((cutL ns lo hi).map Vl.int)])
  | .str x, lo, hi, s => if x.length ≤ LIM then some (.str (cutS x lo hi), s) else none
  | .ref j, lo, hi, s => match s[j]? with
    | some (.lst xs) => some (.ref s.length, s ++ [.lst (cutL xs lo hi)])
    | _ => none
  | _, _, _, _ => none
def oPart : Option EM → Lo → M (Option Int)
  | none, _ => ret none
  | some m, lo => bnd (m lo) fun x => match x with
    | .int i => ret (some i)
    | _ => failM
def eSl (f : OSl) (a : EM) (l h : Option EM) : EM := fun lo => bnd (a lo) fun x => bnd (oPart l lo) fun i => bnd (oPart h lo) fun j => lift (f x i j)
theorem cutL_map {α β : Type} (f : α → β) (xs : List α) (lo hi : Option Int) : cutL (xs.map f) lo hi = (cutL xs lo hi).map f := by
  unfold cutL
  rw [List.length_map, List.map_take, List.map_drop]
def rSl (T : Tb) (f : OSl) : V → Option Int → Option Int → Hp → VK → Prop := fun x lo hi H Q => ∃ ρ s a v s', Rel T ρ H s ∧ RV T ρ H a x ∧ f a lo hi s = some (v, s') ∧ Aft T ρ H s' v Q
section
variable {X : Cx} {T : Tb} {W : WX}
theorem RVs.cut {ρ : List Addr} {H : Hp} {xs : List Vl} {vs : List V} (h : RVs T ρ H xs vs) (lo hi : Option Int) : RVs T ρ H (cutL xs lo hi) (cutV vs lo hi) := by
  unfold cutL cutV
  rw [h.length]
  exact (h.drop _).take _
theorem RVs.ints {ρ : List Addr} {H : Hp} : ∀ ns : List Int, RVs T ρ H (ns.map Vl.int) (ns.map V.int)
  | [] => .nil
  | n :: ns => .cons (.int n) (RVs.ints ns)
theorem o_sl (hK : X.K = T.K := by rfl) : SlR X (rSl T opSl) := fun pins s σ H x v vl vu lo hi sl Q I rx hs pl pu q => by
  obtain ⟨ρ, st, a, w, s', r, ha, e, k⟩ := q
  cases a with
  | tup xs =>
    simp only [opSl] at e
    cases e
    obtain ⟨p, vs, rfl, h1, h2⟩ := ha.tupE
    refine sl_tupA pins s σ H _ v vl vu lo hi sl Q I rx hs pl pu ⟨p, vs, rfl, by rw [hK]; exact h1, fun hw => ?_, fun _ q hq => k.tup r (h2.cut lo hi) hq⟩
    have : cutL xs lo hi = xs := by
      unfold cutL
      rw [h2.length, hw.1, hw.2]
      rw [List.drop_zero, Nat.sub_zero, ← h2.length, List.take_length]
    rw [this] at k
    exact k.here r (.tup h1 h2)
  | scr ns =>
    simp only [opSl] at e
    cases e
    obtain ⟨p, rfl, h1⟩ := ha.scrE
    refine sl_list pins s σ H _ v vl vu lo hi sl Q I rx hs pl pu ⟨p, _, rfl, by rw [hK]; exact h1, fun q hq => ?_⟩
    refine k.lst r ?_ hq
    rw [← cutL_map]
    exact RVs.cut (RVs.ints ns) lo hi
  | str t =>
    simp only [opSl] at e
    split at e
    · rename_i hl
      cases e
      exact sl_str pins s σ H x v vl vu lo hi sl Q I rx hs pl pu ⟨t, ha.strE, by rw [lim_eq]; exact hl, k.here r (.str _)⟩
    · cases e
  | ref j =>
    simp only [opSl] at e
    split at e
    · rename_i xs hx
      cases e
      obtain ⟨p, rfl, hp⟩ := ha.refE
      obtain ⟨vs, h1, h2⟩ := r.lst hx hp
      exact sl_list pins s σ H _ v vl vu lo hi sl Q I rx hs pl pu ⟨p, vs, rfl, SqL.of h1, fun q hq => k.lst r (h2.cut lo hi) hq⟩
    · cases e
  | _ => simp only [opSl] at e; cases e
/-- a slice's part -/
abbrev tO (T : Tb) (W : WX) (m : Option EM) : TO := tG (fun _ _ a b => a = b) T W (oPart m)
theorem co_none : PO X none (tO T W none) := ⟨fun pins s σ H Q I h => po_none.run pins s σ H Q I (by
  obtain ⟨ρ, st, lo, r, rl, p⟩ := h
  exact p ρ H none .refl r rfl)⟩
theorem co_some {e : Expr} {me : EM} (he : PE X e (tE T W me)) : PO X (some e) (tO T W (some me)) := ⟨fun pins s σ H Q I h => (po_some he).run pins s σ H Q I (by
  refine tG_bnd (R := RV T) h fun ρ st lo x z H1 r rl hx p => ?_
  cases hx with
  | int i => exact ⟨i, rfl, p ρ H1 (some i) .refl r rfl⟩
  | _ => exact p.elim)⟩
theorem ce_slice {e : Expr} {l h : Option Expr} {me : EM} {ml mh : Option EM} {pos p2 : Pos} {f : OSl} (hr : SlR X (rSl T f)) (he : PE X e (tE T W me)) (hl : PO X l (tO T W ml)) (hh : PO X h (tO T W mh)) : PE X (.Subscript e (.Slice l h none p2) pos) (tE T W (eSl f me ml mh)) :=
  pe_mono (pe_slice hr he hl hh) fun σ H Q q => tG_bnd (R := RV T) q fun ρ s lo x z H1 r rl hx p =>
    po_bnd (R := fun _ _ a b => a = b) (m := oPart ml) r rl p fun ρ1 s1 i i' H2 ext1 r1 rl1 hi p1 =>
      po_bnd (R := fun _ _ a b => a = b) (m := oPart mh) r1 rl1 p1 fun ρ2 s2 j j' H3 ext2 r2 rl2 hj p2 => by
        subst hi hj
        obtain ⟨v, s3, e, k⟩ := po_lift p2
        exact ⟨ρ2, s2, x, v, s3, r2, hx.mono (ext1.trans ext2), e, k⟩
end
/-! ### in -/
def flat : Vl → Bool
  | .non => true
  | .bl _ => true
  | .int _ => true
  | .str _ => true
  | _ => false
def eqF : Vl → Vl → Bool
  | .non, .non => true
  | .bl a, .bl b => a == b
  | .bl a, .int b => (if a then 1 else 0) == b
  | .int a, .bl b => a == (if b then 1 else 0)
  | .int a, .int b => a == b
  | .str a, .str b => a == b
  | _, _ => false
def inF (x : Vl) (xs : List Vl) : Bool := xs.any fun y => eqF y x
def inM (x y : Vl) (s : Sto) : Option Bool := match y with
  | .tup ys => if flat x && ys.all flat then some (inF x ys) else none
  | .str b => match x with
    | .str a => match a.cps.toList with
      | [c] => some (decide (c ∈ b.cps.toList))
      | _ => none
    | _ => none
  | .ref j => match s[j]? with
    | some (.lst ys) => if flat x && ys.all flat then some (inF x ys) else none
    | some (.dic kvs) => match keyOf x with
      | some k => some (hasK kvs k)
      | none => none
    | _ => none
  | _ => none
def opIn : O2 := fun x y s => match inM x y s with
  | some b => some (.bl b, s)
  | none => none
def opNotIn : O2 := fun x y s => match inM x y s with
  | some b => some (.bl (!b), s)
  | none => none
section
variable {X : Cx} {T : Tb} {ρ : List Addr} {H : Hp}
theorem flat_ok {a : Vl} {x : V} (h : RV T ρ H a x) (f : flat a = true) : flatV x = true := by
  cases h <;> simp [flat] at f <;> rfl
theorem eqF_ok {a b : Vl} {x y : V} (h : RV T ρ H a x) (g : RV T ρ H b y) (fa : flat a = true) (fb : flat b = true) : eqV x y = eqF a b := by
  cases h <;> simp [flat] at fa <;> cases g <;> simp [flat] at fb <;> rfl
theorem flats_ok : ∀ {xs : List Vl} {vs : List V}, RVs T ρ H xs vs → xs.all flat = true → vs.all flatV = true
  | _, _, .nil, _ => rfl
  | _, _, .cons h hs, e => by
    rw [List.all_cons, Bool.and_eq_true_iff] at e
    rw [List.all_cons, flat_ok h e.1, flats_ok hs e.2]; rfl
theorem inF_ok {a : Vl} {x : V} (h : RV T ρ H a x) (f : flat a = true) : ∀ {xs : List Vl} {vs : List V}, RVs T ρ H xs vs → xs.all flat = true → inV x vs = inF a xs
  | _, _, .nil, _ => rfl
  | _, _, .cons g hs, e => by
    rw [List.all_cons, Bool.and_eq_true_iff] at e
    have ih := inF_ok h f hs e.2
    unfold inV inF at ih ⊢
    rw [List.any_cons, List.any_cons, ih, eqF_ok g h e.1 f]
/-- the four kinds, told apart -/
theorem inM_cases {s : Sto} {a b : Vl} {x y : V} {c : Bool} (r : Rel T ρ H s) (ha : RV T ρ H a x) (hb : RV T ρ H b y) (e : inM a b s = some c) :
    (∃ p vs, y = .ref p ∧ (SqL T.K H p vs ∨ SqT T.K H p vs) ∧ flatV x = true ∧ vs.all flatV = true ∧ inV x vs = c) ∨ (∃ (n : Nat) (z : Str), x = .str ⟨#[n]⟩ ∧ y = .str z ∧ decide (n ∈ z.cps.toList) = c) ∨
    ∃ p o, y = .ref p ∧ DGet H p x o ∧ o.isSome = c := by
  cases b with
  | tup ys =>
    simp only [inM] at e
    split at e
    · rename_i hf
      cases e
      obtain ⟨f1, f2⟩ := Bool.and_eq_true_iff.mp hf
      obtain ⟨p, vs, rfl, h1, h2⟩ := hb.tupE
      exact .inl ⟨p, vs, rfl, .inr h1, flat_ok ha f1, flats_ok h2 f2, inF_ok ha f1 h2 f2⟩
    · cases e
  | str z =>
    simp only [inM] at e
    cases a <;> simp only at e <;> try cases e
    rename_i t
    split at e
    · rename_i c' hc
      cases e
      refine .inr (.inl ⟨c', z, ?_, hb.strE, rfl⟩)
      rw [ha.strE]
      obtain ⟨⟨l⟩⟩ := t
      have hc : l = [c'] := hc
      subst hc; rfl
    · cases e
  | ref j =>
    obtain ⟨p, rfl, hp⟩ := hb.refE
    simp only [inM] at e
    split at e
    · rename_i ys hx
      split at e
      · rename_i hf
        cases e
        obtain ⟨f1, f2⟩ := Bool.and_eq_true_iff.mp hf
        obtain ⟨vs, h1, h2⟩ := r.lst hx hp
        exact .inl ⟨p, vs, rfl, .inl (SqL.of h1), flat_ok ha f1, flats_ok h2 f2, inF_ok ha f1 h2 f2⟩
      · cases e
    · rename_i kvs hx
      split at e
      · rename_i k hk
        cases e
        obtain ⟨vs, h1, h2, h3⟩ := r.dic hx hp
        have ey := keyOf_ok ha hk
        subst ey
        exact .inr (.inr ⟨p, _, rfl, DGet.k h1, (hasK_ok h2 h3).symm⟩)
      · cases e
    · cases e
  | _ => simp only [inM] at e; cases e
theorem o_in (hu : X.A.units + 1 < cLine) (hK : X.K = T.K := by rfl) : OpR X (compareOp .In) (rO T opIn) := fun pins s σ H x y v u Q I rx ry q => by
  obtain ⟨ρ, st, a, b, w, s', r, ha, hb, e, k⟩ := q
  unfold opIn at e
  split at e
  · rename_i c hc
    cases e
    rcases inM_cases r ha hb hc with ⟨p, vs, rfl, h1, h2, h3, h4⟩ | ⟨n, z, rfl, rfl, h4⟩ | ⟨p, o, rfl, g, h4⟩
    · exact op_in_seq pins s σ H x _ v u Q I rx ry ⟨p, vs, rfl, by rw [hK]; exact h1, h2, h3, by rw [if_neg (by decide), h4]; exact k.here r (.bl _)⟩
    · exact op_in_sign pins s σ H _ _ v u Q I rx ry ⟨n, z, rfl, rfl, by rw [h4]; exact k.here r (.bl _)⟩
    · obtain rfl : u = Value.ref p := ry
      exact d_in hu I g rx fun s3 I3 => ⟨.bl o.isSome, H, I3, rfl, by rw [h4]; exact k.here r (.bl _)⟩
  · cases e
theorem o_notIn (hu : X.A.units + 1 < cLine) (hK : X.K = T.K := by rfl) : OpR X (compareOp .NotIn) (rO T opNotIn) := fun pins s σ H x y v u Q I rx ry q => by
  obtain ⟨ρ, st, a, b, w, s', r, ha, hb, e, k⟩ := q
  unfold opNotIn at e
  split at e
  · rename_i c hc
    cases e
    rcases inM_cases r ha hb hc with ⟨p, vs, rfl, h1, h2, h3, h4⟩ | ⟨n, z, rfl, rfl, h4⟩ | ⟨p, o, rfl, g, h4⟩
    · exact op_notIn_seq pins s σ H x _ v u Q I rx ry ⟨p, vs, rfl, by rw [hK]; exact h1, h2, h3, by rw [if_pos rfl, h4]; exact k.here r (.bl _)⟩
    · exact op_notIn_sign pins s σ H _ _ v u Q I rx ry ⟨n, z, rfl, rfl, by rw [h4]; exact k.here r (.bl _)⟩
    · obtain rfl : u = Value.ref p := ry
      exact d_notIn hu I g rx fun s3 I3 => ⟨.bl (!o.isSome), H, I3, rfl, by rw [h4]; exact k.here r (.bl _)⟩
  · cases e
end
end Sm

/-! S4: built-in calls and methods of built-in types -/
namespace Sm
open PySem L2
section
variable {T : Tb} {ρ : List Addr} {H : Hp}
theorem RVs.one {a : Vl} {xs : List V} (h : RVs T ρ H [a] xs) : ∃ x, xs = [x] ∧ RV T ρ H a x := by
  cases h with
  | cons h1 h2 => cases h2; exact ⟨_, rfl, h1⟩
theorem RVs.two {a b : Vl} {xs : List V} (h : RVs T ρ H [a, b] xs) : ∃ x y, xs = [x, y] ∧ RV T ρ H a x ∧ RV T ρ H b y := by
  cases h with
  | cons h1 h2 =>
    obtain ⟨y, rfl, h3⟩ := h2.one
    exact ⟨_, y, rfl, h1, h3⟩
theorem RVs.zero {xs : List V} (h : RVs T ρ H [] xs) : xs = [] := by cases h; rfl
def asInt : Vl → Option Int
  | .int i => some i
  | _ => none
def asBl : Vl → Option Bool
  | .bl i => some i
  | _ => none
def asStr : Vl → Option Str
  | .str i => some i
  | _ => none
theorem asInts_ok : ∀ {xs : List Vl} {vs : List V} {ns : List Int}, RVs T ρ H xs vs → mapO asInt xs = some ns → vs = ns.map V.int
  | _, _, _, .nil, e => by simp [mapO] at e; subst e; rfl
  | _, _, _, .cons h hs, e => by
    simp only [mapO] at e
    split at e
    · rename_i y ys e1 e2
      cases e
      have := asInts_ok hs e2
      subst this
      cases h <;> simp [asInt] at e1
      subst e1; rfl
    · cases e
theorem asBls_ok : ∀ {xs : List Vl} {vs : List V} {ns : List Bool}, RVs T ρ H xs vs → mapO asBl xs = some ns → vs = ns.map V.bl
  | _, _, _, .nil, e => by simp [mapO] at e; subst e; rfl
  | _, _, _, .cons h hs, e => by
    simp only [mapO] at e
    split at e
    · rename_i y ys e1 e2
      cases e
      have := asBls_ok hs e2
      subst this
      cases h <;> simp [asBl] at e1
      subst e1; rfl
    · cases e
theorem asStrs_ok : ∀ {xs : List Vl} {vs : List V} {ns : List Str}, RVs T ρ H xs vs → mapO asStr xs = some ns → vs = ns.map V.str
  | _, _, _, .nil, e => by simp [mapO] at e; subst e; rfl
  | _, _, _, .cons h hs, e => by
    simp only [mapO] at e
    split at e
    · rename_i y ys e1 e2
      cases e
      have := asStrs_ok hs e2
      subst this
      cases h <;> simp [asStr] at e1
      subst e1; rfl
    · cases e
end
theorem mapO_ints (ns : List Int) : mapO asInt (ns.map Vl.int) = some ns := by
  induction ns with
  | nil => rfl
  | cons n ns ih => simp only [List.map_cons, mapO, asInt, ih]
theorem mapO_bls (ns : List Bool) : mapO asBl (ns.map Vl.bl) = some ns := by
  induction ns with
  | nil => rfl
  | cons n ns ih => simp only [List.map_cons, mapO, asBl, ih]
theorem mapO_strs (ns : List Str) : mapO asStr (ns.map Vl.str) = some ns := by
  induction ns with
  | nil => rfl
  | cons n ns ih => simp only [List.map_cons, mapO, asStr, ih]
/-! ### sorting ints -/
def insS (x : Int) : List Int → List Int
  | [] => [x]
  | y :: ys => if x ≤ y then x :: y :: ys else y :: insS x ys
def srt : List Int → List Int
  | [] => []
  | x :: xs => insS x (srt xs)
theorem insS_perm (x : Int) : ∀ ys : List Int, (insS x ys).Perm (x :: ys)
  | [] => .refl _
  | y :: ys => by
    unfold insS
    split
    · exact .refl _
    · exact (List.Perm.cons y (insS_perm x ys)).trans (List.Perm.swap x y ys)
theorem srt_perm : ∀ xs : List Int, (srt xs).Perm xs
  | [] => .refl _
  | x :: xs => (insS_perm x (srt xs)).trans (List.Perm.cons x (srt_perm xs))
theorem insS_mem {x z : Int} {ys : List Int} : z ∈ insS x ys ↔ z = x ∨ z ∈ ys := by
  rw [(insS_perm x ys).mem_iff, List.mem_cons]
theorem insS_sorted (x : Int) : ∀ ys : List Int, ys.Pairwise (· ≤ ·) → (insS x ys).Pairwise (· ≤ ·)
  | [], _ => List.pairwise_singleton _ _
  | y :: ys, h => by
    unfold insS
    split
    · rename_i hle
      refine List.pairwise_cons.mpr ⟨fun z hz => ?_, h⟩
      rcases List.mem_cons.mp hz with rfl | hz
      · exact hle
      · exact Int.le_trans hle ((List.pairwise_cons.mp h).1 z hz)
    · rename_i hle
      refine List.pairwise_cons.mpr ⟨fun z hz => ?_, insS_sorted x ys (List.pairwise_cons.mp h).2⟩
      rcases insS_mem.mp hz with rfl | hz
      · omega
      · exact (List.pairwise_cons.mp h).1 z hz
theorem srt_sorted : ∀ xs : List Int, (srt xs).Pairwise (· ≤ ·)
  | [] => List.Pairwise.nil
  | x :: xs => insS_sorted x _ (srt_sorted xs)
theorem srt_eq {xs ys : List Int} (p : ys.Perm xs) (h : ys.Pairwise (· ≤ ·)) : ys = srt xs := PySem.W.ksm_same (p.trans (srt_perm xs).symm) h (srt_sorted xs)
theorem srt_mem {z : Int} {xs : List Int} : z ∈ srt xs ↔ z ∈ xs := (srt_perm xs).mem_iff
theorem srt_length (xs : List Int) : (srt xs).length = xs.length := (srt_perm xs).length_eq

/-! ### calls -/
def lenM (x : Vl) (s : Sto) : Option Nat := match x with
  | .tup xs => some xs.length
  | .scr ns => some ns.length
  | .str z => if z.length ≤ LIM then some z.length else none
  | .ref j => match s[j]? with
    | some (.lst xs) => some xs.length
    | some (.dic kvs) => some kvs.length
    | _ => none
  | _ => none
def oLen : OC
  | [x], s => (lenM x s).map fun n => (.int n, s)
  | _, _ => none
def oAbs : OC
  | [.int i], s => some (.int (if i < 0 then -i else i), s)
  | _, _ => none
def oInt : OC
  | [.int i], s => some (.int i, s)
  | [.bl b], s => some (.int (if b then 1 else 0), s)
  | _, _ => none
def oStr : OC
  | [.int i], s => if i.natAbs.log2 < 1920 then some (.str (toString i), s) else none
  | _, _ => none
def oMax : OC
  | [.int i, .int j], s => some (.int (if j > i then j else i), s)
  | _, _ => none
def oMin : OC
  | [.int i, .int j], s => some (.int (if j < i then j else i), s)
  | _, _ => none
def oTuple : OC
  | [.tup xs], s => some (.tup xs, s)
  | [.ref j], s => match s[j]? with
    | some (.lst xs) => some (.tup xs, s)
    | _ => none
  | _, _ => none
def oList : OC
  | [.tup xs], s => some (.ref s.length, s ++ [.lst xs])
  | [.ref j], s => match s[j]? with
    | some (.lst xs) => some (.ref s.length, s ++ [.lst xs])
    | some (.dic kvs) => some (.ref s.length, s ++ [.lst (kvs.map fun kv => keyVl kv.1)])
    | _ => none
  | _, _ => none
def lstOf (x : Vl) (s : Sto) : Option (List Vl) := match x with
  | .ref j => match s[j]? with
    | some (.lst xs) => some xs
    | _ => none
  | _ => none
def oSum : OC
  | [x], s => match lstOf x s with
    | some xs => (mapO asInt xs).map fun ns => (.int ns.sum, s)
    | none => none
  | _, _ => none
def oAll : OC
  | [x], s => match lstOf x s with
    | some xs => (mapO asBl xs).map fun ns => (.bl (ns.all id), s)
    | none => none
  | _, _ => none
def oAny : OC
  | [x], s => match lstOf x s with
    | some xs => (mapO asBl xs).map fun ns => (.bl (ns.any id), s)
    | none => none
  | _, _ => none
def oSorted : OC
  | [x], s => match lstOf x s with
    | some xs => (mapO asInt xs).map fun ns => (.ref s.length, s ++ [.lst ((srt ns).map Vl.int)])
    | none => none
  | _, _ => none
def oRepr : OC
  | [x], s => match toD 40 s x with
    | some d => if d.showable && decide (d.shown.length ≤ LIM) then some (.str d.shown, s) else none
    | none => none
  | _, _ => none
section
variable {X : Cx} {T : Tb}
theorem CallR.imp {f : Value} {r r' : List V → Hp → VK → Prop} (h : CallR X f r) (k : ∀ xs H Q, r' xs H Q → r xs H Q) : CallR X f r' := fun pins s σ H xs us Q I rs q => h pins s σ H xs us Q I rs (k xs H Q q)
theorem d_lenC {H : Hp} {a : Addr} {kvs : List (Key × V)} : ∀ (pins : List (Addr × Obj)) (s : Shared) (σ : St) (xs : List V) (us : List Value) (Q : VK), Inv X pins σ H s → Vals xs us → xs = [.ref a] → H a = some (.dK kvs) → Q (.int kvs.length) H →
    wpAny (model X.prog X.w) X.A (call (.builtin "len") us) (EP X pins σ Q) X.xe s := fun pins s σ xs us Q I r e h q => by
  subst e
  cases r with
  | cons r1 r2 =>
    cases r2
    obtain rfl := r1
    exact d_len I (.inl h) fun t s' I' => ⟨.int _, H, I', ⟨t, rfl⟩, q⟩
theorem c_len (hK : X.K = T.K := by rfl) : CallR X (.builtin "len") (rC T oLen) := fun pins s σ H xs us Q I rs q => by
  obtain ⟨ρ, st, as, w, s', r, ha, e, k⟩ := q
  unfold oLen at e
  split at e
  · rename_i x
    obtain ⟨z, rfl, hz⟩ := ha.one
    obtain ⟨n, hn, e⟩ := Option.map_eq_some_iff.mp e
    cases e
    have fin := k.here r (.int (n : Int))
    cases x with
    | tup ys =>
      obtain ⟨p, vs, rfl, h1, h2⟩ := hz.tupE
      cases hn
      rw [h2.length] at fin
      exact call_len_seq pins s σ H _ us Q I rs ⟨p, vs, rfl, .inr (by rw [hK]; exact h1), fin⟩
    | scr ns =>
      obtain ⟨p, rfl, h1⟩ := hz.scrE
      cases hn
      exact call_len_seq pins s σ H _ us Q I rs ⟨p, _, rfl, .inl (by rw [hK]; exact h1), by rw [List.length_map]; exact fin⟩
    | str t =>
      simp only [lenM] at hn
      split at hn
      · rename_i hl
        cases hn
        exact call_len pins s σ H _ us Q I rs ⟨_, _, rfl, by rw [hz.strE]; exact ⟨by rw [lim_eq]; exact hl, rfl⟩, fin⟩
      · cases hn
    | ref j =>
      obtain ⟨p, rfl, hp⟩ := hz.refE
      simp only [lenM] at hn
      split at hn
      · rename_i ys hx
        cases hn
        obtain ⟨vs, h1, h2⟩ := r.lst hx hp
        rw [h2.length] at fin
        exact call_len_seq pins s σ H _ us Q I rs ⟨p, vs, rfl, .inl (SqL.of h1), fin⟩
      · rename_i kvs hx
        cases hn
        obtain ⟨vs, h1, h2, h3⟩ := r.dic hx hp
        have : kvs.length = vs.length := by have := congrArg List.length h2; simpa using this.symm
        rw [this] at fin
        exact d_lenC pins s σ _ us Q I rs rfl h1 fin
      · cases hn
    | _ => cases hn
  · cases e
theorem c_abs : CallR X (.builtin "abs") (rC T oAbs) := CallR.imp call_abs fun xs H Q q => by
  obtain ⟨ρ, st, as, w, s', r, ha, e, k⟩ := q
  unfold oAbs at e
  split at e
  · obtain ⟨z, rfl, hz⟩ := ha.one
    cases e
    exact ⟨_, by rw [hz.intE], k.here r (.int _)⟩
  · cases e
theorem c_int : CallR X (.type "int") (rC T oInt) := CallR.imp call_int1 fun xs H Q q => by
  obtain ⟨ρ, st, as, w, s', r, ha, e, k⟩ := q
  unfold oInt at e
  split at e
  · obtain ⟨z, rfl, hz⟩ := ha.one
    cases e
    exact .inl ⟨_, by rw [hz.intE], k.here r (.int _)⟩
  · obtain ⟨z, rfl, hz⟩ := ha.one
    cases e
    exact .inr ⟨_, by rw [hz.blE], k.here r (.int _)⟩
  · cases e
theorem c_str : CallR X (.type "str") (rC T oStr) := CallR.imp call_str_int fun xs H Q q => by
  obtain ⟨ρ, st, as, w, s', r, ha, e, k⟩ := q
  unfold oStr at e
  split at e
  · split at e
    · rename_i hl
      obtain ⟨z, rfl, hz⟩ := ha.one
      cases e
      exact ⟨_, by rw [hz.intE], hl, k.here r (.str _)⟩
    · cases e
  · cases e
theorem c_max (hc : X.calm = true := by rfl) : CallR X (.builtin "max") (rC T oMax) := CallR.imp (call_max2 hc) fun xs H Q q => by
  obtain ⟨ρ, st, as, w, s', r, ha, e, k⟩ := q
  unfold oMax at e
  split at e
  · obtain ⟨z, z', rfl, hz, hz'⟩ := ha.two
    cases e
    exact ⟨_, _, by rw [hz.intE, hz'.intE], k.here r (.int _)⟩
  · cases e
theorem c_min (hc : X.calm = true := by rfl) : CallR X (.builtin "min") (rC T oMin) := CallR.imp (call_min2 hc) fun xs H Q q => by
  obtain ⟨ρ, st, as, w, s', r, ha, e, k⟩ := q
  unfold oMin at e
  split at e
  · obtain ⟨z, z', rfl, hz, hz'⟩ := ha.two
    cases e
    exact ⟨_, _, by rw [hz.intE, hz'.intE], k.here r (.int _)⟩
  · cases e
theorem c_tuple (hK : X.K = T.K := by rfl) : CallR X (.type "tuple") (rC T oTuple) := CallR.imp call_tuple_of fun xs H Q q => by
  obtain ⟨ρ, st, as, w, s', r, ha, e, k⟩ := q
  unfold oTuple at e
  split at e
  · obtain ⟨z, rfl, hz⟩ := ha.one
    cases e
    obtain ⟨p, vs, rfl, h1, h2⟩ := hz.tupE
    exact ⟨p, vs, rfl, .inr ⟨by rw [hK]; exact h1, k.here r (.tup h1 h2)⟩⟩
  · split at e
    · rename_i xs hx
      cases e
      obtain ⟨z, rfl, hz⟩ := ha.one
      obtain ⟨p, rfl, hp⟩ := hz.refE
      obtain ⟨vs, h1, h2⟩ := r.lst hx hp
      exact ⟨p, vs, rfl, .inl ⟨SqL.of h1, fun q hq => k.tup r h2 hq⟩⟩
    · cases e
  · cases e
theorem keys_ok {ρ : List Addr} {H : Hp} : ∀ {kvs : List (Key × Vl)} {vs : List (Key × V)}, vs.map (·.1) = kvs.map (·.1) → RVs T ρ H (kvs.map fun kv => keyVl kv.1) (vs.map fun kv => kV kv.1)
  | [], [], _ => .nil
  | [], _ :: _, e => by simp at e
  | _ :: _, [], e => by simp at e
  | p :: r, q :: t, e => by
    simp only [List.map_cons, List.cons.injEq] at e
    rw [List.map_cons, List.map_cons, e.1]
    exact .cons (keyVl_ok _) (keys_ok e.2)
theorem c_list (hc : X.calm = true := by rfl) (hK : X.K = T.K := by rfl) : CallR X (.type "list") (rC T oList) := fun pins s σ H xs us Q I rs q => by
  obtain ⟨ρ, st, as, w, s', r, ha, e, k⟩ := q
  unfold oList at e
  split at e
  · obtain ⟨z, rfl, hz⟩ := ha.one
    cases e
    obtain ⟨p, vs, rfl, h1, h2⟩ := hz.tupE
    exact call_list_of pins s σ H _ us Q I rs ⟨p, vs, rfl, .inr (by rw [hK]; exact h1), fun q hq => k.lst r h2 hq⟩
  · obtain ⟨z, rfl, hz⟩ := ha.one
    obtain ⟨p, rfl, hp⟩ := hz.refE
    split at e
    · rename_i xs hx
      cases e
      obtain ⟨vs, h1, h2⟩ := r.lst hx hp
      exact call_list_of pins s σ H _ us Q I rs ⟨p, vs, rfl, .inl (SqL.of h1), fun q hq => k.lst r h2 hq⟩
    · rename_i kvs hx
      cases e
      obtain ⟨vs, h1, h2, h3⟩ := r.dic hx hp
      exact call_list_dK hc pins s σ H _ us Q I rs ⟨p, vs, rfl, h1, fun q hq => k.lst r (keys_ok h2) hq⟩
    · cases e
  · cases e
theorem lstOf_ok {ρ : List Addr} {H : Hp} {s : Sto} {x : Vl} {z : V} {xs : List Vl} (r : Rel T ρ H s) (hz : RV T ρ H x z) (e : lstOf x s = some xs) : ∃ p vs, z = .ref p ∧ H p = some (.lst vs) ∧ RVs T ρ H xs vs := by
  unfold lstOf at e
  split at e
  · split at e
    · rename_i ys hx
      cases e
      obtain ⟨p, rfl, hp⟩ := hz.refE
      obtain ⟨vs, h1, h2⟩ := r.lst hx hp
      exact ⟨p, vs, rfl, h1, h2⟩
    · cases e
  · cases e
theorem c_sum (hc : X.calm = true := by rfl) : CallR X (.builtin "sum") (rC T oSum) := CallR.imp (cr_sum hc) fun xs H Q q => by
  obtain ⟨ρ, st, as, w, s', r, ha, e, k⟩ := q
  unfold oSum at e
  split at e
  · split at e
    · rename_i x xs hx
      obtain ⟨z, rfl, hz⟩ := ha.one
      obtain ⟨ns, hn, e⟩ := Option.map_eq_some_iff.mp e
      cases e
      obtain ⟨p, vs, rfl, h1, h2⟩ := lstOf_ok r hz hx
      rw [asInts_ok h2 hn] at h1
      exact ⟨p, ns, rfl, SqL.of h1, k.here r (.int _)⟩
    · cases e
  · cases e
theorem c_all (hc : X.calm = true := by rfl) : CallR X (.builtin "all") (rC T oAll) := CallR.imp (cr_all hc) fun xs H Q q => by
  obtain ⟨ρ, st, as, w, s', r, ha, e, k⟩ := q
  unfold oAll at e
  split at e
  · split at e
    · rename_i x xs hx
      obtain ⟨z, rfl, hz⟩ := ha.one
      obtain ⟨ns, hn, e⟩ := Option.map_eq_some_iff.mp e
      cases e
      obtain ⟨p, vs, rfl, h1, h2⟩ := lstOf_ok r hz hx
      rw [asBls_ok h2 hn] at h1
      exact ⟨p, ns, rfl, SqL.of h1, k.here r (.bl _)⟩
    · cases e
  · cases e
theorem c_any (hc : X.calm = true := by rfl) : CallR X (.builtin "any") (rC T oAny) := CallR.imp (cr_any hc) fun xs H Q q => by
  obtain ⟨ρ, st, as, w, s', r, ha, e, k⟩ := q
  unfold oAny at e
  split at e
  · split at e
    · rename_i x xs hx
      obtain ⟨z, rfl, hz⟩ := ha.one
      obtain ⟨ns, hn, e⟩ := Option.map_eq_some_iff.mp e
      cases e
      obtain ⟨p, vs, rfl, h1, h2⟩ := lstOf_ok r hz hx
      rw [asBls_ok h2 hn] at h1
      exact ⟨p, ns, rfl, SqL.of h1, k.here r (.bl _)⟩
    · cases e
  · cases e
theorem c_sorted : CallR X (.builtin "sorted") (rC T oSorted) := CallR.imp cr_sortedI fun xs H Q q => by
  obtain ⟨ρ, st, as, w, s', r, ha, e, k⟩ := q
  unfold oSorted at e
  split at e
  · split at e
    · rename_i x xs hx
      obtain ⟨z, rfl, hz⟩ := ha.one
      obtain ⟨ns, hn, e⟩ := Option.map_eq_some_iff.mp e
      cases e
      obtain ⟨p, vs, rfl, h1, h2⟩ := lstOf_ok r hz hx
      rw [asInts_ok h2 hn] at h1
      refine ⟨p, ns, rfl, SqL.of h1, fun ns' q hp hs hq => ?_⟩
      rw [srt_eq hp hs]
      exact k.lst r (RVs.ints _) hq
    · cases e
  · cases e
/-- repr of data -/
theorem dp_noDict {K : PySem.W.Frag} {H : Hp} : ∀ (d : PyData) (v : V), Dp K H v d → d.hasDict = false
  | .none, _, _ => by simp only [PyData.hasDict]
  | .bool _, _, _ => by simp only [PyData.hasDict]
  | .int _, _, _ => by simp only [PyData.hasDict]
  | .str _, _, _ => by simp only [PyData.hasDict]
  | .list ds, _, .lst _ h => by
    simp only [PyData.hasDict]
    exact go ds _ h
  | .tuple ds, _, .tup _ h => by
    simp only [PyData.hasDict]
    exact go ds _ h
where
  go {K : PySem.W.Frag} {H : Hp} : ∀ (ds : List PyData) (vs : List V), DpAll K H vs ds → PyData.hasDictAll ds = false
  | [], _, _ => by simp only [PyData.hasDictAll]
  | d :: ds, _, .cons h hs => by
    simp only [PyData.hasDictAll]
    rw [dp_noDict d _ h, go ds _ hs]
    rfl
theorem c_repr (hg : X.A.guards = some []) (hu : X.A.units + 64 < cLine) (hK : X.K = T.K := by rfl) : CallR X (.builtin "repr") (rC T oRepr) := fun pins s σ H xs us Q I rs q => by
  obtain ⟨ρ, st, as, w, s', r, ha, e, k⟩ := q
  unfold oRepr at e
  split at e
  · rename_i x
    split at e
    · rename_i d hd
      split at e
      · rename_i hb
        cases e
        obtain ⟨hs, hl⟩ := Bool.and_eq_true_iff.mp hb
        have hl := of_decide_eq_true hl
        obtain ⟨z, rfl, hz⟩ := ha.one
        obtain ⟨p1, p2⟩ := toD_dp r 40 x z d hz hd
        have nd := dp_noDict d z p1
        have fin := k.here r (.str d.shown)
        cases rs with
        | cons r1 r2 =>
          cases r2
          rename_i u
          rw [← hK] at p1
          obtain ⟨bs, rd⟩ := Dp.reads I d z u p1 r1
          cases p1 with
          | non =>
            obtain rfl := r1
            simp only [PyData.shown] at fin
            exact PySem.P.repr_of_none ⟨.str _, H, I.tok _, ⟨_, rfl⟩, fin⟩
          | bl b =>
            obtain rfl := r1
            simp only [PyData.shown] at fin
            refine PySem.P.repr_of_bool ⟨.str _, H, I.tok _, ⟨_, rfl⟩, fin⟩
          | int i =>
            obtain ⟨t, rfl⟩ := r1
            simp only [PyData.shown] at fin
            simp only [PyData.showable] at hs
            exact PySem.P.repr_of_int (of_decide_eq_true hs) ⟨.str _, H, I.tok _, ⟨_, rfl⟩, fin⟩
          | str y =>
            obtain ⟨t, rfl⟩ := r1
            simp only [PyData.shown] at fin hl
            exact PySem.P.repr_of_str ⟨.str _, H, I.tok _, ⟨_, rfl⟩, fin⟩ (by rw [lim_eq]; exact hl)
          | lst g1 g2 =>
            obtain rfl := r1
            exact repr_of_reads' rd hs (fun z => by rw [nd] at z; cases z) hg (by omega) (fun _ _ e => e) (fun h' u tk hk => ⟨.str _, H, I.kept (t' := tk) hk, ⟨_, rfl⟩, fin⟩) (by rw [lim_eq]; exact hl)
          | tup g1 g2 =>
            obtain rfl := r1
            exact repr_of_reads' rd hs (fun z => by rw [nd] at z; cases z) hg (by omega) (fun _ _ e => e) (fun h' u tk hk => ⟨.str _, H, I.kept (t' := tk) hk, ⟨_, rfl⟩, fin⟩) (by rw [lim_eq]; exact hl)
      · cases e
    · cases e
  · cases e
end
/-! ### methods of built-in types -/
inductive Kd where
  | list | dict | str
def kd (k : Kd) (x : Vl) (s : Sto) : Bool := match k, x with
  | .str, .str _ => true
  | .list, .ref j => match s[j]? with
    | some (.lst _) => true
    | _ => false
  | .dict, .ref j => match s[j]? with
    | some (.dic _) => true
    | _ => false
  | _, _ => false
def Kd.nm : Kd → String
  | .list => "list"
  | .dict => "dict"
  | .str => "str"
def eBm (t : Kd) (f : OMt) (o : EM) (a : AM) : EM := fun lo => bnd (o lo) fun x s => match kd t x s with
  | true => bnd (a lo) (fun xs => lift (f x xs)) s
  | false => .fail
def eBm0 (t : Kd) (f : OMt) (o : EM) : EM := fun lo => bnd (o lo) fun x s => match kd t x s with
  | true => lift (f x []) s
  | false => .fail
def oAppend : OMt
  | .ref j, [v], s => match s[j]? with
    | some (.lst xs) => if xs.length < LIM then some (.non, s.set j (.lst (xs ++ [v]))) else none
    | _ => none
  | _, _, _ => none
def oExtend : OMt
  | .ref j, [.ref i], s => match s[j]?, s[i]? with
    | some (.lst xs), some (.lst ys) => if xs.length + ys.length ≤ LIM then some (.non, s.set j (.lst (xs ++ ys))) else none
    | _, _ => none
  | _, _, _ => none
def oPop : OMt
  | .ref j, [], s => match s[j]? with
    | some (.lst xs) => match xs[xs.length - 1]? with
      | some v => some (v, s.set j (.lst xs.dropLast))
      | none => none
    | _ => none
  | _, _, _ => none
section
variable {X : Cx} {T : Tb} {W : WX} {o e : Expr} {es : List Expr} {mo : EM} {ma : AM} {name : Str} {apos cpos : Pos} {id : String} {f : OMt} {t : Kd}
theorem kd_ok {ρ : List Addr} {H : Hp} {s : Sto} {x : Vl} {z : V} (r : Rel T ρ H s) (hz : RV T ρ H x z) (h : kd t x s = true) : tyV X.K t.nm z H := by
  cases t <;> cases x <;> simp only [kd] at h <;> try cases h
  · split at h
    · rename_i hx
      obtain ⟨p, rfl, hp⟩ := hz.refE
      obtain ⟨vs, h1, h2⟩ := r.lst hx hp
      exact .inl ⟨rfl, vs, SqL.of h1⟩
    · cases h
  · split at h
    · rename_i hx
      obtain ⟨p, rfl, hp⟩ := hz.refE
      obtain ⟨vs, h1, h2⟩ := r.dic hx hp
      exact .inr (.inr (.inl ⟨rfl, .inl ⟨vs, h1⟩⟩))
    · cases h
  · rw [hz.strE]; exact rfl
theorem ce_bm (pa : PlainAttrs t.nm) (slot : Slot t.nm name id) (hty : typeOf (.builtin id) = pure (.type "method_descriptor")) (hm : MtR X id (rMt T f)) (ho : PE X o (tE T W mo)) (ha : PA X (e :: es) (tA T W ma))
    (hbase : attributeBase o name X.env (eval o X.env) = eval o X.env := by rfl)
    (hfew : ((backTo cpos (starEach (e :: es) X.env)).all (fun x => !x.1) && (backToKw cpos (keywordEach [] X.env)).all (fun x => x.1.isSome)
      && decide ((e :: es).length + ([] : List Keyword).length + (if ([] : List Keyword).isEmpty then 0 else 1) < 30)) = true := by rfl)
    (hline : (apos.endLine == cpos.line) = true := by rfl) (hs : starEach (e :: es) X.env = (false, eval e X.env) :: starEach es X.env := by rfl) (hplain : (backTo cpos (starEach es X.env)).any (·.1) = false := by rfl) :
    PE X (.Call (.Attribute o name apos) (e :: es) [] cpos) (tE T W (eBm t f mo ma)) :=
  pe_mono (pe_bm pa slot hty hm ho ha hbase hfew hline hs hplain) fun σ H Q h => tG_bnd (R := RV T) h fun ρ s lo x z H1 r rl hx p => by
    cases hk : kd t x s with
    | false => simp only [hk] at p; exact p.elim
    | true =>
      simp only [hk] at p
      refine ⟨kd_ok r hx hk, po_bnd (R := RVs T) (m := ma) r rl p fun ρ' s' xs zs H' ext r' rl' hxs p' => ?_⟩
      obtain ⟨v, s3, e, k⟩ := po_lift p'
      exact ⟨ρ', s', x, xs, v, s3, r', hx.mono ext, hxs, e, k⟩
theorem ce_bm0 (pa : PlainAttrs t.nm) (slot : Slot t.nm name id) (hty : typeOf (.builtin id) = pure (.type "method_descriptor")) (hm : MtR X id (rMt T f)) (ho : PE X o (tE T W mo))
    (hbase : attributeBase o name X.env (eval o X.env) = eval o X.env := by rfl) (hline : (apos.endLine == cpos.line) = true := by rfl) : PE X (.Call (.Attribute o name apos) [] [] cpos) (tE T W (eBm0 t f mo)) :=
  pe_mono (pe_bm0 pa slot hty hm ho hbase hline) fun σ H Q h => tG_bnd (R := RV T) h fun ρ s lo x z H1 r rl hx p => by
    cases hk : kd t x s with
    | false => simp only [hk] at p; exact p.elim
    | true =>
      simp only [hk] at p
      obtain ⟨v, s3, e, k⟩ := po_lift p
      exact ⟨kd_ok r hx hk, ρ, s, x, [], v, s3, r, hx, .nil, e, k⟩
theorem MtR.imp {r r' : V → List V → Hp → VK → Prop} (h : MtR X id r) (k : ∀ x xs H Q, r' x xs H Q → r x xs H Q) : MtR X id r' := fun pins s σ H x xs v us Q I rx rs q => h pins s σ H x xs v us Q I rx rs (k x xs H Q q)
theorem m_append : MtR X "list.append" (rMt T oAppend) := MtR.imp mt_append fun x xs H Q q => by
  obtain ⟨ρ, st, a, as, w, s', r, ha, hs, e, k⟩ := q
  unfold oAppend at e
  split at e
  · split at e
    · rename_i v s j ys hx
      split at e
      · rename_i hl
        cases e
        obtain ⟨p, rfl, hp⟩ := ha.refE
        obtain ⟨z, rfl, hz⟩ := hs.one
        obtain ⟨vs, h1, h2⟩ := r.lst hx hp
        refine ⟨p, vs, z, rfl, rfl, h1, by rw [← h2.length, lim_eq]; exact hl, ?_⟩
        exact k.set r hp h1 (fun z => z) ⟨_, upd_same, (h2.append (.cons hz .nil)).mono (r.setExt hp h1)⟩ .non
      · cases e
    · cases e
  · cases e
theorem m_extend : MtR X "list.extend" (rMt T oExtend) := MtR.imp mt_extend fun x xs H Q q => by
  obtain ⟨ρ, st, a, as, w, s', r, ha, hs, e, k⟩ := q
  unfold oExtend at e
  split at e
  · split at e
    · rename_i ys zs hx hy
      split at e
      · rename_i hl
        cases e
        obtain ⟨p, rfl, hp⟩ := ha.refE
        obtain ⟨z, rfl, hz⟩ := hs.one
        obtain ⟨q, rfl, hq⟩ := hz.refE
        obtain ⟨vs, h1, h2⟩ := r.lst hx hp
        obtain ⟨us, h3, h4⟩ := r.lst hy hq
        refine ⟨p, q, vs, us, rfl, rfl, h1, h3, by rw [← h2.length, ← h4.length, lim_eq]; exact hl, ?_⟩
        exact k.set r hp h1 (fun z => z) ⟨_, upd_same, (h2.append h4).mono (r.setExt hp h1)⟩ .non
      · cases e
    · cases e
  · cases e
theorem RVs.dropLast {ρ : List Addr} {H : Hp} {xs : List Vl} {vs : List V} (h : RVs T ρ H xs vs) : RVs T ρ H xs.dropLast vs.dropLast := by
  rw [List.dropLast_eq_take, List.dropLast_eq_take, h.length]
  exact h.take _
theorem m_pop : MtR X "list.pop" (rMt T oPop) := MtR.imp mt_pop fun x xs H Q q => by
  obtain ⟨ρ, st, a, as, w, s', r, ha, hs, e, k⟩ := q
  unfold oPop at e
  split at e
  · split at e
    · rename_i ys hx
      split at e
      · rename_i v hv
        cases e
        obtain ⟨p, rfl, hp⟩ := ha.refE
        rw [hs.zero]
        obtain ⟨vs, h1, h2⟩ := r.lst hx hp
        obtain ⟨z, hz, rz⟩ := h2.get hv
        refine ⟨p, vs, z, rfl, rfl, h1, by rw [← h2.length]; exact hz, ?_⟩
        exact k.set r hp h1 (fun z => z) ⟨_, upd_same, h2.dropLast.mono (r.setExt hp h1)⟩ rz
      · cases e
    · cases e
  · cases e
end
end Sm

/-! S5: statements -/
namespace Sm
open PySem L2

inductive RS where
  | nx (lo : Lo) (s : Sto) | rt (v : Vl) (s : Sto) | bk (lo : Lo) (s : Sto) | ct (lo : Lo) (s : Sto) | exc (e : Ex) (lo : Lo) (s : Sto) | fail
abbrev SM := Lo → Sto → RS
def bndS {α : Type} (m : Lo → M α) (f : Lo → α → Sto → RS) : SM := fun lo s => match m lo s with
  | .ok a s' => f lo a s'
  | .exc e s' => .exc e lo s'
  | .fail => .fail
def sNil : SM := fun lo s => .nx lo s
def sSeq (a b : SM) : SM := fun lo s => match a lo s with
  | .nx lo' s' => b lo' s'
  | .rt v s' => .rt v s'
  | .bk lo' s' => .bk lo' s'
  | .ct lo' s' => .ct lo' s'
  | .exc e lo' s' => .exc e lo' s'
  | .fail => .fail
def sExpr (e : EM) : SM := bndS e fun lo _ s => .nx lo s
def sRet (e : EM) : SM := bndS e fun _ v s => .rt v s
def sRetN : SM := fun _ s => .rt .non s
def sSet (i : Nat) (e : EM) : SM := bndS e fun lo v s => .nx (lo.set i (some v)) s
def sIf (t : TM) (a b : SM) : SM := bndS t fun lo c s => match c with
  | true => a lo s
  | false => b lo s
def sBreak : SM := fun lo s => .bk lo s
def sCont : SM := fun lo s => .ct lo s
/-- a, b = e1, e2 and three -/
def sPar (i j : Nat) (a : AM) : SM := bndS a fun lo vs s => match vs with
  | [v, w] => .nx ((lo.set i (some v)).set j (some w)) s
  | _ => .fail
def sPar3 (i j l : Nat) (a : AM) : SM := bndS a fun lo vs s => match vs with
  | [v, w, x] => .nx (((lo.set i (some v)).set j (some w)).set l (some x)) s
  | _ => .fail

/-- what is asked behind a statement -/
def PoXS (T : Tb) (W : WX) (ρ : List Addr) (H : Hp) (e : Ex) (lo : Lo) (s : Sto) : Prop :=
  ∀ (ρ' : List Addr) (H' : Hp) (σ' : St) (C : Addr), Ext T ρ H ρ' H' → Rel T ρ' H' s → RL T ρ' H' lo σ' → T.cl[e.c]? = some C →
    match e.fs with
    | none => W (.ref C) none σ' H'
    | some fs => ∀ (d : Addr) (vs : List (Str × V)), H' d = some (.xd vs) → vs.map (·.1) = fs.map (·.1) → RVs T ρ' H' (fs.map (·.2)) (vs.map (·.2)) → W (.ref C) (some d) σ' H'
def PoN (T : Tb) (ρ : List Addr) (H : Hp) (lo : Lo) (s : Sto) (Q : St → Hp → Prop) : Prop := ∀ (ρ' : List Addr) (H' : Hp) (σ' : St), Ext T ρ H ρ' H' → Rel T ρ' H' s → RL T ρ' H' lo σ' → Q σ' H'
def PoS (T : Tb) (W : WX) (ρ : List Addr) (H : Hp) (r : RS) (D : Ends) : Prop := match r with
  | .nx lo s => PoN T ρ H lo s D.nx
  | .rt v s => ∀ (ρ' : List Addr) (H' : Hp) (z : V), Ext T ρ H ρ' H' → Rel T ρ' H' s → RV T ρ' H' v z → D.rt z H'
  | .bk lo s => PoN T ρ H lo s D.bk
  | .ct lo s => PoN T ρ H lo s D.ct
  | .exc e lo s => PoXS T W ρ H e lo s
  | .fail => False
theorem PoN.mono {T : Tb} {ρ ρ' : List Addr} {H H' : Hp} {lo : Lo} {s : Sto} {Q : St → Hp → Prop} (p : PoN T ρ H lo s Q) (e : Ext T ρ H ρ' H') : PoN T ρ' H' lo s Q := fun ρ2 H2 σ2 e2 => p ρ2 H2 σ2 (e.trans e2)
theorem PoS.mono {T : Tb} {W : WX} {ρ ρ' : List Addr} {H H' : Hp} {r : RS} {D : Ends} (p : PoS T W ρ H r D) (e : Ext T ρ H ρ' H') : PoS T W ρ' H' r D := by
  cases r with
  | nx lo s => exact PoN.mono (lo := lo) p e
  | rt v s => exact fun ρ2 H2 z e2 => p ρ2 H2 z (e.trans e2)
  | bk lo s => exact PoN.mono (lo := lo) p e
  | ct lo s => exact PoN.mono (lo := lo) p e
  | exc x lo s => exact fun ρ2 H2 σ2 C e2 => p ρ2 H2 σ2 C (e.trans e2)
  | fail => exact p
def tS (T : Tb) (W : WX) (m : SM) : TS := fun D σ H => ∃ (ρ : List Addr) (s : Sto) (lo : Lo), Rel T ρ H s ∧ RL T ρ H lo σ ∧ PoS T W ρ H (m lo s) D
theorem ps_mono {X : Cx} {e : Stmt} {t t' : TS} (h : PS X e t) (k : ∀ D σ H, t' D σ H → t D σ H) : PS X e t' := ⟨fun pins s σ H D I q => h.run pins s σ H D I (k D σ H q)⟩
theorem pss_mono {X : Cx} {e : List Stmt} {t t' : TS} (h : PSs X e t) (k : ∀ D σ H, t' D σ H → t D σ H) : PSs X e t' := ⟨fun pins s σ H D I q => h.run pins s σ H D I (k D σ H q)⟩
/-- a part of a statement, then the rest -/
theorem poS_bnd {α β : Type} {R : List Addr → Hp → α → β → Prop} {T : Tb} {W : WX} {m : Lo → M α} {f : Lo → α → Sto → RS} {ρ : List Addr} {s : Sto} {lo : Lo} {σ : St} {H : Hp} {D : Ends} {Q' : β → Hp → Prop}
    (r : Rel T ρ H s) (rl : RL T ρ H lo σ) (p : PoS T W ρ H (bndS m f lo s) D)
    (k : ∀ (ρ' : List Addr) (s' : Sto) (a : α) (b : β) (H' : Hp), Ext T ρ H ρ' H' → Rel T ρ' H' s' → RL T ρ' H' lo σ → R ρ' H' a b → PoS T W ρ' H' (f lo a s') D → Q' b H') : tG R T W m σ H Q' := by
  refine ⟨ρ, s, lo, r, rl, ?_⟩
  unfold bndS at p
  cases e : m lo s with
  | ok a s1 =>
    rw [e] at p
    exact fun ρ' H' b x r' hb => k ρ' s1 a b H' x r' (rl.mono x) hb (p.mono x)
  | exc z s1 =>
    rw [e] at p
    exact fun ρ' H' C x r' hC => p ρ' H' σ C x r' (rl.mono x) hC
  | fail => rw [e] at p; exact p
theorem tS_bnd {α β : Type} {R : List Addr → Hp → α → β → Prop} {T : Tb} {W : WX} {m : Lo → M α} {f : Lo → α → Sto → RS} {σ : St} {H : Hp} {D : Ends} {Q' : β → Hp → Prop} (h : tS T W (bndS m f) D σ H)
    (k : ∀ (ρ : List Addr) (s : Sto) (lo : Lo) (a : α) (b : β) (H' : Hp), Rel T ρ H' s → RL T ρ H' lo σ → R ρ H' a b → PoS T W ρ H' (f lo a s) D → Q' b H') : tG R T W m σ H Q' := by
  obtain ⟨ρ, s, lo, r, rl, p⟩ := h
  exact poS_bnd r rl p fun ρ' s' a b H' _ r' rl' hb p' => k ρ' s' lo a b H' r' rl' hb p'
section
variable {X : Cx} {T : Tb} {W : WX} {e c : Expr} {st : Stmt} {rest a b : List Stmt} {me : EM} {mt : TM} {ms mr ma mb : SM} {pos : Pos}
theorem cs_nil : PSs X [] (tS T W sNil) := pss_mono pss_nil fun D σ H h => by
  obtain ⟨ρ, s, lo, r, rl, p⟩ := h
  exact p ρ H σ .refl r rl
theorem cs_cons (h1 : PS X st (tS T W ms)) (h2 : PSs X rest (tS T W mr)) : PSs X (st :: rest) (tS T W (sSeq ms mr)) := pss_mono (pss_cons h1 h2) fun D σ H h => by
  obtain ⟨ρ, s, lo, r, rl, p⟩ := h
  refine ⟨ρ, s, lo, r, rl, ?_⟩
  unfold sSeq at p
  cases e : ms lo s with
  | nx lo' s' =>
    rw [e] at p
    exact fun ρ' H' σ' x r' rl' => ⟨ρ', s', lo', r', rl', p.mono x⟩
  | rt v s' => rw [e] at p; exact p
  | bk lo' s' => rw [e] at p; exact p
  | ct lo' s' => rw [e] at p; exact p
  | exc z lo' s' => rw [e] at p; exact p
  | fail => rw [e] at p; exact p
theorem cs_one (h1 : PS X st (tS T W ms)) : PSs X [st] (tS T W ms) := pss_one h1
theorem cs_expr (he : PE X e (tE T W me)) (hs : swapsWith e none pos.line X.env = pure false := by rfl) : PS X (.Expr e pos) (tS T W (sExpr me)) := ps_mono (ps_expr he hs) fun D σ H h =>
  tS_bnd (R := RV T) h fun ρ s lo x z H' r rl hx p => p ρ H' σ .refl r rl
theorem cs_ret (he : PE X e (tE T W me)) : PS X (.Return (some e) pos) (tS T W (sRet me)) := ps_mono (ps_ret he) fun D σ H h =>
  tS_bnd (R := RV T) h fun ρ s lo x z H' r rl hx p => p ρ H' z .refl r hx
theorem cs_retN : PS X (.Return none pos) (tS T W sRetN) := ps_mono ps_retN fun D σ H h => by
  obtain ⟨ρ, s, lo, r, rl, p⟩ := h
  exact p ρ H .non .refl r .non
theorem cs_pass : PS X (.Pass pos) (tS T W sNil) := ps_mono ps_pass fun D σ H h => by
  obtain ⟨ρ, s, lo, r, rl, p⟩ := h
  exact p ρ H σ .refl r rl
theorem cs_break : PS X (.Break pos) (tS T W sBreak) := ps_mono ps_break fun D σ H h => by
  obtain ⟨ρ, s, lo, r, rl, p⟩ := h
  exact p ρ H σ .refl r rl
theorem cs_continue : PS X (.Continue pos) (tS T W sCont) := ps_mono ps_continue fun D σ H h => by
  obtain ⟨ρ, s, lo, r, rl, p⟩ := h
  exact p ρ H σ .refl r rl
theorem cs_if (hc : PT X c (tT T W mt)) (ha : PSs X a (tS T W ma)) (hb : PSs X b (tS T W mb)) : PS X (.If c a b pos) (tS T W (sIf mt ma mb)) := ps_mono (ps_if hc ha hb) fun D σ H h =>
  tS_bnd (R := RB) h fun ρ s lo x z H' r rl hx p => by
    cases hx
    cases x with
    | true => exact ⟨ρ, s, lo, r, rl, p⟩
    | false => exact ⟨ρ, s, lo, r, rl, p⟩
theorem tasg_le {i : Nat} {D : Ends} {σ : St} {H : Hp} (h : tS T W (sSet i me) D σ H) : tAsg (tE T W me) (gName i) D σ H :=
  tS_bnd (R := RV T) h fun ρ s lo x z H' r rl hx p => p ρ H' _ .refl r (rl.set i hx)
theorem cs_set {i : Nat} {x : Str} {pos' : Pos} (hN : X.N.Nodup) (hi : X.N[i]? = some x) (hx : Loc X.env.scope x) (he : PE X e (tE T W me)) (hs : swapsWith e (some (.Name x pos')) pos.line X.env = pure false := by rfl) (hf : X.fn x = true ∨ X.env.scope.names.lookup x = some .local := by first | exact .inl rfl | exact .inr rfl | assumption) :
    PS X (.Assign [.Name x pos'] e pos) (tS T W (sSet i me)) := ps_mono (ps_set hN hi hx he hs hf) fun D σ H h => tasg_le h
theorem cs_par {i j : Nat} {x y : Str} {a b : Expr} {ma : AM} {px py pt : Pos} {kt k2 pt2} (hc : X.calm = true) (hN : X.N.Nodup) (hi : X.N[i]? = some x) (hj : X.N[j]? = some y) (hij : i ≠ j)
    (hx : X.env.scope.names.lookup x = some .local) (hy : X.env.scope.names.lookup y = some .local) (ha : PA X [a, b] (tA T W ma))
    (hw : swappedStores [.Tuple [.Name x px, .Name y py] kt pt] (.Tuple [a, b] k2 pt2) X.env = pure (some [x, y]))
    (hs : swapsWithSole [.Tuple [.Name x px, .Name y py] kt pt] (.Tuple [a, b] k2 pt2) pos.line X.env = pure false := by rfl) :
    PS X (.Assign [.Tuple [.Name x px, .Name y py] kt pt] (.Tuple [a, b] k2 pt2) pos) (tS T W (sPar i j ma)) := ps_mono (ps_par hc hN hi hj hij hx hy ha hw hs) fun D σ H h =>
  tS_bnd (R := RVs T) h fun ρ s lo vs zs H' r rl hx p => by
    cases hx with
    | nil => exact p.elim
    | cons h1 h2 =>
      cases h2 with
      | nil => exact p.elim
      | cons h2 h3 =>
        cases h3 with
        | nil => exact ⟨_, _, rfl, p ρ H' _ .refl r ((rl.set i h1).set j h2)⟩
        | cons h3 h4 => exact p.elim
theorem cs_par3 {i j l : Nat} {x y z : Str} {a b c : Expr} {ma : AM} {px py pz pt : Pos} {kt k2 pt2} (hc : X.calm = true) (hN : X.N.Nodup) (hi : X.N[i]? = some x) (hj : X.N[j]? = some y) (hl : X.N[l]? = some z) (hij : i ≠ j) (hil : i ≠ l) (hjl : j ≠ l)
    (hx : X.env.scope.names.lookup x = some .local) (hy : X.env.scope.names.lookup y = some .local) (hz : X.env.scope.names.lookup z = some .local) (ha : PA X [a, b, c] (tA T W ma))
    (hw : swappedStores [.Tuple [.Name x px, .Name y py, .Name z pz] kt pt] (.Tuple [a, b, c] k2 pt2) X.env = pure (some [x, y, z]))
    (hs : swapsWithSole [.Tuple [.Name x px, .Name y py, .Name z pz] kt pt] (.Tuple [a, b, c] k2 pt2) pos.line X.env = pure false := by rfl) :
    PS X (.Assign [.Tuple [.Name x px, .Name y py, .Name z pz] kt pt] (.Tuple [a, b, c] k2 pt2) pos) (tS T W (sPar3 i j l ma)) := ps_mono (ps_par3 hc hN hi hj hl hij hil hjl hx hy hz ha hw hs) fun D σ H h =>
  tS_bnd (R := RVs T) h fun ρ s lo vs zs H' r rl hx p => by
    cases hx with
    | nil => exact p.elim
    | cons h1 h2 =>
      cases h2 with
      | nil => exact p.elim
      | cons h2 h3 =>
        cases h3 with
        | nil => exact p.elim
        | cons h3 h4 =>
          cases h4 with
          | nil => exact ⟨_, _, _, rfl, p ρ H' _ .refl r (((rl.set i h1).set j h2).set l h3)⟩
          | cons h4 h5 => exact p.elim
end

/-! ### targets -/
abbrev GM := Vl → Lo → M Lo
def gNm (i : Nat) : GM := fun v lo s => .ok (lo.set i (some v)) s
abbrev OSet := Vl → Vl → Vl → Sto → Option Sto
def liftU (f : Sto → Option Sto) (lo : Lo) : M Lo := fun s => match f s with
  | some s' => .ok lo s'
  | none => .fail
def gSb (f : OSet) (o i : EM) : GM := fun v lo => bnd (o lo) fun x => bnd (i lo) fun y => liftU (f x y v) lo
def gNms (js : List Nat) (vs : List Vl) (lo : Lo) : Option Lo := match js, vs with
  | [], [] => some lo
  | j :: js, v :: vs => gNms js vs (lo.set j (some v))
  | _, _ => none
/-- names in brackets -/
def gTp (js : List Nat) : GM := fun v lo s => match v with
  | .tup xs => match gNms js xs lo with
    | some lo' => .ok lo' s
    | none => .fail
  | _ => .fail
/-- the readings of targets -/
abbrev RLo (T : Tb) : List Addr → Hp → Lo → St → Prop := fun ρ H lo σ => RL T ρ H lo σ
def tGt (T : Tb) (W : WX) (g : GM) : TG := fun z σ H Q => ∃ (ρ : List Addr) (s : Sto) (lo : Lo) (v : Vl), Rel T ρ H s ∧ RL T ρ H lo σ ∧ RV T ρ H v z ∧ Po (RLo T) T (fun c d H' => W c d σ H') ρ H (g v lo s) Q
def sAsg (g : GM) (e : EM) : SM := bndS e fun lo v s => match g v lo s with
  | .ok lo' s' => .nx lo' s'
  | .exc x s' => .exc x lo s'
  | .fail => .fail
theorem pg_mono {X : Cx} {e : Expr} {t t' : TG} (h : PG X e t) (k : ∀ v σ H Q, t' v σ H Q → t v σ H Q) : PG X e t' := ⟨fun pins s σ H v u Q I r q => h.run pins s σ H v u Q I r (k v σ H Q q)⟩
def opSet : OSet
  | .ref j, y, v, s => match s[j]? with
    | some (.lst xs) => match y with
      | .int i => match ixN xs.length i with
        | some n => some (s.set j (.lst (xs.set n v)))
        | none => none
      | _ => none
    | some (.dic kvs) => match keyOf y with
      | some k => if kvs.length < LIM then some (s.set j (.dic (put kvs k v))) else none
      | none => none
    | _ => none
  | _, _, _, _ => none
def rSt (T : Tb) (f : OSet) : TSet := fun o i v H Q => ∃ ρ s a b c s', Rel T ρ H s ∧ RV T ρ H a o ∧ RV T ρ H b i ∧ RV T ρ H c v ∧ f a b c s = some s' ∧ ∀ (ρ' : List Addr) (H' : Hp), Ext T ρ H ρ' H' → Rel T ρ' H' s' → Q H'
section
variable {X : Cx} {T : Tb} {W : WX} {o i e tg : Expr} {mo mi me : EM} {g : GM} {f : OSet} {pos : Pos}
theorem cg_name {n : Nat} {x : Str} (hN : X.N.Nodup) (hi : X.N[n]? = some x) (hx : Loc X.env.scope x) (hf : X.fn x = true ∨ X.env.scope.names.lookup x = some .local := by first | exact .inl rfl | exact .inr rfl | assumption) : PG X (.Name x pos) (tGt T W (gNm n)) :=
  pg_mono (pg_name hN hi hx hf) fun v σ H Q h => by
    obtain ⟨ρ, s, lo, x, r, rl, hx, p⟩ := h
    exact p ρ H _ .refl r (rl.set n hx)
theorem cg_sub (ho : PE X o (tE T W mo)) (hi : PE X i (tE T W mi)) (hs : PSet X (rSt T f)) (k : PG X (.Subscript o i pos) (gSub (tE T W mo) (tE T W mi) (rSt T f))) : PG X (.Subscript o i pos) (tGt T W (gSb f mo mi)) :=
  pg_mono k fun v σ H Q h => by
    obtain ⟨ρ, s, lo, x, r, rl, hx, p⟩ := h
    refine po_bnd (R := RV T) (m := mo) r rl p fun ρ1 s1 a z H1 ext1 r1 rl1 ha p1 => po_bnd (R := RV T) (m := mi) r1 rl1 p1 fun ρ2 s2 b y H2 ext2 r2 rl2 hb p2 => ?_
    unfold liftU at p2
    cases e : f a b x s2 with
    | none => rw [e] at p2; exact p2.elim
    | some s3 =>
      rw [e] at p2
      exact ⟨ρ2, s2, a, b, x, s3, r2, ha.mono ext2, hb, hx.mono (ext1.trans ext2), e, fun ρ3 H3 e3 r3 => p2 ρ3 H3 σ e3 r3 (rl2.mono e3)⟩
theorem cs_asg (he : PE X e (tE T W me)) (hg : PG X tg (tGt T W g)) (hs : swapsWithSole [tg] e pos.line X.env = pure false := by rfl) (hw : swappedStores [tg] e X.env = pure none := by rfl)
    (h1 : (assignEach [tg] X.env).map (·.2) = [assign tg X.env] := by rfl) : PS X (.Assign [tg] e pos) (tS T W (sAsg g me)) := ps_mono (ps_asg he hg hs hw h1) fun D σ H h =>
  tS_bnd (R := RV T) h fun ρ s lo x z H' r rl hx p => ⟨ρ, s, lo, x, r, rl, hx, by
    cases e : g x lo s with
    | ok lo' s' =>
      rw [e] at p
      exact fun ρ2 H2 σ2 e2 r2 rl2 => p ρ2 H2 σ2 e2 r2 rl2
    | exc y s' =>
      rw [e] at p
      exact fun ρ2 H2 C e2 r2 hC => p ρ2 H2 σ C e2 r2 (rl.mono e2) hC
    | fail => rw [e] at p; exact p⟩
theorem p_set (hu : X.A.units + 1 < cLine) : PSet X (rSt T opSet) := by
  intro pins s σ H ov iv v ou iu u Q I ro ri rv h
  obtain ⟨ρ, st, a, b, c, s', r, ha, hb, hc, e, k⟩ := h
  unfold opSet at e
  split at e
  · rename_i j y w s0
    obtain ⟨p, rfl, hp⟩ := ha.refE
    split at e
    · rename_i xs hx
      split at e
      · rename_i i
        split at e
        · rename_i n hn
          cases e
          obtain ⟨vs, h1, h2⟩ := r.lst hx hp
          refine set_list pins s σ H _ _ v ou iu u Q I ro ri rv ⟨p, vs, i, n, rfl, hb.intE, h1, by rw [← h2.length]; exact hn, ?_⟩
          exact k ρ _ (r.setExt hp h1) (r.set hp ⟨_, upd_same, (h2.set hc n).mono (r.setExt hp h1)⟩)
        · cases e
      · cases e
    · rename_i kvs hx
      split at e
      · rename_i key hk
        split at e
        · rename_i hl
          cases e
          obtain ⟨vs, h1, h2, h3⟩ := r.dic hx hp
          have ey := keyOf_ok hb hk
          subst ey
          have hlen : vs.length = kvs.length := by have := congrArg List.length h2; simpa using this
          have nd := dk_nodup I h1
          obtain ⟨q1, q2⟩ := put_ok (k := key) hc nd h2 h3
          obtain rfl : ou = Value.ref p := ro
          refine d_setItem hu I (DPut.k (v := v) h1 (by rw [hlen, lim_eq]; exact hl)) ri rv fun s4 I4 => ⟨_, I4, ?_⟩
          exact k ρ _ (r.setExt hp h1) (r.set hp ⟨_, upd_same, q1, q2.mono (r.setExt hp h1)⟩)
        · cases e
      · cases e
    · cases e
  · cases e
end
end Sm

/-! S6: loops and comprehensions -/
namespace Sm
open PySem L2

/-- the i-th item of what is walked: an item, the end, or nothing known -/
abbrev NX := Nat → Sto → Option (Option Vl)
def nxFix (xs : List Vl) : NX := fun i _ => some xs[i]?
def nxLst (j : Nat) : NX := fun i s => match s[j]? with
  | some (.lst xs) => some xs[i]?
  | _ => none
def nxEnum (j : Nat) : NX := fun i s => match s[j]? with
  | some (.lst xs) => match xs[i]? with
    | some v => some (some (.tup [.int (i : Nat), v]))
    | none => some none
  | _ => none
/-- an iterator of the model yields what nx says -/
def ItOk (T : Tb) (J : It) (nx : NX) (ρ : List Addr) (H : Hp) : Prop := ∀ (ρ1 : List Addr) (H1 : Hp) (s : Sto) (i : Nat), Ext T ρ H ρ1 H1 → Rel T ρ1 H1 s → match nx i s with
  | some (some v) => J.go i H1 ∧ ∀ x H2, J.yld i H1 x H2 → Ext T ρ1 H1 ρ1 H2 ∧ Rel T ρ1 H2 s ∧ RV T ρ1 H2 v x
  | some none => J.stop i H1
  | none => True
theorem ItOk.mono {T : Tb} {J : It} {nx : NX} {ρ ρ' : List Addr} {H H' : Hp} (h : ItOk T J nx ρ H) (e : Ext T ρ H ρ' H') : ItOk T J nx ρ' H' := fun ρ1 H1 s i e1 r => h ρ1 H1 s i (e.trans e1) r
abbrev IM := Lo → M NX
abbrev tI (T : Tb) (W : WX) (m : IM) : TI := fun σ H R => tG (fun ρ H nx J => ItOk T J nx ρ H) T W m σ H R
/-- the loop, by fuel -/
def loopN (nx : NX) (g : GM) (b : SM) : Nat → Nat → SM
  | 0, _, _, _ => .fail
  | n + 1, i, lo, s => match nx i s with
    | none => .fail
    | some none => .nx lo s
    | some (some v) => match g v lo s with
      | .fail => .fail
      | .exc e s' => .exc e lo s'
      | .ok lo' s' => match b lo' s' with
        | .nx lo2 s2 => loopN nx g b n (i + 1) lo2 s2
        | .ct lo2 s2 => loopN nx g b n (i + 1) lo2 s2
        | .bk lo2 s2 => .nx lo2 s2
        | .rt v2 s2 => .rt v2 s2
        | .exc e lo2 s2 => .exc e lo2 s2
        | .fail => .fail
def sFor (n : Nat) (m : IM) (g : GM) (b : SM) : SM := bndS m fun lo nx s => loopN nx g b n 0 lo s
/-- the same over items that are known -/
def loopX (g : GM) (b : SM) : List Vl → SM
  | [], lo, s => .nx lo s
  | v :: vs, lo, s => match g v lo s with
    | .fail => .fail
    | .exc e s' => .exc e lo s'
    | .ok lo' s' => match b lo' s' with
      | .nx lo2 s2 => loopX g b vs lo2 s2
      | .ct lo2 s2 => loopX g b vs lo2 s2
      | .bk lo2 s2 => .nx lo2 s2
      | .rt v2 s2 => .rt v2 s2
      | .exc e lo2 s2 => .exc e lo2 s2
      | .fail => .fail
def sForX (m : AM) (g : GM) (b : SM) : SM := bndS m fun lo xs s => loopX g b xs lo s
theorem loopX_eq (g : GM) (b : SM) (all : List Vl) : ∀ (n i : Nat) (lo : Lo) (s : Sto), all.length - i < n → loopN (nxFix all) g b n i lo s = loopX g b (all.drop i) lo s := by
  intro n
  induction n with
  | zero => intro i lo s h; omega
  | succ n ih =>
    intro i lo s h
    unfold loopN
    simp only [nxFix]
    cases e : all[i]? with
    | none =>
      have : all.length ≤ i := List.getElem?_eq_none_iff.mp e
      rw [List.drop_eq_nil_of_le this]
      rfl
    | some v =>
      obtain ⟨hi, hv⟩ := List.getElem?_eq_some_iff.mp e
      rw [List.drop_eq_getElem_cons hi, hv]
      simp only [loopX]
      cases g v lo s with
      | fail => rfl
      | exc e s' => rfl
      | ok lo' s' =>
        simp only
        cases b lo' s' with
        | nx lo2 s2 => exact ih (i + 1) lo2 s2 (by omega)
        | ct lo2 s2 => exact ih (i + 1) lo2 s2 (by omega)
        | bk lo2 s2 => rfl
        | rt v2 s2 => rfl
        | exc e lo2 s2 => rfl
        | fail => rfl
section
variable {X : Cx} {T : Tb} {W : WX} {tg iter : Expr} {body : List Stmt} {m : IM} {ma : AM} {g : GM} {b : SM} {pos : Pos}
theorem loop_le {n : Nat} {D : Ends} {σ : St} {H : Hp} (h : tS T W (sFor n m g b) D σ H) : tFor (tI T W m) (tGt T W g) (tS T W b) D σ H :=
  tS_bnd (R := fun ρ H nx J => ItOk T J nx ρ H) h fun ρ0 s0 lo0 nx J H0 r0 rl0 ok p0 => by
    refine ⟨fun i k σ H => ∃ ρ s lo, Rel T ρ H s ∧ RL T ρ H lo σ ∧ ItOk T J nx ρ H ∧ PoS T W ρ H (loopN nx g b k i lo s) D, ⟨n, ρ0, s0, lo0, r0, rl0, ok, p0⟩, ?_⟩
    rintro i k σ1 H1 ⟨ρ, s, lo, r, rl, ok, p⟩
    cases k with
    | zero => exact p.elim
    | succ k =>
      unfold loopN at p
      have q := ok ρ H1 s i .refl r
      cases e : nx i s with
      | none => simp only [e] at p; exact p.elim
      | some o =>
        simp only [e] at p q
        cases o with
        | none => exact .inl ⟨q, p ρ H1 σ1 .refl r rl⟩
        | some v =>
          obtain ⟨go, yl⟩ := q
          refine .inr ⟨go, fun σ' H' => ∃ ρ s lo, Rel T ρ H' s ∧ RL T ρ H' lo σ' ∧ ItOk T J nx ρ H' ∧ PoS T W ρ H' (loopN nx g b k (i + 1) lo s) D, fun σ' H' h => ⟨k, Nat.lt_succ_self k, h⟩, fun x H2 y => ?_⟩
          obtain ⟨x1, r2, hv⟩ := yl x H2 y
          refine ⟨ρ, s, lo, v, r2, rl.mono x1, hv, ?_⟩
          have p := p.mono x1
          cases e2 : g v lo s with
          | fail => simp only [e2] at p; exact p
          | exc z s' => simp only [e2] at p; exact fun ρ' H' C x r' hC => p ρ' H' σ1 C x r' (rl.mono (x1.trans x)) hC
          | ok lo' s' =>
            simp only [e2] at p
            intro ρ3 H3 σ3 x3 r3 rl3
            refine ⟨ρ3, s', lo', r3, rl3, ?_⟩
            have p := p.mono x3
            have ok3 := ok.mono (x1.trans x3)
            cases e3 : b lo' s' with
            | nx lo2 s2 => simp only [e3] at p; exact fun ρ4 H4 σ4 x4 r4 rl4 => ⟨ρ4, s2, lo2, r4, rl4, ok3.mono x4, p.mono x4⟩
            | ct lo2 s2 => simp only [e3] at p; exact fun ρ4 H4 σ4 x4 r4 rl4 => ⟨ρ4, s2, lo2, r4, rl4, ok3.mono x4, p.mono x4⟩
            | bk lo2 s2 => simp only [e3] at p; exact p
            | rt v2 s2 => simp only [e3] at p; exact p
            | exc z lo2 s2 => simp only [e3] at p; exact p
            | fail => simp only [e3] at p; exact p
theorem cs_for (n : Nat) (hp : PassesOwn (model X.prog X.w) X.A X.env X.xe) (hc : X.calm = true) (hi : PI X tg iter (tI T W m)) (hg : PG X tg (tGt T W g)) (hb : PSs X body (tS T W b))
    (hs : ∀ x, foldedSetIterable iter X.env x = pure x := by intro _; rfl) : PS X (.For tg iter body [] pos) (tS T W (sFor n m g b)) := ps_mono (ps_for hp hc hi hg hb hs) fun D σ H h => loop_le h
/-- what is walked as a list that is known -/
def iFix (ma : AM) : IM := fun lo => bnd (ma lo) fun xs => ret (nxFix xs)
theorem cs_forX (hp : PassesOwn (model X.prog X.w) X.A X.env X.xe) (hc : X.calm = true) (hi : PI X tg iter (tI T W (iFix ma))) (hg : PG X tg (tGt T W g)) (hb : PSs X body (tS T W b))
    (hs : ∀ x, foldedSetIterable iter X.env x = pure x := by intro _; rfl) : PS X (.For tg iter body [] pos) (tS T W (sForX ma g b)) := ps_mono (ps_for hp hc hi hg hb hs) fun D σ H h => by
  obtain ⟨ρ, s, lo, r, rl, p⟩ := h
  unfold sForX bndS at p
  cases e : ma lo s with
  | ok xs s' =>
    refine loop_le (n := xs.length + 1) ⟨ρ, s, lo, r, rl, ?_⟩
    have : sFor (xs.length + 1) (iFix ma) g b lo s = loopX g b xs lo s' := by
      unfold sFor bndS iFix bnd
      rw [e]
      simp only [ret]
      rw [loopX_eq g b xs (xs.length + 1) 0 lo s' (by omega), List.drop_zero]
    rw [this]
    rw [e] at p
    exact p
  | exc z s' =>
    refine loop_le (n := 1) ⟨ρ, s, lo, r, rl, ?_⟩
    have : sFor 1 (iFix ma) g b lo s = .exc z lo s' := by
      unfold sFor bndS iFix bnd
      rw [e]
    rw [this]
    rw [e] at p
    exact p
  | fail =>
    rw [e] at p
    exact p.elim
theorem pi_mono {tg iter : Expr} {t t' : TI} (h : PI X tg iter t) (k : ∀ σ H R, t' σ H R → t σ H R) : PI X tg iter t' := ⟨fun pins s σ H R I q => h.run pins s σ H R I (k σ H R q)⟩
/-- over a tuple -/
def aTup (e : EM) : AM := fun lo => bnd (e lo) fun x => match x with
  | .tup xs => ret xs
  | _ => failM
/-- over range(n), range(a, b) -/
def rng (lo : Int) (n : Nat) : List Vl := (List.range n).map fun i => Vl.int (lo + (i : Nat))
def aRng (a : AM) : AM := fun lo => bnd (a lo) fun xs => match xs with
  | [.int n] => if -(2 ^ 62) ≤ n ∧ n < 2 ^ 62 then ret (rng 0 n.toNat) else failM
  | _ => failM
def aRng2 (a : AM) : AM := fun lo => bnd (a lo) fun xs => match xs with
  | [.int i, .int j] => if -(2 ^ 62) ≤ i ∧ i < 2 ^ 62 ∧ -(2 ^ 62) ≤ j ∧ j < 2 ^ 62 then ret (rng i (j - i).toNat) else failM
  | _ => failM
/-- over a list, enumerate(list): the list's number -/
def iLst (e : EM) : IM := fun lo => bnd (e lo) fun x => match x with
  | .ref j => fun s => match s[j]? with
    | some (.lst _) => .ok (nxLst j) s
    | _ => .fail
  | _ => failM
def iEnm (a : AM) : IM := fun lo => bnd (a lo) fun xs => match xs with
  | [.ref j] => fun s => match s[j]? with
    | some (.lst _) => .ok (nxEnum j) s
    | _ => .fail
  | _ => failM
theorem bnd_bnd {α β γ : Type} (m : M α) (f : α → M β) (g : β → M γ) : bnd (bnd m f) g = bnd m fun x => bnd (f x) g := by
  funext s
  unfold bnd
  cases m s <;> rfl
theorem fix_le {R : It → Hp → Prop} {σ : St} {H : Hp} (h : tI T W (iFix ma) σ H R) : tA T W (fun lo => ma lo) σ H fun vs H1 => ∀ J, (∀ ρ s xs, Rel T ρ H1 s → RVs T ρ H1 xs vs → ItOk T J (nxFix xs) ρ H1) → R J H1 :=
  tG_bnd (R := RVs T) h fun ρ s lo xs vs H1 r rl hx p J hJ => p ρ H1 J .refl r (hJ ρ s xs r hx)
theorem ci_tup {e : Expr} {me : EM} (he : PE X e (tE T W me)) (hK : X.K = T.K := by rfl) : PI X tg e (tI T W (iFix (aTup me))) := pi_mono (pi_tup he) fun σ H R h => by
  obtain ⟨ρ, s, lo, r, rl, p⟩ := h
  refine po_bnd (R := RV T) (m := me) (f := fun x => bnd (match x with | .tup xs => ret xs | _ => failM) fun xs => ret (nxFix xs)) (R' := fun ρ H nx J => ItOk T J nx ρ H) (Q := R) r rl ?_ fun ρ1 s1 x z H1 ext1 r1 rl1 hx p1 => ?_
  · unfold iFix aTup at p
    unfold bnd at p ⊢
    cases e : me lo s <;> rw [e] at p <;> exact p
  · cases hx with
    | tup h1 h2 =>
      rename_i a vs xs
      refine ⟨a, rfl, ⟨vs, by rw [hK]; exact h1⟩, p1 ρ1 H1 _ .refl r1 ?_⟩
      intro ρ2 H2 s2 i e2 r2
      have h1' := e2.tup _ _ h1
      have h2' := h2.mono e2
      rw [← hK] at h1'
      simp only [nxFix]
      cases e : xs[i]? with
      | none =>
        have : xs.length ≤ i := List.getElem?_eq_none_iff.mp e
        exact ⟨vs, h1', by rw [← h2'.length]; exact this⟩
      | some v =>
        obtain ⟨z, hz, rz⟩ := h2'.get e
        refine ⟨⟨vs, z, h1', hz⟩, fun x H3 y => ?_⟩
        obtain ⟨rfl, y⟩ := y
        have := y vs h1'
        rw [hz] at this
        cases this
        exact ⟨.refl, r2, rz⟩
    | _ => exact p1.elim
end
end Sm

/-! S7: what is walked; while; comprehensions -/
namespace Sm
open PySem L2
section
variable {X : Cx} {T : Tb} {W : WX} {tg : Expr} {pos p : Pos}
theorem ok_rng {lo : Int} {n : Nat} {ρ : List Addr} {H : Hp} : ItOk T (Itr lo n) (nxFix (rng lo n)) ρ H := by
  intro ρ1 H1 s i e r
  simp only [nxFix, rng]
  by_cases h : i < n
  · rw [List.getElem?_map, List.getElem?_range h]
    refine ⟨h, fun x H2 y => ?_⟩
    obtain ⟨rfl, rfl⟩ := y
    exact ⟨.refl, r, .int _⟩
  · rw [List.getElem?_eq_none (by simp; omega)]
    exact Nat.le_of_not_lt h
theorem ci_rng1 {a : Expr} {ma : AM} (hg : Gl X "range") (hm : X.mg "range" = none) (ha : PA X [a] (tA T W ma)) (hs : starEach [a] X.env = [(false, eval a X.env)] := by rfl) : PI X tg (.Call (.Name "range" p) [a] [] pos) (tI T W (iFix (aRng ma))) :=
  pi_mono (pi_range1 hg hm ha hs) fun σ H R h => by
    obtain ⟨ρ, s, lo, r, rl, q⟩ := h
    unfold iFix aRng at q
    rw [bnd_bnd] at q
    refine po_bnd (R := RVs T) (m := ma) r rl q fun ρ1 s1 xs zs H1 ext1 r1 rl1 hx p1 => ?_
    split at p1
    · rename_i n
      split at p1
      · rename_i hn
        obtain ⟨z, rfl, hz⟩ := hx.one
        exact ⟨n, by rw [hz.intE], hn.1, hn.2, p1 ρ1 H1 _ .refl r1 ok_rng⟩
      · exact p1.elim
    · exact p1.elim
theorem ci_rng2 {a b : Expr} {ma : AM} (hg : Gl X "range") (hm : X.mg "range" = none) (ha : PA X [a, b] (tA T W ma)) (hs : starEach [a, b] X.env = [(false, eval a X.env), (false, eval b X.env)] := by rfl) (hs2 : starEach [b] X.env = [(false, eval b X.env)] := by rfl) :
    PI X tg (.Call (.Name "range" p) [a, b] [] pos) (tI T W (iFix (aRng2 ma))) :=
  pi_mono (pi_range2 hg hm ha hs hs2) fun σ H R h => by
    obtain ⟨ρ, s, lo, r, rl, q⟩ := h
    unfold iFix aRng2 at q
    rw [bnd_bnd] at q
    refine po_bnd (R := RVs T) (m := ma) r rl q fun ρ1 s1 xs zs H1 ext1 r1 rl1 hx p1 => ?_
    split at p1
    · rename_i i j
      split at p1
      · rename_i hn
        obtain ⟨z, z', rfl, hz, hz'⟩ := hx.two
        exact ⟨i, j, by rw [hz.intE, hz'.intE], hn, p1 ρ1 H1 _ .refl r1 ok_rng⟩
      · exact p1.elim
    · exact p1.elim
theorem ci_lst {e : Expr} {me : EM} (he : PE X e (tE T W me)) (hK : X.K = T.K := by rfl) : PI X tg e (tI T W (iLst me)) := pi_mono (pi_list he) fun σ H R h => by
  obtain ⟨ρ, s, lo, r, rl, q⟩ := h
  refine po_bnd (R := RV T) (m := me) r rl q fun ρ1 s1 x z H1 ext1 r1 rl1 hx p1 => ?_
  cases hx with
  | ref ha =>
    rename_i j a
    simp only at p1
    split at p1
    · rename_i xs hj
      obtain ⟨vs, h1, h2⟩ := r1.lst hj ha
      refine ⟨a, rfl, ⟨vs, SqL.of h1⟩, p1 ρ1 H1 _ .refl r1 ?_⟩
      intro ρ2 H2 s2 i e2 r2
      have ha2 := e2.pre _ _ ha
      unfold nxLst
      cases e : s2[j]? with
      | none => trivial
      | some o =>
        cases o with
        | lst ys =>
          obtain ⟨us, g1, g2⟩ := r2.lst e ha2
          simp only
          cases e3 : ys[i]? with
          | none => exact ⟨us, SqL.of g1, by rw [← g2.length]; exact List.getElem?_eq_none_iff.mp e3⟩
          | some v =>
            obtain ⟨w, hw, rw'⟩ := g2.get e3
            refine ⟨⟨us, w, SqL.of g1, hw⟩, fun x H3 y => ?_⟩
            obtain ⟨rfl, y⟩ := y
            have := y us (SqL.of g1)
            rw [hw] at this
            cases this
            exact ⟨.refl, r2, rw'⟩
        | _ => trivial
    · exact p1.elim
  | _ => exact p1.elim
/-- enumerate(list) -/
theorem ci_enm {e : Expr} {ma : AM} {elts : List Expr} {kk : Nat} {tpos : Pos} (hg : Gl X "enumerate") (hm : X.mg "enumerate" = none) (ha : PA X [e] (tA T W ma)) (hs : starEach [e] X.env = [(false, eval e X.env)] := by rfl) (hK : X.K = T.K := by rfl) :
    PI X (.Tuple elts kk tpos) (.Call (.Name "enumerate" p) [e] [] pos) (tI T W (iEnm ma)) := pi_mono (pi_enum hg hm ha hs) fun σ H R h => by
  obtain ⟨ρ, s, lo, r, rl, q⟩ := h
  refine po_bnd (R := RVs T) (m := ma) r rl q fun ρ1 s1 xs zs H1 ext1 r1 rl1 hx p1 => ?_
  split at p1
  · rename_i j
    obtain ⟨z, rfl, hz⟩ := hx.one
    obtain ⟨a, rfl, ha⟩ := hz.refE
    split at p1
    · rename_i ys hj
      obtain ⟨vs, h1, h2⟩ := r1.lst hj ha
      refine ⟨a, vs, rfl, SqL.of h1, p1 ρ1 H1 _ .refl r1 ?_⟩
      intro ρ2 H2 s2 i e2 r2
      have ha2 := e2.pre _ _ ha
      unfold nxEnum
      cases e : s2[j]? with
      | none => trivial
      | some o =>
        cases o with
        | lst ys =>
          obtain ⟨us, g1, g2⟩ := r2.lst e ha2
          simp only
          cases e3 : ys[i]? with
          | none => exact ⟨us, SqL.of g1, by rw [← g2.length]; exact List.getElem?_eq_none_iff.mp e3⟩
          | some v =>
            obtain ⟨w, hw, rw'⟩ := g2.get e3
            refine ⟨⟨us, w, SqL.of g1, hw⟩, fun x H3 y => ?_⟩
            obtain ⟨q, u, rfl, hq, rfl, y⟩ := y
            have := y us (SqL.of g1)
            rw [hw] at this
            cases this
            exact ⟨ext_upd hq, r2.laid hq, .tup (SqT.of upd_same) (.cons (.int _) (.cons (rw'.mono (ext_upd hq)) .nil))⟩
        | _ => trivial
    · exact p1.elim
  · exact p1.elim
end
/-! ### while -/
def loopW (t : TM) (b : SM) : Nat → SM
  | 0, _, _ => .fail
  | n + 1, lo, s => match t lo s with
    | .fail => .fail
    | .exc e s' => .exc e lo s'
    | .ok false s' => .nx lo s'
    | .ok true s' => match b lo s' with
      | .nx lo2 s2 => loopW t b n lo2 s2
      | .ct lo2 s2 => loopW t b n lo2 s2
      | .bk lo2 s2 => .nx lo2 s2
      | .rt v2 s2 => .rt v2 s2
      | .exc e lo2 s2 => .exc e lo2 s2
      | .fail => .fail
section
variable {X : Cx} {T : Tb} {W : WX} {c : Expr} {body : List Stmt} {mt : TM} {b : SM} {pos : Pos}
theorem cs_while (n : Nat) (hp : PassesOwn (model X.prog X.w) X.A X.env X.xe) (hc : PT X c (tT T W mt)) (hb : PSs X body (tS T W b)) : PS X (.While c body [] pos) (tS T W (loopW mt b n)) :=
  ps_mono (ps_while hp hc hb) fun D σ H h => by
    obtain ⟨ρ, s, lo, r, rl, p⟩ := h
    refine ⟨fun k σ H => ∃ ρ s lo, Rel T ρ H s ∧ RL T ρ H lo σ ∧ PoS T W ρ H (loopW mt b k lo s) D, ⟨n, ρ, s, lo, r, rl, p⟩, ?_⟩
    rintro k σ1 H1 ⟨ρ, s, lo, r, rl, p⟩
    cases k with
    | zero => exact p.elim
    | succ k =>
      unfold loopW at p
      refine ⟨ρ, s, lo, r, rl, ?_⟩
      cases e : mt lo s with
      | fail => simp only [e] at p; exact p
      | exc z s' => simp only [e] at p; exact fun ρ' H' C x r' hC => p ρ' H' σ1 C x r' (rl.mono x) hC
      | ok c s' =>
        intro ρ2 H2 c' x2 r2 ec
        cases ec
        cases c with
        | false =>
          simp only [e] at p
          exact p ρ2 H2 σ1 x2 r2 (rl.mono x2)
        | true =>
          simp only [e] at p
          refine ⟨fun σ' H' => ∃ ρ s lo, Rel T ρ H' s ∧ RL T ρ H' lo σ' ∧ PoS T W ρ H' (loopW mt b k lo s) D, fun σ' H' h => ⟨k, Nat.lt_succ_self k, h⟩, ρ2, s', lo, r2, rl.mono x2, ?_⟩
          have p := p.mono x2
          cases e3 : b lo s' with
          | nx lo2 s2 => simp only [e3] at p; exact fun ρ4 H4 σ4 x4 r4 rl4 => ⟨ρ4, s2, lo2, r4, rl4, p.mono x4⟩
          | ct lo2 s2 => simp only [e3] at p; exact fun ρ4 H4 σ4 x4 r4 rl4 => ⟨ρ4, s2, lo2, r4, rl4, p.mono x4⟩
          | bk lo2 s2 => simp only [e3] at p; exact p
          | rt v2 s2 => simp only [e3] at p; exact p
          | exc z lo2 s2 => simp only [e3] at p; exact p
          | fail => simp only [e3] at p; exact p
end
/-! ### targets of several names -/
def gNs : List Nat → TGs
  | [] => gNil
  | j :: js => gCons (gName j) (gNs js)
section
variable {X : Cx} {T : Tb} {W : WX} {pos : Pos}
theorem gNs_ok {ρ : List Addr} {H : Hp} {Q : St → Hp → Prop} : ∀ {js : List Nat} {xs : List Vl} {vs : List V} {lo lo' : Lo} {σ : St}, RVs T ρ H xs vs → RL T ρ H lo σ → gNms js xs lo = some lo' → (∀ σ', RL T ρ H lo' σ' → Q σ' H) → gNs js vs σ H Q
  | [], [], _, _, _, _, .nil, rl, e, k => by
    cases e
    exact ⟨rfl, k _ rl⟩
  | [], _ :: _, _, _, _, _, _, _, e, _ => by cases e
  | _ :: _, [], _, _, _, _, _, _, e, _ => by cases e
  | j :: js, x :: xs, _, lo, lo', σ, .cons h hs, rl, e, k => ⟨_, _, rfl, gNs_ok hs (rl.set j h) (show gNms js xs (lo.set j (some x)) = some lo' from e) k⟩
theorem gNms_len : ∀ {js : List Nat} {xs : List Vl} {lo lo' : Lo}, gNms js xs lo = some lo' → xs.length = js.length
  | [], [], _, _, _ => rfl
  | [], _ :: _, _, _, e => by cases e
  | _ :: _, [], _, _, e => by cases e
  | j :: js, x :: xs, lo, lo', e => by
    rw [List.length_cons, List.length_cons, gNms_len (show gNms js xs (lo.set j (some x)) = some lo' from e)]
theorem cg_tup {es : List Expr} {k : Nat} {js : List Nat} (h : PG X (.Tuple es k pos) (gTup X.K js.length (gNs js))) (hK : X.K = T.K := by rfl) : PG X (.Tuple es k pos) (tGt T W (gTp js)) := pg_mono h fun z σ H Q h => by
  obtain ⟨ρ, s, lo, v, r, rl, hv, p⟩ := h
  unfold gTp at p
  split at p
  · rename_i xs
    split at p
    · rename_i lo' e
      obtain ⟨a, vs, rfl, h1, h2⟩ := hv.tupE
      exact ⟨a, vs, rfl, by rw [hK]; exact h1, by rw [← h2.length]; exact gNms_len e, gNs_ok h2 rl e fun σ' rl' => p ρ H σ' .refl r rl'⟩
    · exact p.elim
  · exact p.elim
end
/-! ### comprehensions -/
def wipeL (lo : Lo) : List Nat → Lo
  | [] => lo
  | v :: vs => (wipeL lo vs).set v none
abbrev GL := Vl → Lo → Option Lo
def glN (j : Nat) : GL := fun v lo => some (lo.set j (some v))
def glT (js : List Nat) : GL := fun v lo => match v with
  | .tup xs => gNms js xs lo
  | _ => none
def tTrue : TM := fun _ => ret true
/-- one turn: kept or not -/
def lcStep (t : TM) (e : EM) (d : Nat) (lo : Lo) (s : Sto) : Option Sto := match t lo s with
  | .ok false s1 => some s1
  | .ok true s1 => match e lo s1 with
    | .ok y s2 => match s2[d]? with
      | some (.lst acc) => if acc.length < LIM then some (s2.set d (.lst (acc ++ [y]))) else none
      | _ => none
    | _ => none
  | _ => none
def lcN (nx : NX) (g : GL) (t : TM) (e : EM) (d : Nat) (lo : Lo) : Nat → Nat → Sto → Option Sto
  | 0, _, _ => none
  | n + 1, i, s => match nx i s with
    | none => none
    | some none => some s
    | some (some v) => match g v lo with
      | none => none
      | some lo' => match lcStep t e d lo' s with
        | none => none
        | some s' => lcN nx g t e d lo n (i + 1) s'
def lcX (g : GL) (t : TM) (e : EM) (d : Nat) (lo : Lo) : List Vl → Sto → Option Sto
  | [], s => some s
  | v :: vs, s => match g v lo with
    | none => none
    | some lo' => match lcStep t e d lo' s with
      | none => none
      | some s' => lcX g t e d lo vs s'
def eLc (n : Nat) (m : IM) (g : GL) (t : TM) (e : EM) (vs : List Nat) : EM := fun lo => bnd (m lo) fun nx s => match lcN nx g t e s.length (wipeL lo vs) n 0 (s ++ [.lst []]) with
  | some s' => .ok (.ref s.length) s'
  | none => .fail
def eLcX (m : AM) (g : GL) (t : TM) (e : EM) (vs : List Nat) : EM := fun lo => bnd (m lo) fun xs s => match lcX g t e s.length (wipeL lo vs) xs (s ++ [.lst []]) with
  | some s' => .ok (.ref s.length) s'
  | none => .fail
theorem lcX_eq (g : GL) (t : TM) (e : EM) (d : Nat) (lo : Lo) (all : List Vl) : ∀ (n i : Nat) (s : Sto), all.length - i < n → lcN (nxFix all) g t e d lo n i s = lcX g t e d lo (all.drop i) s := by
  intro n
  induction n with
  | zero => intro i s h; omega
  | succ n ih =>
    intro i s h
    unfold lcN
    simp only [nxFix]
    cases h1 : all[i]? with
    | none =>
      have : all.length ≤ i := List.getElem?_eq_none_iff.mp h1
      rw [List.drop_eq_nil_of_le this]
      rfl
    | some v =>
      obtain ⟨hi, hv⟩ := List.getElem?_eq_some_iff.mp h1
      rw [List.drop_eq_getElem_cons hi, hv]
      simp only [lcX]
      cases g v lo with
      | none => rfl
      | some lo' =>
        simp only
        cases lcStep t e d lo' s with
        | none => rfl
        | some s' => exact ih (i + 1) s' (by omega)
theorem wipe_get (σ : St) (i : Nat) : ∀ vs : List Nat, (wipe σ vs)[i]? = if i ∈ vs ∧ i < σ.length then some none else σ[i]?
  | [] => by simp [wipe]
  | v :: vs => by
    unfold wipe
    rw [List.getElem?_set, wipe_get σ i vs, wipe_length]
    by_cases h : v = i
    · subst h
      by_cases h2 : v < σ.length
      · rw [if_pos rfl, if_pos h2, if_pos ⟨List.mem_cons_self .., h2⟩]
      · rw [if_pos rfl, if_neg h2, if_neg (fun z => h2 z.2)]
        rw [List.getElem?_eq_none (by omega)]
    · rw [if_neg h]
      by_cases h3 : i ∈ vs ∧ i < σ.length
      · rw [if_pos h3, if_pos ⟨List.mem_cons_of_mem _ h3.1, h3.2⟩]
      · rw [if_neg h3, if_neg]
        rintro ⟨a, b⟩
        rcases List.mem_cons.mp a with q | q
        · exact h q.symm
        · exact h3 ⟨q, b⟩
theorem wipe_set {σ : St} {vs : List Nat} {j : Nat} {x : Option V} (hj : j ∈ vs) : wipe (σ.set j x) vs = wipe σ vs := by
  apply List.ext_getElem?
  intro i
  rw [wipe_get, wipe_get, List.length_set]
  by_cases h : i ∈ vs ∧ i < σ.length
  · rw [if_pos h, if_pos h]
  · rw [if_neg h, if_neg h]
    by_cases e : j = i
    · subst e
      have : ¬ j < σ.length := fun z => h ⟨hj, z⟩
      rw [List.getElem?_eq_none (by rw [List.length_set]; omega), List.getElem?_eq_none (by omega)]
    · rw [List.getElem?_set_ne e]
theorem wipe_wipe (σ : St) (vs : List Nat) : wipe (wipe σ vs) vs = wipe σ vs := by
  apply List.ext_getElem?
  intro i
  rw [wipe_get, wipe_get, wipe_length]
  split <;> rfl
section
variable {X : Cx} {T : Tb} {W : WX} {pos : Pos}
abbrev WF : WX := fun _ _ _ _ => False
theorem RL.wipe {ρ : List Addr} {H : Hp} {lo : Lo} {σ : St} (rl : RL T ρ H lo σ) : ∀ vs : List Nat, RL T ρ H (wipeL lo vs) (wipe σ vs)
  | [] => rl
  | v :: vs => by
    have ih := RL.wipe rl vs
    unfold wipeL L2.wipe
    refine ⟨by rw [List.length_set, List.length_set]; exact ih.len, fun i x h => ?_⟩
    by_cases e : v = i
    · subst e
      by_cases hv : v < (wipeL lo vs).length
      · rw [List.getElem?_set_self hv] at h; cases h
      · rw [List.getElem?_eq_none (by rw [List.length_set]; omega)] at h; cases h
    · rw [List.getElem?_set_ne e] at h ⊢
      exact ih.at_ i x h
/-- how a comprehension's target stores: the reading gt and the pure gl agree, and stay within the own slots -/
def TgOk (T : Tb) (gt : TG) (gl : GL) (vs : List Nat) : Prop := ∀ (ρ : List Addr) (H : Hp) (lo lo' : Lo) (σ : St) (v : Vl) (z : V) (Q : St → Hp → Prop), RL T ρ H lo (wipe σ vs) → RV T ρ H v z → gl v lo = some lo' →
  (∀ σ', RL T ρ H lo' σ' → L2.wipe σ' vs = L2.wipe σ vs → Q σ' H) → gt z (L2.wipe σ vs) H Q
theorem tg_name {j : Nat} {vs : List Nat} (hj : j ∈ vs) : TgOk T (gName j) (glN j) vs := fun ρ H lo lo' σ v z Q rl hv e k => by
  cases e
  exact k _ (rl.set j hv) (by rw [wipe_set hj, wipe_wipe])
theorem gNs_w {ρ : List Addr} {H : Hp} {Q : St → Hp → Prop} {ws : List Nat} {σ0 : St} : ∀ {js : List Nat} {xs : List Vl} {vs : List V} {lo lo' : Lo} {σ : St}, (∀ j ∈ js, j ∈ ws) → RVs T ρ H xs vs → RL T ρ H lo σ → L2.wipe σ ws = σ0 → gNms js xs lo = some lo' → (∀ σ', RL T ρ H lo' σ' → L2.wipe σ' ws = σ0 → Q σ' H) → gNs js vs σ H Q
  | [], [], _, _, _, _, _, .nil, rl, hw, e, k => by
    cases e
    exact ⟨rfl, k _ rl hw⟩
  | [], _ :: _, _, _, _, _, _, _, _, _, e, _ => by cases e
  | _ :: _, [], _, _, _, _, _, _, _, _, e, _ => by cases e
  | j :: js, x :: xs, _, lo, lo', σ, hj, .cons h hs, rl, hw, e, k => ⟨_, _, rfl, gNs_w (fun i hi => hj i (List.mem_cons_of_mem _ hi)) hs (rl.set j h) (by rw [wipe_set (hj j (List.mem_cons_self ..))]; exact hw) (show gNms js xs (lo.set j (some x)) = some lo' from e) k⟩
theorem tg_tup {js vs : List Nat} {K : PySem.W.Frag} (hj : ∀ j ∈ js, j ∈ vs) (hK : K = T.K) : TgOk T (gTup K js.length (gNs js)) (glT js) vs := fun ρ H lo lo' σ v z Q rl hv e k => by
  unfold glT at e
  split at e
  · rename_i xs
    obtain ⟨a, us, rfl, h1, h2⟩ := hv.tupE
    exact ⟨a, us, rfl, by rw [hK]; exact h1, by rw [← h2.length]; exact gNms_len e, gNs_w hj h2 rl (wipe_wipe σ vs) e k⟩
  · cases e
theorem lc_le {n : Nat} {m : IM} {gl : GL} {gt : TG} {mt : TM} {me : EM} {vs : List Nat} {σ : St} {H : Hp} {Q : VK} (hg : TgOk T gt gl vs) (h : tE T W (eLc n m gl mt me vs) σ H Q) : tLc (tI T W m) gt (tT T WF mt) (tE T WF me) vs σ H Q :=
  tG_bnd (R := fun ρ H nx J => ItOk T J nx ρ H) h fun ρ0 s0 lo0 nx J H0 r0 rl0 ok0 p0 => by
    intro D hD
    have xD : Ext T ρ0 H0 (ρ0 ++ [D]) (upd H0 D (.lst [])) := r0.newExt hD
    have rD : Rel T (ρ0 ++ [D]) (upd H0 D (.lst [])) (s0 ++ [.lst []]) := r0.new hD ⟨[], upd_same, .nil⟩
    have aD : (ρ0 ++ [D])[s0.length]? = some D := by rw [← r0.len, List.getElem?_append_right (Nat.le_refl _)]; simp
    cases e0 : lcN nx gl mt me s0.length (wipeL lo0 vs) n 0 (s0 ++ [.lst []]) with
    | none => rw [e0] at p0; exact p0.elim
    | some s9 =>
      rw [e0] at p0
      refine ⟨fun i k H => ∃ ρ s, Ext T (ρ0 ++ [D]) (upd H0 D (.lst [])) ρ H ∧ Rel T ρ H s ∧ lcN nx gl mt me s0.length (wipeL lo0 vs) k i s = some s9, ⟨n, _, _, .refl, rD, e0⟩, ?_⟩
      rintro i k H1 ⟨ρ, s, x, r, e⟩
      have hd := x.pre _ _ aD
      cases k with
      | zero => cases e
      | succ k =>
        unfold lcN at e
        have q := ok0 ρ H1 s i (xD.trans x) r
        cases e1 : nx i s with
        | none => simp only [e1] at e; cases e
        | some o =>
          simp only [e1] at e q
          cases o with
          | none =>
            cases e
            exact .inl ⟨q, p0 ρ H1 (.ref D) (xD.trans x) r (.ref hd)⟩
          | some v =>
            obtain ⟨go, yl⟩ := q
            cases e2 : gl v (wipeL lo0 vs) with
            | none => simp only [e2] at e; cases e
            | some lo' =>
              simp only [e2] at e
              cases e3 : lcStep mt me s0.length lo' s with
              | none => simp only [e3] at e; cases e
              | some s' =>
                simp only [e3] at e
                refine .inr ⟨go, fun H => ∃ ρ, Ext T (ρ0 ++ [D]) (upd H0 D (.lst [])) ρ H ∧ Rel T ρ H s', fun H' ⟨ρ', x', r'⟩ => ⟨k, Nat.lt_succ_self k, ρ', s', x', r', e⟩, fun z H2 y => ?_⟩
                obtain ⟨x1, r2, hv⟩ := yl z H2 y
                have x2 := x.trans x1
                refine hg ρ H2 (wipeL lo0 vs) lo' σ v z _ ((rl0.mono (xD.trans x2)).wipe vs) hv e2 fun σ' rl' hw => ⟨hw, ?_⟩
                unfold lcStep at e3
                refine ⟨ρ, s, lo', r2, rl', ?_⟩
                cases e4 : mt lo' s with
                | fail => simp only [e4] at e3; cases e3
                | exc z s1 => simp only [e4] at e3; cases e3
                | ok c s1 =>
                  intro ρ3 H3 c' x3 r3 ec
                  cases ec
                  cases c with
                  | false =>
                    simp only [e4] at e3
                    cases e3
                    exact ⟨ρ3, x2.trans x3, r3⟩
                  | true =>
                    simp only [e4] at e3
                    refine ⟨ρ3, s1, lo', r3, rl'.mono x3, ?_⟩
                    cases e5 : me lo' s1 with
                    | fail => simp only [e5] at e3; cases e3
                    | exc z s2 => simp only [e5] at e3; cases e3
                    | ok w s2 =>
                      simp only [e5] at e3
                      intro ρ4 H4 zw x4 r4 hw4
                      split at e3
                      · rename_i acc hacc
                        split at e3
                        · rename_i hl
                          cases e3
                          have hd4 := (x1.trans (x3.trans x4)).pre _ _ hd
                          obtain ⟨us, g1, g2⟩ := r4.lst hacc hd4
                          refine ⟨us, g1, by rw [← g2.length, lim_eq]; exact hl, ρ4, (x2.trans (x3.trans x4)).trans (r4.setExt hd4 g1), r4.set hd4 ⟨_, upd_same, (g2.append (.cons hw4 .nil)).mono (r4.setExt hd4 g1)⟩⟩
                        · cases e3
                      · cases e3
/-- the tests of a comprehension -/
theorem cts_nil : PTs X [] (tT T WF tTrue) := ⟨fun pins s σ H Q I h => pts_nil.run pins s σ H Q I (by
  obtain ⟨ρ, st, lo, r, rl, p⟩ := h
  exact p ρ H true .refl r rfl)⟩
theorem cts_one {c : Expr} {mt : TM} (h : PT X c (tT T WF mt)) : PTs X [c] (tT T WF mt) := pts_one h
theorem lcx_le {ma : AM} {gl : GL} {gt : TG} {mt : TM} {me : EM} {vs : List Nat} {σ : St} {H : Hp} {Q : VK} (hg : TgOk T gt gl vs) (h : tE T W (eLcX ma gl mt me vs) σ H Q) : tLc (tI T W (iFix ma)) gt (tT T WF mt) (tE T WF me) vs σ H Q := by
  obtain ⟨ρ, s, lo, r, rl, p⟩ := h
  unfold eLcX bnd at p
  cases e : ma lo s with
  | ok xs s' =>
    refine lc_le (n := xs.length + 1) hg ⟨ρ, s, lo, r, rl, ?_⟩
    have : eLc (xs.length + 1) (iFix ma) gl mt me vs lo s = (match lcX gl mt me s'.length (wipeL lo vs) xs (s' ++ [.lst []]) with | some s2 => .ok (.ref s'.length) s2 | none => .fail) := by
      unfold eLc iFix bnd
      simp only [e, ret]
      rw [lcX_eq gl mt me s'.length (wipeL lo vs) xs (xs.length + 1) 0 _ (by omega), List.drop_zero]
    rw [this]
    simp only [e] at p
    exact p
  | exc z s' =>
    refine lc_le (n := 1) hg ⟨ρ, s, lo, r, rl, ?_⟩
    have : eLc 1 (iFix ma) gl mt me vs lo s = .exc z s' := by
      unfold eLc iFix bnd
      simp only [e]
    rw [this]
    simp only [e] at p
    exact p
  | fail => simp only [e] at p; exact p.elim
end
end Sm

/-! S8: comprehensions as expressions; defs and their calls; attributes -/
namespace Sm
open PySem PySem.Spec PyProof.Rows L2
section
variable {X : Cx} {T : Tb} {W : WX} {elt tg iter : Expr} {ifs : List Expr} {scope : Scope} {own : List (Str × Nat)} {pos spos py : Pos} {m : IM} {ma : AM} {gt : TG} {gl : GL} {mt : TM} {me : EM}
theorem ce_lc (n : Nat) (hc : X.calm = true) (hN : X.N.Nodup) (hi : PI X tg iter (tI T W m)) (ok : BlkOk X.N X.env.scope scope own) (ho : TgOk T gt gl (own.map (·.2)))
    (hg : ∀ s H C cl fp, PG (X.blk s H scope (compEnvC scope cl C X.env) fp) tg gt) (ht : ∀ s H C cl fp, PTs (X.blk s H scope (compEnvC scope cl C X.env) fp) ifs (tT T WF mt))
    (he : ∀ s H C cl fp, PE (X.blk s H scope (compEnvC scope cl C X.env) fp) elt (tE T WF me)) (hs : ∀ x, foldedSetIterable iter X.env x = pure x := by intro _; rfl) :
    PE X (.ListComp elt [⟨tg, iter, ifs, 0⟩] scope pos) (tE T W (eLc n m gl mt me (own.map (·.2)))) := pe_mono (pe_lc hc hN hi ok hg ht he hs) fun _ _ _ h => lc_le ho h
theorem ce_lcX (hc : X.calm = true) (hN : X.N.Nodup) (hi : PI X tg iter (tI T W (iFix ma))) (ok : BlkOk X.N X.env.scope scope own) (ho : TgOk T gt gl (own.map (·.2)))
    (hg : ∀ s H C cl fp, PG (X.blk s H scope (compEnvC scope cl C X.env) fp) tg gt) (ht : ∀ s H C cl fp, PTs (X.blk s H scope (compEnvC scope cl C X.env) fp) ifs (tT T WF mt))
    (he : ∀ s H C cl fp, PE (X.blk s H scope (compEnvC scope cl C X.env) fp) elt (tE T WF me)) (hs : ∀ x, foldedSetIterable iter X.env x = pure x := by intro _; rfl) :
    PE X (.ListComp elt [⟨tg, iter, ifs, 0⟩] scope pos) (tE T W (eLcX ma gl mt me (own.map (·.2)))) := pe_mono (pe_lc hc hN hi ok hg ht he hs) fun _ _ _ h => lcx_le ho h
/-- y = [..] on one line -/
theorem cs_setLc (n : Nat) {i : Nat} {y : Str} (hc : X.calm = true) (hN : X.N.Nodup) (hy : X.N[i]? = some y) (hyl : X.env.scope.names.lookup y = some .local)
    (hsw : swapsWith (.ListComp elt [⟨tg, iter, ifs, 0⟩] scope pos) (some (.Name y py)) spos.line X.env = pure true) (hi : PI X tg iter (tI T W m)) (ok : BlkOk X.N X.env.scope scope own) (ho : TgOk T gt gl (own.map (·.2)))
    (hg : ∀ s H C cl fp, PG (X.blk s H scope (compEnvC scope cl C X.env) fp) tg gt) (ht : ∀ s H C cl fp, PTs (X.blk s H scope (compEnvC scope cl C X.env) fp) ifs (tT T WF mt))
    (he : ∀ s H C cl fp, PE (X.blk s H scope (compEnvC scope cl C X.env) fp) elt (tE T WF me)) (hs : ∀ x, foldedSetIterable iter X.env x = pure x := by intro _; rfl) :
    PS X (.Assign [.Name y py] (.ListComp elt [⟨tg, iter, ifs, 0⟩] scope pos) spos) (tS T W (sSet i (eLc n m gl mt me (own.map (·.2))))) := ps_mono (ps_setLc hc hN hy hyl hsw hi ok hg ht he hs) fun _ _ _ h => lc_le ho (tasg_le h)
theorem cs_setLcX {i : Nat} {y : Str} (hc : X.calm = true) (hN : X.N.Nodup) (hy : X.N[i]? = some y) (hyl : X.env.scope.names.lookup y = some .local)
    (hsw : swapsWith (.ListComp elt [⟨tg, iter, ifs, 0⟩] scope pos) (some (.Name y py)) spos.line X.env = pure true) (hi : PI X tg iter (tI T W (iFix ma))) (ok : BlkOk X.N X.env.scope scope own) (ho : TgOk T gt gl (own.map (·.2)))
    (hg : ∀ s H C cl fp, PG (X.blk s H scope (compEnvC scope cl C X.env) fp) tg gt) (ht : ∀ s H C cl fp, PTs (X.blk s H scope (compEnvC scope cl C X.env) fp) ifs (tT T WF mt))
    (he : ∀ s H C cl fp, PE (X.blk s H scope (compEnvC scope cl C X.env) fp) elt (tE T WF me)) (hs : ∀ x, foldedSetIterable iter X.env x = pure x := by intro _; rfl) :
    PS X (.Assign [.Name y py] (.ListComp elt [⟨tg, iter, ifs, 0⟩] scope pos) spos) (tS T W (sSet i (eLcX ma gl mt me (own.map (·.2))))) := ps_mono (ps_setLc hc hN hy hyl hsw hi ok hg ht he hs) fun _ _ _ h => lcx_le ho (tasg_le h)
end

/-! ### defs -/
/-- a def's promise where no repr runs around -/
structure FnG (P : Program) (w : World) (K : PySem.W.Frag) (mg : Str → Option Value) (base : Heap) (k : Nat) (f : Addr) (fd : FuncData) (ps : List Str) (sp : Sp) : Prop where
  len : ∀ vs H Q E, sp vs H Q E → vs.length = ps.length
  run : ∀ (A : Around) (outer : List Env) (s : Shared) (H : Hp) (args : Args) (us : List Value) (vs : List V) (Q : VK) (E : XK), Room k A → A.guards = some [] → Env0 P w K mg base A outer s H → BindsTo s fd args (ps.zip us) → Vals vs us → sp vs H Q E →
    codeAny (model P w) A (.call (.ref f) args) (CR (L2.CX P w) outer P w H s Q E) s
theorem FnG.mono {P : Program} {w : World} {K : PySem.W.Frag} {mg : Str → Option Value} {base : Heap} {j k : Nat} {f : Addr} {fd : FuncData} {ps : List Str} {sp : Sp} (F : FnG P w K mg base j f fd ps sp) (h : j ≤ k) : FnG P w K mg base k f fd ps sp :=
  ⟨F.len, fun A outer s H args us vs Q E hr => F.run A outer s H args us vs Q E (hr.mono h)⟩
/-- a def by its body -/
theorem fnG_of {P : Program} {w : World} {K : PySem.W.Frag} {mg : Str → Option Value} {base : Heap} {k : Nat} {x qual : Str} {st : Stmt} {f : Addr} {fd : FuncData} {N ps : List Str} {sp : Sp} (F : Fun K x qual st f fd) (S : FnScope N ps (defScope st)) (len : ∀ vs H Q E, sp vs H Q E → vs.length = ps.length)
    (hbody : ∀ (cdv : Value) (A : Around) (outer : List Env) (s : Shared) (H : Hp) (vs : List V) (Q : VK) (E : XK), Room k (A.deeper (envOfC qual (defScope st) s.heap.objs.size f cdv)) → A.guards = some [] → sp vs H Q E →
      ∃ t, PSs (cxOf (L2.CX P w) P w K mg base N qual (defScope st) f cdv A outer s H E) (defBody st) t ∧ t { nx := fun _ H' => Q .non H', rt := Q } (L2.start N vs) H) : FnG P w K mg base (k + 1) f fd ps sp := by
  obtain ⟨oc, od, kV, doc, pm, an, cdv, ct, osl, rfl, lk, hcd⟩ := F.ex
  refine ⟨len, fun A outer s H args us vs Q E hr hg e0 hb r hsp => ?_⟩
  have inK : K.In s.heap := e0.mod.kin.keeps fun b o e => (e0.bs b o e).1
  have nl : s.heap.NoLimit := e0.mod.nolimit.keeps fun b o e => (e0.bs b o e).1
  have kinds : ∀ y ∈ ps.zip us, (defScope st).names.lookup y.1 = some .local ∨ ((defScope st).names.lookup y.1 = some .cell ∧ ((cellsFrom (s.heap.objs.size + 1) (defScope st).names []).lookup y.1).isSome = true) := by
    rintro ⟨n, v⟩ hy
    exact (S.par n (List.of_mem_zip hy).1).imp id fun q => ⟨q, PySem.W.cellsFrom_some _ _ _ (.inl q)⟩
  refine codeAny_call_function hr.depth (inK _ _ lk) rfl S.co S.gen rfl (PySem.W.codeRec_of inK hcd) (hb _ _ _ _ (wpAny_newFunctionEnv_cells S.kind kinds fun env he s1 y => ?_))
  subst he
  refine ⟨nl.keeps y.toInCall.keep, codeAny_func ?_⟩
  obtain ⟨t, ht, hq⟩ := hbody cdv A outer s H vs Q E (hr.deeper _) hg hsp
  refine wpAny_mono (ht.run [] s1 (L2.start N vs) H _ (inv_start S hr.hd e0 (len _ _ _ _ hsp) r y) hq) (fun fl s' hs => ?_) fun e s' hs => hs
  cases fl with
  | ret u => obtain ⟨v, σ', H', J, rv, q⟩ := hs; exact ⟨v, H', J.os, J.bare, J.base, J.hok, rv, q⟩
  | next => obtain ⟨σ', H', J, q⟩ := hs; exact ⟨V.non, H', J.os, J.bare, J.base, J.hok, rfl, q⟩
  | brk => obtain ⟨_, _, _, q⟩ := hs; exact q.elim
  | cont => obtain ⟨_, _, _, q⟩ := hs; exact q.elim
/-- the promise of a pure function -/
def SpM (T : Tb) (n : Nat) (m : List Vl → M Vl) : Sp := fun vs H Q E => ∃ (ρ : List Addr) (s : Sto) (as : List Vl), Rel T ρ H s ∧ RVs T ρ H as vs ∧ as.length = n ∧ Po (RV T) T E ρ H (m as s) Q
/-- a body as a function; n: how many names -/
def fnM (n : Nat) (b : SM) : List Vl → M Vl := fun as s => match b (as.map some ++ List.replicate (n - as.length) none) s with
  | .nx _ s' => .ok .non s'
  | .rt v s' => .ok v s'
  | .exc e _ s' => .exc e s'
  | _ => .fail
theorem rl_start {T : Tb} {ρ : List Addr} {H : Hp} {as : List Vl} {vs : List V} {N : List Str} (h : RVs T ρ H as vs) : RL T ρ H (as.map some ++ List.replicate (N.length - as.length) none) (L2.start N vs) := by
  refine ⟨?_, fun i x e => ?_⟩
  · unfold L2.start
    simp only [List.length_append, List.length_map, List.length_replicate, h.length]
  · by_cases hi : i < as.length
    · rw [List.getElem?_append_left (by simpa using hi), List.getElem?_map] at e
      cases q : as[i]? with
      | none => rw [q] at e; cases e
      | some y =>
        rw [q] at e
        cases e
        obtain ⟨z, h1, h2⟩ := h.get q
        refine ⟨z, ?_, h2⟩
        unfold L2.start
        rw [List.getElem?_append_left (by rw [List.length_map, ← h.length]; exact hi), List.getElem?_map, h1]; rfl
    · rw [List.getElem?_append_right (by simpa using hi), List.getElem?_replicate] at e
      split at e <;> cases e
theorem fn_body {T : Tb} {N : List Str} {n : Nat} {b : SM} {vs : List V} {H : Hp} {Q : VK} {E : XK} (h : SpM T n (fnM N.length b) vs H Q E) : tS T (fun c d _ H' => E c d H') b { nx := fun _ H' => Q .non H', rt := Q } (L2.start N vs) H := by
  obtain ⟨ρ, s, as, r, hv, hl, p⟩ := h
  refine ⟨ρ, s, _, r, rl_start hv, ?_⟩
  unfold fnM at p
  cases e : b (as.map some ++ List.replicate (N.length - as.length) none) s with
  | nx lo s' => rw [e] at p; exact fun ρ' H' σ' x r' _ => p ρ' H' .non x r' .non
  | rt v s' => rw [e] at p; exact p
  | exc z lo s' => rw [e] at p; exact fun ρ' H' σ' C x r' _ hC => p ρ' H' C x r' hC
  | bk lo s' => rw [e] at p; exact p.elim
  | ct lo s' => rw [e] at p; exact p.elim
  | fail => rw [e] at p; exact p.elim
/-- a def of the text computes the pure function of its body -/
theorem fn_sim {P : Program} {w : World} {K : PySem.W.Frag} {mg : Str → Option Value} {base : Heap} {k n : Nat} {x qual : Str} {st : Stmt} {f : Addr} {fd : FuncData} {N ps : List Str} {T : Tb} {b : SM} (F : Fun K x qual st f fd) (S : FnScope N ps (defScope st)) (hn : n = ps.length)
    (body : ∀ (cdv : Value) (A : Around) (outer : List Env) (s : Shared) (H : Hp) (E : XK), Room k (A.deeper (envOfC qual (defScope st) s.heap.objs.size f cdv)) → A.guards = some [] →
      PSs (cxOf (L2.CX P w) P w K mg base N qual (defScope st) f cdv A outer s H E) (defBody st) (tS T (fun c d _ H' => E c d H') b)) : FnG P w K mg base (k + 1) f fd ps (SpM T n (fnM N.length b)) :=
  fnG_of F S (fun vs H Q E ⟨ρ, s, as, r, hv, hl, p⟩ => by rw [← hv.length, hl, hn]) fun cdv A outer s H vs Q E hr hg h => ⟨_, body cdv A outer s H E hr hg, fn_body h⟩

/-! ### calls of defs -/
section
variable {X : Cx} {T : Tb} {W : WX} {k n : Nat} {f : Addr} {fd : FuncData} {ps : List Str} {mf : List Vl → M Vl} {x : Str} {p pos apos : Pos} {e o : Expr} {es : List Expr} {ma : AM} {mo : EM} {ds : List Value} {dvs : List V} {das : List Vl}
def eCall (mf : List Vl → M Vl) (a : AM) : EM := fun lo => bnd (a lo) mf
/-- with defaults das behind the arguments -/
def eCallD (mf : List Vl → M Vl) (das : List Vl) (a : AM) : EM := fun lo => bnd (a lo) fun as => mf (as ++ das)
theorem run_G {sp : Sp} {pins : List (Addr × Obj)} {σ : L2.St} {H : Hp} {s : Shared} {Q : VK} {us : List Value} {vs : List V} (F : FnG X.prog X.w X.K X.mg X.base k f fd ps sp) (hr : Room k X.A) (hg : X.A.guards = some []) (hb : Binds X.K fd ps ds) (hd : Vals dvs ds) (tk : Takes X W)
    (I : Inv X pins σ H s) (r : Vals vs us) (h : sp (vs ++ dvs) H Q fun c d H' => W c d σ H') : wpAny (model X.prog X.w) X.A (call (.ref f) us) (EP X pins σ Q) X.xe s := by
  have r2 : Vals (vs ++ dvs) (us ++ ds) := r.append hd
  refine wpAny_call (codeAny_mono (F.run X.A X.stack s H ⟨us, []⟩ (us ++ ds) (vs ++ dvs) Q _ hr hg I.env0 (hb s us I.kIn (by rw [← r2.length]; exact F.len _ _ _ _ h)) r2 h) fun z s' hq => ?_)
  cases z with
  | error y => exact tk y s' (XE.of_call I (fun _ _ _ q => q) hq)
  | ok fl =>
    cases fl with
    | ret u => exact I.after hq
    | next => exact hq.elim
    | brk => exact hq.elim
    | cont => exact hq.elim
theorem spM_of {ρ : List Addr} {s : Sto} {as : List Vl} {vs : List V} {H : Hp} {Q : VK} {E : XK} (r : Rel T ρ H s) (hv : RVs T ρ H as vs) (hl : as.length = n) (p : Po (RV T) T E ρ H (mf as s) Q) : SpM T n mf vs H Q E := ⟨ρ, s, as, r, hv, hl, p⟩
/-- the number of arguments is checked in the pure function -/
def arg (n : Nat) (mf : List Vl → M Vl) : List Vl → M Vl := fun as s => if as.length = n then mf as s else .fail
theorem ce_call (F : FnG X.prog X.w X.K X.mg X.base k f fd ps (SpM T n mf)) (hr : Room k X.A) (hgd : X.A.guards = some []) (hg : Gl X x) (hm : X.mg x = some (.ref f)) (hk : PySem.W.keepIn X.K (.ref f) = true) (hb : Binds X.K fd ps []) (tk : Takes X W) (ha : PA X (e :: es) (tA T W ma))
    (hdb : (x == ("__debug__" : Str)) = false := by decide) (he : starEach (e :: es) X.env = (false, eval e X.env) :: starEach es X.env := by rfl) (hpl : (backTo pos (starEach es X.env)).any (·.1) = false := by rfl) :
    PE X (.Call (.Name x p) (e :: es) [] pos) (tE T W (eCall (arg n mf) ma)) := by
  refine ⟨fun pins s σ H Q I h => wpAny_Call_Name_kw (ld_glob I hg hm ?_ hdb)⟩
  have h : tA T W ma σ H fun vs H1 => SpM T n mf (vs ++ []) H1 Q fun c d H' => W c d σ H' := tG_bnd (R := RVs T) h fun ρ s lo xs zs H1 r rl hx q => by
    unfold arg at q
    split at q
    · rename_i hl
      rw [List.append_nil]
      exact spM_of r hx hl q
    · exact q.elim
  refine PySem.W.callWith_K (h₀ := X.base) I.ok.mod.kin hk (thn (ha.run pos pins s σ H _ I h) fun us s1 ⟨vs, H1, I1, r, q⟩ => ⟨I1.kIn, ?_⟩) he hpl
  exact run_G F hr hgd hb .nil tk I1 r q
theorem ce_call0 (F : FnG X.prog X.w X.K X.mg X.base k f fd ps (SpM T 0 mf)) (hr : Room k X.A) (hgd : X.A.guards = some []) (hg : Gl X x) (hm : X.mg x = some (.ref f)) (hk : PySem.W.keepIn X.K (.ref f) = true) (hb : Binds X.K fd ps []) (tk : Takes X W)
    (hdb : (x == ("__debug__" : Str)) = false := by decide) : PE X (.Call (.Name x p) [] [] pos) (tE T W (eCall mf aNil)) := by
  refine ⟨fun pins s σ H Q I h => wpAny_Call_Name_kw (ld_glob I hg hm ?_ hdb)⟩
  obtain ⟨ρ, st, lo, r, rl, q⟩ := h
  exact PySem.W.callWith_K0 I.kIn hk (run_G (us := []) (vs := []) F hr hgd hb .nil tk I .nil (spM_of (as := []) r .nil rfl q))
end
end Sm

/-! S9: the end of a law: from the pure function of the law to the row -/
namespace Sm
open PySem PySem.Spec PyProof.Rows L2
/-- nothing is tracked but the script -/
def H0 (K : PySem.W.Frag) (a : Addr) (ob : Obj) (ns : List Int) : Hp := fun b => if b = a ∧ (K.lookup a).isNone = true then some (.frz ob (.lst (ns.map V.int))) else none
theorem H0_some {K : PySem.W.Frag} {a b : Addr} {ob : Obj} {ns : List Int} {u : HO} (h : H0 K a ob ns b = some u) : b = a ∧ K.lookup a = none ∧ u = .frz ob (.lst (ns.map V.int)) := by
  unfold H0 at h
  split at h
  · rename_i q
    cases h
    refine ⟨q.1, ?_, rfl⟩
    cases e : K.lookup a with
    | none => rfl
    | some o => rw [e] at q; exact absurd q.2 (by simp)
  · cases h
theorem law_G {P : Program} {w : World} {T : Tb} {mg mb : Str → Option Value} {k : Nat} {fa a : Addr} {fd : FuncData} {x : Str} {m : List Vl → M Vl} {s₁ : Shared} {vs : List Value} {ns : List Int} {st : Sto}
    (KX : T.K.In s₁.heap) (hns : s₁.heap.Ns mainGlobals mg) (hb : s₁.heap.Ns builtinsNs mb) (hbb : ∀ x : Str, x ≠ "__name__" → mb x = bootBuiltins x) (hlim : s₁.heap.NoLimit) (hg : s₁.gens = #[])
    (ha : s₁.heap.get? a = some { cls := .type "list", data := .seq vs.toArray }) (hi : IntsAre vs ns) (hl : ns.length ≤ sizeLine) (hr : Room k callerA)
    (F : ∀ base : Heap, T.K.In base → base.Ns mainGlobals mg → FnG P w T.K mg base k fa fd [x] (SpM T 1 m)) (hbind : ∀ (s : Shared) (u : Value), BindsTo s fd ⟨[u], []⟩ [(x, u)])
    (hm : m [.scr ns] [] = .ok (.bl true) st) :
    codeAny (model P w) callerA (.call (.ref fa) ⟨[.ref a], []⟩) (fun r s' => r = .ok (.ret (.bool true)) ∧ OldK s₁.heap s'.heap ∧ s'.os = s₁.os ∧ AllBare s'.gens) s₁ := by
  have rv := vals_ints hi
  let ob : Obj := { cls := .type "list", data := .seq vs.toArray }
  let H := H0 T.K a ob ns
  have out : ∀ {b : Addr} {o : Obj}, s₁.heap.get? b = some o → b ≠ a → (hidT s₁.heap H).get? b = some o := fun {b o} e n => hidT_get e (by
    cases q : H b with
    | none => rfl
    | some u => exact absurd (H0_some q).1 n)
  have nd : ∀ {b : Addr} {m : Str → Option Value}, s₁.heap.Ns b m → (hidT s₁.heap H).Ns b m := fun {b m} ⟨o, es, ep, e, d, r⟩ => ⟨o, es, ep, out e (fun z => by
    subst z
    rw [ha] at e
    cases e
    have d : Data.seq vs.toArray _ = Data.dict es ep := d
    cases d), d, r⟩
  have inB : T.K.In (hidT s₁.heap H) := fun b o e => hidT_get (KX b o e) (by
    cases q : H b with
    | none => rfl
    | some u =>
      obtain ⟨rfl, h2, _⟩ := H0_some q
      rw [h2] at e
      cases e)
  have md : Mod T.K mg (hidT s₁.heap H) := ⟨inB, nd hns, ⟨mb, nd hb, hbb⟩, let ⟨mc, h1, h2⟩ := hlim; ⟨mc, nd h1, h2⟩⟩
  have hok : HOk P w H s₁.heap := fun b u q => by
    obtain ⟨rfl, h2, rfl⟩ := H0_some q
    exact ⟨ha, by rw [List.length_map]; exact hl, vs, _, rv, ha⟩
  have e0 : Env0 P w T.K mg (hidT s₁.heap H) callerA [] s₁ H := ⟨rfl, md, fun b o e => of_hidT e, Nat.le_of_eq (hidT_size _ _), trivial, fun b hb => absurd hb (List.not_mem_nil), hok, .of_eq hg⟩
  have rs : RV T [] H (.scr ns) (.ref a) := by
    cases q : T.K.lookup a with
    | none => exact .scr (o := ob) (by show H0 T.K a ob ns a = _; unfold H0; rw [if_pos ⟨rfl, by rw [q]; rfl⟩])
    | some o =>
      have e := KX a o q
      rw [ha] at e
      cases e
      exact .scrK fun H' => .inr ⟨_, vs.toArray, _, q, rfl, rfl, rfl, by rw [List.size_toArray, ← rv.length, List.length_map]; exact hl, by simpa using rv⟩
  have sp : SpM T 1 m [.ref a] H (fun v _ => v = .bl true) fun _ _ _ => False := ⟨[], [], [.scr ns], ⟨rfl, List.nodup_nil, fun i a o h _ => by simp at h⟩, .cons rs .nil, rfl, by
    rw [hm]
    exact fun ρ' H' z _ _ hz => hz.blE⟩
  refine codeAny_mono ((F _ inB (nd hns)).run callerA [] s₁ H ⟨[.ref a], []⟩ [.ref a] [.ref a] _ _ hr rfl e0 (hbind s₁ (.ref a)) (.cons rfl .nil) sp) fun r s' h => ?_
  cases r with
  | error e =>
    obtain ⟨_, _, _, _, _, _, _, _, _, _, _, _, z⟩ := h
    exact z.elim
  | ok fl =>
    cases fl with
    | next => exact h.elim
    | brk => exact h.elim
    | cont => exact h.elim
    | ret u =>
      obtain ⟨v, H', os, bare, un, hok', r', q⟩ := h
      have q : v = .bl true := q
      subst q
      obtain rfl : u = Value.bool true := r'
      refine ⟨rfl, OldK.of_keep fun b o e => ?_, os, bare⟩
      cases q : H b with
      | none => exact un.keep b o e q (fun z => absurd z (List.not_mem_nil)) (List.not_mem_nil)
      | some u =>
        obtain ⟨rfl, h2, rfl⟩ := H0_some q
        have z2 := un.frzs b _ _ q
        obtain ⟨e2, _⟩ := hok' b _ z2
        rw [ha] at e
        cases e
        exact e2
/-- the goal that the head leaves, from the law's pure function -/
theorem walk_G {l : PySem.W.OpenLaw} {n k : Nat} {q : Program} {loose : List Str} {XP : (Str → Option Value) → Heap → Prop} {YP : World → Heap → Prop} {d : DefRec} {K : Params → PySem.W.Frag} {x : Str} {m : List Vl → M Vl}
    (hn : l.most = some n) (hn2 : n ≤ sizeLine) (hdf : d.params.defaults = []) (hr : Room k callerA) (hY : ∀ (w : World) (h : Heap), YP w h → (K w.params).In h)
    (F : ∀ (w : World) (mg : Str → Option Value) (fa : Addr) (h : Heap), (K w.params).In h → h.Ns mainGlobals mg → mg d.name = some (.ref fa) → ∃ (T : Tb) (fd : FuncData), T.K = K w.params ∧ (∀ (s : Shared) (u : Value), BindsTo s fd ⟨[u], []⟩ [(x, u)]) ∧
        ∀ base : Heap, T.K.In base → base.Ns mainGlobals mg → FnG l.prog w T.K mg base k fa fd [x] (SpM T 1 m))
    (hm : ∀ ns : List Int, ns.length ≤ n → ∃ st, m [.scr ns] [] = .ok (.bl true) st) :
    PySem.W.WalkO q loose XP YP l.row.toRowW d [] (fun f vs => PySem.call f vs) := by
  refine Att.attach_call hn hdf fun w s₀ s₁ mg mb fa o pm cd doc a vs ns G Y ho hd hcd hmg hobj hints hlen hg => ?_
  obtain ⟨T, fd, eT, hb, hF⟩ := F w mg fa _ (hY w _ Y) G.T.g hmg
  obtain ⟨st, e⟩ := hm ns hlen
  exact law_G (by rw [eT]; exact hY w _ Y) G.T.g G.T.b G.T.builtins G.T.nolimit hg hobj hints (Nat.le_trans hlen hn2) hr hF hb e
end Sm

/-! S10: objects: fields, methods, making -/
namespace Sm
open PySem PySem.Spec PyProof.Rows L2
def putS (f : Str) (v : Vl) : List (Str × Vl) → List (Str × Vl)
  | [] => [(f, v)]
  | (g, x) :: r => if g = f then (g, v) :: r else (g, x) :: putS f v r
def getS (fs : List (Str × Vl)) (f : Str) : Option Vl := match fs with
  | [] => none
  | (g, x) :: r => if g = f then some x else getS r f
section
variable {T : Tb} {ρ : List Addr} {H : Hp}
theorem lookup_step {α : Type} (f g : Str) (x : α) (r : List (Str × α)) : List.lookup f ((g, x) :: r) = if g = f then some x else List.lookup f r := by
  by_cases h : g = f
  · subst h
    rw [if_pos rfl]
    simp [List.lookup]
  · rw [if_neg h]
    have : (f == g) = false := by
      cases e : (f == g) with
      | false => rfl
      | true => exact absurd (eq_of_beq e).symm h
    simp [List.lookup, this]
theorem getS_ok {f : Str} : ∀ {fs : List (Str × Vl)} {vs : List (Str × V)}, vs.map (·.1) = fs.map (·.1) → RVs T ρ H (fs.map (·.2)) (vs.map (·.2)) →
    (getS fs f = none → vs.lookup f = none) ∧ ∀ v, getS fs f = some v → ∃ z, vs.lookup f = some z ∧ RV T ρ H v z
  | [], [], _, _ => ⟨fun _ => rfl, fun v e => by simp [getS] at e⟩
  | [], _ :: _, e, _ => by simp at e
  | _ :: _, [], e, _ => by simp at e
  | (g, x) :: r, (g', z) :: t, e, h => by
    simp only [List.map_cons, List.cons.injEq] at e
    rw [List.map_cons, List.map_cons] at h
    obtain ⟨e1, e2⟩ := e
    subst e1
    cases h with
    | cons h1 h2 =>
      have ih := getS_ok (f := f) e2 h2
      rw [lookup_step]
      unfold getS
      by_cases hk : g' = f
      · rw [if_pos hk, if_pos hk]
        refine ⟨(fun q => nomatch q), fun v q => ?_⟩
        cases q
        exact ⟨z, rfl, h1⟩
      · rw [if_neg hk, if_neg hk]
        exact ih
theorem putS_ok {f : Str} {v : Vl} {z : V} (hv : RV T ρ H v z) : ∀ {fs : List (Str × Vl)} {vs : List (Str × V)}, vs.map (·.1) = fs.map (·.1) → RVs T ρ H (fs.map (·.2)) (vs.map (·.2)) →
    (putF f z vs).map (·.1) = (putS f v fs).map (·.1) ∧ RVs T ρ H ((putS f v fs).map (·.2)) ((putF f z vs).map (·.2))
  | [], [], _, _ => ⟨rfl, .cons hv .nil⟩
  | [], _ :: _, e, _ => by simp at e
  | _ :: _, [], e, _ => by simp at e
  | (g, x) :: r, (g', y) :: t, e, h => by
    simp only [List.map_cons, List.cons.injEq] at e
    rw [List.map_cons, List.map_cons] at h
    obtain ⟨e1, e2⟩ := e
    subst e1
    cases h with
    | cons h1 h2 =>
      unfold putF putS
      by_cases hk : g' = f
      · rw [if_pos hk, if_pos hk]
        exact ⟨by simp [e2], .cons hv h2⟩
      · rw [if_neg hk, if_neg hk]
        obtain ⟨a, b⟩ := putS_ok hv e2 h2
        exact ⟨by simp [a], .cons h1 b⟩
theorem Rel.ins {s : Sto} {i c : Nat} {fs : List (Str × Vl)} {a : Addr} (r : Rel T ρ H s) (h : s[i]? = some (.ins c fs)) (ha : ρ[i]? = some a) :
    ∃ (C dx : Addr) (vs : List (Str × V)), T.cl[c]? = some C ∧ H a = some (.ins C dx vs) ∧ vs.map (·.1) = fs.map (·.1) ∧ RVs T ρ H (fs.map (·.2)) (vs.map (·.2)) := r.ob i a _ ha h
end
/-- e.f, of an object of one of the classes cs -/
def eFld (cs : List Nat) (f : Str) (o : EM) : EM := fun lo => bnd (o lo) fun x s => match x with
  | .ref j => match s[j]? with
    | some (.ins c fs) => if c ∈ cs then match getS fs f with
        | some v => .ok v s
        | none => .fail
      else .fail
    | _ => .fail
  | _ => .fail
/-- e.f = v -/
def setFld (cs : List Nat) (f : Str) (x v : Vl) (s : Sto) : Option Sto := match x with
  | .ref j => match s[j]? with
    | some (.ins c fs) => if c ∈ cs ∧ fs.length < 1000 then some (s.set j (.ins c (putS f v fs))) else none
    | _ => none
  | _ => none
def sFldM (cs : List Nat) (f : Str) (o e : EM) : SM := bndS e fun lo v s => bndS o (fun lo x s => match setFld cs f x v s with
  | some s' => .nx lo s'
  | none => .fail) lo s
/-- the classes cs have no attribute f of their own -/
def FldOk (T : Tb) (cs : List Nat) (f : Str) : Prop := ∀ c ∈ cs, ∀ C, T.cl[c]? = some C → Cls T.K C ∧ NoAttr T.K C f
/-- o.m(..): the method by the object's class -/
abbrev MTab := Nat → Option (List Vl → M Vl)
def eMeth (m : Str) (tab : MTab) (o : EM) (a : AM) : EM := fun lo => bnd (o lo) fun x s => match x with
  | .ref j => match s[j]? with
    | some (.ins c fs) => match tab c, getS fs m with
      | some mf, none => bnd (a lo) (fun as => mf (.ref j :: as)) s
      | _, _ => .fail
    | _ => .fail
  | _ => .fail
section
variable {X : Cx} {T : Tb} {W : WX} {o e value : Expr} {es : List Expr} {f : Str} {pos pos' apos : Pos} {mo me : EM} {ma : AM} {cs : List Nat}
theorem ce_fld (ok : FldOk T cs f) (he : PE X e (tE T W me)) (hb : attributeBase e f X.env (eval e X.env) = eval e X.env := by rfl) (hK : X.K = T.K := by rfl) : PE X (.Attribute e f pos) (tE T W (eFld cs f me)) :=
  pe_mono (pe_fld he hb) fun σ H Q h => tG_bnd (R := RV T) h fun ρ s lo x z H1 r rl hx p => by
    cases hx with
    | ref ha =>
      simp only at p
      split at p
      · rename_i c fs hj
        split at p
        · rename_i hc
          split at p
          · rename_i v hv
            obtain ⟨C, dx, vs, h1, h2, h3, h4⟩ := r.ins hj ha
            obtain ⟨w, h5, h6⟩ := (getS_ok (f := f) h3 h4).2 v hv
            obtain ⟨k1, k2⟩ := ok c hc C h1
            rw [hK]
            exact ⟨_, C, dx, vs, w, rfl, h2, k1, k2, h5, p ρ H1 w .refl r h6⟩
          · exact p.elim
        · exact p.elim
      · exact p.elim
    | _ => exact p.elim
theorem cs_fld (ok : FldOk T cs f) (ho : PE X o (tE T W mo)) (hv : PE X value (tE T W me)) (hs : swapsWith value (some (.Attribute o f pos')) pos.line X.env = pure false := by rfl) (hK : X.K = T.K := by rfl) :
    PS X (.Assign [.Attribute o f pos'] value pos) (tS T W (sFldM cs f mo me)) := ps_mono (ps_fld ho hv hs) fun D σ H h =>
  tS_bnd (R := RV T) h fun ρ s lo v z H1 r rl hv p => poS_bnd (R := RV T) r rl p fun ρ' s' x y H' ext r' rl' hx p' => by
    unfold setFld at p'
    cases hx with
    | ref ha =>
      simp only at p'
      split at p'
      · rename_i sf e
        split at e
        · rename_i c fs hj
          split at e
          · rename_i hc
            cases e
            obtain ⟨C, dx, vs, h1, h2, h3, h4⟩ := r'.ins hj ha
            obtain ⟨k1, k2⟩ := ok c hc.1 C h1
            obtain ⟨g1, g2⟩ := putS_ok (f := f) (hv.mono ext) h3 h4
            have hlen : vs.length = fs.length := by have := congrArg List.length h3; simpa using this
            rw [hK]
            refine ⟨_, C, dx, vs, rfl, h2, k1, k2, by rw [hlen]; exact hc.2, ?_⟩
            exact p' ρ' _ σ (r'.setExt ha h2) (r'.set ha ⟨C, dx, _, h1, upd_same, g1, g2.mono (r'.setExt ha h2)⟩) (rl'.mono (r'.setExt ha h2))
          · cases e
        · cases e
      · exact p'.elim
    | _ => exact p'.elim
/-- the methods m of the classes of tab -/
def MethOk (X : Cx) (T : Tb) (m : Str) (k n : Nat) (tab : MTab) : Prop := ∀ c mf, tab c = some mf → ∀ C, T.cl[c]? = some C → ∃ (f : Addr) (fd : FuncData) (ps : List Str), Cls T.K C ∧ Meth T.K C m f ∧ FnG X.prog X.w X.K X.mg X.base k f fd ps (SpM T (n + 1) mf) ∧ Binds X.K fd ps []
def tabA (n : Nat) (tab : MTab) : MTab := fun c => (tab c).map (arg (n + 1))
theorem ce_meth {m : Str} {k n : Nat} {tab : MTab} {pl : Sem Bool} (ok : MethOk X T m k n tab) (hr : Room k X.A) (hgd : X.A.guards = some []) (tk : Takes X W) (ho : PE X o (tE T W mo)) (ha : PA X (e :: es) (tA T W ma))
    (hst : starEach (e :: es) X.env = (false, eval e X.env) :: starEach es X.env := by rfl) (hpl : (backTo pos (starEach es X.env)).any (·.1) = false := by rfl)
    (ht : eval (.Call (.Attribute o m apos) (e :: es) [] pos) X.env = (do let ov ← eval o X.env; standAt apos.atName; let (f, first) ← holding [ov] (getMethod ov m pl); callWith pos f first (backTo pos (starEach (e :: es) X.env)) (backToKw pos (keywordEach [] X.env))) := by rfl)
    (hK : X.K = T.K := by rfl) : PE X (.Call (.Attribute o m apos) (e :: es) [] pos) (tE T W (eMeth m (tabA n tab) mo ma)) := by
  refine ⟨fun pins s σ H Q I h => ?_⟩
  have h : tE T W mo σ H fun x H1 => ∃ (a C dx f : Addr) (fs : List (Str × V)) (mf : List Vl → M Vl) (fd : FuncData) (ps : List Str), x = .ref a ∧ H1 a = some (.ins C dx fs) ∧ Cls T.K C ∧ Meth T.K C m f ∧ fs.lookup m = none ∧ FnG X.prog X.w X.K X.mg X.base k f fd ps (SpM T (n + 1) mf) ∧ Binds X.K fd ps [] ∧
      tA T W ma σ H1 fun vs H2 => SpM T (n + 1) mf (.ref a :: vs ++ []) H2 Q fun c d H' => W c d σ H' := tG_bnd (R := RV T) h fun ρ s lo x z H1 r rl hx p => by
    cases hx with
    | ref hρ =>
      rename_i j a
      simp only at p
      split at p
      · rename_i c fs hj
        split at p
        · rename_i mf hm hg
          unfold tabA at hm
          obtain ⟨mf0, hm0, rfl⟩ := Option.map_eq_some_iff.mp hm
          obtain ⟨C, dx, vs, h1, h2, h3, h4⟩ := r.ins hj hρ
          obtain ⟨f, fd, ps, k1, k2, k3, k4⟩ := ok c mf0 hm0 C h1
          refine ⟨a, C, dx, f, vs, mf0, fd, ps, rfl, h2, k1, k2, (getS_ok (f := m) h3 h4).1 hg, k3, k4, po_bnd (R := RVs T) (m := ma) r rl p fun ρ' s' as zs H' ext r' rl' has p' => ?_⟩
          unfold arg at p'
          split at p'
          · rename_i hl
            rw [List.append_nil]
            exact spM_of r' (.cons (.ref (ext.pre _ _ hρ)) has) hl p'
          · exact p'.elim
        · exact p.elim
      · exact p.elim
    | _ => exact p.elim
  refine PySem.W.methodCall_KW (pl := pl) (thn (ho.run pins s σ H _ I h) fun u s1 ⟨x, H1, I1, rx, a, C, dx, f, fs, mf, fd, ps, ex, ea, cl, mt, l, F, hb, q⟩ => ?_) ht
  subst ex
  obtain rfl : u = Value.ref a := rx
  rw [← hK] at cl mt
  refine getmeth_ok I1 ea cl mt l ?_
  refine PySem.W.callWith_K (first := [.ref a]) (h₀ := X.base) I.ok.mod.kin mt.kp (thn (ha.run pos pins s1 σ H1 _ I1 q) fun us s2 ⟨vs, H2, I2, r, q2⟩ => ⟨I2.kIn, ?_⟩) hst hpl
  exact run_G (us := .ref a :: us) (vs := .ref a :: vs) F hr hgd hb .nil tk I2 (.cons rfl r) q2
theorem ce_meth0 {m : Str} {k : Nat} {tab : MTab} {pl : Sem Bool} (ok : MethOk X T m k 0 tab) (hr : Room k X.A) (hgd : X.A.guards = some []) (tk : Takes X W) (ho : PE X o (tE T W mo))
    (ht : eval (.Call (.Attribute o m apos) [] [] pos) X.env = (do let ov ← eval o X.env; standAt apos.atName; let (f, first) ← holding [ov] (getMethod ov m pl); callWith pos f first (backTo pos (starEach [] X.env)) (backToKw pos (keywordEach [] X.env))) := by rfl)
    (hK : X.K = T.K := by rfl) : PE X (.Call (.Attribute o m apos) [] [] pos) (tE T W (eMeth m (tabA 0 tab) mo aNil)) := by
  refine ⟨fun pins s σ H Q I h => ?_⟩
  have h : tE T W mo σ H fun x H1 => ∃ (a C dx f : Addr) (fs : List (Str × V)) (mf : List Vl → M Vl) (fd : FuncData) (ps : List Str), x = .ref a ∧ H1 a = some (.ins C dx fs) ∧ Cls T.K C ∧ Meth T.K C m f ∧ fs.lookup m = none ∧ FnG X.prog X.w X.K X.mg X.base k f fd ps (SpM T (0 + 1) mf) ∧ Binds X.K fd ps [] ∧
      SpM T (0 + 1) mf [.ref a] H1 Q fun c d H' => W c d σ H' := tG_bnd (R := RV T) h fun ρ s lo x z H1 r rl hx p => by
    cases hx with
    | ref hρ =>
      rename_i j a
      simp only at p
      split at p
      · rename_i c fs hj
        split at p
        · rename_i mf hm hg
          unfold tabA at hm
          obtain ⟨mf0, hm0, rfl⟩ := Option.map_eq_some_iff.mp hm
          obtain ⟨C, dx, vs, h1, h2, h3, h4⟩ := r.ins hj hρ
          obtain ⟨f, fd, ps, k1, k2, k3, k4⟩ := ok c mf0 hm0 C h1
          exact ⟨a, C, dx, f, vs, mf0, fd, ps, rfl, h2, k1, k2, (getS_ok (f := m) h3 h4).1 hg, k3, k4, spM_of r (.cons (.ref hρ) .nil) rfl p⟩
        · exact p.elim
      · exact p.elim
    | _ => exact p.elim
  refine PySem.W.methodCall_KW (pl := pl) (thn (ho.run pins s σ H _ I h) fun u s1 ⟨x, H1, I1, rx, a, C, dx, f, fs, mf, fd, ps, ex, ea, cl, mt, l, F, hb, q⟩ => ?_) ht
  subst ex
  obtain rfl : u = Value.ref a := rx
  rw [← hK] at cl mt
  refine getmeth_ok I1 ea cl mt l ?_
  exact PySem.W.callWith_K0 (first := [.ref a]) I1.kIn mt.kp (run_G (us := [.ref a]) (vs := [.ref a]) F hr hgd hb .nil tk I1 (.cons rfl .nil) (by rw [List.append_nil]; exact q))
end
/-! ### making -/
/-- C(..): a new object of class c, then __init__ -/
def eMake (c : Nat) (mi : List Vl → M Vl) (a : AM) : EM := fun lo => bnd (a lo) fun as s => match mi (.ref s.length :: as) (s ++ [.ins c []]) with
  | .ok .non s' => .ok (.ref s.length) s'
  | .ok _ _ => .fail
  | .exc e s' => .exc e s'
  | .fail => .fail
theorem under_guards {A : Around} {C : Addr} {us : List Value} (h : A.guards = some []) : (A.under (.builtin "type.__call__" ⟨.ref C :: us, []⟩)).guards = some [] := by
  simp [Around.under, Code.guards, Code.isGuard, guardIds, pushGuards, h]
section
variable {X : Cx} {T : Tb} {W : WX} {e : Expr} {es : List Expr} {p pos : Pos} {ma : AM} {C f : Addr} {fd : FuncData} {ps : List Str} {k n c : Nat} {mi : List Vl → M Vl} {x : Str}
theorem run_mk {pins : List (Addr × Obj)} {σ : L2.St} {H : Hp} {s : Shared} {Q : VK} {us : List Value} {vs : List V} (M : Mk X.K C f) (F : FnG X.prog X.w X.K X.mg X.base k f fd ps (SpM T (n + 1) mi)) (hr : Room (k + 1) X.A) (hgd : X.A.guards = some []) (hb : Binds X.K fd ps []) (tk : Takes X W) (hc : T.cl[c]? = some C)
    (I : Inv X pins σ H s) (r : Vals vs us)
    (h : ∃ (ρ : List Addr) (st : Sto) (as : List Vl), Rel T ρ H st ∧ RVs T ρ H as vs ∧ as.length = n ∧ Po (RV T) T (fun c d H' => W c d σ H') ρ H (match mi (.ref st.length :: as) (st ++ [.ins c []]) with
      | .ok .non s' => .ok (.ref st.length) s'
      | .ok _ _ => .fail
      | .exc e s' => .exc e s'
      | .fail => (.fail : Res Vl)) Q) : wpAny (model X.prog X.w) X.A (call (.ref C) us) (EP X pins σ Q) X.xe s := by
  obtain ⟨ρ, st, as, rel, has, hl, p⟩ := h
  have f1 : H (s.heap.objs.size + 1) = none := I.hok.fresh (Nat.le_succ _)
  have f0 : H s.heap.objs.size = none := I.hok.fresh (Nat.le_refl _)
  have ne : s.heap.objs.size + 1 ≠ s.heap.objs.size := Nat.succ_ne_self _
  have I2 := Inv.made (C := C) I
  have r2 : Vals (V.ref (s.heap.objs.size + 1) :: vs) (Value.ref (s.heap.objs.size + 1) :: us) := .cons rfl r
  -- the new object in the pure store
  have relD : Rel T ρ (upd H s.heap.objs.size (.own (s.heap.objs.size + 1))) st := rel.laid f0
  have f1' : upd H s.heap.objs.size (.own (s.heap.objs.size + 1)) (s.heap.objs.size + 1) = none := by rw [upd_ne ne]; exact f1
  have ext : Ext T ρ H (ρ ++ [s.heap.objs.size + 1]) (upd (upd H s.heap.objs.size (.own (s.heap.objs.size + 1))) (s.heap.objs.size + 1) (.ins C s.heap.objs.size [])) := (ext_upd f0).trans (relD.newExt f1')
  have relN : Rel T (ρ ++ [s.heap.objs.size + 1]) (upd (upd H s.heap.objs.size (.own (s.heap.objs.size + 1))) (s.heap.objs.size + 1) (.ins C s.heap.objs.size [])) (st ++ [.ins c []]) := relD.new f1' ⟨C, _, [], hc, upd_same, rfl, .nil⟩
  have sp : SpM T (n + 1) mi (V.ref (s.heap.objs.size + 1) :: vs) (upd (upd H s.heap.objs.size (.own (s.heap.objs.size + 1))) (s.heap.objs.size + 1) (.ins C s.heap.objs.size [])) (fun v H2 => v = .non ∧ Q (.ref (s.heap.objs.size + 1)) H2) fun c d H' => W c d σ H' := by
    refine ⟨_, _, .ref st.length :: as, relN, .cons rel.newRef (has.mono ext), by rw [List.length_cons, hl], ?_⟩
    cases e : mi (.ref st.length :: as) (st ++ [.ins c []]) with
    | fail => rw [e] at p; exact p
    | exc z s' => rw [e] at p; exact fun ρ' H' D x' => p ρ' H' D (ext.trans x')
    | ok v s' =>
      rw [e] at p
      intro ρ' H' z x' r' hz
      cases v <;> try exact p.elim
      exact ⟨hz.nonE, p ρ' H' _ (ext.trans x') r' (.ref (x'.pre _ _ (by rw [← rel.len, List.getElem?_append_right (Nat.le_refl _)]; simp)))⟩
  refine wpAny_call (make_map (f := f) I.kIn M.makes M.init (beq_iff_eq.mp M.fn) (codeAny_mono (F.run _ X.stack _ _ ⟨Value.ref (s.heap.objs.size + 1) :: us, []⟩ _ _ _ _ (hr.make C us []) (under_guards hgd) (I2.env0.make C us []) (by
    have := hb _ (Value.ref (s.heap.objs.size + 1) :: us) I2.kIn (by rw [List.append_nil, ← r2.length]; exact F.len _ _ _ _ sp)
    rw [List.append_nil] at this
    exact this) r2 sp) fun z s' hq => ?_))
  cases z with
  | error y => exact tk y s' (XE.of_call I2 (fun _ _ _ q => q) hq)
  | ok fl =>
    cases fl with
    | ret u =>
      obtain ⟨v, H', I3, rv, ev, q3⟩ := I2.after hq
      subst ev
      exact ⟨rv, ⟨V.ref (s.heap.objs.size + 1), H', I3, rfl, q3⟩⟩
    | next => exact hq.elim
    | brk => exact hq.elim
    | cont => exact hq.elim
def argI (n : Nat) (mf : List Vl → M Vl) : List Vl → M Vl := fun as s => if as.length = n + 1 then mf as s else .fail
theorem ce_make (M : Mk X.K C f) (F : FnG X.prog X.w X.K X.mg X.base k f fd ps (SpM T (n + 1) mi)) (hr : Room (k + 1) X.A) (hgd : X.A.guards = some []) (hg : Gl X x) (hm : X.mg x = some (.ref C)) (hb : Binds X.K fd ps []) (tk : Takes X W) (hc : T.cl[c]? = some C) (ha : PA X (e :: es) (tA T W ma))
    (hdb : (x == ("__debug__" : Str)) = false := by decide) (he : starEach (e :: es) X.env = (false, eval e X.env) :: starEach es X.env := by rfl) (hpl : (backTo pos (starEach es X.env)).any (·.1) = false := by rfl) :
    PE X (.Call (.Name x p) (e :: es) [] pos) (tE T W (eMake c (argI n mi) ma)) := by
  refine ⟨fun pins s σ H Q I h => wpAny_Call_Name_kw (ld_glob I hg hm ?_ hdb)⟩
  have h : tA T W ma σ H fun vs H1 => ∃ (ρ : List Addr) (st : Sto) (as : List Vl), Rel T ρ H1 st ∧ RVs T ρ H1 as vs ∧ as.length = n ∧ Po (RV T) T (fun c d H' => W c d σ H') ρ H1 (match mi (.ref st.length :: as) (st ++ [.ins c []]) with
      | .ok .non s' => .ok (.ref st.length) s'
      | .ok _ _ => .fail
      | .exc e s' => .exc e s'
      | .fail => (.fail : Res Vl)) Q := tG_bnd (R := RVs T) h fun ρ s lo xs zs H1 r rl hx q => by
    unfold argI at q
    split at q
    · rename_i q1
      split at q1
      · rename_i hl
        refine ⟨ρ, s, xs, r, hx, by simpa using hl, ?_⟩
        rw [q1]
        exact q
      · cases q1
    · exact q.elim
    · rename_i q1
      split at q1
      · rename_i hl
        refine ⟨ρ, s, xs, r, hx, by simpa using hl, ?_⟩
        rw [q1]
        exact q
      · cases q1
    · exact q.elim
  refine PySem.W.callWith_K (h₀ := X.base) I.ok.mod.kin M.kp (thn (ha.run pos pins s σ H _ I h) fun us s1 ⟨vs, H1, I1, r, q⟩ => ⟨I1.kIn, ?_⟩) he hpl
  exact run_mk M F hr hgd hb tk hc I1 r q
theorem ce_make0 (M : Mk X.K C f) (F : FnG X.prog X.w X.K X.mg X.base k f fd ps (SpM T (0 + 1) mi)) (hr : Room (k + 1) X.A) (hgd : X.A.guards = some []) (hg : Gl X x) (hm : X.mg x = some (.ref C)) (hb : Binds X.K fd ps []) (tk : Takes X W) (hc : T.cl[c]? = some C)
    (hdb : (x == ("__debug__" : Str)) = false := by decide) : PE X (.Call (.Name x p) [] [] pos) (tE T W (eMake c mi aNil)) := by
  refine ⟨fun pins s σ H Q I h => wpAny_Call_Name_kw (ld_glob I hg hm ?_ hdb)⟩
  obtain ⟨ρ, st, lo, r, rl, q⟩ := h
  exact PySem.W.callWith_K0 I.kIn M.kp (run_mk (us := []) (vs := []) M F hr hgd hb tk hc I .nil ⟨ρ, st, [], r, .nil, rfl, q⟩)
end
end Sm

/-! S11: sets of ints: set(list), sorted(set) -/
namespace L2
open PySem PySem.Spec PyProof.Rows
abbrev set0 (w : World) : Obj := { cls := .type "set", dict := none, data := .set #[] 0 (.fresh 0 0 (!w.params.followText "set-order")) }
section
variable {P : Program} {w : World} {A : Around} {E : Value → Shared → Prop} {s : Shared}
/-- set(l), l a list of ints -/
theorem call_set_lst {l : Addr} {items : Array Value} (ns : List Int) {Q : Value → Shared → Prop} (hh : A.handled = none) (hl : s.heap.IsList l items) (hit : IntsAre items.toList ns) (hb : ns.length + 1 < scanBound)
    (h : ∀ (h' : Heap) (tk c : Nat), SetR w h' s.heap.objs.size (fun j => decide (j ∈ ns)) c → (∀ b o, s.heap.get? b = some o → h'.get? b = some o) → Q (.ref s.heap.objs.size) { s with heap := h', toks := tk }) :
    wpAny (model P w) A (call (.type "set") [.ref l]) Q E s := by
  have hz : items.size = ns.length := by rw [← Array.length_toList]; exact hit.length
  obtain ⟨c, tl, hmro⟩ := F.called_set.mro
  have hmade := F.called_set.made
  have hsub := F.called_set.sub
  have h1 := F.called_set.notType
  have h2 := F.called_set.canCreate
  have hct := F.typeCall_set_1 (.ref l)
  refine wpAny_call (codeAny_of_tree (show wpAny _ _ (callAny (.type "set") _) _ _ _ from wpAny_pure ⟨Code.quiet_builtin _ (by decide +kernel), codeAny_builtin F.entry_type_call ?_⟩))
  rw [Around.under_plain (weight_type_call_type "set" [.ref l] []) rfl]
  repeat (any_goals (first | assumption | wp_step))
  refine codeAny_mono (code_set_led1 (.ref l) (E := E) (Q₁ := fun obj s₁ => obj = .ref s.heap.objs.size ∧ s₁ = { s with heap := s.heap.push (set0 w) }) ⟨rfl, rfl⟩) fun r s₁ hr => ?_
  cases r with
  | error e => exact hr
  | ok fl =>
    cases fl with
    | ret obj =>
      obtain ⟨rfl, rfl⟩ := hr
      have hS : (s.heap.push (set0 w)).get? s.heap.objs.size = some (set0 w) := Heap.get?_push_size _ rfl
      have hT : Shared.TypeIs { s with heap := s.heap.push (set0 w) } (.ref s.heap.objs.size) "set" := ⟨_, hS, rfl⟩
      have hli := F.called_set.init.lookup
      have hbi := F.called_set.init.bind (.ref s.heap.objs.size)
      repeat (any_goals (first | assumption | wp_step))
      refine codeAny_mono (codeAny_call_builtin (R := wants (fun r s₂ => r = .none ∧ ∃ h' tk c, s₂ = { s with heap := h', toks := tk } ∧ SetR w h' s.heap.objs.size (fun j => decide (j ∈ ns)) c ∧ ∀ b o, s.heap.get? b = some o → h'.get? b = some o) E) F.called_set.init.plain F.entry_set_init (check_set_init_1 hT ?_)) fun r₂ s₂ hr₂ => ?_
      · obtain ⟨⟨oc, od, oda, osl⟩, ho, hc, nl, hd⟩ := hl
        obtain rfl : oc = _ := hc
        obtain rfl : oda = _ := hd
        have hS2 := F.sub_list_set
        have hF2 := F.sub_list_frozenset
        have hne : (Value.type "list" == Value.type "dict") = false := by decide
        have ho' := Heap.get?_push_of_some (set0 w) ho
        have hl1 : (s.heap.push (set0 w)).IsList l items := ⟨_, ho', rfl, nl, rfl⟩
        unfold Builtin.«set.__init__» noKeywords Builtin.Frozenset.updateFrom
        generalize hPI : pyIter = PI
        wp_walk
        subst hPI
        refine wpAny_pyIter_list hl1 (wpAny_bind (wpAny_runValue ?_))
        have lS : l < s.heap.objs.size := Heap.lt_size ho
        have eS : (s.heap.push (set0 w)).objs.size = s.heap.objs.size + 1 := Heap.size_push ..
        refine set_update_ints ((Walks.list (A := A.in1.in1.in1) (by simp [hh]) (s.heap.push (set0 w)).objs.size l (by rw [eS]; exact Nat.ne_of_lt (Nat.lt_succ_of_lt lS)) items).toS) s.heap.objs.size (by rw [eS]; simp only [List.mem_cons, List.not_mem_nil, or_false, not_or]; exact ⟨Nat.ne_of_lt (Nat.lt_succ_self _), Nat.ne_of_gt lS⟩) ns hz hb (fun i v hv => ?_) (items.size - 0) 0 _ (by omega) (Nat.zero_le _)
          ⟨⟨_, Heap.get?_push_size _ rfl, rfl, rfl⟩, (hl1.push _)⟩ ⟨0, Nat.le_refl 0, setR_new_at (Heap.get?_push_of_some _ hS)⟩ fun s' c' hm hc' hS' => ?_
        · have hi : i < ns.length := by rw [← hz]; exact (Array.getElem?_eq_some_iff.mp hv).1
          obtain ⟨t, e⟩ := PyProof.Rows.IntsAre.int_at hit i v (by rw [Array.getElem?_toList]; exact hv)
          exact ⟨ns[i], t, List.getElem?_eq_getElem hi, by rw [e, List.getD_eq_getElem?_getD, List.getElem?_eq_getElem hi] <;> rfl⟩
        · obtain ⟨h', g2, d', tk', os'⟩ := s'
          obtain rfl : g2 = s.gens := hm.gens
          obtain rfl : d' = s.drawn := hm.drawn
          obtain rfl : os' = s.os := hm.os
          refine wpAny_pure (show wpAny _ _ (ret Value.none) _ _ _ from wpAny_pure ⟨rfl, h', tk', c', rfl, hS', fun b o e => ?_⟩)
          have lb : b < s.heap.objs.size := Heap.lt_size e
          exact hm.heap b o (by rw [eS]; simp only [List.mem_cons, List.not_mem_nil, or_false, not_or]; exact ⟨Nat.ne_of_lt lb, Nat.ne_of_lt (Nat.lt_succ_of_lt lb)⟩) (Heap.get?_push_of_some _ (Heap.get?_push_of_some _ e))
      · cases r₂ with
        | error e => exact hr₂
        | ok fl₂ =>
          cases fl₂ with
          | ret r =>
            obtain ⟨rfl, h', tk, c', rfl, hS', hk'⟩ := hr₂
            repeat (any_goals (first | assumption | wp_step))
            exact h _ _ _ hS' hk'
          | _ => exact hr₂.elim
    | _ => exact hr.elim
end
theorem nodup_len {α : Type} [DecidableEq α] : ∀ (a b : List α), a.Nodup → b.Nodup → (∀ x, x ∈ a ↔ x ∈ b) → a.length = b.length := fun a b ha hb h => by
  exact ((List.perm_ext_iff_of_nodup ha hb).mpr h).length_eq
theorem SetR.size {w : World} {h : Heap} {a : Addr} {S : Int → Bool} {n : Nat} (R : SetR w h a S n) {xs : List Int} (nd : xs.Nodup) (hS : ∀ k, S k = true ↔ k ∈ xs) : n = xs.length := by
  obtain ⟨o, es, ep, t, h1, h2, h3, h4, h5, h6, h7, h8, h9, _⟩ := R
  rw [← h9, ← Array.length_toList, ← List.length_map (f := keyOf) (as := es.toList)]
  exact nodup_len _ _ h5 nd fun x => (h6 x).symm.trans (hS x)
end L2
namespace Sm
open PySem PySem.Spec PyProof.Rows L2
/-- the unlike ones of a list, each at its last place -/
def ddup : List Int → List Int
  | [] => []
  | x :: xs => if x ∈ xs then ddup xs else x :: ddup xs
theorem mem_ddup {x : Int} : ∀ {xs : List Int}, x ∈ ddup xs ↔ x ∈ xs
  | [] => Iff.rfl
  | y :: ys => by
    unfold ddup
    split
    · rename_i h
      rw [mem_ddup, List.mem_cons]
      exact ⟨.inr, fun q => q.elim (fun z => by rw [z]; exact h) id⟩
    · rw [List.mem_cons, List.mem_cons, mem_ddup]
theorem ddup_nodup : ∀ xs : List Int, (ddup xs).Nodup
  | [] => List.nodup_nil
  | y :: ys => by
    unfold ddup
    split
    · exact ddup_nodup ys
    · rename_i h
      exact List.nodup_cons.mpr ⟨fun z => h (mem_ddup.mp z), ddup_nodup ys⟩
def oSet : OC
  | [x], s => match lstOf x s with
    | some xs => match mapO asInt xs with
      | some ns => if ns.length < 4000 then some (.ref s.length, s ++ [.set (ddup ns)]) else none
      | none => none
    | none => none
  | _, _ => none
/-- sorted of a list or of a set of ints -/
def oSortS : OC
  | [.ref j], s => match s[j]? with
    | some (.lst xs) => (mapO asInt xs).map fun ns => (.ref s.length, s ++ [.lst ((srt ns).map Vl.int)])
    | some (.set xs) => if xs.length < 64 then some (.ref s.length, s ++ [.lst ((srt xs).map Vl.int)]) else none
    | _ => none
  | _, _ => none
section
variable {X : Cx} {T : Tb}
theorem c_set (hc : X.calm = true := by rfl) (hw : X.w = T.w := by rfl) : CallR X (.type "set") (rC T oSet) := fun pins s σ H xs us Q I rs q => by
  obtain ⟨ρ, st, as, v, s', r, ha, e, k⟩ := q
  unfold oSet at e
  split at e
  · split at e
    · rename_i x ys hx
      split at e
      · rename_i ns hn
        split at e
        · rename_i hl
          cases e
          obtain ⟨z, rfl, hz⟩ := ha.one
          obtain ⟨p, vs, rfl, h1, h2⟩ := lstOf_ok r hz hx
          have ev := asInts_ok h2 hn
          subst ev
          obtain ⟨its, rv, pl, hsz⟩ := I.list (SqL.of h1)
          cases rs with
          | cons r1 r2 =>
            cases r2
            obtain rfl := r1
            refine call_set_lst ns (I.ok.hd hc) pl.isList (by simpa using rv.ints) (by unfold scanBound; omega) fun h' tk c R hk => ?_
            have hp : H s.heap.objs.size = none := I.hok.fresh (Nat.le_refl _)
            have hsize : c = (ddup ns).length := R.size (ddup_nodup ns) fun j => by rw [mem_ddup]; exact decide_eq_true_iff
            subst hsize
            have I' := I.laid (a := s.heap.objs.size) (t' := tk) hk (Nat.le_refl _) (setO_new (P := X.prog) (H := upd H s.heap.objs.size (SetO X.w s.heap.objs.size (fun j => decide (j ∈ ns)) (ddup ns).length)) R)
            refine ⟨.ref s.heap.objs.size, _, I', rfl, ?_⟩
            rw [hw]
            exact k.new r hp ⟨ddup_nodup ns, _, fun j => by rw [mem_ddup]; exact decide_eq_true_iff, upd_same⟩
        · cases e
      · cases e
    · cases e
  · cases e
theorem lt_le {l : List Int} (h : l.Pairwise (· < ·)) : l.Pairwise (· ≤ ·) := h.imp fun q => Int.le_of_lt q
theorem lt_nodup {l : List Int} (h : l.Pairwise (· < ·)) : l.Nodup := h.imp fun q => Int.ne_of_lt q
theorem c_sortS (hc : X.calm = true := by rfl) (hw : X.w = T.w := by rfl) : CallR X (.builtin "sorted") (rC T oSortS) := fun pins s σ H xs us Q I rs q => by
  obtain ⟨ρ, st, as, v, s', r, ha, e, k⟩ := q
  unfold oSortS at e
  split at e
  · rename_i s0 j
    split at e
    · rename_i ys hy
      exact c_sorted pins s σ H xs us Q I rs ⟨ρ, _, [.ref j], v, s', r, ha, by simp only [oSorted, lstOf, hy]; exact e, k⟩
    · rename_i ys hy
      split at e
      · rename_i hl
        cases e
        obtain ⟨z, rfl, hz⟩ := ha.one
        obtain ⟨p, rfl, hp⟩ := hz.refE
        obtain ⟨nd, S, hS, hH⟩ := r.ob _ _ _ hp hy
        refine cr_sortedSet hc pins s σ H _ us Q I rs ⟨p, S, _, rfl, by rw [hw]; exact hH, hl, fun ns q h1 h2 h3 hq => ?_⟩
        have : ns = srt ys := srt_eq ((List.perm_ext_iff_of_nodup (lt_nodup h1) nd).mpr fun a => (h2 a).trans (hS a)) (lt_le h1)
        rw [this]
        exact k.lst r (RVs.ints _) hq
      · cases e
    · cases e
  · cases e
end
end Sm

/-! S12: dicts: displays, their values walked and listed -/
namespace Sm
open PySem PySem.Spec PyProof.Rows L2
def eDict0 : EM := fun _ s => .ok (.ref s.length) (s ++ [.dic []])
/-- the pairs of a display -/
def dpM : List (EM × EM) → Lo → M (List (Vl × Vl))
  | [], _ => ret []
  | (k, v) :: r, lo => bnd (k lo) fun x => bnd (v lo) fun y => bnd (dpM r lo) fun ps => ret ((x, y) :: ps)
def keyP (p : Vl × Vl) : Option (Key × Vl) := match keyOf p.1 with
  | some k => some (k, p.2)
  | none => none
def mergeP (kvs more : List (Key × Vl)) : List (Key × Vl) := more.foldl (fun acc kv => put acc kv.1 kv.2) kvs
def eDict (ps : List (EM × EM)) : EM := fun lo s => match dpM ps lo (s ++ [.dic []]) with
  | .ok prs s' => match s'[s.length]?, mapO keyP prs with
    | some (.dic []), some kvs => if kvs.length ≤ 15 then .ok (.ref s.length) (s'.set s.length (.dic (mergeP [] kvs))) else .fail
    | _, _ => .fail
  | .exc e s' => .exc e s'
  | .fail => .fail
def RP (T : Tb) : List Addr → Hp → List (Vl × Vl) → List (V × V) → Prop := fun ρ H ps qs => RVs T ρ H (ps.map (·.1)) (qs.map (·.1)) ∧ RVs T ρ H (ps.map (·.2)) (qs.map (·.2))
section
variable {X : Cx} {T : Tb} {W : WX} {pos : Pos}
theorem ce_dict0 : PE X (.Dict [] [] pos) (tE T W eDict0) := pe_mono pe_dnewK fun σ H Q h => by
  obtain ⟨ρ, s, lo, r, rl, p⟩ := h
  exact fun q hq => p (ρ ++ [q]) _ _ (r.newExt hq) (r.new (b := .dic []) hq ⟨[], upd_same, rfl, .nil⟩) r.newRef
theorem pairs_le {σ : L2.St} : ∀ {ps : List (EM × EM)} {H : Hp} {Q : List (V × V) → Hp → Prop}, tG (RP T) T W (dpM ps) σ H Q → tPairs (ps.map fun p => (tE T W p.1, tE T W p.2)) σ H Q
  | [], H, Q, h => by
    obtain ⟨ρ, s, lo, r, rl, p⟩ := h
    exact p ρ H [] .refl r ⟨.nil, .nil⟩
  | (k, v) :: ps, H, Q, h => tG_bnd (R := RV T) h fun ρ s lo x z H1 r rl hx p => po_bnd (R := RV T) (m := v) r rl p fun ρ1 s1 y z1 H2 e1 r1 rl1 hy p1 =>
      pairs_le (po_bnd (R := RP T) (m := dpM ps) r1 rl1 p1 fun ρ2 s2 prs qs H3 e2 r2 rl2 hp p2 => p2 ρ2 H3 _ .refl r2 ⟨.cons (hx.mono (e1.trans e2)) hp.1, .cons (hy.mono e2) hp.2⟩)
theorem keyP_ok {ρ : List Addr} {H : Hp} : ∀ {ps : List (Vl × Vl)} {qs : List (V × V)} {kvs : List (Key × Vl)}, RP T ρ H ps qs → mapO keyP ps = some kvs → ∃ vs : List (Key × V), qs = vs.map (fun kv => (kV kv.1, kv.2)) ∧ vs.map (·.1) = kvs.map (·.1) ∧ RVs T ρ H (kvs.map (·.2)) (vs.map (·.2))
  | [], [], _, _, e => by
    simp only [mapO] at e
    cases e
    exact ⟨[], rfl, rfl, .nil⟩
  | [], _ :: _, _, h, _ => by cases h.1
  | _ :: _, [], _, h, _ => by cases h.1
  | (a, b) :: ps, (x, y) :: qs, kvs, h, e => by
    obtain ⟨h1, h2⟩ := h
    rw [List.map_cons, List.map_cons] at h1 h2
    cases h1 with
    | cons a1 a2 =>
      cases h2 with
      | cons b1 b2 =>
        simp only [mapO] at e
        split at e
        · rename_i kv kvs' e1 e2
          cases e
          unfold keyP at e1
          split at e1
          · rename_i k hk
            cases e1
            obtain ⟨vs, rfl, g2, g3⟩ := keyP_ok ⟨a2, b2⟩ e2
            refine ⟨(k, y) :: vs, ?_, by simp [g2], .cons b1 g3⟩
            have := keyOf_ok a1 hk
            simp only at this
            rw [this]; rfl
          · cases e1
        · cases e
theorem putK_nodup {kvs : List (Key × V)} {k : Key} {v : V} (h : (kvs.map (·.1)).Nodup) : ((putK kvs k v).map (·.1)).Nodup := by
  unfold putK
  split
  · have : (kvs.map fun kv => if kv.1 = k then (kv.1, v) else kv).map (·.1) = kvs.map (·.1) := by
      rw [List.map_map]
      apply List.map_congr_left
      intro p _
      simp only [Function.comp]
      split <;> rfl
    rw [this]; exact h
  · rename_i hn
    rw [List.map_append, List.nodup_append]
    refine ⟨h, by simp, fun a ha b hb => ?_⟩
    simp at hb
    subst hb
    intro e
    subst e
    obtain ⟨p, hp, e⟩ := List.mem_map.mp ha
    exact hn (List.any_eq_true.mpr ⟨p, hp, by simp [e]⟩)
theorem merge_ok {ρ : List Addr} {H : Hp} : ∀ {more : List (Key × Vl)} {ms : List (Key × V)} {kvs : List (Key × Vl)} {vs : List (Key × V)}, ms.map (·.1) = more.map (·.1) → RVs T ρ H (more.map (·.2)) (ms.map (·.2)) → (vs.map (·.1)).Nodup → vs.map (·.1) = kvs.map (·.1) → RVs T ρ H (kvs.map (·.2)) (vs.map (·.2)) →
    (mergeK vs ms).map (·.1) = (mergeP kvs more).map (·.1) ∧ RVs T ρ H ((mergeP kvs more).map (·.2)) ((mergeK vs ms).map (·.2))
  | [], [], _, _, _, _, _, e, h => ⟨e, h⟩
  | [], _ :: _, _, _, e, _, _, _, _ => by simp at e
  | _ :: _, [], _, _, e, _, _, _, _ => by simp at e
  | (k, v) :: more, (k', z) :: ms, kvs, vs, e, h, nd, e2, h2 => by
    simp only [List.map_cons, List.cons.injEq] at e
    rw [List.map_cons, List.map_cons] at h
    obtain ⟨e1, e3⟩ := e
    subst e1
    cases h with
    | cons a b =>
      obtain ⟨g1, g2⟩ := put_ok (k := k') a nd e2 h2
      exact merge_ok (more := more) (ms := ms) (kvs := put kvs k' v) (vs := putK vs k' z) e3 b (putK_nodup nd) g1 g2
theorem ce_dict {keys : List (Option Expr)} {values : List Expr} {ps : List (EM × EM)} (h : PPs X pos keys values (ps.map fun p => (tE T W p.1, tE T W p.2))) (hall : keys.all (·.isSome) = true := by rfl) (hl : keys.length = values.length := by rfl) (h0 : keys ≠ [] := by exact fun z => nomatch z)
    (h15 : keys.length ≤ 15 := by decide) : PE X (.Dict keys values pos) (tE T W (eDict ps)) := pe_mono (pe_disp h hall hl h0 h15) fun σ H Q h => by
  obtain ⟨ρ, s, lo, r, rl, p⟩ := h
  intro q hq
  have xD : Ext T ρ H (ρ ++ [q]) (upd H q (.dK [])) := r.newExt hq
  have aD : (ρ ++ [q])[s.length]? = some q := by rw [← r.len, List.getElem?_append_right (Nat.le_refl _)]; simp
  refine pairs_le ⟨ρ ++ [q], s ++ [.dic []], lo, r.new (b := .dic []) hq ⟨[], upd_same, rfl, .nil⟩, rl.mono xD, ?_⟩
  unfold eDict at p
  cases e : dpM ps lo (s ++ [.dic []]) with
  | fail => rw [e] at p; exact p
  | exc z s' => rw [e] at p; exact fun ρ' H' C x => p ρ' H' C (xD.trans x)
  | ok prs s' =>
    rw [e] at p
    intro ρ' H' qs x r' hp
    simp only at p
    split at p
    · rename_i kvs hd hk
      split at p
      · rename_i hn
        have aD' := x.pre _ _ aD
        obtain ⟨vs0, g1, g2, _⟩ := r'.dic hd aD'
        have : vs0 = [] := by simpa using g2
        subst this
        obtain ⟨vs, rfl, k2, k3⟩ := keyP_ok hp hk
        refine ⟨g1, vs, rfl, ?_, ?_⟩
        · have : vs.length = kvs.length := by have := congrArg List.length k2; simpa using this
          rw [this]; exact hn
        · obtain ⟨m1, m2⟩ := merge_ok (kvs := []) (vs := []) k2 k3 (by simp) rfl .nil
          exact p ρ' _ _ ((xD.trans x).trans (r'.setExt aD' g1)) (r'.set aD' ⟨_, upd_same, m1, m2.mono (r'.setExt aD' g1)⟩) (.ref aD')
      · exact p.elim
    · exact p.elim
/-! ### the values of a dict, walked in a comprehension: it is locked meanwhile -/
def nxVals (j : Nat) : NX := fun i s => match s[j]? with
  | some (.fdic kvs) => match kvs[i]? with
    | some kv => some (some kv.2)
    | none => some none
  | _ => none
def iVal (e : EM) : IM := fun lo => bnd (e lo) fun x => match x with
  | .ref j => fun s => match s[j]? with
    | some (.fdic _) => .ok (nxVals j) s
    | _ => .fail
  | _ => failM
/-- c run while the dict of e is locked -/
def eLock (e c : EM) : EM := fun lo s => match e lo s with
  | .ok (.ref j) _ => match s[j]? with
    | some (.dic kvs) => match c lo (s.set j (.fdic kvs)) with
      | .ok v s' => match s'[j]? with
        | some (.fdic _) => .ok v (s'.set j (.dic kvs))
        | _ => .fail
      | _ => .fail
    | _ => .fail
  | _ => .fail
theorem RVs.vals_at {ρ : List Addr} {H : Hp} {kvs : List (Key × Vl)} {vs : List (Key × V)} {i : Nat} {kv : Key × Vl} (e : vs.map (·.1) = kvs.map (·.1)) (h : RVs T ρ H (kvs.map (·.2)) (vs.map (·.2))) (hi : kvs[i]? = some kv) : ∃ z, vs[i]? = some (kv.1, z) ∧ RV T ρ H kv.2 z := by
  obtain ⟨z, h1, h2⟩ := h.get (i := i) (x := kv.2) (by rw [List.getElem?_map, hi]; rfl)
  rw [List.getElem?_map] at h1
  cases q : vs[i]? with
  | none => rw [q] at h1; cases h1
  | some p =>
    rw [q] at h1
    have h1 : p.2 = z := Option.some.inj h1
    have e' : (vs.map (·.1))[i]? = (kvs.map (·.1))[i]? := by rw [e]
    rw [List.getElem?_map, List.getElem?_map, q, hi] at e'
    have e' : p.1 = kv.1 := Option.some.inj e'
    refine ⟨z, ?_, h2⟩
    rw [← h1, ← e']
theorem ci_vals {tg e : Expr} {me : EM} {apos cpos : Pos} (he : PE X e (tE T W me)) (hbase : attributeBase e "values" X.env (eval e X.env) = eval e X.env := by rfl) (hline : (apos.endLine == cpos.line) = true := by rfl) : PI X tg (.Call (.Attribute e "values" apos) [] [] cpos) (tI T W (iVal me)) :=
  pi_mono (pi_values he hbase hline) fun σ H R h => by
    obtain ⟨ρ, s, lo, r, rl, q⟩ := h
    refine po_bnd (R := RV T) (m := me) r rl q fun ρ1 s1 x z H1 ext1 r1 rl1 hx p1 => ?_
    cases hx with
    | ref ha =>
      rename_i j a
      simp only at p1
      split at p1
      · rename_i kvs hj
        obtain ⟨o, vs, h1, h2, h3⟩ := r1.ob _ _ _ ha hj
        refine ⟨a, o, vs, rfl, h1, p1 ρ1 H1 _ .refl r1 ?_⟩
        intro ρ2 H2 s2 i e2 r2
        have ha2 := e2.pre _ _ ha
        have hfz := e2.frd _ _ _ h1
        unfold nxVals
        cases e : s2[j]? with
        | none => trivial
        | some ob =>
          cases ob with
          | fdic kvs2 =>
            obtain ⟨o', vs', g1, g2, g3⟩ := r2.ob _ _ _ ha2 e
            rw [hfz] at g1
            cases g1
            simp only
            have hlen : vs.length = kvs2.length := by have := congrArg List.length g2; simpa using this
            cases e3 : kvs2[i]? with
            | none => exact ⟨hfz, by rw [hlen]; exact List.getElem?_eq_none_iff.mp e3⟩
            | some kv =>
              obtain ⟨w, hw, rw'⟩ := RVs.vals_at g2 g3 e3
              refine ⟨⟨hfz, by rw [hlen]; exact (List.getElem?_eq_some_iff.mp e3).1⟩, fun x H3 y => ?_⟩
              obtain ⟨rfl, k, y⟩ := y
              rw [hw] at y
              cases y
              exact ⟨.refl, r2, rw'⟩
          | _ => trivial
      · exact p1.elim
    | _ => exact p1.elim
theorem lock_le {e c : EM} {t : TE} {σ : L2.St} {H : Hp} {Q : VK} (hc : ∀ H Q, tE T W c σ H Q → t σ H Q) (h : tE T W (eLock e c) σ H Q) : tLockE t σ H Q := by
  obtain ⟨ρ, s, lo, r, rl, p⟩ := h
  unfold eLock at p
  split at p
  · rename_i j s1 e1
    split at p
    · rename_i kvs hj
      split at p
      · rename_i v s' e2
        split at p
        · rename_i kvs' hj'
          obtain ⟨a, ha, _⟩ := r.at hj
          obtain ⟨vs, h1, h2, h3⟩ := r.dic hj ha
          refine ⟨a, .dK vs, h1, trivial, fun od => hc _ _ ?_⟩
          have x1 : Ext T ρ H ρ (upd H a (.frz od (.dK vs))) := r.setExt ha h1
          refine ⟨ρ, s.set j (.fdic kvs), lo, r.set ha ⟨od, vs, upd_same, h2, h3.mono x1⟩, rl.mono x1, ?_⟩
          rw [e2]
          intro ρ' H' z x' r' hz
          have hfz : H' a = some (.frz od (.dK vs)) := x'.frd _ _ _ upd_same
          refine ⟨hfz, ?_⟩
          have ha' := x'.pre _ _ ha
          have e0 : Ext0 T ρ' H' ρ' (upd H' a (.dK vs)) := ext0_set hfz fun z => z
          have e1 : Ext0 T ρ H ρ' (upd H' a (.dK vs)) := ⟨fun i b q => x'.pre i b q, fun b us q => e0.tup _ _ (x'.tup _ _ (x1.tup _ _ q)), fun b o u q => e0.frz _ _ _ (x'.frz _ _ _ (x1.frz _ _ _ q))⟩
          refine p ρ' _ z ⟨e1, fun b o u q => ?_⟩ (r'.set ha' ⟨vs, upd_same, h2, h3.mono0 e1⟩) (hz.mono0 e0)
          have nb : b ≠ a := fun z => by subst z; rw [h1] at q; cases q
          rw [upd_ne nb]
          exact x'.frd _ _ _ (x1.frd _ _ _ q)
        · exact p.elim
      · exact p.elim
    · exact p.elim
  · exact p.elim
theorem ce_lock {e : EM} {c : EM} {ex : Expr} (h : PE X ex (tE T W c)) : PE X ex (tE T W (eLock e c)) := pe_mono (pe_lock h) fun σ H Q q => lock_le (fun _ _ z => z) q
/-- list(d.values()) -/
def eListVals (e : EM) : EM := fun lo => bnd (e lo) fun x s => match x with
  | .ref j => match s[j]? with
    | some (.dic kvs) => .ok (.ref s.length) (s ++ [.lst (kvs.map (·.2))])
    | _ => .fail
  | _ => .fail
theorem vals_kv {kvs : List (Key × V)} {us : List (Key × Value)} {acc : Array Value} (r : KV kvs us) (h : ItemsOf (fun i v => ∃ k, us[i]? = some (k, v)) acc us.length) : Vals (kvs.map (·.2)) acc.toList := by
  refine vals_of_at (by rw [List.length_map]; exact (Paired.length r).trans (h.1.symm.trans Array.length_toList.symm)) fun j x u h1 h2 => ?_
  obtain ⟨k, hk⟩ := h.2 j u (by rw [← Array.getElem?_toList]; exact h2)
  rw [List.getElem?_map] at h1
  cases q : kvs[j]? with
  | none => rw [q] at h1; cases h1
  | some p =>
    rw [q] at h1
    cases h1
    obtain ⟨u', e1, e2⟩ := kv_get r (k := p.1) (v := p.2) q
    rw [hk] at e1
    cases e1
    exact e2
theorem ce_listVals {e : Expr} {me : EM} {p pos apos cpos : Pos} (hc : X.calm = true) (hg : Gl X "list") (hm : X.mg "list" = none) (he : PE X e (tE T W me)) (hbase : attributeBase e "values" X.env (eval e X.env) = eval e X.env := by rfl) (hline : (apos.endLine == cpos.line) = true := by rfl)
    (hs : starEach [Expr.Call (.Attribute e "values" apos) [] [] cpos] X.env = (false, eval (Expr.Call (.Attribute e "values" apos) [] [] cpos) X.env) :: starEach [] X.env := by rfl) (hpl : (backTo pos (starEach [] X.env)).any (·.1) = false := by rfl) :
    PE X (.Call (.Name "list" p) [.Call (.Attribute e "values" apos) [] [] cpos] [] pos) (tE T W (eListVals me)) := by
  refine ⟨fun pins s σ H Q I h => wpAny_Call_Name_kw (ld_blt I hg hm (show bootBuiltins "list" = some (.type "list") by decide +kernel) (callWith_type1 ?_ hs hpl))⟩
  have h : tE T W me σ H fun x H1 => ∃ (d : Addr) (vs : List (Key × V)), x = .ref d ∧ H1 d = some (.dK vs) ∧ ∀ q, H1 q = none → Q (.ref q) (upd H1 q (.lst (vs.map (·.2)))) := tG_bnd (R := RV T) h fun ρ s lo x z H1 r rl hx p => by
    cases hx with
    | ref ha =>
      simp only at p
      split at p
      · rename_i kvs hj
        obtain ⟨vs, h1, h2, h3⟩ := r.dic hj ha
        exact ⟨_, vs, rfl, h1, fun q hq => Aft.lst p r h3 hq⟩
      · exact p.elim
    | _ => exact p.elim
  rw [hs]
  refine Calls.spliced_cons (wpAny_Call_method (T := "dict") (id := "dict.values") hbase rfl hline F.plainAttrs_dict F.slot_dict_values F.type_dict_values (thn (he.run pins s σ H _ I h) fun u s1 ⟨x, H1, I1, rx, d, vs, ex, hd, q⟩ => ?_))
  subst ex
  obtain rfl : u = Value.ref d := rx
  obtain ⟨z, lo, us, rk, hD⟩ := dk_of I1.hok hd
  obtain ⟨ep, hat⟩ := hD.dictAt
  refine ⟨hat.dictOf.typeIs, hat.dictOf.mapOf.noDict, ?_⟩
  show wpAny _ _ (callWith cpos (.builtin "dict.values") [.ref d] [] []) _ X.xe s1
  refine method_meetsIn F.slot_dict_values F.entry_dict_values rfl (PySem.evalArgs_none ⟨rfl, hat.dictOf.typeIs, F.args_dict_values_1 _, _, meets_dict_values (mixKind X.prog X.w) d lo, ⟨us, hat.dictOf⟩, Calls.spliced_nil ?_⟩)
  have I2 : Inv X pins σ H1 { s1 with heap := s1.heap.push { cls := .type "dict_values", data := .fields #[.ref d] } } := I1.kept (t' := s1.toks) fun b ob q => Heap.get?_push_of_some _ q
  refine PySem.W.kdl_call (PySem.W.kdl_values (knd := mixKind X.prog X.w) (r := s1.heap.objs.size) (d := d) (kvs := us) (ep := ep)) (I.ok.hd hc) ⟨⟨_, Heap.get?_push_size _ rfl, rfl, rfl⟩, hat.push _⟩ (by rw [← Paired.length rk]; exact z) fun h' tk acc c hk hS hacc => ?_
  have hf := I2.hok.fresh (Nat.le_refl _)
  refine ⟨.ref _, _, I2.laid (o := .lst (vs.map (·.2))) (t' := tk) hk (Nat.le_refl _) ⟨by rw [List.length_map]; exact z, acc.toList, c, vals_kv rk hacc, by rw [Array.toArray_toList]; exact hS⟩, rfl, q _ hf⟩
end
end Sm

namespace K30
open PySem PySem.Spec PyProof.Rows L2 Sm
def top (i : Nat) : Stmt := PySem.Challenge.pw_maybegone_k30_heaps_walked.main.body.getD i (.Pass ⟨0, 0, 0, 0⟩)
abbrev st_HeapU_initU : Stmt := inClass (top 1) 0
abbrev st_Heap_apply : Stmt := inClass (top 1) 1
abbrev st_Heap_held_lists : Stmt := inClass (top 1) 2
abbrev st_Heap_reached_flags : Stmt := inClass (top 1) 3
abbrev st_heap_at : Stmt := top 2
abbrev st_cells_at : Stmt := top 3
abbrev st_reached_at : Stmt := top 4
abbrev st_comers : Stmt := top 5
abbrev st__law_deck : Stmt := top 7
abbrev st__law_draw : Stmt := top 8
abbrev st__law_one : Stmt := top 9
abbrev st__law_event : Stmt := top 10
abbrev st__law_story : Stmt := top 11
abbrev st__law_heap : Stmt := top 12
abbrev st__law_closed : Stmt := top 13
abbrev st__law_moment_right : Stmt := top 14
abbrev st_law : Stmt := top 15
abbrev cs_kept_cells : List Nat := [0]
abbrev cs_standing : List Nat := [0]
abbrev cs_strong : List Nat := [0]
/-! the pure functions -/
def b_HeapU_initU : SM := (sSeq (sFldM cs_standing "standing" (eVar 0) eDict0)
  (sSeq (sFldM cs_kept_cells "kept_cells" (eVar 0) eDict0)
  (sFldM cs_strong "strong" (eVar 0) (eCB oLst aNil))))
def m_HeapU_initU : List Vl → M Vl := fnM 1 b_HeapU_initU
def b_Heap_apply : SM := (sForX (aTup (eVar 1)) (gNm 2)
  (sIf (tVal (eOp opEq (eOp opIx (eVar 2) (eC (.int 0))) (eC (.str "make")))) (sExpr (eBm .list oAppend (eFld cs_strong "strong" (eVar 0)) (aCons eDict0 aNil))) (sIf (tVal (eOp opEq (eOp opIx (eVar 2) (eC (.int 0))) (eC (.str "stand")))) (sAsg (gSb opSet (eFld cs_standing "standing" (eVar 0)) (eOp opIx (eVar 2) (eC (.int 1)))) (eOp opIx (eVar 2) (eC (.int 2)))) (sIf (tVal (eOp opEq (eOp opIx (eVar 2) (eC (.int 0))) (eC (.str "hold")))) (sAsg (gSb opSet (eOp opIx (eFld cs_strong "strong" (eVar 0)) (eOp opIx (eVar 2) (eC (.int 1)))) (eOp opIx (eVar 2) (eC (.int 2)))) (eOp opIx (eVar 2) (eC (.int 3)))) (sIf (tVal (eOp opEq (eOp opIx (eVar 2) (eC (.int 0))) (eC (.str "keep")))) (sAsg (gSb opSet (eFld cs_kept_cells "kept_cells" (eVar 0)) (eOp opIx (eVar 2) (eC (.int 1)))) (eC (.bl true))) sNil)))))
def m_Heap_apply : List Vl → M Vl := fnM 3 b_Heap_apply
def tab_apply : MTab := fun c => match c with
  | 0 => some m_Heap_apply
  | _ => none
def b_Heap_held_lists : SM := (sRet (eLc 100000 (iLst (eFld cs_strong "strong" (eVar 0))) (glN 1) tTrue (eLock (eVar 1) (eLc 100000 (iVal (eVar 1)) (glN 2) (tVal (eOp opNotN (eVar 2) (eC .non))) (eVar 2) [2])) [1]))
def m_Heap_held_lists : List Vl → M Vl := fnM 3 b_Heap_held_lists
def tab_held_lists : MTab := fun c => match c with
  | 0 => some m_Heap_held_lists
  | _ => none
def b_Heap_reached_flags : SM := (sSeq (sSet 2 (eOp opMul (eCB oLst (aCons (eC (.bl false)) aNil)) (eCB oLen (aCons (eVar 1) aNil))))
  (sSeq (sSet 3 (eOp opAdd (eLock (eFld cs_standing "standing" (eVar 0)) (eLc 100000 (iVal (eFld cs_standing "standing" (eVar 0))) (glN 4) (tVal (eOp opNotN (eVar 4) (eC .non))) (eVar 4) [4])) (eCB oList (aCons (eFld cs_kept_cells "kept_cells" (eVar 0)) aNil))))
  (sSeq (loopW (tVal (eOp opNe (eVar 3) (eCB oLst aNil))) (sSeq (sSet 4 (eBm0 .list oPop (eVar 3)))
  (sIf (tNotM (tVal (eOp opIx (eVar 2) (eVar 4)))) (sSeq (sAsg (gSb opSet (eVar 2) (eVar 4)) (eC (.bl true)))
  (sExpr (eBm .list oExtend (eVar 3) (aCons (eOp opIx (eVar 1) (eVar 4)) aNil)))) sNil)) 100000)
  (sRet (eVar 2)))))
def m_Heap_reached_flags : List Vl → M Vl := fnM 5 b_Heap_reached_flags
def tab_reached_flags : MTab := fun c => match c with
  | 0 => some m_Heap_reached_flags
  | _ => none
def b_heap_at : SM := (sSeq (sSet 2 (eMake 0 m_HeapU_initU aNil))
  (sSeq (sForX (aTup (eSl opSl (eVar 0) none (some (eVar 1)))) (gNm 3)
  (sExpr (eMeth "apply" (tabA 1 tab_apply) (eVar 2) (aCons (eVar 3) aNil))))
  (sRet (eVar 2))))
def m_heap_at : List Vl → M Vl := fnM 4 b_heap_at
def b_cells_at : SM := (sRet (eCB oLen (aCons (eFld cs_strong "strong" (eCall (arg 2 m_heap_at) (aCons (eVar 0) (aCons (eVar 1) aNil)))) aNil)))
def m_cells_at : List Vl → M Vl := fnM 2 b_cells_at
def b_reached_at : SM := (sSeq (sSet 2 (eCall (arg 2 m_heap_at) (aCons (eVar 0) (aCons (eVar 1) aNil))))
  (sSeq (sSet 3 (eMeth "reached_flags" (tabA 1 tab_reached_flags) (eVar 2) (aCons (eMeth "held_lists" (tabA 0 tab_held_lists) (eVar 2) aNil) aNil)))
  (sRet (eCB oTuple (aCons (eLc 100000 (iEnm (aCons (eVar 3) aNil)) (glT [4, 5]) (tVal (eVar 5)) (eVar 4) [4, 5]) aNil)))))
def m_reached_at : List Vl → M Vl := fnM 6 b_reached_at
def b_comers : SM := (sSeq (sSet 3 (eMeth "held_lists" (tabA 0 tab_held_lists) (eCall (arg 2 m_heap_at) (aCons (eVar 0) (aCons (eVar 1) aNil))) aNil))
  (sSeq (sSet 4 (eDict [((eVar 2), (eC (.bl true)))]))
  (sSeq (sSet 5 (eC (.bl true)))
  (sSeq (loopW (tVal (eVar 5)) (sSeq (sSet 5 (eC (.bl false)))
  (sFor 100000 (iEnm (aCons (eVar 3) aNil)) (gTp [6, 7])
  (sIf (tAndM (tVal (eOp opNotIn (eVar 6) (eVar 4))) (tVal (eOp opNe (eLc 100000 (iLst (eVar 7)) (glN 8) (tVal (eOp opIn (eVar 8) (eVar 4))) (eVar 8) [8]) (eCB oLst aNil)))) (sSeq (sAsg (gSb opSet (eVar 4) (eVar 6)) (eC (.bl true)))
  (sSet 5 (eC (.bl true)))) sNil))) 100000)
  (sRet (eCB oTuple (aCons (eCB oSortS (aCons (eCB oList (aCons (eVar 4) aNil)) aNil)) aNil)))))))
def m_comers : List Vl → M Vl := fnM 9 b_comers
def b__law_deck : SM := (sRet (eCB oLst (aCons (eLc 100000 (iLst (eSl opSl (eVar 0) none (some (eC (.int 63))))) (glN 1) tTrue (eCB oAbs (aCons (eVar 1) aNil)) [1]) (aCons (eC (.int 0)) aNil))))
def m__law_deck : List Vl → M Vl := fnM 2 b__law_deck
def b__law_draw : SM := (sSeq (sAsg (gSb opSet (eVar 0) (eC (.int 1))) (eOp opAdd (eOp opIx (eVar 0) (eC (.int 1))) (eC (.int 1))))
  (sSeq (sSet 2 (eOp opMod (eCB oInt (aCons (eOp opIx (eVar 0) (eC (.int 1))) aNil)) (eCB oMax (aCons (eC (.int 1)) (aCons (eCB oLen (aCons (eOp opIx (eVar 0) (eC (.int 0))) aNil)) aNil)))))
  (sSeq (sSet 3 (eOp opIx (eOp opAdd (eOp opIx (eVar 0) (eC (.int 0))) (eCB oLst (aCons (eC (.int 0)) aNil))) (eVar 2)))
  (sSeq (sIf (tVal (eOp opGe (eVar 3) (eOp opPow (eC (.int 10)) (eC (.int 18))))) (sSeq (sAsg (gSb opSet (eOp opIx (eVar 0) (eC (.int 0))) (eVar 2)) (eOp opFdiv (eVar 3) (eVar 1)))
  (sRet (eOp opMod (eCB oInt (aCons (eVar 3) aNil)) (eVar 1)))) sNil)
  (sSeq (sSet 4 (eOp opPow (eOp opAdd (eOp opAdd (eOp opMod (eCB oInt (aCons (eVar 3) aNil)) (eC (.int 2147483587))) (eOp opMul (eC (.int 7919)) (eOp opIx (eVar 0) (eC (.int 1))))) (eC (.int 1))) (eC (.int 5))))
  (sRet (eOp opMod (eCB oInt (aCons (eOp opMod (eCB oInt (aCons (eVar 4) aNil)) (eC (.int 2147483647))) aNil)) (eVar 1))))))))
def m__law_draw : List Vl → M Vl := fnM 5 b__law_draw
def b__law_one : SM := (sRet (eOp opIx (eVar 1) (eCall (arg 2 m__law_draw) (aCons (eVar 0) (aCons (eCB oLen (aCons (eVar 1) aNil)) aNil)))))
def m__law_one : List Vl → M Vl := fnM 2 b__law_one
def b__law_event : SM := (sSeq (sSet 2 (eCall (arg 2 m__law_draw) (aCons (eVar 0) (aCons (eC (.int 6)) aNil))))
  (sSeq (sSet 3 (eCall (arg 2 m__law_one) (aCons (eVar 0) (aCons (eOp opAdd (eCB oLst (aCons (eC .non) aNil)) (eVar 1)) aNil))))
  (sSeq (sIf (tOrM (tVal (eOp opLt (eVar 2) (eC (.int 2)))) (tVal (eOp opEq (eVar 1) (eCB oLst aNil)))) (sRet (eCB oTup (aCons (eC (.str "stand")) (aCons (eCall (arg 2 m__law_one) (aCons (eVar 0) (aCons (eCB oLst (aCons (eC (.str "x")) (aCons (eC (.str "y")) aNil))) aNil))) (aCons (eVar 3) aNil))))) sNil)
  (sSeq (sIf (tVal (eOp opLt (eVar 2) (eC (.int 4)))) (sRet (eCB oTup (aCons (eC (.str "hold")) (aCons (eCall (arg 2 m__law_one) (aCons (eVar 0) (aCons (eVar 1) aNil))) (aCons (eCall (arg 2 m__law_one) (aCons (eVar 0) (aCons (eCB oLst (aCons (eC (.str "f")) (aCons (eC (.str "g")) aNil))) aNil))) (aCons (eVar 3) aNil)))))) sNil)
  (sSeq (sIf (tAndM (tVal (eOp opEq (eVar 2) (eC (.int 4)))) (tVal (eOp opEq (eCall (arg 2 m__law_draw) (aCons (eVar 0) (aCons (eC (.int 4)) aNil))) (eC (.int 0))))) (sRet (eCB oTup (aCons (eC (.str "keep")) (aCons (eCall (arg 2 m__law_one) (aCons (eVar 0) (aCons (eVar 1) aNil))) aNil)))) sNil)
  (sRet (eCB oTup (aCons (eC (.str "ask")) (aCons (eCall (arg 2 m__law_one) (aCons (eVar 0) (aCons (eVar 1) aNil))) aNil)))))))))
def m__law_event : List Vl → M Vl := fnM 4 b__law_event
def b__law_story : SM := (sSeq (sPar 4 5 (aCons (eCB oLst aNil) (aCons (eCB oLst aNil) aNil)))
  (sSeq (sForX (aRng (aCons (eVar 2) aNil)) (gNm 3)
  (sSeq (sSet 6 (eCB oLst aNil))
  (sSeq (sForX (aRng (aCons (eCall (arg 2 m__law_draw) (aCons (eVar 0) (aCons (eC (.int 3)) aNil))) aNil)) (gNm 7)
  (sExpr (eBm .list oAppend (eVar 6) (aCons (eCall (arg 2 m__law_event) (aCons (eVar 0) (aCons (eCB oList (aCons (eVar 5) aNil)) aNil))) aNil))))
  (sSeq (sIf (tAndM (tVal (eOp opLt (eCB oLen (aCons (eVar 5) aNil)) (eVar 1))) (tVal (eOp opEq (eCall (arg 2 m__law_draw) (aCons (eVar 0) (aCons (eC (.int 2)) aNil))) (eC (.int 0))))) (sSeq (sExpr (eBm .list oAppend (eVar 6) (aCons (eCB oTup (aCons (eC (.str "make")) (aCons (eCB oLen (aCons (eVar 5) aNil)) aNil))) aNil)))
  (sSeq (sExpr (eBm .list oAppend (eVar 5) (aCons (eCB oLen (aCons (eVar 5) aNil)) aNil)))
  (sIf (tVal (eOp opGt (eCall (arg 2 m__law_draw) (aCons (eVar 0) (aCons (eC (.int 3)) aNil))) (eC (.int 0)))) (sExpr (eBm .list oAppend (eVar 6) (aCons (eCB oTup (aCons (eC (.str "stand")) (aCons (eCall (arg 2 m__law_one) (aCons (eVar 0) (aCons (eCB oLst (aCons (eC (.str "x")) (aCons (eC (.str "y")) aNil))) aNil))) (aCons (eOp opIx (eVar 5) (eOp1 opNeg (eC (.int 1)))) aNil)))) aNil))) sNil))) sNil)
  (sExpr (eBm .list oAppend (eVar 4) (aCons (eCB oTuple (aCons (eVar 6) aNil)) aNil)))))))
  (sRet (eCB oTuple (aCons (eVar 4) aNil)))))
def m__law_story : List Vl → M Vl := fnM 8 b__law_story
def b__law_heap : SM := (sSeq (sPar3 4 5 6 (aCons (eCB oLst aNil) (aCons eDict0 (aCons (eCB oLst aNil) aNil))))
  (sSeq (sForX (aTup (eSl opSl (eVar 0) none (some (eVar 1)))) (gNm 2)
  (sForX (aTup (eVar 2)) (gNm 7)
  (sSeq (sIf (tVal (eOp opEq (eOp opIx (eVar 7) (eC (.int 0))) (eC (.str "make")))) (sExpr (eBm .list oAppend (eVar 4) (aCons eDict0 aNil))) sNil)
  (sSeq (sIf (tVal (eOp opEq (eOp opIx (eVar 7) (eC (.int 0))) (eC (.str "stand")))) (sAsg (gSb opSet (eVar 5) (eOp opIx (eVar 7) (eC (.int 1)))) (eOp opIx (eVar 7) (eC (.int 2)))) sNil)
  (sSeq (sIf (tVal (eOp opEq (eOp opIx (eVar 7) (eC (.int 0))) (eC (.str "keep")))) (sExpr (eBm .list oAppend (eVar 6) (aCons (eOp opIx (eVar 7) (eC (.int 1))) aNil))) sNil)
  (sIf (tVal (eOp opEq (eOp opIx (eVar 7) (eC (.int 0))) (eC (.str "hold")))) (sAsg (gSb opSet (eOp opIx (eVar 4) (eOp opIx (eVar 7) (eC (.int 1)))) (eOp opIx (eVar 7) (eC (.int 2)))) (eOp opIx (eVar 7) (eC (.int 3)))) sNil))))))
  (sSeq (sSet 3 (eLc 100000 (iLst (eVar 4)) (glN 8) tTrue (eLc 100000 (iLst (eListVals (eVar 8))) (glN 9) (tVal (eOp opNotN (eVar 9) (eC .non))) (eVar 9) [9]) [8]))
  (sRet (eCB oTup (aCons (eVar 3) (aCons (eOp opAdd (eVar 6) (eLc 100000 (iLst (eListVals (eVar 5))) (glN 9) (tVal (eOp opNotN (eVar 9) (eC .non))) (eVar 9) [9])) aNil)))))))
def m__law_heap : List Vl → M Vl := fnM 10 b__law_heap
def b__law_closed : SM := (sSeq (sSet 2 (eCB oSortS (aCons (eCB oSet (aCons (eVar 1) aNil)) aNil)))
  (sSeq (sForX (aRng (aCons (eCB oLen (aCons (eVar 0) aNil)) aNil)) (gNm 3)
  (sSeq (sSet 4 (eCB oList (aCons (eVar 2) aNil)))
  (sSeq (sFor 100000 (iLst (eVar 2)) (gNm 5)
  (sExpr (eBm .list oExtend (eVar 4) (aCons (eOp opIx (eVar 0) (eVar 5)) aNil))))
  (sSet 2 (eCB oSortS (aCons (eCB oSet (aCons (eVar 4) aNil)) aNil))))))
  (sRet (eVar 2))))
def m__law_closed : List Vl → M Vl := fnM 6 b__law_closed
def b__law_moment_right : SM := (sSeq (sAsg (gTp [3, 4]) (eCall (arg 2 m__law_heap) (aCons (eVar 0) (aCons (eVar 1) aNil))))
  (sSeq (sIf (tVal (eOp opNe (eCB oRepr (aCons (eCall (arg 2 m_cells_at) (aCons (eVar 0) (aCons (eVar 1) aNil))) aNil)) (eCB oRepr (aCons (eCB oLen (aCons (eVar 3) aNil)) aNil)))) (sRet (eC (.bl false))) sNil)
  (sSeq (sIf (tVal (eOp opNe (eCB oRepr (aCons (eCall (arg 2 m_reached_at) (aCons (eVar 0) (aCons (eVar 1) aNil))) aNil)) (eCB oRepr (aCons (eCB oTuple (aCons (eCall (arg 2 m__law_closed) (aCons (eVar 3) (aCons (eVar 4) aNil))) aNil)) aNil)))) (sRet (eC (.bl false))) sNil)
  (sSeq (sForX (aRng (aCons (eCB oLen (aCons (eVar 3) aNil)) aNil)) (gNm 2)
  (sSeq (sSet 5 (eCB oTuple (aCons (eLcX (aRng (aCons (eCB oLen (aCons (eVar 3) aNil)) aNil)) (glN 6) (tVal (eOp opIn (eVar 2) (eCall (arg 2 m__law_closed) (aCons (eVar 3) (aCons (eCB oLst (aCons (eVar 6) aNil)) aNil))))) (eVar 6) [6]) aNil)))
  (sIf (tVal (eOp opNe (eCB oRepr (aCons (eCall (arg 3 m_comers) (aCons (eVar 0) (aCons (eVar 1) (aCons (eVar 2) aNil)))) aNil)) (eCB oRepr (aCons (eVar 5) aNil)))) (sRet (eC (.bl false))) sNil)))
  (sRet (eC (.bl true)))))))
def m__law_moment_right : List Vl → M Vl := fnM 7 b__law_moment_right
def b_law : SM := (sSeq (sSet 1 (eCall (arg 1 m__law_deck) (aCons (eVar 0) aNil)))
  (sSeq (sForX (aRng (aCons (eC (.int 6)) aNil)) (gNm 2)
  (sSeq (sSet 3 (eCall (arg 3 m__law_story) (aCons (eVar 1) (aCons (eOp opAdd (eC (.int 1)) (eCall (arg 2 m__law_draw) (aCons (eVar 1) (aCons (eC (.int 6)) aNil)))) (aCons (eCall (arg 2 m__law_draw) (aCons (eVar 1) (aCons (eC (.int 15)) aNil))) aNil)))))
  (sSeq (sSet 4 (eCB oRepr (aCons (eVar 3) aNil)))
  (sSeq (sIf (tNotM (tVal (eCB oAll (aCons (eLcX (aRng (aCons (eOp opAdd (eCB oLen (aCons (eVar 3) aNil)) (eC (.int 1))) aNil)) (glN 5) tTrue (eCall (arg 2 m__law_moment_right) (aCons (eVar 3) (aCons (eVar 5) aNil))) [5]) aNil)))) (sRet (eC (.bl false))) sNil)
  (sIf (tVal (eOp opNe (eCB oRepr (aCons (eVar 3) aNil)) (eVar 4))) (sRet (eC (.bl false))) sNil)))))
  (sRet (eC (.bl true)))))
def m_law : List Vl → M Vl := fnM 6 b_law
/-! what the top has left -/
structure TX (K : PySem.W.Frag) (mg : Str → Option Value) where
  f_HeapU_initU : Addr
  d_HeapU_initU : FuncData
  F_HeapU_initU : Fun K "__init__" "Heap.__init__" st_HeapU_initU f_HeapU_initU d_HeapU_initU
  b_HeapU_initU : Binds K d_HeapU_initU ["self"] []
  f_Heap_apply : Addr
  d_Heap_apply : FuncData
  F_Heap_apply : Fun K "apply" "Heap.apply" st_Heap_apply f_Heap_apply d_Heap_apply
  b_Heap_apply : Binds K d_Heap_apply ["self", "item"] []
  f_Heap_held_lists : Addr
  d_Heap_held_lists : FuncData
  F_Heap_held_lists : Fun K "held_lists" "Heap.held_lists" st_Heap_held_lists f_Heap_held_lists d_Heap_held_lists
  b_Heap_held_lists : Binds K d_Heap_held_lists ["self"] []
  f_Heap_reached_flags : Addr
  d_Heap_reached_flags : FuncData
  F_Heap_reached_flags : Fun K "reached_flags" "Heap.reached_flags" st_Heap_reached_flags f_Heap_reached_flags d_Heap_reached_flags
  b_Heap_reached_flags : Binds K d_Heap_reached_flags ["self", "held"] []
  f_heap_at : Addr
  d_heap_at : FuncData
  F_heap_at : Fun K "heap_at" "heap_at" st_heap_at f_heap_at d_heap_at
  b_heap_at : Binds K d_heap_at ["story", "moment"] []
  g_heap_at : mg "heap_at" = some (.ref f_heap_at)
  f_cells_at : Addr
  d_cells_at : FuncData
  F_cells_at : Fun K "cells_at" "cells_at" st_cells_at f_cells_at d_cells_at
  b_cells_at : Binds K d_cells_at ["story", "moment"] []
  g_cells_at : mg "cells_at" = some (.ref f_cells_at)
  f_reached_at : Addr
  d_reached_at : FuncData
  F_reached_at : Fun K "reached_at" "reached_at" st_reached_at f_reached_at d_reached_at
  b_reached_at : Binds K d_reached_at ["story", "moment"] []
  g_reached_at : mg "reached_at" = some (.ref f_reached_at)
  f_comers : Addr
  d_comers : FuncData
  F_comers : Fun K "comers" "comers" st_comers f_comers d_comers
  b_comers : Binds K d_comers ["story", "moment", "cell"] []
  g_comers : mg "comers" = some (.ref f_comers)
  f__law_deck : Addr
  d__law_deck : FuncData
  F__law_deck : Fun K "_law_deck" "_law_deck" st__law_deck f__law_deck d__law_deck
  b__law_deck : Binds K d__law_deck ["_law_script"] []
  g__law_deck : mg "_law_deck" = some (.ref f__law_deck)
  f__law_draw : Addr
  d__law_draw : FuncData
  F__law_draw : Fun K "_law_draw" "_law_draw" st__law_draw f__law_draw d__law_draw
  b__law_draw : Binds K d__law_draw ["_law_deck_here", "_law_many"] []
  g__law_draw : mg "_law_draw" = some (.ref f__law_draw)
  f__law_one : Addr
  d__law_one : FuncData
  F__law_one : Fun K "_law_one" "_law_one" st__law_one f__law_one d__law_one
  b__law_one : Binds K d__law_one ["_law_deck_here", "_law_items"] []
  g__law_one : mg "_law_one" = some (.ref f__law_one)
  f__law_event : Addr
  d__law_event : FuncData
  F__law_event : Fun K "_law_event" "_law_event" st__law_event f__law_event d__law_event
  b__law_event : Binds K d__law_event ["_law_deck_here", "_law_cells"] []
  g__law_event : mg "_law_event" = some (.ref f__law_event)
  f__law_story : Addr
  d__law_story : FuncData
  F__law_story : Fun K "_law_story" "_law_story" st__law_story f__law_story d__law_story
  b__law_story : Binds K d__law_story ["_law_deck_here", "_law_most", "_law_items"] []
  g__law_story : mg "_law_story" = some (.ref f__law_story)
  f__law_heap : Addr
  d__law_heap : FuncData
  F__law_heap : Fun K "_law_heap" "_law_heap" st__law_heap f__law_heap d__law_heap
  b__law_heap : Binds K d__law_heap ["_law_story_here", "_law_moment"] []
  g__law_heap : mg "_law_heap" = some (.ref f__law_heap)
  f__law_closed : Addr
  d__law_closed : FuncData
  F__law_closed : Fun K "_law_closed" "_law_closed" st__law_closed f__law_closed d__law_closed
  b__law_closed : Binds K d__law_closed ["_law_held", "_law_starts"] []
  g__law_closed : mg "_law_closed" = some (.ref f__law_closed)
  f__law_moment_right : Addr
  d__law_moment_right : FuncData
  F__law_moment_right : Fun K "_law_moment_right" "_law_moment_right" st__law_moment_right f__law_moment_right d__law_moment_right
  b__law_moment_right : Binds K d__law_moment_right ["_law_story_here", "_law_moment"] []
  g__law_moment_right : mg "_law_moment_right" = some (.ref f__law_moment_right)
  f_law : Addr
  d_law : FuncData
  F_law : Fun K "law" "law" st_law f_law d_law
  b_law : Binds K d_law ["_law_script"] []
  g_law : mg "law" = some (.ref f_law)
  C_Heap : Addr
  cl_Heap : Cls K C_Heap
  gc_Heap : mg "Heap" = some (.ref C_Heap)
  mk_Heap : Mk K C_Heap f_HeapU_initU
  na_Heap_kept_cells : NoAttr K C_Heap "kept_cells"
  na_Heap_standing : NoAttr K C_Heap "standing"
  na_Heap_strong : NoAttr K C_Heap "strong"
  mt_Heap_apply : Meth K C_Heap "apply" f_Heap_apply
  mt_Heap_held_lists : Meth K C_Heap "held_lists" f_Heap_held_lists
  mt_Heap_reached_flags : Meth K C_Heap "reached_flags" f_Heap_reached_flags
  n_abs : mg "abs" = none
  n_all : mg "all" = none
  n_enumerate : mg "enumerate" = none
  n_int : mg "int" = none
  n_len : mg "len" = none
  n_list : mg "list" = none
  n_max : mg "max" = none
  n_range : mg "range" = none
  n_repr : mg "repr" = none
  n_set : mg "set" = none
  n_sorted : mg "sorted" = none
  n_tuple : mg "tuple" = none
def TX.T {K : PySem.W.Frag} {mg : Str → Option Value} (X : TX K mg) (w : World) : Tb := ⟨K, w, [X.C_Heap], []⟩
theorem TX.fo_kept_cells {K : PySem.W.Frag} {mg : Str → Option Value} (X : TX K mg) (w : World) : FldOk (X.T w) cs_kept_cells "kept_cells" := by
  intro c hc C h
  simp only [cs_kept_cells, List.mem_cons, List.not_mem_nil, or_false] at hc
  subst hc
  cases h
  exact ⟨X.cl_Heap, X.na_Heap_kept_cells⟩
theorem TX.fo_standing {K : PySem.W.Frag} {mg : Str → Option Value} (X : TX K mg) (w : World) : FldOk (X.T w) cs_standing "standing" := by
  intro c hc C h
  simp only [cs_standing, List.mem_cons, List.not_mem_nil, or_false] at hc
  subst hc
  cases h
  exact ⟨X.cl_Heap, X.na_Heap_standing⟩
theorem TX.fo_strong {K : PySem.W.Frag} {mg : Str → Option Value} (X : TX K mg) (w : World) : FldOk (X.T w) cs_strong "strong" := by
  intro c hc C h
  simp only [cs_strong, List.mem_cons, List.not_mem_nil, or_false] at hc
  subst hc
  cases h
  exact ⟨X.cl_Heap, X.na_Heap_strong⟩
/-! each def computes its pure function -/
theorem sc_HeapU_initU : FnScope ["self"] ["self"] (defScope st_HeapU_initU) := ⟨rfl, rfl, rfl, by decide +kernel, rfl, by decide +kernel, by decide +kernel⟩
theorem sim_HeapU_initU {P : Program} {w : World} {K : PySem.W.Frag} {mg : Str → Option Value} {base : Heap} (X : TX K mg) : FnG P w K mg base 1 X.f_HeapU_initU X.d_HeapU_initU ["self"] (SpM (X.T w) 1 m_HeapU_initU) := by
  refine fn_sim (k := 0) (N := ["self"]) (T := X.T w) (b := b_HeapU_initU) X.F_HeapU_initU sc_HeapU_initU rfl fun cdv A outer s H E hr hg => ?_
  have tk := takes_of (X := cxOf (L2.CX P w) P w K mg base ["self"] "Heap.__init__" (defScope st_HeapU_initU) X.f_HeapU_initU cdv A outer s H E) (E := E) rfl rfl rfl rfl
  unfold b_HeapU_initU
  exact (cs_cons (cs_fld (X.fo_standing w) (ce_var 0) ce_dict0)
  (cs_cons (cs_fld (X.fo_kept_cells w) (ce_var 0) ce_dict0)
  (cs_one (cs_fld (X.fo_strong w) (ce_var 0) (ce_lst ca_nil)))))
theorem sc_Heap_apply : FnScope ["self", "item", "event"] ["self", "item"] (defScope st_Heap_apply) := ⟨rfl, rfl, rfl, by decide +kernel, rfl, by decide +kernel, by decide +kernel⟩
theorem sim_Heap_apply {P : Program} {w : World} {K : PySem.W.Frag} {mg : Str → Option Value} {base : Heap} (X : TX K mg) : FnG P w K mg base 1 X.f_Heap_apply X.d_Heap_apply ["self", "item"] (SpM (X.T w) 2 m_Heap_apply) := by
  refine fn_sim (k := 0) (N := ["self", "item", "event"]) (T := X.T w) (b := b_Heap_apply) X.F_Heap_apply sc_Heap_apply rfl fun cdv A outer s H E hr hg => ?_
  have tk := takes_of (X := cxOf (L2.CX P w) P w K mg base ["self", "item", "event"] "Heap.apply" (defScope st_Heap_apply) X.f_Heap_apply cdv A outer s H E) (E := E) rfl rfl rfl rfl
  unfold b_Heap_apply
  exact (cs_one (cs_forX (passes_of rfl) rfl (ci_tup (ce_var 1)) (cg_name (n := 2) sc_Heap_apply.nd rfl (by first | exact Or.inl rfl | exact Or.inr rfl))
  (cs_one (cs_if (ct_cmp (o_eq hr.units) (ce_ix (o_ix (hu_of hr)) (ce_var 2) ce_int) ce_str) (cs_one (cs_expr (ce_bm (t := .list) PySem.F.plainAttrs_list PySem.F.slot_list_append PySem.F.type_list_append m_append (ce_fld (X.fo_strong w) (ce_var 0)) (ca_cons ce_dict0 ca_nil)))) (cs_one (cs_if (ct_cmp (o_eq hr.units) (ce_ix (o_ix (hu_of hr)) (ce_var 2) ce_int) ce_str) (cs_one (cs_asg (ce_ix (o_ix (hu_of hr)) (ce_var 2) ce_int) (cg_sub (ce_fld (X.fo_standing w) (ce_var 0)) (ce_ix (o_ix (hu_of hr)) (ce_var 2) ce_int) (p_set (hu_of hr)) (pg_sub (ce_fld (X.fo_standing w) (ce_var 0)) (ce_ix (o_ix (hu_of hr)) (ce_var 2) ce_int) (p_set (hu_of hr)))))) (cs_one (cs_if (ct_cmp (o_eq hr.units) (ce_ix (o_ix (hu_of hr)) (ce_var 2) ce_int) ce_str) (cs_one (cs_asg (ce_ix (o_ix (hu_of hr)) (ce_var 2) ce_int) (cg_sub (ce_ix (o_ix (hu_of hr)) (ce_fld (X.fo_strong w) (ce_var 0)) (ce_ix (o_ix (hu_of hr)) (ce_var 2) ce_int)) (ce_ix (o_ix (hu_of hr)) (ce_var 2) ce_int) (p_set (hu_of hr)) (pg_sub (ce_ix (o_ix (hu_of hr)) (ce_fld (X.fo_strong w) (ce_var 0)) (ce_ix (o_ix (hu_of hr)) (ce_var 2) ce_int)) (ce_ix (o_ix (hu_of hr)) (ce_var 2) ce_int) (p_set (hu_of hr)))))) (cs_one (cs_if (ct_cmp (o_eq hr.units) (ce_ix (o_ix (hu_of hr)) (ce_var 2) ce_int) ce_str) (cs_one (cs_asg ce_bl (cg_sub (ce_fld (X.fo_kept_cells w) (ce_var 0)) (ce_ix (o_ix (hu_of hr)) (ce_var 2) ce_int) (p_set (hu_of hr)) (pg_sub (ce_fld (X.fo_kept_cells w) (ce_var 0)) (ce_ix (o_ix (hu_of hr)) (ce_var 2) ce_int) (p_set (hu_of hr)))))) cs_nil))))))))))
theorem mo_apply {P : Program} {w : World} {K : PySem.W.Frag} {mg : Str → Option Value} {base : Heap} (X : TX K mg) : ∀ c mf, tab_apply c = some mf → ∀ C, (X.T w).cl[c]? = some C → ∃ (f : Addr) (fd : FuncData) (ps : List Str), Cls (X.T w).K C ∧ Meth (X.T w).K C "apply" f ∧ FnG P w K mg base 1 f fd ps (SpM (X.T w) (1 + 1) mf) ∧ Binds K fd ps [] := by
  intro c mf h C hC
  unfold tab_apply at h
  split at h
  · cases h
    cases hC
    exact ⟨_, _, _, X.cl_Heap, X.mt_Heap_apply, (sim_Heap_apply X).mono (by decide), X.b_Heap_apply⟩
  · cases h
theorem sc_Heap_held_lists : FnScope ["self", "row", "cell"] ["self"] (defScope st_Heap_held_lists) := ⟨rfl, rfl, rfl, by decide +kernel, rfl, by decide +kernel, by decide +kernel⟩
theorem sim_Heap_held_lists {P : Program} {w : World} {K : PySem.W.Frag} {mg : Str → Option Value} {base : Heap} (X : TX K mg) : FnG P w K mg base 1 X.f_Heap_held_lists X.d_Heap_held_lists ["self"] (SpM (X.T w) 1 m_Heap_held_lists) := by
  refine fn_sim (k := 0) (N := ["self", "row", "cell"]) (T := X.T w) (b := b_Heap_held_lists) X.F_Heap_held_lists sc_Heap_held_lists rfl fun cdv A outer s H E hr hg => ?_
  have tk := takes_of (X := cxOf (L2.CX P w) P w K mg base ["self", "row", "cell"] "Heap.held_lists" (defScope st_Heap_held_lists) X.f_Heap_held_lists cdv A outer s H E) (E := E) rfl rfl rfl rfl
  unfold b_Heap_held_lists
  exact (cs_one (cs_ret (ce_lc (own := [("row", 1)]) 100000 rfl sc_Heap_held_lists.nd (ci_lst (ce_fld (X.fo_strong w) (ce_var 0))) (blkOk_by (by kernel_rfl)) (tg_name (List.mem_cons_self ..)) (fun _ _ _ _ _ => pg_name (i := 1) sc_Heap_held_lists.nd rfl (Or.inl rfl)) (fun _ _ _ _ _ => cts_nil) (fun _ _ _ _ _ => (ce_lock (ce_lc (own := [("cell", 2)]) 100000 rfl sc_Heap_held_lists.nd (ci_vals (ce_var 1)) (blkOk_by (by kernel_rfl)) (tg_name (List.mem_cons_self ..)) (fun _ _ _ _ _ => pg_name (i := 2) sc_Heap_held_lists.nd rfl (Or.inl rfl)) (fun _ _ _ _ _ => (cts_one (ct_cmp o_notN (ce_var 2) ce_non))) (fun _ _ _ _ _ => (ce_var 2))))))))
theorem mo_held_lists {P : Program} {w : World} {K : PySem.W.Frag} {mg : Str → Option Value} {base : Heap} (X : TX K mg) : ∀ c mf, tab_held_lists c = some mf → ∀ C, (X.T w).cl[c]? = some C → ∃ (f : Addr) (fd : FuncData) (ps : List Str), Cls (X.T w).K C ∧ Meth (X.T w).K C "held_lists" f ∧ FnG P w K mg base 1 f fd ps (SpM (X.T w) (0 + 1) mf) ∧ Binds K fd ps [] := by
  intro c mf h C hC
  unfold tab_held_lists at h
  split at h
  · cases h
    cases hC
    exact ⟨_, _, _, X.cl_Heap, X.mt_Heap_held_lists, (sim_Heap_held_lists X).mono (by decide), X.b_Heap_held_lists⟩
  · cases h
theorem sc_Heap_reached_flags : FnScope ["self", "held", "found", "waiting", "cell"] ["self", "held"] (defScope st_Heap_reached_flags) := ⟨rfl, rfl, rfl, by decide +kernel, rfl, by decide +kernel, by decide +kernel⟩
theorem sim_Heap_reached_flags {P : Program} {w : World} {K : PySem.W.Frag} {mg : Str → Option Value} {base : Heap} (X : TX K mg) : FnG P w K mg base 1 X.f_Heap_reached_flags X.d_Heap_reached_flags ["self", "held"] (SpM (X.T w) 2 m_Heap_reached_flags) := by
  refine fn_sim (k := 0) (N := ["self", "held", "found", "waiting", "cell"]) (T := X.T w) (b := b_Heap_reached_flags) X.F_Heap_reached_flags sc_Heap_reached_flags rfl fun cdv A outer s H E hr hg => ?_
  have tk := takes_of (X := cxOf (L2.CX P w) P w K mg base ["self", "held", "found", "waiting", "cell"] "Heap.reached_flags" (defScope st_Heap_reached_flags) X.f_Heap_reached_flags cdv A outer s H E) (E := E) rfl rfl rfl rfl
  unfold b_Heap_reached_flags
  exact (cs_cons (cs_set (i := 2) sc_Heap_reached_flags.nd rfl (by first | exact Or.inl rfl | exact Or.inr rfl) (ce_op o_mul (ce_lst (ca_cons ce_bl ca_nil)) (ce_callB (c_len) rfl X.n_len (by decide +kernel) (ca_cons (ce_var 1) ca_nil))))
  (cs_cons (cs_set (i := 3) sc_Heap_reached_flags.nd rfl (by first | exact Or.inl rfl | exact Or.inr rfl) (ce_op o_add (ce_lock (ce_lc (own := [("cell", 4)]) 100000 rfl sc_Heap_reached_flags.nd (ci_vals (ce_fld (X.fo_standing w) (ce_var 0))) (blkOk_by (by kernel_rfl)) (tg_name (List.mem_cons_self ..)) (fun _ _ _ _ _ => pg_name (i := 4) sc_Heap_reached_flags.nd rfl (Or.inl rfl)) (fun _ _ _ _ _ => (cts_one (ct_cmp o_notN (ce_var 4) ce_non))) (fun _ _ _ _ _ => (ce_var 4)))) (ce_callTy (c_list) rfl X.n_list (by decide +kernel) (ca_cons (ce_fld (X.fo_kept_cells w) (ce_var 0)) ca_nil))))
  (cs_cons (cs_while 100000 (passes_of rfl) (ct_cmp (o_ne hr.units) (ce_var 3) (ce_lst ca_nil)) (cs_cons (cs_set (i := 4) sc_Heap_reached_flags.nd rfl (by first | exact Or.inl rfl | exact Or.inr rfl) (ce_bm0 (t := .list) PySem.F.plainAttrs_list PySem.F.slot_list_pop PySem.F.type_list_pop m_pop (ce_var 3)))
  (cs_one (cs_if (ct_not (ct_val (ce_ix (o_ix (hu_of hr)) (ce_var 2) (ce_var 4)))) (cs_cons (cs_asg ce_bl (cg_sub (ce_var 2) (ce_var 4) (p_set (hu_of hr)) (pg_sub (ce_var 2) (ce_var 4) (p_set (hu_of hr)))))
  (cs_one (cs_expr (ce_bm (t := .list) PySem.F.plainAttrs_list PySem.F.slot_list_extend PySem.F.type_list_extend m_extend (ce_var 3) (ca_cons (ce_ix (o_ix (hu_of hr)) (ce_var 1) (ce_var 4)) ca_nil))))) cs_nil))))
  (cs_one (cs_ret (ce_var 2))))))
theorem mo_reached_flags {P : Program} {w : World} {K : PySem.W.Frag} {mg : Str → Option Value} {base : Heap} (X : TX K mg) : ∀ c mf, tab_reached_flags c = some mf → ∀ C, (X.T w).cl[c]? = some C → ∃ (f : Addr) (fd : FuncData) (ps : List Str), Cls (X.T w).K C ∧ Meth (X.T w).K C "reached_flags" f ∧ FnG P w K mg base 1 f fd ps (SpM (X.T w) (1 + 1) mf) ∧ Binds K fd ps [] := by
  intro c mf h C hC
  unfold tab_reached_flags at h
  split at h
  · cases h
    cases hC
    exact ⟨_, _, _, X.cl_Heap, X.mt_Heap_reached_flags, (sim_Heap_reached_flags X).mono (by decide), X.b_Heap_reached_flags⟩
  · cases h
theorem sc_heap_at : FnScope ["story", "moment", "heap", "item"] ["story", "moment"] (defScope st_heap_at) := ⟨rfl, rfl, rfl, by decide +kernel, rfl, by decide +kernel, by decide +kernel⟩
theorem sim_heap_at {P : Program} {w : World} {K : PySem.W.Frag} {mg : Str → Option Value} {base : Heap} (X : TX K mg) : FnG P w K mg base 3 X.f_heap_at X.d_heap_at ["story", "moment"] (SpM (X.T w) 2 m_heap_at) := by
  refine fn_sim (k := 2) (N := ["story", "moment", "heap", "item"]) (T := X.T w) (b := b_heap_at) X.F_heap_at sc_heap_at rfl fun cdv A outer s H E hr hg => ?_
  have tk := takes_of (X := cxOf (L2.CX P w) P w K mg base ["story", "moment", "heap", "item"] "heap_at" (defScope st_heap_at) X.f_heap_at cdv A outer s H E) (E := E) rfl rfl rfl rfl
  unfold b_heap_at
  exact (cs_cons (cs_set (i := 2) sc_heap_at.nd rfl (by first | exact Or.inl rfl | exact Or.inr rfl) (ce_make0 X.mk_Heap (sim_HeapU_initU X) (hr.mono (by decide)) hg rfl X.gc_Heap X.b_HeapU_initU tk rfl))
  (cs_cons (cs_forX (passes_of rfl) rfl (ci_tup (ce_slice o_sl (ce_var 0) co_none (co_some (ce_var 1)))) (cg_name (n := 3) sc_heap_at.nd rfl (by first | exact Or.inl rfl | exact Or.inr rfl))
  (cs_one (cs_expr (ce_meth (mo_apply X) (hr.mono (by decide)) hg tk (ce_var 2) (ca_cons (ce_var 3) ca_nil)))))
  (cs_one (cs_ret (ce_var 2)))))
theorem sc_cells_at : FnScope ["story", "moment"] ["story", "moment"] (defScope st_cells_at) := ⟨rfl, rfl, rfl, by decide +kernel, rfl, by decide +kernel, by decide +kernel⟩
theorem sim_cells_at {P : Program} {w : World} {K : PySem.W.Frag} {mg : Str → Option Value} {base : Heap} (X : TX K mg) : FnG P w K mg base 4 X.f_cells_at X.d_cells_at ["story", "moment"] (SpM (X.T w) 2 m_cells_at) := by
  refine fn_sim (k := 3) (N := ["story", "moment"]) (T := X.T w) (b := b_cells_at) X.F_cells_at sc_cells_at rfl fun cdv A outer s H E hr hg => ?_
  have tk := takes_of (X := cxOf (L2.CX P w) P w K mg base ["story", "moment"] "cells_at" (defScope st_cells_at) X.f_cells_at cdv A outer s H E) (E := E) rfl rfl rfl rfl
  unfold b_cells_at
  exact (cs_one (cs_ret (ce_callB (c_len) rfl X.n_len (by decide +kernel) (ca_cons (ce_fld (X.fo_strong w) (ce_call (sim_heap_at X) (hr.mono (by decide)) hg rfl X.g_heap_at X.F_heap_at.kp X.b_heap_at tk (ca_cons (ce_var 0) (ca_cons (ce_var 1) ca_nil)))) ca_nil))))
theorem sc_reached_at : FnScope ["story", "moment", "heap", "flags", "cell", "truth"] ["story", "moment"] (defScope st_reached_at) := ⟨rfl, rfl, rfl, by decide +kernel, rfl, by decide +kernel, by decide +kernel⟩
theorem sim_reached_at {P : Program} {w : World} {K : PySem.W.Frag} {mg : Str → Option Value} {base : Heap} (X : TX K mg) : FnG P w K mg base 4 X.f_reached_at X.d_reached_at ["story", "moment"] (SpM (X.T w) 2 m_reached_at) := by
  refine fn_sim (k := 3) (N := ["story", "moment", "heap", "flags", "cell", "truth"]) (T := X.T w) (b := b_reached_at) X.F_reached_at sc_reached_at rfl fun cdv A outer s H E hr hg => ?_
  have tk := takes_of (X := cxOf (L2.CX P w) P w K mg base ["story", "moment", "heap", "flags", "cell", "truth"] "reached_at" (defScope st_reached_at) X.f_reached_at cdv A outer s H E) (E := E) rfl rfl rfl rfl
  unfold b_reached_at
  exact (cs_cons (cs_set (i := 2) sc_reached_at.nd rfl (by first | exact Or.inl rfl | exact Or.inr rfl) (ce_call (sim_heap_at X) (hr.mono (by decide)) hg rfl X.g_heap_at X.F_heap_at.kp X.b_heap_at tk (ca_cons (ce_var 0) (ca_cons (ce_var 1) ca_nil))))
  (cs_cons (cs_set (i := 3) sc_reached_at.nd rfl (by first | exact Or.inl rfl | exact Or.inr rfl) (ce_meth (mo_reached_flags X) (hr.mono (by decide)) hg tk (ce_var 2) (ca_cons (ce_meth0 (mo_held_lists X) (hr.mono (by decide)) hg tk (ce_var 2)) ca_nil)))
  (cs_one (cs_ret (ce_callTy (c_tuple) rfl X.n_tuple (by decide +kernel) (ca_cons (ce_lc (own := [("cell", 4), ("truth", 5)]) 100000 rfl sc_reached_at.nd (ci_enm rfl X.n_enumerate (ca_cons (ce_var 3) ca_nil)) (blkOk_by (by kernel_rfl)) (tg_tup (js := [4, 5]) (by decide) rfl) (fun _ _ _ _ _ => pg_tup rfl (pgs_cons (pg_name (i := 4) sc_reached_at.nd rfl (Or.inl rfl)) (pgs_cons (pg_name (i := 5) sc_reached_at.nd rfl (Or.inl rfl)) pgs_nil))) (fun _ _ _ _ _ => (cts_one (ct_val (ce_var 5)))) (fun _ _ _ _ _ => (ce_var 4))) ca_nil))))))
theorem sc_comers : FnScope ["story", "moment", "cell", "held", "found", "is_new", "other", "row", "one"] ["story", "moment", "cell"] (defScope st_comers) := ⟨rfl, rfl, rfl, by decide +kernel, rfl, by decide +kernel, by decide +kernel⟩
theorem sim_comers {P : Program} {w : World} {K : PySem.W.Frag} {mg : Str → Option Value} {base : Heap} (X : TX K mg) : FnG P w K mg base 4 X.f_comers X.d_comers ["story", "moment", "cell"] (SpM (X.T w) 3 m_comers) := by
  refine fn_sim (k := 3) (N := ["story", "moment", "cell", "held", "found", "is_new", "other", "row", "one"]) (T := X.T w) (b := b_comers) X.F_comers sc_comers rfl fun cdv A outer s H E hr hg => ?_
  have tk := takes_of (X := cxOf (L2.CX P w) P w K mg base ["story", "moment", "cell", "held", "found", "is_new", "other", "row", "one"] "comers" (defScope st_comers) X.f_comers cdv A outer s H E) (E := E) rfl rfl rfl rfl
  unfold b_comers
  exact (cs_cons (cs_set (i := 3) sc_comers.nd rfl (by first | exact Or.inl rfl | exact Or.inr rfl) (ce_meth0 (mo_held_lists X) (hr.mono (by decide)) hg tk (ce_call (sim_heap_at X) (hr.mono (by decide)) hg rfl X.g_heap_at X.F_heap_at.kp X.b_heap_at tk (ca_cons (ce_var 0) (ca_cons (ce_var 1) ca_nil)))))
  (cs_cons (cs_set (i := 4) sc_comers.nd rfl (by first | exact Or.inl rfl | exact Or.inr rfl) (ce_dict (ps := [((eVar 2), (eC (.bl true)))]) (pps_cons (ce_var 2) ce_bl pps_nil)))
  (cs_cons (cs_set (i := 5) sc_comers.nd rfl (by first | exact Or.inl rfl | exact Or.inr rfl) ce_bl)
  (cs_cons (cs_while 100000 (passes_of rfl) (ct_val (ce_var 5)) (cs_cons (cs_set (i := 5) sc_comers.nd rfl (by first | exact Or.inl rfl | exact Or.inr rfl) ce_bl)
  (cs_one (cs_for 100000 (passes_of rfl) rfl (ci_enm rfl X.n_enumerate (ca_cons (ce_var 3) ca_nil)) (cg_tup (js := [6, 7]) (pg_tup rfl (pgs_cons (pg_name (i := 6) sc_comers.nd rfl (by first | exact Or.inl rfl | exact Or.inr rfl)) (pgs_cons (pg_name (i := 7) sc_comers.nd rfl (by first | exact Or.inl rfl | exact Or.inr rfl)) pgs_nil))))
  (cs_one (cs_if (PW.pt (cw_and (ct_cmp (o_notIn (hu_of hr)) (ce_var 6) (ce_var 4)) (cw_and1 (ct_cmp (o_ne hr.units) (ce_lc (own := [("one", 8)]) 100000 rfl sc_comers.nd (ci_lst (ce_var 7)) (blkOk_by (by kernel_rfl)) (tg_name (List.mem_cons_self ..)) (fun _ _ _ _ _ => pg_name (i := 8) sc_comers.nd rfl (Or.inl rfl)) (fun _ _ _ _ _ => (cts_one (ct_cmp (o_in (hu_of hr)) (ce_var 8) (ce_var 4)))) (fun _ _ _ _ _ => (ce_var 8))) (ce_lst ca_nil))))) (cs_cons (cs_asg ce_bl (cg_sub (ce_var 4) (ce_var 6) (p_set (hu_of hr)) (pg_sub (ce_var 4) (ce_var 6) (p_set (hu_of hr)))))
  (cs_one (cs_set (i := 5) sc_comers.nd rfl (by first | exact Or.inl rfl | exact Or.inr rfl) ce_bl))) cs_nil))))))
  (cs_one (cs_ret (ce_callTy (c_tuple) rfl X.n_tuple (by decide +kernel) (ca_cons (ce_callB (c_sortS) rfl X.n_sorted (by decide +kernel) (ca_cons (ce_callTy (c_list) rfl X.n_list (by decide +kernel) (ca_cons (ce_var 4) ca_nil)) ca_nil)) ca_nil))))))))
theorem sc__law_deck : FnScope ["_law_script", "_law_cell"] ["_law_script"] (defScope st__law_deck) := ⟨rfl, rfl, rfl, by decide +kernel, rfl, by decide +kernel, by decide +kernel⟩
theorem sim__law_deck {P : Program} {w : World} {K : PySem.W.Frag} {mg : Str → Option Value} {base : Heap} (X : TX K mg) : FnG P w K mg base 1 X.f__law_deck X.d__law_deck ["_law_script"] (SpM (X.T w) 1 m__law_deck) := by
  refine fn_sim (k := 0) (N := ["_law_script", "_law_cell"]) (T := X.T w) (b := b__law_deck) X.F__law_deck sc__law_deck rfl fun cdv A outer s H E hr hg => ?_
  have tk := takes_of (X := cxOf (L2.CX P w) P w K mg base ["_law_script", "_law_cell"] "_law_deck" (defScope st__law_deck) X.f__law_deck cdv A outer s H E) (E := E) rfl rfl rfl rfl
  unfold b__law_deck
  exact (cs_one (cs_ret (ce_lst (ca_cons (ce_lc (own := [("_law_cell", 1)]) 100000 rfl sc__law_deck.nd (ci_lst (ce_slice o_sl (ce_var 0) co_none (co_some ce_int))) (blkOk_by (by kernel_rfl)) (tg_name (List.mem_cons_self ..)) (fun _ _ _ _ _ => pg_name (i := 1) sc__law_deck.nd rfl (Or.inl rfl)) (fun _ _ _ _ _ => cts_nil) (fun _ _ _ _ _ => (ce_callB (c_abs) rfl X.n_abs (by decide +kernel) (ca_cons (ce_var 1) ca_nil)))) (ca_cons ce_int ca_nil)))))
theorem sc__law_draw : FnScope ["_law_deck_here", "_law_many", "_law_place", "_law_cell", "_law_mixed"] ["_law_deck_here", "_law_many"] (defScope st__law_draw) := ⟨rfl, rfl, rfl, by decide +kernel, rfl, by decide +kernel, by decide +kernel⟩
theorem sim__law_draw {P : Program} {w : World} {K : PySem.W.Frag} {mg : Str → Option Value} {base : Heap} (X : TX K mg) : FnG P w K mg base 1 X.f__law_draw X.d__law_draw ["_law_deck_here", "_law_many"] (SpM (X.T w) 2 m__law_draw) := by
  refine fn_sim (k := 0) (N := ["_law_deck_here", "_law_many", "_law_place", "_law_cell", "_law_mixed"]) (T := X.T w) (b := b__law_draw) X.F__law_draw sc__law_draw rfl fun cdv A outer s H E hr hg => ?_
  have tk := takes_of (X := cxOf (L2.CX P w) P w K mg base ["_law_deck_here", "_law_many", "_law_place", "_law_cell", "_law_mixed"] "_law_draw" (defScope st__law_draw) X.f__law_draw cdv A outer s H E) (E := E) rfl rfl rfl rfl
  unfold b__law_draw
  exact (cs_cons (cs_asg (ce_op o_add (ce_ix (o_ix (hu_of hr)) (ce_var 0) ce_int) ce_int) (cg_sub (ce_var 0) ce_int (p_set (hu_of hr)) (pg_sub (ce_var 0) ce_int (p_set (hu_of hr)))))
  (cs_cons (cs_set (i := 2) sc__law_draw.nd rfl (by first | exact Or.inl rfl | exact Or.inr rfl) (ce_op o_mod (ce_callTy (c_int) rfl X.n_int (by decide +kernel) (ca_cons (ce_ix (o_ix (hu_of hr)) (ce_var 0) ce_int) ca_nil)) (ce_callB (c_max) rfl X.n_max (by decide +kernel) (ca_cons ce_int (ca_cons (ce_callB (c_len) rfl X.n_len (by decide +kernel) (ca_cons (ce_ix (o_ix (hu_of hr)) (ce_var 0) ce_int) ca_nil)) ca_nil)))))
  (cs_cons (cs_set (i := 3) sc__law_draw.nd rfl (by first | exact Or.inl rfl | exact Or.inr rfl) (ce_ix (o_ix (hu_of hr)) (ce_op o_add (ce_ix (o_ix (hu_of hr)) (ce_var 0) ce_int) (ce_lst (ca_cons ce_int ca_nil))) (ce_var 2)))
  (cs_cons (cs_if (ct_cmp o_ge (ce_var 3) (ce_op o_pow ce_int ce_int)) (cs_cons (cs_asg (ce_op o_fdiv (ce_var 3) (ce_var 1)) (cg_sub (ce_ix (o_ix (hu_of hr)) (ce_var 0) ce_int) (ce_var 2) (p_set (hu_of hr)) (pg_sub (ce_ix (o_ix (hu_of hr)) (ce_var 0) ce_int) (ce_var 2) (p_set (hu_of hr)))))
  (cs_one (cs_ret (ce_op o_mod (ce_callTy (c_int) rfl X.n_int (by decide +kernel) (ca_cons (ce_var 3) ca_nil)) (ce_var 1))))) cs_nil)
  (cs_cons (cs_set (i := 4) sc__law_draw.nd rfl (by first | exact Or.inl rfl | exact Or.inr rfl) (ce_op o_pow (ce_op o_add (ce_op o_add (ce_op o_mod (ce_callTy (c_int) rfl X.n_int (by decide +kernel) (ca_cons (ce_var 3) ca_nil)) ce_int) (ce_op o_mul ce_int (ce_ix (o_ix (hu_of hr)) (ce_var 0) ce_int))) ce_int) ce_int))
  (cs_one (cs_ret (ce_op o_mod (ce_callTy (c_int) rfl X.n_int (by decide +kernel) (ca_cons (ce_op o_mod (ce_callTy (c_int) rfl X.n_int (by decide +kernel) (ca_cons (ce_var 4) ca_nil)) ce_int) ca_nil)) (ce_var 1)))))))))
theorem sc__law_one : FnScope ["_law_deck_here", "_law_items"] ["_law_deck_here", "_law_items"] (defScope st__law_one) := ⟨rfl, rfl, rfl, by decide +kernel, rfl, by decide +kernel, by decide +kernel⟩
theorem sim__law_one {P : Program} {w : World} {K : PySem.W.Frag} {mg : Str → Option Value} {base : Heap} (X : TX K mg) : FnG P w K mg base 2 X.f__law_one X.d__law_one ["_law_deck_here", "_law_items"] (SpM (X.T w) 2 m__law_one) := by
  refine fn_sim (k := 1) (N := ["_law_deck_here", "_law_items"]) (T := X.T w) (b := b__law_one) X.F__law_one sc__law_one rfl fun cdv A outer s H E hr hg => ?_
  have tk := takes_of (X := cxOf (L2.CX P w) P w K mg base ["_law_deck_here", "_law_items"] "_law_one" (defScope st__law_one) X.f__law_one cdv A outer s H E) (E := E) rfl rfl rfl rfl
  unfold b__law_one
  exact (cs_one (cs_ret (ce_ix (o_ix (hu_of hr)) (ce_var 1) (ce_call (sim__law_draw X) (hr.mono (by decide)) hg rfl X.g__law_draw X.F__law_draw.kp X.b__law_draw tk (ca_cons (ce_var 0) (ca_cons (ce_callB (c_len) rfl X.n_len (by decide +kernel) (ca_cons (ce_var 1) ca_nil)) ca_nil))))))
theorem sc__law_event : FnScope ["_law_deck_here", "_law_cells", "_law_kind", "_law_cell"] ["_law_deck_here", "_law_cells"] (defScope st__law_event) := ⟨rfl, rfl, rfl, by decide +kernel, rfl, by decide +kernel, by decide +kernel⟩
theorem sim__law_event {P : Program} {w : World} {K : PySem.W.Frag} {mg : Str → Option Value} {base : Heap} (X : TX K mg) : FnG P w K mg base 3 X.f__law_event X.d__law_event ["_law_deck_here", "_law_cells"] (SpM (X.T w) 2 m__law_event) := by
  refine fn_sim (k := 2) (N := ["_law_deck_here", "_law_cells", "_law_kind", "_law_cell"]) (T := X.T w) (b := b__law_event) X.F__law_event sc__law_event rfl fun cdv A outer s H E hr hg => ?_
  have tk := takes_of (X := cxOf (L2.CX P w) P w K mg base ["_law_deck_here", "_law_cells", "_law_kind", "_law_cell"] "_law_event" (defScope st__law_event) X.f__law_event cdv A outer s H E) (E := E) rfl rfl rfl rfl
  unfold b__law_event
  exact (cs_cons (cs_set (i := 2) sc__law_event.nd rfl (by first | exact Or.inl rfl | exact Or.inr rfl) (ce_call (sim__law_draw X) (hr.mono (by decide)) hg rfl X.g__law_draw X.F__law_draw.kp X.b__law_draw tk (ca_cons (ce_var 0) (ca_cons ce_int ca_nil))))
  (cs_cons (cs_set (i := 3) sc__law_event.nd rfl (by first | exact Or.inl rfl | exact Or.inr rfl) (ce_call (sim__law_one X) (hr.mono (by decide)) hg rfl X.g__law_one X.F__law_one.kp X.b__law_one tk (ca_cons (ce_var 0) (ca_cons (ce_op o_add (ce_lst (ca_cons ce_non ca_nil)) (ce_var 1)) ca_nil))))
  (cs_cons (cs_if (PW.pt (cw_or (ct_cmp o_lt (ce_var 2) ce_int) (cw_or1 (ct_cmp (o_eq hr.units) (ce_var 1) (ce_lst ca_nil))))) (cs_one (cs_ret (ce_tup (ca_cons ce_str (ca_cons (ce_call (sim__law_one X) (hr.mono (by decide)) hg rfl X.g__law_one X.F__law_one.kp X.b__law_one tk (ca_cons (ce_var 0) (ca_cons (ce_lst (ca_cons ce_str (ca_cons ce_str ca_nil))) ca_nil))) (ca_cons (ce_var 3) ca_nil)))))) cs_nil)
  (cs_cons (cs_if (ct_cmp o_lt (ce_var 2) ce_int) (cs_one (cs_ret (ce_tup (ca_cons ce_str (ca_cons (ce_call (sim__law_one X) (hr.mono (by decide)) hg rfl X.g__law_one X.F__law_one.kp X.b__law_one tk (ca_cons (ce_var 0) (ca_cons (ce_var 1) ca_nil))) (ca_cons (ce_call (sim__law_one X) (hr.mono (by decide)) hg rfl X.g__law_one X.F__law_one.kp X.b__law_one tk (ca_cons (ce_var 0) (ca_cons (ce_lst (ca_cons ce_str (ca_cons ce_str ca_nil))) ca_nil))) (ca_cons (ce_var 3) ca_nil))))))) cs_nil)
  (cs_cons (cs_if (PW.pt (cw_and (ct_cmp (o_eq hr.units) (ce_var 2) ce_int) (cw_and1 (ct_cmp (o_eq hr.units) (ce_call (sim__law_draw X) (hr.mono (by decide)) hg rfl X.g__law_draw X.F__law_draw.kp X.b__law_draw tk (ca_cons (ce_var 0) (ca_cons ce_int ca_nil))) ce_int)))) (cs_one (cs_ret (ce_tup (ca_cons ce_str (ca_cons (ce_call (sim__law_one X) (hr.mono (by decide)) hg rfl X.g__law_one X.F__law_one.kp X.b__law_one tk (ca_cons (ce_var 0) (ca_cons (ce_var 1) ca_nil))) ca_nil))))) cs_nil)
  (cs_one (cs_ret (ce_tup (ca_cons ce_str (ca_cons (ce_call (sim__law_one X) (hr.mono (by decide)) hg rfl X.g__law_one X.F__law_one.kp X.b__law_one tk (ca_cons (ce_var 0) (ca_cons (ce_var 1) ca_nil))) ca_nil))))))))))
theorem sc__law_story : FnScope ["_law_deck_here", "_law_most", "_law_items", "_law_moment", "_law_story_here", "_law_cells", "_law_item", "_law_turn"] ["_law_deck_here", "_law_most", "_law_items"] (defScope st__law_story) := ⟨rfl, rfl, rfl, by decide +kernel, rfl, by decide +kernel, by decide +kernel⟩
theorem sim__law_story {P : Program} {w : World} {K : PySem.W.Frag} {mg : Str → Option Value} {base : Heap} (X : TX K mg) : FnG P w K mg base 4 X.f__law_story X.d__law_story ["_law_deck_here", "_law_most", "_law_items"] (SpM (X.T w) 3 m__law_story) := by
  refine fn_sim (k := 3) (N := ["_law_deck_here", "_law_most", "_law_items", "_law_moment", "_law_story_here", "_law_cells", "_law_item", "_law_turn"]) (T := X.T w) (b := b__law_story) X.F__law_story sc__law_story rfl fun cdv A outer s H E hr hg => ?_
  have tk := takes_of (X := cxOf (L2.CX P w) P w K mg base ["_law_deck_here", "_law_most", "_law_items", "_law_moment", "_law_story_here", "_law_cells", "_law_item", "_law_turn"] "_law_story" (defScope st__law_story) X.f__law_story cdv A outer s H E) (E := E) rfl rfl rfl rfl
  unfold b__law_story
  exact (cs_cons (cs_par (i := 4) (j := 5) rfl sc__law_story.nd rfl rfl (by decide) rfl rfl (ca_cons (ce_lst ca_nil) (ca_cons (ce_lst ca_nil) ca_nil)) (by rfl))
  (cs_cons (cs_forX (passes_of rfl) rfl (ci_rng1 rfl X.n_range (ca_cons (ce_var 2) ca_nil)) (cg_name (n := 3) sc__law_story.nd rfl (by first | exact Or.inl rfl | exact Or.inr rfl))
  (cs_cons (cs_set (i := 6) sc__law_story.nd rfl (by first | exact Or.inl rfl | exact Or.inr rfl) (ce_lst ca_nil))
  (cs_cons (cs_forX (passes_of rfl) rfl (ci_rng1 rfl X.n_range (ca_cons (ce_call (sim__law_draw X) (hr.mono (by decide)) hg rfl X.g__law_draw X.F__law_draw.kp X.b__law_draw tk (ca_cons (ce_var 0) (ca_cons ce_int ca_nil))) ca_nil)) (cg_name (n := 7) sc__law_story.nd rfl (by first | exact Or.inl rfl | exact Or.inr rfl))
  (cs_one (cs_expr (ce_bm (t := .list) PySem.F.plainAttrs_list PySem.F.slot_list_append PySem.F.type_list_append m_append (ce_var 6) (ca_cons (ce_call (sim__law_event X) (hr.mono (by decide)) hg rfl X.g__law_event X.F__law_event.kp X.b__law_event tk (ca_cons (ce_var 0) (ca_cons (ce_callTy (c_list) rfl X.n_list (by decide +kernel) (ca_cons (ce_var 5) ca_nil)) ca_nil))) ca_nil)))))
  (cs_cons (cs_if (PW.pt (cw_and (ct_cmp o_lt (ce_callB (c_len) rfl X.n_len (by decide +kernel) (ca_cons (ce_var 5) ca_nil)) (ce_var 1)) (cw_and1 (ct_cmp (o_eq hr.units) (ce_call (sim__law_draw X) (hr.mono (by decide)) hg rfl X.g__law_draw X.F__law_draw.kp X.b__law_draw tk (ca_cons (ce_var 0) (ca_cons ce_int ca_nil))) ce_int)))) (cs_cons (cs_expr (ce_bm (t := .list) PySem.F.plainAttrs_list PySem.F.slot_list_append PySem.F.type_list_append m_append (ce_var 6) (ca_cons (ce_tup (ca_cons ce_str (ca_cons (ce_callB (c_len) rfl X.n_len (by decide +kernel) (ca_cons (ce_var 5) ca_nil)) ca_nil))) ca_nil)))
  (cs_cons (cs_expr (ce_bm (t := .list) PySem.F.plainAttrs_list PySem.F.slot_list_append PySem.F.type_list_append m_append (ce_var 5) (ca_cons (ce_callB (c_len) rfl X.n_len (by decide +kernel) (ca_cons (ce_var 5) ca_nil)) ca_nil)))
  (cs_one (cs_if (ct_cmp o_gt (ce_call (sim__law_draw X) (hr.mono (by decide)) hg rfl X.g__law_draw X.F__law_draw.kp X.b__law_draw tk (ca_cons (ce_var 0) (ca_cons ce_int ca_nil))) ce_int) (cs_one (cs_expr (ce_bm (t := .list) PySem.F.plainAttrs_list PySem.F.slot_list_append PySem.F.type_list_append m_append (ce_var 6) (ca_cons (ce_tup (ca_cons ce_str (ca_cons (ce_call (sim__law_one X) (hr.mono (by decide)) hg rfl X.g__law_one X.F__law_one.kp X.b__law_one tk (ca_cons (ce_var 0) (ca_cons (ce_lst (ca_cons ce_str (ca_cons ce_str ca_nil))) ca_nil))) (ca_cons (ce_ix (o_ix (hu_of hr)) (ce_var 5) (ce_un o_neg ce_int)) ca_nil)))) ca_nil)))) cs_nil)))) cs_nil)
  (cs_one (cs_expr (ce_bm (t := .list) PySem.F.plainAttrs_list PySem.F.slot_list_append PySem.F.type_list_append m_append (ce_var 4) (ca_cons (ce_callTy (c_tuple) rfl X.n_tuple (by decide +kernel) (ca_cons (ce_var 6) ca_nil)) ca_nil))))))))
  (cs_one (cs_ret (ce_callTy (c_tuple) rfl X.n_tuple (by decide +kernel) (ca_cons (ce_var 4) ca_nil))))))
theorem sc__law_heap : FnScope ["_law_story_here", "_law_moment", "_law_item", "_law_held", "_law_fields", "_law_standing", "_law_kept", "_law_event_here", "_law_row", "_law_cell"] ["_law_story_here", "_law_moment"] (defScope st__law_heap) := ⟨rfl, rfl, rfl, by decide +kernel, rfl, by decide +kernel, by decide +kernel⟩
theorem sim__law_heap {P : Program} {w : World} {K : PySem.W.Frag} {mg : Str → Option Value} {base : Heap} (X : TX K mg) : FnG P w K mg base 1 X.f__law_heap X.d__law_heap ["_law_story_here", "_law_moment"] (SpM (X.T w) 2 m__law_heap) := by
  refine fn_sim (k := 0) (N := ["_law_story_here", "_law_moment", "_law_item", "_law_held", "_law_fields", "_law_standing", "_law_kept", "_law_event_here", "_law_row", "_law_cell"]) (T := X.T w) (b := b__law_heap) X.F__law_heap sc__law_heap rfl fun cdv A outer s H E hr hg => ?_
  have tk := takes_of (X := cxOf (L2.CX P w) P w K mg base ["_law_story_here", "_law_moment", "_law_item", "_law_held", "_law_fields", "_law_standing", "_law_kept", "_law_event_here", "_law_row", "_law_cell"] "_law_heap" (defScope st__law_heap) X.f__law_heap cdv A outer s H E) (E := E) rfl rfl rfl rfl
  unfold b__law_heap
  exact (cs_cons (cs_par3 (i := 4) (j := 5) (l := 6) rfl sc__law_heap.nd rfl rfl rfl (by decide) (by decide) (by decide) rfl rfl rfl (ca_cons (ce_lst ca_nil) (ca_cons ce_dict0 (ca_cons (ce_lst ca_nil) ca_nil))) (by rfl))
  (cs_cons (cs_forX (passes_of rfl) rfl (ci_tup (ce_slice o_sl (ce_var 0) co_none (co_some (ce_var 1)))) (cg_name (n := 2) sc__law_heap.nd rfl (by first | exact Or.inl rfl | exact Or.inr rfl))
  (cs_one (cs_forX (passes_of rfl) rfl (ci_tup (ce_var 2)) (cg_name (n := 7) sc__law_heap.nd rfl (by first | exact Or.inl rfl | exact Or.inr rfl))
  (cs_cons (cs_if (ct_cmp (o_eq hr.units) (ce_ix (o_ix (hu_of hr)) (ce_var 7) ce_int) ce_str) (cs_one (cs_expr (ce_bm (t := .list) PySem.F.plainAttrs_list PySem.F.slot_list_append PySem.F.type_list_append m_append (ce_var 4) (ca_cons ce_dict0 ca_nil)))) cs_nil)
  (cs_cons (cs_if (ct_cmp (o_eq hr.units) (ce_ix (o_ix (hu_of hr)) (ce_var 7) ce_int) ce_str) (cs_one (cs_asg (ce_ix (o_ix (hu_of hr)) (ce_var 7) ce_int) (cg_sub (ce_var 5) (ce_ix (o_ix (hu_of hr)) (ce_var 7) ce_int) (p_set (hu_of hr)) (pg_sub (ce_var 5) (ce_ix (o_ix (hu_of hr)) (ce_var 7) ce_int) (p_set (hu_of hr)))))) cs_nil)
  (cs_cons (cs_if (ct_cmp (o_eq hr.units) (ce_ix (o_ix (hu_of hr)) (ce_var 7) ce_int) ce_str) (cs_one (cs_expr (ce_bm (t := .list) PySem.F.plainAttrs_list PySem.F.slot_list_append PySem.F.type_list_append m_append (ce_var 6) (ca_cons (ce_ix (o_ix (hu_of hr)) (ce_var 7) ce_int) ca_nil)))) cs_nil)
  (cs_one (cs_if (ct_cmp (o_eq hr.units) (ce_ix (o_ix (hu_of hr)) (ce_var 7) ce_int) ce_str) (cs_one (cs_asg (ce_ix (o_ix (hu_of hr)) (ce_var 7) ce_int) (cg_sub (ce_ix (o_ix (hu_of hr)) (ce_var 4) (ce_ix (o_ix (hu_of hr)) (ce_var 7) ce_int)) (ce_ix (o_ix (hu_of hr)) (ce_var 7) ce_int) (p_set (hu_of hr)) (pg_sub (ce_ix (o_ix (hu_of hr)) (ce_var 4) (ce_ix (o_ix (hu_of hr)) (ce_var 7) ce_int)) (ce_ix (o_ix (hu_of hr)) (ce_var 7) ce_int) (p_set (hu_of hr)))))) cs_nil))))))))
  (cs_cons (cs_setLc (i := 3) (own := [("_law_row", 8)]) 100000 rfl sc__law_heap.nd rfl rfl (sw_true rfl rfl rfl (by kernel_rfl)) (ci_lst (ce_var 4)) (blkOk_by (by kernel_rfl)) (tg_name (List.mem_cons_self ..)) (fun _ _ _ _ _ => pg_name (i := 8) sc__law_heap.nd rfl (Or.inl rfl)) (fun _ _ _ _ _ => cts_nil) (fun _ _ _ _ _ => (ce_lc (own := [("_law_cell", 9)]) 100000 rfl sc__law_heap.nd (ci_lst (ce_listVals rfl rfl X.n_list (ce_var 8))) (blkOk_by (by kernel_rfl)) (tg_name (List.mem_cons_self ..)) (fun _ _ _ _ _ => pg_name (i := 9) sc__law_heap.nd rfl (Or.inl rfl)) (fun _ _ _ _ _ => (cts_one (ct_cmp o_notN (ce_var 9) ce_non))) (fun _ _ _ _ _ => (ce_var 9)))))
  (cs_one (cs_ret (ce_tup (ca_cons (ce_var 3) (ca_cons (ce_op o_add (ce_var 6) (ce_lc (own := [("_law_cell", 9)]) 100000 rfl sc__law_heap.nd (ci_lst (ce_listVals rfl rfl X.n_list (ce_var 5))) (blkOk_by (by kernel_rfl)) (tg_name (List.mem_cons_self ..)) (fun _ _ _ _ _ => pg_name (i := 9) sc__law_heap.nd rfl (Or.inl rfl)) (fun _ _ _ _ _ => (cts_one (ct_cmp o_notN (ce_var 9) ce_non))) (fun _ _ _ _ _ => (ce_var 9)))) ca_nil))))))))
theorem sc__law_closed : FnScope ["_law_held", "_law_starts", "_law_found", "_law_turn", "_law_more", "_law_cell"] ["_law_held", "_law_starts"] (defScope st__law_closed) := ⟨rfl, rfl, rfl, by decide +kernel, rfl, by decide +kernel, by decide +kernel⟩
theorem sim__law_closed {P : Program} {w : World} {K : PySem.W.Frag} {mg : Str → Option Value} {base : Heap} (X : TX K mg) : FnG P w K mg base 1 X.f__law_closed X.d__law_closed ["_law_held", "_law_starts"] (SpM (X.T w) 2 m__law_closed) := by
  refine fn_sim (k := 0) (N := ["_law_held", "_law_starts", "_law_found", "_law_turn", "_law_more", "_law_cell"]) (T := X.T w) (b := b__law_closed) X.F__law_closed sc__law_closed rfl fun cdv A outer s H E hr hg => ?_
  have tk := takes_of (X := cxOf (L2.CX P w) P w K mg base ["_law_held", "_law_starts", "_law_found", "_law_turn", "_law_more", "_law_cell"] "_law_closed" (defScope st__law_closed) X.f__law_closed cdv A outer s H E) (E := E) rfl rfl rfl rfl
  unfold b__law_closed
  exact (cs_cons (cs_set (i := 2) sc__law_closed.nd rfl (by first | exact Or.inl rfl | exact Or.inr rfl) (ce_callB (c_sortS) rfl X.n_sorted (by decide +kernel) (ca_cons (ce_callTy (c_set) rfl X.n_set (by decide +kernel) (ca_cons (ce_var 1) ca_nil)) ca_nil)))
  (cs_cons (cs_forX (passes_of rfl) rfl (ci_rng1 rfl X.n_range (ca_cons (ce_callB (c_len) rfl X.n_len (by decide +kernel) (ca_cons (ce_var 0) ca_nil)) ca_nil)) (cg_name (n := 3) sc__law_closed.nd rfl (by first | exact Or.inl rfl | exact Or.inr rfl))
  (cs_cons (cs_set (i := 4) sc__law_closed.nd rfl (by first | exact Or.inl rfl | exact Or.inr rfl) (ce_callTy (c_list) rfl X.n_list (by decide +kernel) (ca_cons (ce_var 2) ca_nil)))
  (cs_cons (cs_for 100000 (passes_of rfl) rfl (ci_lst (ce_var 2)) (cg_name (n := 5) sc__law_closed.nd rfl (by first | exact Or.inl rfl | exact Or.inr rfl))
  (cs_one (cs_expr (ce_bm (t := .list) PySem.F.plainAttrs_list PySem.F.slot_list_extend PySem.F.type_list_extend m_extend (ce_var 4) (ca_cons (ce_ix (o_ix (hu_of hr)) (ce_var 0) (ce_var 5)) ca_nil)))))
  (cs_one (cs_set (i := 2) sc__law_closed.nd rfl (by first | exact Or.inl rfl | exact Or.inr rfl) (ce_callB (c_sortS) rfl X.n_sorted (by decide +kernel) (ca_cons (ce_callTy (c_set) rfl X.n_set (by decide +kernel) (ca_cons (ce_var 4) ca_nil)) ca_nil)))))))
  (cs_one (cs_ret (ce_var 2)))))
theorem sc__law_moment_right : FnScope ["_law_story_here", "_law_moment", "_law_cell", "_law_held", "_law_starts", "_law_due", "_law_other"] ["_law_story_here", "_law_moment"] (defScope st__law_moment_right) := ⟨rfl, rfl, rfl, by decide +kernel, rfl, by decide +kernel, by decide +kernel⟩
theorem sim__law_moment_right {P : Program} {w : World} {K : PySem.W.Frag} {mg : Str → Option Value} {base : Heap} (X : TX K mg) : FnG P w K mg base 5 X.f__law_moment_right X.d__law_moment_right ["_law_story_here", "_law_moment"] (SpM (X.T w) 2 m__law_moment_right) := by
  refine fn_sim (k := 4) (N := ["_law_story_here", "_law_moment", "_law_cell", "_law_held", "_law_starts", "_law_due", "_law_other"]) (T := X.T w) (b := b__law_moment_right) X.F__law_moment_right sc__law_moment_right rfl fun cdv A outer s H E hr hg => ?_
  have tk := takes_of (X := cxOf (L2.CX P w) P w K mg base ["_law_story_here", "_law_moment", "_law_cell", "_law_held", "_law_starts", "_law_due", "_law_other"] "_law_moment_right" (defScope st__law_moment_right) X.f__law_moment_right cdv A outer s H E) (E := E) rfl rfl rfl rfl
  unfold b__law_moment_right
  exact (cs_cons (cs_asg (ce_call (sim__law_heap X) (hr.mono (by decide)) hg rfl X.g__law_heap X.F__law_heap.kp X.b__law_heap tk (ca_cons (ce_var 0) (ca_cons (ce_var 1) ca_nil))) (cg_tup (js := [3, 4]) (pg_tup rfl (pgs_cons (pg_name (i := 3) sc__law_moment_right.nd rfl (by first | exact Or.inl rfl | exact Or.inr rfl)) (pgs_cons (pg_name (i := 4) sc__law_moment_right.nd rfl (by first | exact Or.inl rfl | exact Or.inr rfl)) pgs_nil)))))
  (cs_cons (cs_if (ct_cmp (o_ne hr.units) (ce_callB (c_repr hg hr.units) rfl X.n_repr (by decide +kernel) (ca_cons (ce_call (sim_cells_at X) (hr.mono (by decide)) hg rfl X.g_cells_at X.F_cells_at.kp X.b_cells_at tk (ca_cons (ce_var 0) (ca_cons (ce_var 1) ca_nil))) ca_nil)) (ce_callB (c_repr hg hr.units) rfl X.n_repr (by decide +kernel) (ca_cons (ce_callB (c_len) rfl X.n_len (by decide +kernel) (ca_cons (ce_var 3) ca_nil)) ca_nil))) (cs_one (cs_ret ce_bl)) cs_nil)
  (cs_cons (cs_if (ct_cmp (o_ne hr.units) (ce_callB (c_repr hg hr.units) rfl X.n_repr (by decide +kernel) (ca_cons (ce_call (sim_reached_at X) (hr.mono (by decide)) hg rfl X.g_reached_at X.F_reached_at.kp X.b_reached_at tk (ca_cons (ce_var 0) (ca_cons (ce_var 1) ca_nil))) ca_nil)) (ce_callB (c_repr hg hr.units) rfl X.n_repr (by decide +kernel) (ca_cons (ce_callTy (c_tuple) rfl X.n_tuple (by decide +kernel) (ca_cons (ce_call (sim__law_closed X) (hr.mono (by decide)) hg rfl X.g__law_closed X.F__law_closed.kp X.b__law_closed tk (ca_cons (ce_var 3) (ca_cons (ce_var 4) ca_nil))) ca_nil)) ca_nil))) (cs_one (cs_ret ce_bl)) cs_nil)
  (cs_cons (cs_forX (passes_of rfl) rfl (ci_rng1 rfl X.n_range (ca_cons (ce_callB (c_len) rfl X.n_len (by decide +kernel) (ca_cons (ce_var 3) ca_nil)) ca_nil)) (cg_name (n := 2) sc__law_moment_right.nd rfl (by first | exact Or.inl rfl | exact Or.inr rfl))
  (cs_cons (cs_set (i := 5) sc__law_moment_right.nd rfl (by first | exact Or.inl rfl | exact Or.inr rfl) (ce_callTy (c_tuple) rfl X.n_tuple (by decide +kernel) (ca_cons (ce_lcX (own := [("_law_other", 6)]) rfl sc__law_moment_right.nd (ci_rng1 rfl X.n_range (ca_cons (ce_callB (c_len) rfl X.n_len (by decide +kernel) (ca_cons (ce_var 3) ca_nil)) ca_nil)) (blkOk_by (by kernel_rfl)) (tg_name (List.mem_cons_self ..)) (fun _ _ _ _ _ => pg_name (i := 6) sc__law_moment_right.nd rfl (Or.inl rfl)) (fun _ _ _ _ _ => (cts_one (ct_cmp (o_in (hu_of hr)) (ce_var 2) (ce_call (sim__law_closed X) (hr.mono (by decide)) hg rfl X.g__law_closed X.F__law_closed.kp X.b__law_closed takes0 (ca_cons (ce_var 3) (ca_cons (ce_lst (ca_cons (ce_var 6) ca_nil)) ca_nil)))))) (fun _ _ _ _ _ => (ce_var 6))) ca_nil)))
  (cs_one (cs_if (ct_cmp (o_ne hr.units) (ce_callB (c_repr hg hr.units) rfl X.n_repr (by decide +kernel) (ca_cons (ce_call (sim_comers X) (hr.mono (by decide)) hg rfl X.g_comers X.F_comers.kp X.b_comers tk (ca_cons (ce_var 0) (ca_cons (ce_var 1) (ca_cons (ce_var 2) ca_nil)))) ca_nil)) (ce_callB (c_repr hg hr.units) rfl X.n_repr (by decide +kernel) (ca_cons (ce_var 5) ca_nil))) (cs_one (cs_ret ce_bl)) cs_nil))))
  (cs_one (cs_ret ce_bl))))))
theorem sc_law : FnScope ["_law_script", "_law_deck_here", "_law_turn", "_law_story_here", "_law_kept", "_law_moment"] ["_law_script"] (defScope st_law) := ⟨rfl, rfl, rfl, by decide +kernel, rfl, by decide +kernel, by decide +kernel⟩
theorem sim_law {P : Program} {w : World} {K : PySem.W.Frag} {mg : Str → Option Value} {base : Heap} (X : TX K mg) : FnG P w K mg base 6 X.f_law X.d_law ["_law_script"] (SpM (X.T w) 1 m_law) := by
  refine fn_sim (k := 5) (N := ["_law_script", "_law_deck_here", "_law_turn", "_law_story_here", "_law_kept", "_law_moment"]) (T := X.T w) (b := b_law) X.F_law sc_law rfl fun cdv A outer s H E hr hg => ?_
  have tk := takes_of (X := cxOf (L2.CX P w) P w K mg base ["_law_script", "_law_deck_here", "_law_turn", "_law_story_here", "_law_kept", "_law_moment"] "law" (defScope st_law) X.f_law cdv A outer s H E) (E := E) rfl rfl rfl rfl
  unfold b_law
  exact (cs_cons (cs_set (i := 1) sc_law.nd rfl (by first | exact Or.inl rfl | exact Or.inr rfl) (ce_call (sim__law_deck X) (hr.mono (by decide)) hg rfl X.g__law_deck X.F__law_deck.kp X.b__law_deck tk (ca_cons (ce_var 0) ca_nil)))
  (cs_cons (cs_forX (passes_of rfl) rfl (ci_rng1 rfl X.n_range (ca_cons ce_int ca_nil)) (cg_name (n := 2) sc_law.nd rfl (by first | exact Or.inl rfl | exact Or.inr rfl))
  (cs_cons (cs_set (i := 3) sc_law.nd rfl (by first | exact Or.inl rfl | exact Or.inr rfl) (ce_call (sim__law_story X) (hr.mono (by decide)) hg rfl X.g__law_story X.F__law_story.kp X.b__law_story tk (ca_cons (ce_var 1) (ca_cons (ce_op o_add ce_int (ce_call (sim__law_draw X) (hr.mono (by decide)) hg rfl X.g__law_draw X.F__law_draw.kp X.b__law_draw tk (ca_cons (ce_var 1) (ca_cons ce_int ca_nil)))) (ca_cons (ce_call (sim__law_draw X) (hr.mono (by decide)) hg rfl X.g__law_draw X.F__law_draw.kp X.b__law_draw tk (ca_cons (ce_var 1) (ca_cons ce_int ca_nil))) ca_nil)))))
  (cs_cons (cs_set (i := 4) sc_law.nd rfl (by first | exact Or.inl rfl | exact Or.inr rfl) (ce_callB (c_repr hg hr.units) rfl X.n_repr (by decide +kernel) (ca_cons (ce_var 3) ca_nil)))
  (cs_cons (cs_if (ct_not (ct_val (ce_callB (c_all) rfl X.n_all (by decide +kernel) (ca_cons (ce_lcX (own := [("_law_moment", 5)]) rfl sc_law.nd (ci_rng1 rfl X.n_range (ca_cons (ce_op o_add (ce_callB (c_len) rfl X.n_len (by decide +kernel) (ca_cons (ce_var 3) ca_nil)) ce_int) ca_nil)) (blkOk_by (by kernel_rfl)) (tg_name (List.mem_cons_self ..)) (fun _ _ _ _ _ => pg_name (i := 5) sc_law.nd rfl (Or.inl rfl)) (fun _ _ _ _ _ => cts_nil) (fun _ _ _ _ _ => (ce_call (sim__law_moment_right X) (hr.mono (by decide)) hg rfl X.g__law_moment_right X.F__law_moment_right.kp X.b__law_moment_right takes0 (ca_cons (ce_var 3) (ca_cons (ce_var 5) ca_nil))))) ca_nil)))) (cs_one (cs_ret ce_bl)) cs_nil)
  (cs_one (cs_if (ct_cmp (o_ne hr.units) (ce_callB (c_repr hg hr.units) rfl X.n_repr (by decide +kernel) (ca_cons (ce_var 3) ca_nil)) (ce_var 4)) (cs_one (cs_ret ce_bl)) cs_nil))))))
  (cs_one (cs_ret ce_bl))))
end K30

namespace K30
open PySem PySem.Spec PyProof.Rows L2 Sm
theorem all_mk {l : PySem.W.OpenLaw} {w : World} {K : PySem.W.Frag} {h : Heap} {mg : Str → Option Value} {fa f_HeapU_initU f_Heap_apply f_Heap_held_lists f_Heap_reached_flags f_heap_at f_cells_at f_reached_at f_comers f__law_deck f__law_draw f__law_one f__law_event f__law_story f__law_heap f__law_closed f__law_moment_right f_law C_Heap : Addr} (X : K.In h) (G : h.Ns mainGlobals mg) (hfa : mg "law" = some (.ref fa))
    {od_HeapU_initU an_HeapU_initU od_Heap_apply an_Heap_apply od_Heap_held_lists an_Heap_held_lists od_Heap_reached_flags an_Heap_reached_flags od_heap_at an_heap_at od_cells_at an_cells_at od_reached_at an_reached_at od_comers an_comers od__law_deck an__law_deck od__law_draw an__law_draw od__law_one an__law_one od__law_event an__law_event od__law_story an__law_story od__law_heap an__law_heap od__law_closed an__law_closed od__law_moment_right an__law_moment_right od_law an_law : Option Addr} {sl_HeapU_initU sl_Heap_apply sl_Heap_held_lists sl_Heap_reached_flags sl_heap_at sl_cells_at sl_reached_at sl_comers sl__law_deck sl__law_draw sl__law_one sl__law_event sl__law_story sl__law_heap sl__law_closed sl__law_moment_right sl_law : Array (Option Value)} {oc_HeapU_initU kV_HeapU_initU dc_HeapU_initU pm_HeapU_initU cd_HeapU_initU ct_HeapU_initU oc_Heap_apply kV_Heap_apply dc_Heap_apply pm_Heap_apply cd_Heap_apply ct_Heap_apply oc_Heap_held_lists kV_Heap_held_lists dc_Heap_held_lists pm_Heap_held_lists cd_Heap_held_lists ct_Heap_held_lists oc_Heap_reached_flags kV_Heap_reached_flags dc_Heap_reached_flags pm_Heap_reached_flags cd_Heap_reached_flags ct_Heap_reached_flags oc_heap_at kV_heap_at dc_heap_at pm_heap_at cd_heap_at ct_heap_at oc_cells_at kV_cells_at dc_cells_at pm_cells_at cd_cells_at ct_cells_at oc_reached_at kV_reached_at dc_reached_at pm_reached_at cd_reached_at ct_reached_at oc_comers kV_comers dc_comers pm_comers cd_comers ct_comers oc__law_deck kV__law_deck dc__law_deck pm__law_deck cd__law_deck ct__law_deck oc__law_draw kV__law_draw dc__law_draw pm__law_draw cd__law_draw ct__law_draw oc__law_one kV__law_one dc__law_one pm__law_one cd__law_one ct__law_one oc__law_event kV__law_event dc__law_event pm__law_event cd__law_event ct__law_event oc__law_story kV__law_story dc__law_story pm__law_story cd__law_story ct__law_story oc__law_heap kV__law_heap dc__law_heap pm__law_heap cd__law_heap ct__law_heap oc__law_closed kV__law_closed dc__law_closed pm__law_closed cd__law_closed ct__law_closed oc__law_moment_right kV__law_moment_right dc__law_moment_right pm__law_moment_right cd__law_moment_right ct__law_moment_right oc_law kV_law dc_law pm_law cd_law ct_law : Value}
    (aC_Heap : PySem.W.nsIn K mainGlobals "Heap" = some (some (.ref C_Heap)))
    (a_heap_at : PySem.W.nsIn K mainGlobals "heap_at" = some (some (.ref f_heap_at)))
    (a_cells_at : PySem.W.nsIn K mainGlobals "cells_at" = some (some (.ref f_cells_at)))
    (a_reached_at : PySem.W.nsIn K mainGlobals "reached_at" = some (some (.ref f_reached_at)))
    (a_comers : PySem.W.nsIn K mainGlobals "comers" = some (some (.ref f_comers)))
    (a__law_deck : PySem.W.nsIn K mainGlobals "_law_deck" = some (some (.ref f__law_deck)))
    (a__law_draw : PySem.W.nsIn K mainGlobals "_law_draw" = some (some (.ref f__law_draw)))
    (a__law_one : PySem.W.nsIn K mainGlobals "_law_one" = some (some (.ref f__law_one)))
    (a__law_event : PySem.W.nsIn K mainGlobals "_law_event" = some (some (.ref f__law_event)))
    (a__law_story : PySem.W.nsIn K mainGlobals "_law_story" = some (some (.ref f__law_story)))
    (a__law_heap : PySem.W.nsIn K mainGlobals "_law_heap" = some (some (.ref f__law_heap)))
    (a__law_closed : PySem.W.nsIn K mainGlobals "_law_closed" = some (some (.ref f__law_closed)))
    (a__law_moment_right : PySem.W.nsIn K mainGlobals "_law_moment_right" = some (some (.ref f__law_moment_right)))
    (a_law : PySem.W.nsIn K mainGlobals "law" = some (some (.ref f_law)))
    (in_Heap : PySem.W.findIn K (.ref C_Heap) "__init__" = some (some (.ref f_HeapU_initU)))
    (ma_Heap_apply : PySem.W.findIn K (.ref C_Heap) "apply" = some (some (.ref f_Heap_apply)))
    (ma_Heap_held_lists : PySem.W.findIn K (.ref C_Heap) "held_lists" = some (some (.ref f_Heap_held_lists)))
    (ma_Heap_reached_flags : PySem.W.findIn K (.ref C_Heap) "reached_flags" = some (some (.ref f_Heap_reached_flags)))
    (l_HeapU_initU : K.lookup f_HeapU_initU = some ⟨oc_HeapU_initU, od_HeapU_initU, .func (PySem.W.fnOf "__init__" "Heap.__init__" (defArgs st_HeapU_initU) (defBody st_HeapU_initU) (defScope st_HeapU_initU) .none kV_HeapU_initU dc_HeapU_initU pm_HeapU_initU an_HeapU_initU cd_HeapU_initU ct_HeapU_initU), sl_HeapU_initU⟩)
    (c_HeapU_initU : PySem.W.codeIn K cd_HeapU_initU "Heap.__init__" = true)
    (k_HeapU_initU : PySem.W.keepIn K (.ref f_HeapU_initU) = true)
    (l_Heap_apply : K.lookup f_Heap_apply = some ⟨oc_Heap_apply, od_Heap_apply, .func (PySem.W.fnOf "apply" "Heap.apply" (defArgs st_Heap_apply) (defBody st_Heap_apply) (defScope st_Heap_apply) .none kV_Heap_apply dc_Heap_apply pm_Heap_apply an_Heap_apply cd_Heap_apply ct_Heap_apply), sl_Heap_apply⟩)
    (c_Heap_apply : PySem.W.codeIn K cd_Heap_apply "Heap.apply" = true)
    (k_Heap_apply : PySem.W.keepIn K (.ref f_Heap_apply) = true)
    (l_Heap_held_lists : K.lookup f_Heap_held_lists = some ⟨oc_Heap_held_lists, od_Heap_held_lists, .func (PySem.W.fnOf "held_lists" "Heap.held_lists" (defArgs st_Heap_held_lists) (defBody st_Heap_held_lists) (defScope st_Heap_held_lists) .none kV_Heap_held_lists dc_Heap_held_lists pm_Heap_held_lists an_Heap_held_lists cd_Heap_held_lists ct_Heap_held_lists), sl_Heap_held_lists⟩)
    (c_Heap_held_lists : PySem.W.codeIn K cd_Heap_held_lists "Heap.held_lists" = true)
    (k_Heap_held_lists : PySem.W.keepIn K (.ref f_Heap_held_lists) = true)
    (l_Heap_reached_flags : K.lookup f_Heap_reached_flags = some ⟨oc_Heap_reached_flags, od_Heap_reached_flags, .func (PySem.W.fnOf "reached_flags" "Heap.reached_flags" (defArgs st_Heap_reached_flags) (defBody st_Heap_reached_flags) (defScope st_Heap_reached_flags) .none kV_Heap_reached_flags dc_Heap_reached_flags pm_Heap_reached_flags an_Heap_reached_flags cd_Heap_reached_flags ct_Heap_reached_flags), sl_Heap_reached_flags⟩)
    (c_Heap_reached_flags : PySem.W.codeIn K cd_Heap_reached_flags "Heap.reached_flags" = true)
    (k_Heap_reached_flags : PySem.W.keepIn K (.ref f_Heap_reached_flags) = true)
    (l_heap_at : K.lookup f_heap_at = some ⟨oc_heap_at, od_heap_at, .func (PySem.W.fnOf "heap_at" "heap_at" (defArgs st_heap_at) (defBody st_heap_at) (defScope st_heap_at) .none kV_heap_at dc_heap_at pm_heap_at an_heap_at cd_heap_at ct_heap_at), sl_heap_at⟩)
    (c_heap_at : PySem.W.codeIn K cd_heap_at "heap_at" = true)
    (k_heap_at : PySem.W.keepIn K (.ref f_heap_at) = true)
    (l_cells_at : K.lookup f_cells_at = some ⟨oc_cells_at, od_cells_at, .func (PySem.W.fnOf "cells_at" "cells_at" (defArgs st_cells_at) (defBody st_cells_at) (defScope st_cells_at) .none kV_cells_at dc_cells_at pm_cells_at an_cells_at cd_cells_at ct_cells_at), sl_cells_at⟩)
    (c_cells_at : PySem.W.codeIn K cd_cells_at "cells_at" = true)
    (k_cells_at : PySem.W.keepIn K (.ref f_cells_at) = true)
    (l_reached_at : K.lookup f_reached_at = some ⟨oc_reached_at, od_reached_at, .func (PySem.W.fnOf "reached_at" "reached_at" (defArgs st_reached_at) (defBody st_reached_at) (defScope st_reached_at) .none kV_reached_at dc_reached_at pm_reached_at an_reached_at cd_reached_at ct_reached_at), sl_reached_at⟩)
    (c_reached_at : PySem.W.codeIn K cd_reached_at "reached_at" = true)
    (k_reached_at : PySem.W.keepIn K (.ref f_reached_at) = true)
    (l_comers : K.lookup f_comers = some ⟨oc_comers, od_comers, .func (PySem.W.fnOf "comers" "comers" (defArgs st_comers) (defBody st_comers) (defScope st_comers) .none kV_comers dc_comers pm_comers an_comers cd_comers ct_comers), sl_comers⟩)
    (c_comers : PySem.W.codeIn K cd_comers "comers" = true)
    (k_comers : PySem.W.keepIn K (.ref f_comers) = true)
    (l__law_deck : K.lookup f__law_deck = some ⟨oc__law_deck, od__law_deck, .func (PySem.W.fnOf "_law_deck" "_law_deck" (defArgs st__law_deck) (defBody st__law_deck) (defScope st__law_deck) .none kV__law_deck dc__law_deck pm__law_deck an__law_deck cd__law_deck ct__law_deck), sl__law_deck⟩)
    (c__law_deck : PySem.W.codeIn K cd__law_deck "_law_deck" = true)
    (k__law_deck : PySem.W.keepIn K (.ref f__law_deck) = true)
    (l__law_draw : K.lookup f__law_draw = some ⟨oc__law_draw, od__law_draw, .func (PySem.W.fnOf "_law_draw" "_law_draw" (defArgs st__law_draw) (defBody st__law_draw) (defScope st__law_draw) .none kV__law_draw dc__law_draw pm__law_draw an__law_draw cd__law_draw ct__law_draw), sl__law_draw⟩)
    (c__law_draw : PySem.W.codeIn K cd__law_draw "_law_draw" = true)
    (k__law_draw : PySem.W.keepIn K (.ref f__law_draw) = true)
    (l__law_one : K.lookup f__law_one = some ⟨oc__law_one, od__law_one, .func (PySem.W.fnOf "_law_one" "_law_one" (defArgs st__law_one) (defBody st__law_one) (defScope st__law_one) .none kV__law_one dc__law_one pm__law_one an__law_one cd__law_one ct__law_one), sl__law_one⟩)
    (c__law_one : PySem.W.codeIn K cd__law_one "_law_one" = true)
    (k__law_one : PySem.W.keepIn K (.ref f__law_one) = true)
    (l__law_event : K.lookup f__law_event = some ⟨oc__law_event, od__law_event, .func (PySem.W.fnOf "_law_event" "_law_event" (defArgs st__law_event) (defBody st__law_event) (defScope st__law_event) .none kV__law_event dc__law_event pm__law_event an__law_event cd__law_event ct__law_event), sl__law_event⟩)
    (c__law_event : PySem.W.codeIn K cd__law_event "_law_event" = true)
    (k__law_event : PySem.W.keepIn K (.ref f__law_event) = true)
    (l__law_story : K.lookup f__law_story = some ⟨oc__law_story, od__law_story, .func (PySem.W.fnOf "_law_story" "_law_story" (defArgs st__law_story) (defBody st__law_story) (defScope st__law_story) .none kV__law_story dc__law_story pm__law_story an__law_story cd__law_story ct__law_story), sl__law_story⟩)
    (c__law_story : PySem.W.codeIn K cd__law_story "_law_story" = true)
    (k__law_story : PySem.W.keepIn K (.ref f__law_story) = true)
    (l__law_heap : K.lookup f__law_heap = some ⟨oc__law_heap, od__law_heap, .func (PySem.W.fnOf "_law_heap" "_law_heap" (defArgs st__law_heap) (defBody st__law_heap) (defScope st__law_heap) .none kV__law_heap dc__law_heap pm__law_heap an__law_heap cd__law_heap ct__law_heap), sl__law_heap⟩)
    (c__law_heap : PySem.W.codeIn K cd__law_heap "_law_heap" = true)
    (k__law_heap : PySem.W.keepIn K (.ref f__law_heap) = true)
    (l__law_closed : K.lookup f__law_closed = some ⟨oc__law_closed, od__law_closed, .func (PySem.W.fnOf "_law_closed" "_law_closed" (defArgs st__law_closed) (defBody st__law_closed) (defScope st__law_closed) .none kV__law_closed dc__law_closed pm__law_closed an__law_closed cd__law_closed ct__law_closed), sl__law_closed⟩)
    (c__law_closed : PySem.W.codeIn K cd__law_closed "_law_closed" = true)
    (k__law_closed : PySem.W.keepIn K (.ref f__law_closed) = true)
    (l__law_moment_right : K.lookup f__law_moment_right = some ⟨oc__law_moment_right, od__law_moment_right, .func (PySem.W.fnOf "_law_moment_right" "_law_moment_right" (defArgs st__law_moment_right) (defBody st__law_moment_right) (defScope st__law_moment_right) .none kV__law_moment_right dc__law_moment_right pm__law_moment_right an__law_moment_right cd__law_moment_right ct__law_moment_right), sl__law_moment_right⟩)
    (c__law_moment_right : PySem.W.codeIn K cd__law_moment_right "_law_moment_right" = true)
    (k__law_moment_right : PySem.W.keepIn K (.ref f__law_moment_right) = true)
    (l_law : K.lookup f_law = some ⟨oc_law, od_law, .func (PySem.W.fnOf "law" "law" (defArgs st_law) (defBody st_law) (defScope st_law) .none kV_law dc_law pm_law an_law cd_law ct_law), sl_law⟩)
    (c_law : PySem.W.codeIn K cd_law "law" = true)
    (k_law : PySem.W.keepIn K (.ref f_law) = true)
    (pg_Heap : PySem.W.plainGet K C_Heap Str.empty = true)
    (hd_Heap : PySem.W.hasDictIn K C_Heap = true)
    (po_Heap : PySem.W.plainOver K C_Heap = true)
    (sa_Heap : PySem.W.findIn K (.ref C_Heap) "__setattr__" = some (some (.builtin "object.__setattr__")))
    (mm_Heap : PySem.W.makesIn K C_Heap = true)
    (kc_Heap : PySem.W.keepIn K (.ref C_Heap) = true)
    (ii_Heap : PySem.W.isFn K (.ref f_HeapU_initU) = true)
    (na_Heap_kept_cells : PySem.W.findIn K (.ref C_Heap) "kept_cells" = some none)
    (na_Heap_standing : PySem.W.findIn K (.ref C_Heap) "standing" = some none)
    (na_Heap_strong : PySem.W.findIn K (.ref C_Heap) "strong" = some none)
    (mi_Heap_apply : PySem.W.isFn K (.ref f_Heap_apply) = true)
    (mi_Heap_held_lists : PySem.W.isFn K (.ref f_Heap_held_lists) = true)
    (mi_Heap_reached_flags : PySem.W.isFn K (.ref f_Heap_reached_flags) = true)
    (z_abs : PySem.W.nsIn K mainGlobals "abs" = some none)
    (z_all : PySem.W.nsIn K mainGlobals "all" = some none)
    (z_enumerate : PySem.W.nsIn K mainGlobals "enumerate" = some none)
    (z_int : PySem.W.nsIn K mainGlobals "int" = some none)
    (z_len : PySem.W.nsIn K mainGlobals "len" = some none)
    (z_list : PySem.W.nsIn K mainGlobals "list" = some none)
    (z_max : PySem.W.nsIn K mainGlobals "max" = some none)
    (z_range : PySem.W.nsIn K mainGlobals "range" = some none)
    (z_repr : PySem.W.nsIn K mainGlobals "repr" = some none)
    (z_set : PySem.W.nsIn K mainGlobals "set" = some none)
    (z_sorted : PySem.W.nsIn K mainGlobals "sorted" = some none)
    (z_tuple : PySem.W.nsIn K mainGlobals "tuple" = some none) :
    ∃ (T : Tb) (fd : FuncData), T.K = K ∧ (∀ (s : Shared) (u : Value), BindsTo s fd ⟨[u], []⟩ [("_law_script", u)]) ∧ ∀ base : Heap, T.K.In base → base.Ns mainGlobals mg → FnG l.prog w T.K mg base 6 fa fd ["_law_script"] (SpM T 1 m_law) := by
  have e := hfa.symm.trans (PySem.W.mg_of X G a_law)
  cases e
  have F_HeapU_initU := fun_mk (st := st_HeapU_initU) l_HeapU_initU c_HeapU_initU k_HeapU_initU
  have b_HeapU_initU := F_HeapU_initU.binds (ps := ["self"]) fun _ _ _ _ _ _ us hl => match us, hl with | [_], _ => rfl
  have F_Heap_apply := fun_mk (st := st_Heap_apply) l_Heap_apply c_Heap_apply k_Heap_apply
  have b_Heap_apply := F_Heap_apply.binds (ps := ["self", "item"]) fun _ _ _ _ _ _ us hl => match us, hl with | [_, _], _ => rfl
  have F_Heap_held_lists := fun_mk (st := st_Heap_held_lists) l_Heap_held_lists c_Heap_held_lists k_Heap_held_lists
  have b_Heap_held_lists := F_Heap_held_lists.binds (ps := ["self"]) fun _ _ _ _ _ _ us hl => match us, hl with | [_], _ => rfl
  have F_Heap_reached_flags := fun_mk (st := st_Heap_reached_flags) l_Heap_reached_flags c_Heap_reached_flags k_Heap_reached_flags
  have b_Heap_reached_flags := F_Heap_reached_flags.binds (ps := ["self", "held"]) fun _ _ _ _ _ _ us hl => match us, hl with | [_, _], _ => rfl
  have F_heap_at := fun_mk (st := st_heap_at) l_heap_at c_heap_at k_heap_at
  have b_heap_at := F_heap_at.binds (ps := ["story", "moment"]) fun _ _ _ _ _ _ us hl => match us, hl with | [_, _], _ => rfl
  have F_cells_at := fun_mk (st := st_cells_at) l_cells_at c_cells_at k_cells_at
  have b_cells_at := F_cells_at.binds (ps := ["story", "moment"]) fun _ _ _ _ _ _ us hl => match us, hl with | [_, _], _ => rfl
  have F_reached_at := fun_mk (st := st_reached_at) l_reached_at c_reached_at k_reached_at
  have b_reached_at := F_reached_at.binds (ps := ["story", "moment"]) fun _ _ _ _ _ _ us hl => match us, hl with | [_, _], _ => rfl
  have F_comers := fun_mk (st := st_comers) l_comers c_comers k_comers
  have b_comers := F_comers.binds (ps := ["story", "moment", "cell"]) fun _ _ _ _ _ _ us hl => match us, hl with | [_, _, _], _ => rfl
  have F__law_deck := fun_mk (st := st__law_deck) l__law_deck c__law_deck k__law_deck
  have b__law_deck := F__law_deck.binds (ps := ["_law_script"]) fun _ _ _ _ _ _ us hl => match us, hl with | [_], _ => rfl
  have F__law_draw := fun_mk (st := st__law_draw) l__law_draw c__law_draw k__law_draw
  have b__law_draw := F__law_draw.binds (ps := ["_law_deck_here", "_law_many"]) fun _ _ _ _ _ _ us hl => match us, hl with | [_, _], _ => rfl
  have F__law_one := fun_mk (st := st__law_one) l__law_one c__law_one k__law_one
  have b__law_one := F__law_one.binds (ps := ["_law_deck_here", "_law_items"]) fun _ _ _ _ _ _ us hl => match us, hl with | [_, _], _ => rfl
  have F__law_event := fun_mk (st := st__law_event) l__law_event c__law_event k__law_event
  have b__law_event := F__law_event.binds (ps := ["_law_deck_here", "_law_cells"]) fun _ _ _ _ _ _ us hl => match us, hl with | [_, _], _ => rfl
  have F__law_story := fun_mk (st := st__law_story) l__law_story c__law_story k__law_story
  have b__law_story := F__law_story.binds (ps := ["_law_deck_here", "_law_most", "_law_items"]) fun _ _ _ _ _ _ us hl => match us, hl with | [_, _, _], _ => rfl
  have F__law_heap := fun_mk (st := st__law_heap) l__law_heap c__law_heap k__law_heap
  have b__law_heap := F__law_heap.binds (ps := ["_law_story_here", "_law_moment"]) fun _ _ _ _ _ _ us hl => match us, hl with | [_, _], _ => rfl
  have F__law_closed := fun_mk (st := st__law_closed) l__law_closed c__law_closed k__law_closed
  have b__law_closed := F__law_closed.binds (ps := ["_law_held", "_law_starts"]) fun _ _ _ _ _ _ us hl => match us, hl with | [_, _], _ => rfl
  have F__law_moment_right := fun_mk (st := st__law_moment_right) l__law_moment_right c__law_moment_right k__law_moment_right
  have b__law_moment_right := F__law_moment_right.binds (ps := ["_law_story_here", "_law_moment"]) fun _ _ _ _ _ _ us hl => match us, hl with | [_, _], _ => rfl
  have F_law := fun_mk (st := st_law) l_law c_law k_law
  have b_law := F_law.binds (ps := ["_law_script"]) fun _ _ _ _ _ _ us hl => match us, hl with | [_], _ => rfl
  let Z : TX K mg := { f_HeapU_initU := _, d_HeapU_initU := _, F_HeapU_initU := F_HeapU_initU, b_HeapU_initU := b_HeapU_initU, f_Heap_apply := _, d_Heap_apply := _, F_Heap_apply := F_Heap_apply, b_Heap_apply := b_Heap_apply, f_Heap_held_lists := _, d_Heap_held_lists := _, F_Heap_held_lists := F_Heap_held_lists, b_Heap_held_lists := b_Heap_held_lists, f_Heap_reached_flags := _, d_Heap_reached_flags := _, F_Heap_reached_flags := F_Heap_reached_flags, b_Heap_reached_flags := b_Heap_reached_flags, f_heap_at := _, d_heap_at := _, F_heap_at := F_heap_at, b_heap_at := b_heap_at, g_heap_at := PySem.W.mg_of X G a_heap_at, f_cells_at := _, d_cells_at := _, F_cells_at := F_cells_at, b_cells_at := b_cells_at, g_cells_at := PySem.W.mg_of X G a_cells_at, f_reached_at := _, d_reached_at := _, F_reached_at := F_reached_at, b_reached_at := b_reached_at, g_reached_at := PySem.W.mg_of X G a_reached_at, f_comers := _, d_comers := _, F_comers := F_comers, b_comers := b_comers, g_comers := PySem.W.mg_of X G a_comers, f__law_deck := _, d__law_deck := _, F__law_deck := F__law_deck, b__law_deck := b__law_deck, g__law_deck := PySem.W.mg_of X G a__law_deck, f__law_draw := _, d__law_draw := _, F__law_draw := F__law_draw, b__law_draw := b__law_draw, g__law_draw := PySem.W.mg_of X G a__law_draw, f__law_one := _, d__law_one := _, F__law_one := F__law_one, b__law_one := b__law_one, g__law_one := PySem.W.mg_of X G a__law_one, f__law_event := _, d__law_event := _, F__law_event := F__law_event, b__law_event := b__law_event, g__law_event := PySem.W.mg_of X G a__law_event, f__law_story := _, d__law_story := _, F__law_story := F__law_story, b__law_story := b__law_story, g__law_story := PySem.W.mg_of X G a__law_story, f__law_heap := _, d__law_heap := _, F__law_heap := F__law_heap, b__law_heap := b__law_heap, g__law_heap := PySem.W.mg_of X G a__law_heap, f__law_closed := _, d__law_closed := _, F__law_closed := F__law_closed, b__law_closed := b__law_closed, g__law_closed := PySem.W.mg_of X G a__law_closed, f__law_moment_right := _, d__law_moment_right := _, F__law_moment_right := F__law_moment_right, b__law_moment_right := b__law_moment_right, g__law_moment_right := PySem.W.mg_of X G a__law_moment_right, f_law := _, d_law := _, F_law := F_law, b_law := b_law, g_law := PySem.W.mg_of X G a_law, C_Heap := C_Heap, cl_Heap := ⟨pg_Heap, hd_Heap, po_Heap, sa_Heap⟩, gc_Heap := PySem.W.mg_of X G aC_Heap, mk_Heap := ⟨mm_Heap, in_Heap, ii_Heap, kc_Heap⟩, na_Heap_kept_cells := na_Heap_kept_cells, na_Heap_standing := na_Heap_standing, na_Heap_strong := na_Heap_strong, mt_Heap_apply := ⟨ma_Heap_apply, mi_Heap_apply, k_Heap_apply⟩, mt_Heap_held_lists := ⟨ma_Heap_held_lists, mi_Heap_held_lists, k_Heap_held_lists⟩, mt_Heap_reached_flags := ⟨ma_Heap_reached_flags, mi_Heap_reached_flags, k_Heap_reached_flags⟩, n_abs := PySem.W.mg_none_of X G z_abs, n_all := PySem.W.mg_none_of X G z_all, n_enumerate := PySem.W.mg_none_of X G z_enumerate, n_int := PySem.W.mg_none_of X G z_int, n_len := PySem.W.mg_none_of X G z_len, n_list := PySem.W.mg_none_of X G z_list, n_max := PySem.W.mg_none_of X G z_max, n_range := PySem.W.mg_none_of X G z_range, n_repr := PySem.W.mg_none_of X G z_repr, n_set := PySem.W.mg_none_of X G z_set, n_sorted := PySem.W.mg_none_of X G z_sorted, n_tuple := PySem.W.mg_none_of X G z_tuple }
  exact ⟨Z.T w, Z.d_law, rfl, fun s u => .of_eq rfl, fun base _ _ => sim_law Z⟩
end K30

/-! S13: how pure programs are computed: weakest preconditions -/
namespace Sm
open PySem L2
/-- a mark that keeps simp from what it speaks of -/
inductive Tg {α : Type} (x : α) : Type where
  | a | b
/-- behind an expression: the value and the store (Q), or an exception (E) -/
def WE0 {α : Type} (m : M α) (s : Sto) (Q : α → Sto → Prop) (E : Ex → Sto → Prop) : Prop := match m s with
  | .ok a s' => Q a s'
  | .exc e s' => E e s'
  | .fail => False
structure WE {α : Type} (m : M α) (s : Sto) (Q : α → Sto → Prop) (E : Ex → Sto → Prop) (_ : Tg (Q, E) := .a) : Prop where
  h : WE0 m s Q E
theorem WE_eq {α : Type} {m : M α} {s : Sto} {Q : α → Sto → Prop} {E : Ex → Sto → Prop} : WE m s Q E = WE0 m s Q E := propext ⟨fun x => x.h, fun x => ⟨x⟩⟩
/-- behind a statement -/
structure RK where
  nx : Lo → Sto → Prop
  rt : Vl → Sto → Prop
  bk : Lo → Sto → Prop
  ct : Lo → Sto → Prop
  ex : Ex → Lo → Sto → Prop
def WS0 (b : SM) (lo : Lo) (s : Sto) (K : RK) : Prop := match b lo s with
  | .nx lo s => K.nx lo s
  | .rt v s => K.rt v s
  | .bk lo s => K.bk lo s
  | .ct lo s => K.ct lo s
  | .exc e lo s => K.ex e lo s
  | .fail => False
structure WS (b : SM) (lo : Lo) (s : Sto) (K : RK) (_ : Tg K := .a) : Prop where
  h : WS0 b lo s K
theorem WS_eq {b : SM} {lo : Lo} {s : Sto} {K : RK} : WS b lo s K = WS0 b lo s K := propext ⟨fun x => x.h, fun x => ⟨x⟩⟩
def WO0 {α : Type} (o : Option (α × Sto)) (Q : α → Sto → Prop) : Prop := match o with
  | some (a, s) => Q a s
  | none => False
structure WO {α : Type} (o : Option (α × Sto)) (Q : α → Sto → Prop) (_ : Tg Q := .a) : Prop where
  h : WO0 o Q
theorem WO_eq {α : Type} {o : Option (α × Sto)} {Q : α → Sto → Prop} : WO o Q = WO0 o Q := propext ⟨fun x => x.h, fun x => ⟨x⟩⟩
theorem WE_ext {α : Type} {m : M α} {s : Sto} {Q Q' : α → Sto → Prop} {E : Ex → Sto → Prop} (h : ∀ a s, Q a s = Q' a s) : WE m s Q E = WE m s Q' E := by
  have : Q = Q' := funext fun a => funext fun s => h a s
  subst this
  rfl
abbrev NoX : Ex → Sto → Prop := fun _ _ => False
theorem WE.mono {α : Type} {m : M α} {s : Sto} {Q Q' : α → Sto → Prop} {E E' : Ex → Sto → Prop} (h : WE m s Q E) (k : ∀ a s', Q a s' → Q' a s') (kx : ∀ e s', E e s' → E' e s') : WE m s Q' E' := by
  simp only [WE_eq] at h ⊢
  unfold WE0 at h ⊢
  cases e : m s with
  | ok a s' => rw [e] at h; exact k a s' h
  | exc x s' => rw [e] at h; exact kx x s' h
  | fail => rw [e] at h; exact h
/-- what is known of a call, used -/
theorem WE.use {α : Type} {m : M α} {s : Sto} {Q Q' : α → Sto → Prop} {E' : Ex → Sto → Prop} (h : WE m s Q NoX) (k : ∀ a s', Q a s' → Q' a s') : WE m s Q' E' := h.mono k fun _ _ z => z.elim
theorem WE.ok {α : Type} {m : M α} {s s' : Sto} {a : α} {Q : α → Sto → Prop} {E : Ex → Sto → Prop} (h : m s = .ok a s') (k : Q a s') : WE m s Q E := by
  simp only [WE_eq]
  unfold WE0; rw [h]; exact k
theorem WE.get {α : Type} {m : M α} {s : Sto} {Q : α → Sto → Prop} (h : WE m s Q NoX) : ∃ a s', m s = .ok a s' ∧ Q a s' := by
  simp only [WE_eq] at h
  unfold WE0 at h
  cases e : m s with
  | ok a s' => rw [e] at h; exact ⟨a, s', rfl, h⟩
  | exc x s' => rw [e] at h; exact h.elim
  | fail => rw [e] at h; exact h.elim
theorem WS.mono {b : SM} {lo : Lo} {s : Sto} {K K' : RK} (h : WS b lo s K) (k1 : ∀ lo s, K.nx lo s → K'.nx lo s) (k2 : ∀ v s, K.rt v s → K'.rt v s) (k3 : ∀ lo s, K.bk lo s → K'.bk lo s) (k4 : ∀ lo s, K.ct lo s → K'.ct lo s) (k5 : ∀ e lo s, K.ex e lo s → K'.ex e lo s) : WS b lo s K' := by
  simp only [WS_eq] at h ⊢
  unfold WS0 at h ⊢
  cases e : b lo s with
  | nx lo s => rw [e] at h; exact k1 lo s h
  | rt v s => rw [e] at h; exact k2 v s h
  | bk lo s => rw [e] at h; exact k3 lo s h
  | ct lo s => rw [e] at h; exact k4 lo s h
  | exc x lo s => rw [e] at h; exact k5 x lo s h
  | fail => rw [e] at h; exact h
section
variable {α β : Type} {m : M α} {s : Sto} {lo : Lo} {Q : α → Sto → Prop} {QV : Vl → Sto → Prop} {QB : Bool → Sto → Prop} {QA : List Vl → Sto → Prop} {Q' : β → Sto → Prop} {E : Ex → Sto → Prop} {K : RK}
@[simp ↓] theorem WO_some {a : α} : WO (some (a, s)) Q = Q a s := by simp only [WO_eq]; rfl
@[simp ↓] theorem WO_none : WO (none : Option (α × Sto)) Q = False := by simp only [WO_eq]; rfl
@[simp ↓] theorem WE_bnd {f : α → M β} : WE (bnd m f) s Q' E = WE m s (fun a s => WE (f a) s Q' E) E := by
  simp only [WE_eq]
  unfold WE0 bnd
  cases m s <;> rfl
@[simp ↓] theorem WE_ret {a : α} : WE (ret a) s Q E = Q a s := by simp only [WE_eq]; rfl
@[simp ↓] theorem WE_fail : WE (failM : M α) s Q E = False := by simp only [WE_eq]; rfl
@[simp ↓] theorem WE_lift {f : Sto → Option (α × Sto)} : WE (lift f) s Q E = WO (f s) Q := by
  simp only [WE_eq, WO_eq]
  unfold WE0 lift WO0
  cases f s with
  | none => rfl
  | some p => obtain ⟨a, s'⟩ := p; rfl
theorem WE_eVar {i : Nat} {v : Vl} (h : lo[i]? = some (some v)) : WE (eVar i lo) s QV E = QV v s := by
  simp only [WE_eq]
  unfold WE0 eVar; rw [h]
@[simp ↓] theorem WE_eVar' {i : Nat} : WE (eVar i lo) s QV E = (match lo[i]? with | some (some v) => QV v s | _ => False) := by
  simp only [WE_eq]
  unfold WE0 eVar
  cases lo[i]? with
  | none => rfl
  | some o => cases o <;> rfl
@[simp ↓] theorem WE_eC {v : Vl} : WE (eC v lo) s QV E = QV v s := by simp only [WE_eq]; rfl
@[simp ↓] theorem WE_eOp1 {f : O1} {a : EM} : WE (eOp1 f a lo) s QV E = WE (a lo) s (fun x s => WO (f x s) QV) E := by
  unfold eOp1
  rw [WE_bnd]
  exact WE_ext fun x s => WE_lift
@[simp ↓] theorem WE_eOp {f : O2} {a b : EM} : WE (eOp f a b lo) s QV E = WE (a lo) s (fun x s => WE (b lo) s (fun y s => WO (f x y s) QV) E) E := by
  unfold eOp
  rw [WE_bnd]
  refine WE_ext fun x s => ?_
  rw [WE_bnd]
  exact WE_ext fun y s => WE_lift
@[simp ↓] theorem WE_aNil : WE (aNil lo) s QA E = QA [] s := by simp only [WE_eq]; rfl
@[simp ↓] theorem WE_aCons {a : EM} {r : AM} : WE (aCons a r lo) s QA E = WE (a lo) s (fun x s => WE (r lo) s (fun xs s => QA (x :: xs) s) E) E := by
  unfold aCons
  rw [WE_bnd]
  refine WE_ext fun x s => ?_
  rw [WE_bnd]
  exact WE_ext fun xs s => WE_ret
@[simp ↓] theorem WE_eCB {f : OC} {a : AM} : WE (eCB f a lo) s QV E = WE (a lo) s (fun xs s => WO (f xs s) QV) E := by
  unfold eCB
  rw [WE_bnd]
  exact WE_ext fun x s => WE_lift
@[simp ↓] theorem WE_eCall {mf : List Vl → M Vl} {a : AM} : WE (eCall mf a lo) s QV E = WE (a lo) s (fun as s => WE (mf as) s QV E) E := by unfold eCall; rw [WE_bnd]
@[simp ↓] theorem WE_arg {n : Nat} {mf : List Vl → M Vl} {as : List Vl} : WE (arg n mf as) s QV E = (if as.length = n then WE (mf as) s QV E else False) := by
  by_cases h : as.length = n <;> simp [WE_eq, WE0, arg, h]
@[simp ↓] theorem WE_argI {n : Nat} {mf : List Vl → M Vl} {as : List Vl} : WE (argI n mf as) s QV E = (if as.length = n + 1 then WE (mf as) s QV E else False) := by
  by_cases h : as.length = n + 1 <;> simp [WE_eq, WE0, argI, h]
@[simp ↓] theorem WE_tVal {a : EM} : WE (tVal a lo) s QB E = WE (a lo) s (fun x s => match x with | .bl b => QB b s | _ => False) E := by
  unfold tVal
  rw [WE_bnd]
  refine WE_ext fun x s => ?_
  cases x <;> (simp only [WE_eq]; rfl)
@[simp ↓] theorem WE_tAndM {a b : TM} : WE (tAndM a b lo) s QB E = WE (a lo) s (fun x s => if x = true then WE (b lo) s QB E else QB false s) E := by
  unfold tAndM
  rw [WE_bnd]
  refine WE_ext fun x s => ?_
  cases x <;> simp
@[simp ↓] theorem WE_tOrM {a b : TM} : WE (tOrM a b lo) s QB E = WE (a lo) s (fun x s => if x = true then QB true s else WE (b lo) s QB E) E := by
  unfold tOrM
  rw [WE_bnd]
  refine WE_ext fun x s => ?_
  cases x <;> simp
@[simp ↓] theorem WE_tNotM {a : TM} : WE (tNotM a lo) s QB E = WE (a lo) s (fun x s => QB (!x) s) E := by unfold tNotM; rw [WE_bnd]; exact WE_ext fun x s => WE_ret
@[simp ↓] theorem WE_eAndM {a b : EM} : WE (eAndM a b lo) s QV E = WE (a lo) s (fun x s => match x with | .bl true => WE (b lo) s QV E | .bl false => QV (.bl false) s | _ => False) E := by
  unfold eAndM
  rw [WE_bnd]
  refine WE_ext fun x s => ?_
  cases x <;> try (simp only [WE_eq]; rfl)
  rename_i k
  cases k <;> simp only [WE_eq] <;> rfl
@[simp ↓] theorem WE_eOrM {a b : EM} : WE (eOrM a b lo) s QV E = WE (a lo) s (fun x s => match x with | .bl false => WE (b lo) s QV E | .bl true => QV (.bl true) s | _ => False) E := by
  unfold eOrM
  rw [WE_bnd]
  refine WE_ext fun x s => ?_
  cases x <;> try (simp only [WE_eq]; rfl)
  rename_i k
  cases k <;> simp only [WE_eq] <;> rfl
@[simp ↓] theorem WE_eNotM {a : EM} : WE (eNotM a lo) s QV E = WE (a lo) s (fun x s => match x with | .bl b => QV (.bl (!b)) s | _ => False) E := by
  unfold eNotM
  rw [WE_bnd]
  refine WE_ext fun x s => ?_
  cases x <;> (simp only [WE_eq]; rfl)
@[simp ↓] theorem WE_eIfM {t : TM} {a b : EM} : WE (eIfM t a b lo) s QV E = WE (t lo) s (fun x s => if x = true then WE (a lo) s QV E else WE (b lo) s QV E) E := by
  unfold eIfM
  rw [WE_bnd]
  refine WE_ext fun x s => ?_
  cases x <;> simp
@[simp ↓] theorem WE_eBm {t : Kd} {f : OMt} {o : EM} {a : AM} : WE (eBm t f o a lo) s QV E = WE (o lo) s (fun x s => if kd t x s = true then WE (a lo) s (fun xs s => WO (f x xs s) QV) E else False) E := by
  unfold eBm
  rw [WE_bnd]
  refine WE_ext fun x s => ?_
  show WE (fun s => match kd t x s with | true => bnd (a lo) (fun xs => lift (f x xs)) s | false => .fail) s QV E = _
  cases h : kd t x s with
  | true =>
    rw [if_pos rfl]
    have : WE (bnd (a lo) (fun xs => lift (f x xs))) s QV E = WE (a lo) s (fun xs s => WO (f x xs s) QV) E := by
      rw [WE_bnd]
      exact WE_ext fun xs s => WE_lift
    rw [← this]
    simp only [WE_eq]
    unfold WE0
    simp only [h]
  | false =>
    rw [if_neg (by decide)]
    simp only [WE_eq]
    unfold WE0
    simp only [h]
@[simp ↓] theorem WE_eBm0 {t : Kd} {f : OMt} {o : EM} : WE (eBm0 t f o lo) s QV E = WE (o lo) s (fun x s => if kd t x s = true then WO (f x [] s) QV else False) E := by
  unfold eBm0
  rw [WE_bnd]
  refine WE_ext fun x s => ?_
  show WE (fun s => match kd t x s with | true => lift (f x []) s | false => .fail) s QV E = _
  cases h : kd t x s with
  | true =>
    rw [if_pos rfl, ← WE_lift (E := E)]
    simp only [WE_eq]
    unfold WE0
    simp only [h]
  | false =>
    rw [if_neg (by decide)]
    simp only [WE_eq]
    unfold WE0
    simp only [h]
def fldW (cs : List Nat) (f : Str) (x : Vl) (s : Sto) (QV : Vl → Sto → Prop) : Prop := match x with
  | .ref j => match s[j]? with
    | some (.ins c fs) => c ∈ cs ∧ match getS fs f with
        | some v => QV v s
        | none => False
    | _ => False
  | _ => False
@[simp ↓] theorem WE_eFld {cs : List Nat} {f : Str} {o : EM} : WE (eFld cs f o lo) s QV E = WE (o lo) s (fun x s => fldW cs f x s QV) E := by
  unfold eFld
  rw [WE_bnd]
  refine WE_ext fun x s => ?_
  simp only [WE_eq]
  unfold WE0 fldW
  cases x <;> try rfl
  rename_i j
  simp only
  cases h : s[j]? with
  | none => simp only [h]
  | some o =>
    cases o <;> simp only [h]
    rename_i c fs
    by_cases hc : c ∈ cs
    · simp only [hc, if_true, true_and]
      cases getS fs f <;> rfl
    · simp [hc]
@[simp ↓] theorem WE_fnM {n : Nat} {b : SM} {as : List Vl} : WE (fnM n b as) s QV E = WS b (as.map some ++ List.replicate (n - as.length) none) s ⟨fun _ s => QV .non s, QV, fun _ _ => False, fun _ _ => False, fun e _ s => E e s⟩ := by
  simp only [WE_eq, WS_eq]
  unfold WE0 WS0 fnM
  cases b (as.map some ++ List.replicate (n - as.length) none) s <;> rfl
@[simp ↓] theorem WE_eSl {f : OSl} {a : EM} {l h : Option EM} : WE (eSl f a l h lo) s QV E = WE (a lo) s (fun x s => WE (oPart l lo) s (fun i s => WE (oPart h lo) s (fun j s => WO (f x i j s) QV) E) E) E := by
  unfold eSl
  rw [WE_bnd]
  refine WE_ext fun x s => ?_
  rw [WE_bnd]
  refine WE_ext fun i s => ?_
  rw [WE_bnd]
  exact WE_ext fun j s => WE_lift
@[simp ↓] theorem WE_oPartN {QO : Option Int → Sto → Prop} : WE (oPart none lo) s QO E = QO none s := by simp only [WE_eq]; rfl
@[simp ↓] theorem WE_oPartS {QO : Option Int → Sto → Prop} {a : EM} : WE (oPart (some a) lo) s QO E = WE (a lo) s (fun x s => match x with | .int i => QO (some i) s | _ => False) E := by
  show WE (bnd (a lo) _) s QO E = _
  rw [WE_bnd]
  refine WE_ext fun x s => ?_
  cases x <;> (simp only [WE_eq]; rfl)
@[simp ↓] theorem WE_eDict0 : WE (eDict0 lo) s QV E = QV (.ref s.length) (s ++ [.dic []]) := by simp only [WE_eq]; rfl
/-! statements -/
@[simp ↓] theorem WS_sNil : WS sNil lo s K = K.nx lo s := by simp only [WS_eq]; rfl
@[simp ↓] theorem WS_sBreak : WS sBreak lo s K = K.bk lo s := by simp only [WS_eq]; rfl
@[simp ↓] theorem WS_sCont : WS sCont lo s K = K.ct lo s := by simp only [WS_eq]; rfl
@[simp ↓] theorem WS_sRetN : WS sRetN lo s K = K.rt .non s := by simp only [WS_eq]; rfl
@[simp ↓] theorem WS_sSeq {a b : SM} : WS (sSeq a b) lo s K = WS a lo s ⟨fun lo s => WS b lo s K, K.rt, K.bk, K.ct, K.ex⟩ := by
  simp only [WS_eq]
  unfold WS0 sSeq
  cases a lo s <;> rfl
theorem WS_bndS {m : Lo → M α} {f : Lo → α → Sto → RS} : WS (bndS m f) lo s K = WE (m lo) s (fun a s => match f lo a s with | .nx lo s => K.nx lo s | .rt v s => K.rt v s | .bk lo s => K.bk lo s | .ct lo s => K.ct lo s | .exc e lo s => K.ex e lo s | .fail => False) (fun e s => K.ex e lo s) := by
  simp only [WS_eq, WE_eq]
  unfold WS0 WE0 bndS
  cases m lo s <;> rfl
@[simp ↓] theorem WS_sExpr {e : EM} : WS (sExpr e) lo s K = WE (e lo) s (fun _ s => K.nx lo s) (fun x s => K.ex x lo s) := by unfold sExpr; rw [WS_bndS]
@[simp ↓] theorem WS_sRet {e : EM} : WS (sRet e) lo s K = WE (e lo) s K.rt (fun x s => K.ex x lo s) := by unfold sRet; rw [WS_bndS]
@[simp ↓] theorem WS_sSet {i : Nat} {e : EM} : WS (sSet i e) lo s K = WE (e lo) s (fun v s => K.nx (lo.set i (some v)) s) (fun x s => K.ex x lo s) := by unfold sSet; rw [WS_bndS]
@[simp ↓] theorem WS_sIf {t : TM} {a b : SM} : WS (sIf t a b) lo s K = WE (t lo) s (fun c s => if c = true then WS a lo s K else WS b lo s K) (fun x s => K.ex x lo s) := by
  unfold sIf
  rw [WS_bndS]
  refine WE_ext fun c s => ?_
  cases c <;> simp [WS_eq, WS0]
@[simp ↓] theorem WS_sPar {i j : Nat} {a : AM} : WS (sPar i j a) lo s K = WE (a lo) s (fun vs s => match vs with | [v, w] => K.nx ((lo.set i (some v)).set j (some w)) s | _ => False) (fun x s => K.ex x lo s) := by
  unfold sPar
  rw [WS_bndS]
  refine WE_ext fun vs s => ?_
  match vs with
  | [] => rfl
  | [_] => rfl
  | [_, _] => rfl
  | _ :: _ :: _ :: _ => rfl
@[simp ↓] theorem WS_sPar3 {i j l : Nat} {a : AM} : WS (sPar3 i j l a) lo s K = WE (a lo) s (fun vs s => match vs with | [v, w, x] => K.nx (((lo.set i (some v)).set j (some w)).set l (some x)) s | _ => False) (fun x s => K.ex x lo s) := by
  unfold sPar3
  rw [WS_bndS]
  refine WE_ext fun vs s => ?_
  match vs with
  | [] => rfl
  | [_] => rfl
  | [_, _] => rfl
  | [_, _, _] => rfl
  | _ :: _ :: _ :: _ :: _ => rfl
/-- targets -/
structure WG (g : GM) (v : Vl) (lo : Lo) (s : Sto) (N : Lo → Sto → Prop) (E : Ex → Sto → Prop) (_ : Tg (N, E) := .a) : Prop where
  h : WE (g v lo) s N E
theorem WG_eq {g : GM} {v : Vl} {lo : Lo} {s : Sto} {N : Lo → Sto → Prop} {E : Ex → Sto → Prop} : WG g v lo s N E = WE (g v lo) s N E := propext ⟨fun x => x.h, fun x => ⟨x⟩⟩
@[simp ↓] theorem WG_gNm {i : Nat} {v : Vl} {N : Lo → Sto → Prop} : WG (gNm i) v lo s N E = N (lo.set i (some v)) s := by simp only [WG_eq, WE_eq]; rfl
@[simp ↓] theorem WG_gTp {js : List Nat} {xs : List Vl} {N : Lo → Sto → Prop} : WG (gTp js) (.tup xs) lo s N E = (match gNms js xs lo with | some lo' => N lo' s | none => False) := by
  simp only [WG_eq, WE_eq]
  unfold WE0 gTp
  simp only
  cases gNms js xs lo <;> rfl
@[simp] theorem gNms_nil {lo : Lo} : gNms [] [] lo = some lo := rfl
@[simp] theorem gNms_cons {j : Nat} {js : List Nat} {v : Vl} {vs : List Vl} {lo : Lo} : gNms (j :: js) (v :: vs) lo = gNms js vs (lo.set j (some v)) := rfl
@[simp ↓] theorem WG_gSb {f : OSet} {o i : EM} {v : Vl} {N : Lo → Sto → Prop} : WG (gSb f o i) v lo s N E = WE (o lo) s (fun x s => WE (i lo) s (fun y s => match f x y v s with | some s' => N lo s' | none => False) E) E := by
  simp only [WG_eq]
  unfold gSb
  rw [WE_bnd]
  refine WE_ext fun x s => ?_
  rw [WE_bnd]
  refine WE_ext fun y s => ?_
  simp only [WE_eq]
  unfold WE0 liftU
  cases f x y v s <;> rfl
@[simp ↓] theorem WS_sAsg {g : GM} {e : EM} : WS (sAsg g e) lo s K = WE (e lo) s (fun v s => WG g v lo s K.nx (fun x s => K.ex x lo s)) (fun x s => K.ex x lo s) := by
  unfold sAsg
  rw [WS_bndS]
  refine WE_ext fun v s => ?_
  simp only [WG_eq, WE_eq]
  unfold WE0
  cases g v lo s <;> rfl
@[simp ↓] theorem WS_sFldM {cs : List Nat} {f : Str} {o e : EM} : WS (sFldM cs f o e) lo s K = WE (e lo) s (fun v s => WE (o lo) s (fun x s => match setFld cs f x v s with | some s' => K.nx lo s' | none => False) (fun x s => K.ex x lo s)) (fun x s => K.ex x lo s) := by
  unfold sFldM
  rw [WS_bndS]
  refine WE_ext fun v s => ?_
  refine Eq.trans (b := WS (bndS o fun lo x s => match setFld cs f x v s with | some s' => .nx lo s' | none => .fail) lo s K) (by simp only [WS_eq]; rfl) ?_
  rw [WS_bndS]
  refine WE_ext fun x s => ?_
  cases setFld cs f x v s <;> rfl
/-! methods, making -/
def methW (m : Str) (tab : MTab) (x : Vl) (s : Sto) (P : (List Vl → M Vl) → Prop) : Prop := match x with
  | .ref j => match s[j]? with
    | some (.ins c fs) => match tab c, getS fs m with
      | some mf, none => P mf
      | _, _ => False
    | _ => False
  | _ => False
theorem WE_eMeth {m : Str} {tab : MTab} {o : EM} {a : AM} : WE (eMeth m tab o a lo) s QV E = WE (o lo) s (fun x s => methW m tab x s fun mf => WE (a lo) s (fun as s => WE (mf (x :: as)) s QV E) E) E := by
  unfold eMeth
  rw [WE_bnd]
  refine WE_ext fun x s => ?_
  cases x <;> try (simp only [WE_eq]; rfl)
  rename_i j
  unfold methW
  show WE (fun s => match s[j]? with | some (.ins c fs) => (match tab c, getS fs m with | some mf, none => bnd (a lo) (fun as => mf (.ref j :: as)) s | _, _ => .fail) | _ => .fail) s QV E = _
  have key : ∀ mf : List Vl → M Vl, WE (a lo) s (fun as s => WE (mf (.ref j :: as)) s QV E) E = WE (bnd (a lo) (fun as => mf (.ref j :: as))) s QV E := fun mf => by rw [WE_bnd]
  simp only [key]
  simp only [WE_eq]
  unfold WE0
  simp only
  cases h : s[j]? with
  | none => rfl
  | some o =>
    cases o <;> try rfl
    rename_i c fs
    simp only
    cases h1 : tab c with
    | none => rfl
    | some mf => cases h2 : getS fs m <;> rfl
theorem WE_eMake {c : Nat} {mi : List Vl → M Vl} {a : AM} : WE (eMake c mi a lo) s QV E = WE (a lo) s (fun as s => WE (mi (.ref s.length :: as)) (s ++ [.ins c []]) (fun v s' => match v with | .non => QV (.ref s.length) s' | _ => False) E) E := by
  unfold eMake
  rw [WE_bnd]
  refine WE_ext fun as s => ?_
  simp only [WE_eq]
  unfold WE0
  simp only
  cases h : mi (.ref s.length :: as) (s ++ [.ins c []]) with
  | ok v s' => cases v <;> rfl
  | exc e s' => rfl
  | fail => rfl
end
end Sm

/-! S14: loops and comprehensions of pure programs -/
namespace Sm
open PySem L2
section
variable {α : Type} {s : Sto} {lo : Lo} {QV : Vl → Sto → Prop} {QA : List Vl → Sto → Prop} {QN : NX → Sto → Prop} {E : Ex → Sto → Prop} {K : RK}
@[simp ↓] theorem WE_aTup {e : EM} : WE (aTup e lo) s QA E = WE (e lo) s (fun x s => match x with | .tup xs => QA xs s | _ => False) E := by
  unfold aTup
  rw [WE_bnd]
  refine WE_ext fun x s => ?_
  cases x <;> simp only [WE_eq] <;> rfl
def rngW (xs : List Vl) (s : Sto) (QA : List Vl → Sto → Prop) : Prop := match xs with
  | [.int n] => (-(2 ^ 62) ≤ n ∧ n < 2 ^ 62) ∧ QA (rng 0 n.toNat) s
  | _ => False
theorem rngW_one {n : Int} : rngW [.int n] s QA = ((-(2 ^ 62) ≤ n ∧ n < 2 ^ 62) ∧ QA (rng 0 n.toNat) s) := rfl
@[simp ↓] theorem WE_aRng {a : AM} : WE (aRng a lo) s QA E = WE (a lo) s (fun xs s => rngW xs s QA) E := by
  unfold aRng
  rw [WE_bnd]
  refine WE_ext fun xs s => ?_
  match xs with
  | [] => simp only [WE_eq]; rfl
  | [.int n] =>
    simp only [rngW]
    by_cases h : -(2 ^ 62) ≤ n ∧ n < 2 ^ 62
    · rw [if_pos h]; simp only [h, and_self, true_and, WE_ret]
    · rw [if_neg h, WE_fail]
      exact (propext ⟨fun z => z.elim, fun z => absurd z.1 h⟩)
  | .non :: _ => simp only [WE_eq]; rfl
  | .bl _ :: _ => simp only [WE_eq]; rfl
  | .str _ :: _ => simp only [WE_eq]; rfl
  | .tup _ :: _ => simp only [WE_eq]; rfl
  | .ref _ :: _ => simp only [WE_eq]; rfl
  | .scr _ :: _ => simp only [WE_eq]; rfl
  | .ty _ :: _ => simp only [WE_eq]; rfl
  | .fn _ :: _ => simp only [WE_eq]; rfl
  | .int _ :: _ :: _ => simp only [WE_eq]; rfl
def lstW (x : Vl) (s : Sto) (P : Nat → List Vl → Prop) : Prop := match x with
  | .ref j => match s[j]? with
    | some (.lst xs) => P j xs
    | _ => False
  | _ => False
@[simp] theorem lstW_ref {j : Nat} {P : Nat → List Vl → Prop} : lstW (.ref j) s P = (match s[j]? with | some (.lst xs) => P j xs | _ => False) := rfl
@[simp ↓] theorem WE_iLst {e : EM} : WE (iLst e lo) s QN E = WE (e lo) s (fun x s => lstW x s fun j _ => QN (nxLst j) s) E := by
  unfold iLst
  rw [WE_bnd]
  refine WE_ext fun x s => ?_
  cases x <;> try (simp only [WE_eq]; rfl)
  rename_i j
  simp only [WE_eq]
  unfold WE0 lstW
  simp only
  cases h : s[j]? with
  | none => rfl
  | some o => cases o <;> rfl
def lst1W (xs : List Vl) (s : Sto) (P : Nat → List Vl → Prop) : Prop := match xs with
  | [x] => lstW x s P
  | _ => False
@[simp] theorem lst1W_one {x : Vl} {P : Nat → List Vl → Prop} : lst1W [x] s P = lstW x s P := rfl
@[simp ↓] theorem WE_iEnm {a : AM} : WE (iEnm a lo) s QN E = WE (a lo) s (fun xs s => lst1W xs s fun j _ => QN (nxEnum j) s) E := by
  unfold iEnm
  rw [WE_bnd]
  refine WE_ext fun xs s => ?_
  match xs with
  | [] => simp only [WE_eq]; rfl
  | [.ref j] =>
    simp only [WE_eq]
    unfold WE0 lst1W lstW
    simp only
    cases h : s[j]? with
    | none => rfl
    | some o => cases o <;> rfl
  | .non :: _ => cases ‹List Vl› <;> simp only [WE_eq] <;> rfl
  | .bl _ :: _ => cases ‹List Vl› <;> simp only [WE_eq] <;> rfl
  | .int _ :: _ => cases ‹List Vl› <;> simp only [WE_eq] <;> rfl
  | .str _ :: _ => cases ‹List Vl› <;> simp only [WE_eq] <;> rfl
  | .tup _ :: _ => cases ‹List Vl› <;> simp only [WE_eq] <;> rfl
  | .scr _ :: _ => cases ‹List Vl› <;> simp only [WE_eq] <;> rfl
  | .ty _ :: _ => cases ‹List Vl› <;> simp only [WE_eq] <;> rfl
  | .fn _ :: _ => cases ‹List Vl› <;> simp only [WE_eq] <;> rfl
  | .ref _ :: _ :: _ => simp only [WE_eq]; rfl
@[simp ↓] theorem WS_sForX {ma : AM} {g : GM} {b : SM} : WS (sForX ma g b) lo s K = WE (ma lo) s (fun xs s => WS (loopX g b xs) lo s K) (fun e s => K.ex e lo s) := by
  unfold sForX
  rw [WS_bndS]
  refine WE_ext fun xs s => ?_
  simp only [WS_eq]
  rfl
@[simp ↓] theorem WS_sFor {n : Nat} {m : IM} {g : GM} {b : SM} : WS (sFor n m g b) lo s K = WE (m lo) s (fun nx s => WS (loopN nx g b n 0) lo s K) (fun e s => K.ex e lo s) := by
  unfold sFor
  rw [WS_bndS]
  refine WE_ext fun xs s => ?_
  simp only [WS_eq]
  rfl
/-- a for by its invariant -/
theorem loopX_inv {g : GM} {b : SM} {xs : List Vl} (I : Nat → Lo → Sto → Prop) (h0 : I 0 lo s)
    (hs : ∀ i v lo s, xs[i]? = some v → I i lo s → WG g v lo s (fun lo s => WS b lo s ⟨I (i + 1), K.rt, K.nx, I (i + 1), K.ex⟩) (fun e s => K.ex e lo s)) (hd : ∀ lo s, I xs.length lo s → K.nx lo s) : WS (loopX g b xs) lo s K := by
  have key : ∀ (ys : List Vl) (i : Nat) (lo : Lo) (s : Sto), xs.drop i = ys → i ≤ xs.length → I i lo s → WS (loopX g b ys) lo s K := by
    intro ys
    induction ys with
    | nil =>
      intro i lo s e hi h
      have : i = xs.length := Nat.le_antisymm hi (List.drop_eq_nil_iff.mp e)
      subst this
      exact ⟨hd lo s h⟩
    | cons y ys ih =>
      intro i lo s e hi h
      have hi' : i < xs.length := by
        rcases Nat.lt_or_ge i xs.length with q | q
        · exact q
        · rw [List.drop_eq_nil_of_le q] at e; cases e
      rw [List.drop_eq_getElem_cons hi'] at e
      obtain ⟨e1, e2⟩ := List.cons.inj e
      have st := hs i y lo s (by rw [List.getElem?_eq_getElem hi', e1]) h
      simp only [WS_eq]
      unfold WS0 loopX
      simp only [WG_eq, WE_eq] at st
      unfold WE0 at st
      cases q : g y lo s with
      | fail => simp only [q] at st
      | exc z s' => simp only [q] at st ⊢; exact st
      | ok lo' s' =>
        simp only [q] at st ⊢
        simp only [WS_eq] at st
        unfold WS0 at st
        cases q2 : b lo' s' with
        | nx lo2 s2 => simp only [q2] at st ⊢; exact (ih (i + 1) lo2 s2 e2 hi' st).h
        | ct lo2 s2 => simp only [q2] at st ⊢; exact (ih (i + 1) lo2 s2 e2 hi' st).h
        | bk lo2 s2 => simp only [q2] at st ⊢; exact st
        | rt v s2 => simp only [q2] at st ⊢; exact st
        | exc z lo2 s2 => simp only [q2] at st ⊢; exact st
        | fail => simp only [q2] at st
  exact key xs 0 lo s (by simp) (Nat.zero_le _) h0
/-- the same over what nx tells: n items, at each turn the i-th one is f i -/
theorem loopN_inv {nx : NX} {g : GM} {b : SM} {n fuel : Nat} (I : Nat → Lo → Sto → Prop) (f : Nat → Vl) (hf : n < fuel) (h0 : I 0 lo s) (hn : ∀ i lo s, i < n → I i lo s → nx i s = some (some (f i))) (he : ∀ lo s, I n lo s → nx n s = some none)
    (hs : ∀ i lo s, i < n → I i lo s → WG g (f i) lo s (fun lo s => WS b lo s ⟨I (i + 1), K.rt, K.nx, I (i + 1), K.ex⟩) (fun e s => K.ex e lo s)) (hd : ∀ lo s, I n lo s → K.nx lo s) : WS (loopN nx g b fuel 0) lo s K := by
  have key : ∀ (k i : Nat) (lo : Lo) (s : Sto), n - i < k → i ≤ n → I i lo s → WS (loopN nx g b k i) lo s K := by
    intro k
    induction k with
    | zero => intro i lo s h; omega
    | succ k ih =>
      intro i lo s hk hi h
      simp only [WS_eq]
      unfold WS0 loopN
      rcases Nat.lt_or_ge i n with q | q
      · simp only [hn i lo s q h]
        have st := hs i lo s q h
        simp only [WG_eq, WE_eq] at st
        unfold WE0 at st
        cases q1 : g (f i) lo s with
        | fail => simp only [q1] at st
        | exc z s' => simp only [q1] at st ⊢; exact st
        | ok lo' s' =>
          simp only [q1] at st ⊢
          simp only [WS_eq] at st
          unfold WS0 at st
          cases q2 : b lo' s' with
          | nx lo2 s2 => simp only [q2] at st ⊢; exact (ih (i + 1) lo2 s2 (by omega) q st).h
          | ct lo2 s2 => simp only [q2] at st ⊢; exact (ih (i + 1) lo2 s2 (by omega) q st).h
          | bk lo2 s2 => simp only [q2] at st ⊢; exact st
          | rt v s2 => simp only [q2] at st ⊢; exact st
          | exc z lo2 s2 => simp only [q2] at st ⊢; exact st
          | fail => simp only [q2] at st
      · have : i = n := Nat.le_antisymm hi q
        subst this
        simp only [he lo s h]
        exact hd lo s h
  exact key fuel 0 lo s (by omega) (Nat.zero_le _) h0
/-- over a list that the loop leaves as it is -/
theorem loopL_inv {j : Nat} {xs : List Vl} {g : GM} {b : SM} {fuel : Nat} (I : Nat → Lo → Sto → Prop) (hf : xs.length < fuel) (h0 : I 0 lo s) (hl : ∀ i lo s, I i lo s → s[j]? = some (.lst xs))
    (hs : ∀ i v lo s, xs[i]? = some v → I i lo s → WG g v lo s (fun lo s => WS b lo s ⟨I (i + 1), K.rt, K.nx, I (i + 1), K.ex⟩) (fun e s => K.ex e lo s)) (hd : ∀ lo s, I xs.length lo s → K.nx lo s) : WS (loopN (nxLst j) g b fuel 0) lo s K :=
  loopN_inv I (fun i => (xs[i]?).getD .non) hf h0 (fun i lo s hi h => by simp only [nxLst, hl i lo s h, List.getElem?_eq_getElem hi, Option.getD]) (fun lo s h => by simp only [nxLst, hl _ lo s h]; rw [List.getElem?_eq_none (Nat.le_refl _)])
    (fun i lo s hi h => by
      have := hs i xs[i] lo s (List.getElem?_eq_getElem hi) h
      simpa only [List.getElem?_eq_getElem hi, Option.getD] using this) hd
/-- enumerate -/
theorem loopE_inv {j : Nat} {xs : List Vl} {g : GM} {b : SM} {fuel : Nat} (I : Nat → Lo → Sto → Prop) (hf : xs.length < fuel) (h0 : I 0 lo s) (hl : ∀ i lo s, I i lo s → s[j]? = some (.lst xs))
    (hs : ∀ i v lo s, xs[i]? = some v → I i lo s → WG g (.tup [.int (i : Nat), v]) lo s (fun lo s => WS b lo s ⟨I (i + 1), K.rt, K.nx, I (i + 1), K.ex⟩) (fun e s => K.ex e lo s)) (hd : ∀ lo s, I xs.length lo s → K.nx lo s) : WS (loopN (nxEnum j) g b fuel 0) lo s K :=
  loopN_inv I (fun i => .tup [.int (i : Nat), (xs[i]?).getD .non]) hf h0 (fun i lo s hi h => by simp only [nxEnum, hl i lo s h, List.getElem?_eq_getElem hi, Option.getD]) (fun lo s h => by simp only [nxEnum, hl _ lo s h]; rw [List.getElem?_eq_none (Nat.le_refl _)])
    (fun i lo s hi h => by
      have := hs i xs[i] lo s (List.getElem?_eq_getElem hi) h
      simpa only [List.getElem?_eq_getElem hi, Option.getD] using this) hd
/-- while, by an invariant with a number that falls -/
theorem loopW_inv {t : TM} {b : SM} {n : Nat} (I : Nat → Lo → Sto → Prop) (m0 : Nat) (hm : m0 < n) (h0 : I m0 lo s)
    (hs : ∀ m lo s, I m lo s → WE (t lo) s (fun c s' => if c = true then WS b lo s' ⟨fun lo s => ∃ m', m' < m ∧ I m' lo s, K.rt, K.nx, fun lo s => ∃ m', m' < m ∧ I m' lo s, K.ex⟩ else K.nx lo s') (fun e s => K.ex e lo s)) : WS (loopW t b n) lo s K := by
  have key : ∀ (k m : Nat) (lo : Lo) (s : Sto), m < k → I m lo s → WS (loopW t b k) lo s K := by
    intro k
    induction k with
    | zero => intro m lo s h; omega
    | succ k ih =>
      intro m lo s hk h
      have st := hs m lo s h
      simp only [WS_eq]
      unfold WS0 loopW
      simp only [WE_eq] at st
      unfold WE0 at st
      cases q : t lo s with
      | fail => simp only [q] at st
      | exc z s' => simp only [q] at st ⊢; exact st
      | ok c s' =>
        cases c with
        | false => simp only [q] at st ⊢; exact (by simpa using st)
        | true =>
          simp only [q, if_true] at st ⊢
          simp only [WS_eq] at st
          unfold WS0 at st
          cases q2 : b lo s' with
          | nx lo2 s2 => simp only [q2] at st ⊢; obtain ⟨m', h1, h2⟩ := st; exact (ih m' lo2 s2 (by omega) h2).h
          | ct lo2 s2 => simp only [q2] at st ⊢; obtain ⟨m', h1, h2⟩ := st; exact (ih m' lo2 s2 (by omega) h2).h
          | bk lo2 s2 => simp only [q2] at st ⊢; exact st
          | rt v s2 => simp only [q2] at st ⊢; exact st
          | exc z lo2 s2 => simp only [q2] at st ⊢; exact st
          | fail => simp only [q2] at st
  exact key n m0 lo s hm h0
/-! ### comprehensions -/
def WL0 (o : Option Sto) (Q : Sto → Prop) : Prop := match o with
  | some s => Q s
  | none => False
structure WL (o : Option Sto) (Q : Sto → Prop) (_ : Tg Q := .a) : Prop where
  h : WL0 o Q
theorem WL_eq {o : Option Sto} {Q : Sto → Prop} : WL o Q = WL0 o Q := propext ⟨fun x => x.h, fun x => ⟨x⟩⟩
@[simp ↓] theorem WE_eLc {n : Nat} {m : IM} {g : GL} {t : TM} {e : EM} {vs : List Nat} : WE (eLc n m g t e vs lo) s QV E = WE (m lo) s (fun nx s => WL (lcN nx g t e s.length (wipeL lo vs) n 0 (s ++ [.lst []])) fun s' => QV (.ref s.length) s') E := by
  unfold eLc
  rw [WE_bnd]
  refine WE_ext fun nx s => ?_
  simp only [WE_eq, WL_eq]
  unfold WE0 WL0
  simp only
  cases lcN nx g t e s.length (wipeL lo vs) n 0 (s ++ [.lst []]) <;> rfl
@[simp ↓] theorem WE_eLcX {m : AM} {g : GL} {t : TM} {e : EM} {vs : List Nat} : WE (eLcX m g t e vs lo) s QV E = WE (m lo) s (fun xs s => WL (lcX g t e s.length (wipeL lo vs) xs (s ++ [.lst []])) fun s' => QV (.ref s.length) s') E := by
  unfold eLcX
  rw [WE_bnd]
  refine WE_ext fun xs s => ?_
  simp only [WE_eq, WL_eq]
  unfold WE0 WL0
  simp only
  cases lcX g t e s.length (wipeL lo vs) xs (s ++ [.lst []]) <;> rfl
/-- one turn -/
def LcT (t : TM) (e : EM) (d : Nat) (lo : Lo) (s : Sto) (Q : Sto → Prop) : Prop :=
  WE (t lo) s (fun c s => if c = true then WE (e lo) s (fun y s => match s[d]? with | some (.lst acc) => acc.length < LIM ∧ Q (s.set d (.lst (acc ++ [y]))) | _ => False) NoX else Q s) NoX
theorem lcStep_of {t : TM} {e : EM} {d : Nat} {lo : Lo} {s : Sto} {Q : Sto → Prop} (h : LcT t e d lo s Q) : ∃ s', lcStep t e d lo s = some s' ∧ Q s' := by
  unfold LcT at h
  simp only [WE_eq] at h
  unfold WE0 at h
  unfold lcStep
  cases q : t lo s with
  | fail => simp only [q] at h
  | exc z s1 => simp only [q] at h; exact h.elim
  | ok c s1 =>
    cases c with
    | false => simp only [q] at h ⊢; exact ⟨s1, rfl, by simpa using h⟩
    | true =>
      simp only [q, if_true] at h ⊢
      cases q2 : e lo s1 with
      | fail => simp only [q2] at h
      | exc z s2 => simp only [q2] at h; exact h.elim
      | ok y s2 =>
        simp only [q2] at h ⊢
        split at h
        · rename_i acc hacc
          simp only [hacc, if_pos h.1]
          exact ⟨_, rfl, h.2⟩
        · exact h.elim
theorem lcX_inv {g : GL} {t : TM} {e : EM} {d : Nat} {xs : List Vl} {s : Sto} {Q : Sto → Prop} (I : Nat → Sto → Prop) (h0 : I 0 s) (hs : ∀ i v s, xs[i]? = some v → I i s → ∃ lo', g v lo = some lo' ∧ LcT t e d lo' s (I (i + 1))) (hd : ∀ s, I xs.length s → Q s) :
    WL (lcX g t e d lo xs s) Q := by
  have key : ∀ (ys : List Vl) (i : Nat) (s : Sto), xs.drop i = ys → i ≤ xs.length → I i s → WL (lcX g t e d lo ys s) Q := by
    intro ys
    induction ys with
    | nil =>
      intro i s e hi h
      have : i = xs.length := Nat.le_antisymm hi (List.drop_eq_nil_iff.mp e)
      subst this
      exact ⟨hd s h⟩
    | cons y ys ih =>
      intro i s e hi h
      have hi' : i < xs.length := by
        rcases Nat.lt_or_ge i xs.length with q | q
        · exact q
        · rw [List.drop_eq_nil_of_le q] at e; cases e
      rw [List.drop_eq_getElem_cons hi'] at e
      obtain ⟨e1, e2⟩ := List.cons.inj e
      obtain ⟨lo', g1, g2⟩ := hs i y s (by rw [List.getElem?_eq_getElem hi', e1]) h
      obtain ⟨s', k1, k2⟩ := lcStep_of g2
      unfold lcX
      simp only [g1, k1]
      exact ih (i + 1) s' e2 hi' k2
  exact key xs 0 s (by simp) (Nat.zero_le _) h0
theorem lcN_inv {nx : NX} {g : GL} {t : TM} {e : EM} {d n fuel : Nat} {s : Sto} {Q : Sto → Prop} (I : Nat → Sto → Prop) (f : Nat → Vl) (hf : n < fuel) (h0 : I 0 s) (hn : ∀ i s, i < n → I i s → nx i s = some (some (f i))) (he : ∀ s, I n s → nx n s = some none)
    (hs : ∀ i s, i < n → I i s → ∃ lo', g (f i) lo = some lo' ∧ LcT t e d lo' s (I (i + 1))) (hd : ∀ s, I n s → Q s) : WL (lcN nx g t e d lo fuel 0 s) Q := by
  have key : ∀ (k i : Nat) (s : Sto), n - i < k → i ≤ n → I i s → WL (lcN nx g t e d lo k i s) Q := by
    intro k
    induction k with
    | zero => intro i s h; omega
    | succ k ih =>
      intro i s hk hi h
      unfold lcN
      rcases Nat.lt_or_ge i n with q | q
      · simp only [hn i s q h]
        obtain ⟨lo', g1, g2⟩ := hs i s q h
        obtain ⟨s', k1, k2⟩ := lcStep_of g2
        simp only [g1, k1]
        exact ih (i + 1) s' (by omega) q k2
      · have : i = n := Nat.le_antisymm hi q
        subst this
        simp only [he s h]
        exact ⟨hd s h⟩
  exact key fuel 0 s (by omega) (Nat.zero_le _) h0
theorem lcL_inv {j : Nat} {xs : List Vl} {g : GL} {t : TM} {e : EM} {d fuel : Nat} {s : Sto} {Q : Sto → Prop} (I : Nat → Sto → Prop) (hf : xs.length < fuel) (h0 : I 0 s) (hl : ∀ i s, I i s → s[j]? = some (.lst xs))
    (hs : ∀ i v s, xs[i]? = some v → I i s → ∃ lo', g v lo = some lo' ∧ LcT t e d lo' s (I (i + 1))) (hd : ∀ s, I xs.length s → Q s) : WL (lcN (nxLst j) g t e d lo fuel 0 s) Q :=
  lcN_inv I (fun i => (xs[i]?).getD .non) hf h0 (fun i s hi h => by simp only [nxLst, hl i s h, List.getElem?_eq_getElem hi, Option.getD]) (fun s h => by simp only [nxLst, hl _ s h]; rw [List.getElem?_eq_none (Nat.le_refl _)])
    (fun i s hi h => by
      have := hs i xs[i] s (List.getElem?_eq_getElem hi) h
      simpa only [List.getElem?_eq_getElem hi, Option.getD] using this) hd
theorem lcE_inv {j : Nat} {xs : List Vl} {g : GL} {t : TM} {e : EM} {d fuel : Nat} {s : Sto} {Q : Sto → Prop} (I : Nat → Sto → Prop) (hf : xs.length < fuel) (h0 : I 0 s) (hl : ∀ i s, I i s → s[j]? = some (.lst xs))
    (hs : ∀ i v s, xs[i]? = some v → I i s → ∃ lo', g (.tup [.int (i : Nat), v]) lo = some lo' ∧ LcT t e d lo' s (I (i + 1))) (hd : ∀ s, I xs.length s → Q s) : WL (lcN (nxEnum j) g t e d lo fuel 0 s) Q :=
  lcN_inv I (fun i => .tup [.int (i : Nat), (xs[i]?).getD .non]) hf h0 (fun i s hi h => by simp only [nxEnum, hl i s h, List.getElem?_eq_getElem hi, Option.getD]) (fun s h => by simp only [nxEnum, hl _ s h]; rw [List.getElem?_eq_none (Nat.le_refl _)])
    (fun i s hi h => by
      have := hs i xs[i] s (List.getElem?_eq_getElem hi) h
      simpa only [List.getElem?_eq_getElem hi, Option.getD] using this) hd
theorem lcV_inv {j : Nat} {kvs : List (Key × Vl)} {g : GL} {t : TM} {e : EM} {d fuel : Nat} {s : Sto} {Q : Sto → Prop} (I : Nat → Sto → Prop) (hf : kvs.length < fuel) (h0 : I 0 s) (hl : ∀ i s, I i s → s[j]? = some (.fdic kvs))
    (hs : ∀ i v s, (kvs.map (·.2))[i]? = some v → I i s → ∃ lo', g v lo = some lo' ∧ LcT t e d lo' s (I (i + 1))) (hd : ∀ s, I kvs.length s → Q s) : WL (lcN (nxVals j) g t e d lo fuel 0 s) Q :=
  lcN_inv I (fun i => ((kvs.map (·.2))[i]?).getD .non) hf h0 (fun i s hi h => by simp only [nxVals, hl i s h, List.getElem?_eq_getElem hi, List.getElem?_map, Option.map, Option.getD]) (fun s h => by simp only [nxVals, hl _ s h]; rw [List.getElem?_eq_none (Nat.le_refl _)])
    (fun i s hi h => by
      have hi' : i < (kvs.map (·.2)).length := by rw [List.length_map]; exact hi
      have := hs i (kvs.map (·.2))[i] s (List.getElem?_eq_getElem hi') h
      simpa only [List.getElem?_eq_getElem hi', Option.getD] using this) hd
/-- where neither test nor element changes the store: kept items by f -/
def LcP (g : GL) (t : TM) (e : EM) (lo : Lo) (s : Sto) (x : Vl) (r : Option Vl) : Prop := ∀ acc, ∃ lo', g x lo = some lo' ∧ WE (t lo') (s ++ [.lst acc]) (fun c s' => s' = s ++ [.lst acc] ∧ if c = true then WE (e lo') s' (fun y s'' => s'' = s ++ [.lst acc] ∧ r = some y) NoX else r = none) NoX
theorem LcP.turn {g : GL} {t : TM} {e : EM} {s : Sto} {x : Vl} {r : Option Vl} {acc : List Vl} (h : LcP g t e lo s x r) (hl : acc.length < LIM) : ∃ lo', g x lo = some lo' ∧ LcT t e s.length lo' (s ++ [.lst acc]) fun s' => s' = s ++ [.lst (acc ++ r.toList)] := by
  obtain ⟨lo', h1, h2⟩ := h acc
  refine ⟨lo', h1, WE.mono h2 (fun c s' hc => ?_) fun _ _ z => z⟩
  obtain ⟨rfl, h3⟩ := hc
  cases c with
  | false =>
    simp only [if_false, Bool.false_eq_true] at h3 ⊢
    subst h3
    simp
  | true =>
    simp only [if_true] at h3 ⊢
    refine WE.mono h3 (fun y s'' hy => ?_) fun _ _ z => z
    obtain ⟨rfl, rfl⟩ := hy
    simp [hl]
theorem lcX_pure {g : GL} {t : TM} {e : EM} {xs : List Vl} {s : Sto} {Q : Sto → Prop} (f : Vl → Option Vl) (hl : xs.length < LIM) (hx : ∀ x ∈ xs, LcP g t e lo s x (f x)) (hd : Q (s ++ [.lst (xs.filterMap f)])) : WL (lcX g t e s.length lo xs (s ++ [.lst []])) Q := by
  refine lcX_inv (fun i s' => s' = s ++ [.lst ((xs.take i).filterMap f)]) (by simp) (fun i v s' hv e => ?_) (fun s' e => by rw [e, List.take_length]; exact hd)
  subst e
  obtain ⟨hi, ev⟩ := List.getElem?_eq_some_iff.mp hv
  have hlen : ((xs.take i).filterMap f).length < LIM := Nat.lt_of_le_of_lt (Nat.le_trans (List.length_filterMap_le ..) (by rw [List.length_take]; exact Nat.min_le_right ..)) hl
  obtain ⟨lo', h1, h2⟩ := (hx v (List.mem_of_getElem? hv)).turn hlen
  refine ⟨lo', h1, ?_⟩
  have : (xs.take (i + 1)).filterMap f = (xs.take i).filterMap f ++ (f v).toList := by
    rw [List.take_add_one, hv, Option.toList, List.filterMap_append]
    cases h : f v <;> simp [List.filterMap_cons, h]
  rw [this]
  exact h2
theorem lcL_pure {j fuel : Nat} {g : GL} {t : TM} {e : EM} {xs : List Vl} {s : Sto} {Q : Sto → Prop} (f : Vl → Option Vl) (hj : s[j]? = some (.lst xs)) (hl : xs.length < LIM) (hf : xs.length < fuel) (hx : ∀ x ∈ xs, LcP g t e lo s x (f x)) (hd : Q (s ++ [.lst (xs.filterMap f)])) :
    WL (lcN (nxLst j) g t e s.length lo fuel 0 (s ++ [.lst []])) Q := by
  have hjl : j < s.length := (List.getElem?_eq_some_iff.mp hj).1
  refine lcL_inv (xs := xs) (fun i s' => s' = s ++ [.lst ((xs.take i).filterMap f)]) hf (by simp) (fun i s' e => by rw [e, List.getElem?_append_left hjl]; exact hj) (fun i v s' hv e => ?_) (fun s' e => by rw [e, List.take_length]; exact hd)
  subst e
  have hlen : ((xs.take i).filterMap f).length < LIM := Nat.lt_of_le_of_lt (Nat.le_trans (List.length_filterMap_le ..) (by rw [List.length_take]; exact Nat.min_le_right ..)) hl
  obtain ⟨lo', h1, h2⟩ := (hx v (List.mem_of_getElem? hv)).turn hlen
  refine ⟨lo', h1, ?_⟩
  have : (xs.take (i + 1)).filterMap f = (xs.take i).filterMap f ++ (f v).toList := by
    rw [List.take_add_one, hv, Option.toList, List.filterMap_append]
    cases h : f v <;> simp [List.filterMap_cons, h]
  rw [this]
  exact h2
end
end Sm

/-! S15: frames of stores; locked dicts; decks of numbers -/
namespace Sm
open PySem L2
/-- all that stood in s stands in s' but for the numbers X -/
structure Fr (X : List Nat) (s s' : Sto) : Prop where
  le : s.length ≤ s'.length
  get : ∀ i, i < s.length → i ∉ X → s'[i]? = s[i]?
section
variable {X Y : List Nat} {s s1 s2 : Sto}
theorem Fr.refl : Fr X s s := ⟨Nat.le_refl _, fun _ _ _ => rfl⟩
theorem Fr.trans (a : Fr X s s1) (b : Fr X s1 s2) : Fr X s s2 := ⟨Nat.le_trans a.le b.le, fun i hi hx => (b.get i (Nat.lt_of_lt_of_le hi a.le) hx).trans (a.get i hi hx)⟩
theorem Fr.mono (a : Fr X s s1) (h : ∀ i ∈ X, i ∈ Y) : Fr Y s s1 := ⟨a.le, fun i hi hx => a.get i hi fun z => hx (h i z)⟩
/-- what is changed in s1 may be new since s -/
theorem Fr.trans' (a : Fr X s s1) (b : Fr Y s1 s2) (h : ∀ i ∈ Y, i ∈ X ∨ s.length ≤ i) : Fr X s s2 := ⟨Nat.le_trans a.le b.le, fun i hi hx => (b.get i (Nat.lt_of_lt_of_le hi a.le) fun z => (h i z).elim hx fun q => absurd hi (Nat.not_lt.mpr q)).trans (a.get i hi hx)⟩
theorem Fr.at (a : Fr X s s1) {i : Nat} {o : Ob} (h : s[i]? = some o) (hx : i ∉ X) : s1[i]? = some o := (a.get i (List.getElem?_eq_some_iff.mp h).1 hx).trans h
theorem Fr.push (a : Fr X s s1) (o : Ob) : Fr X s (s1 ++ [o]) := ⟨by rw [List.length_append]; exact Nat.le_trans a.le (Nat.le_add_right ..), fun i hi hx => by rw [List.getElem?_append_left (Nat.lt_of_lt_of_le hi a.le)]; exact a.get i hi hx⟩
theorem Fr.app (a : Fr X s s1) (t : Sto) : Fr X s (s1 ++ t) := ⟨by rw [List.length_append]; exact Nat.le_trans a.le (Nat.le_add_right ..), fun i hi hx => by rw [List.getElem?_append_left (Nat.lt_of_lt_of_le hi a.le)]; exact a.get i hi hx⟩
theorem Fr.set (a : Fr X s s1) {i : Nat} {o : Ob} (h : i ∈ X ∨ s.length ≤ i) : Fr X s (s1.set i o) := ⟨by rw [List.length_set]; exact a.le, fun j hj hx => by
  rw [List.getElem?_set_ne (fun z => by subst z; exact h.elim hx fun q => absurd hj (Nat.not_lt.mpr q))]
  exact a.get j hj hx⟩
end
@[simp] theorem get_set_self {s : Sto} {i : Nat} {o o' : Ob} (h : s[i]? = some o) : (s.set i o')[i]? = some o' := List.getElem?_set_self (List.getElem?_eq_some_iff.mp h).1
theorem get_set_ne {s : Sto} {i j : Nat} {o' : Ob} (h : i ≠ j) : (s.set i o')[j]? = s[j]? := List.getElem?_set_ne h
theorem get_push {s : Sto} {i : Nat} {o o' : Ob} (h : s[i]? = some o) : (s ++ [o'])[i]? = some o := by rw [List.getElem?_append_left (List.getElem?_eq_some_iff.mp h).1]; exact h
theorem get_app {s t : Sto} {i : Nat} {o : Ob} (h : s[i]? = some o) : (s ++ t)[i]? = some o := by rw [List.getElem?_append_left (List.getElem?_eq_some_iff.mp h).1]; exact h
@[simp] theorem get_last {s : Sto} {o : Ob} : (s ++ [o])[s.length]? = some o := by simp
theorem lt_of_get {s : Sto} {i : Nat} {o : Ob} (h : s[i]? = some o) : i < s.length := (List.getElem?_eq_some_iff.mp h).1
theorem ne_of_get {s : Sto} {i j : Nat} {o o' : Ob} (h : s[i]? = some o) (h' : s[j]? = some o') (n : o ≠ o') : i ≠ j := fun e => by subst e; rw [h] at h'; cases h'; exact n rfl
section
variable {s : Sto} {lo : Lo} {QV : Vl → Sto → Prop} {E : Ex → Sto → Prop}
theorem WE_eLock {e c : EM} {j : Nat} {kvs : List (Key × Vl)} (he : WE (e lo) s (fun v _ => v = .ref j) NoX) (hj : s[j]? = some (.dic kvs)) (hc : WE (c lo) (s.set j (.fdic kvs)) (fun v s' => (∃ kvs', s'[j]? = some (.fdic kvs')) ∧ QV v (s'.set j (.dic kvs))) NoX) : WE (eLock e c lo) s QV E := by
  obtain ⟨v, s', e1, e2⟩ := he.get
  subst e2
  obtain ⟨w, s2, e3, ⟨k', e4⟩, e5⟩ := hc.get
  simp only [WE_eq]
  unfold WE0 eLock
  simp only [e1, hj, e3, e4]
  exact e5
@[simp ↓] theorem WE_iVal {e : EM} {QN : NX → Sto → Prop} : WE (iVal e lo) s QN E = WE (e lo) s (fun x s => match x with | .ref j => (match s[j]? with | some (.fdic _) => QN (nxVals j) s | _ => False) | _ => False) E := by
  unfold iVal
  rw [WE_bnd]
  refine WE_ext fun x s => ?_
  cases x <;> try (simp only [WE_eq]; rfl)
  rename_i j
  simp only [WE_eq]
  unfold WE0
  simp only
  cases h : s[j]? with
  | none => rfl
  | some o => cases o <;> rfl
@[simp ↓] theorem WE_eListVals {e : EM} : WE (eListVals e lo) s QV E = WE (e lo) s (fun x s => match x with | .ref j => (match s[j]? with | some (.dic kvs) => QV (.ref s.length) (s ++ [.lst (kvs.map (·.2))]) | _ => False) | _ => False) E := by
  unfold eListVals
  rw [WE_bnd]
  refine WE_ext fun x s => ?_
  cases x <;> try (simp only [WE_eq]; rfl)
  rename_i j
  simp only [WE_eq]
  unfold WE0
  simp only
  cases h : s[j]? with
  | none => rfl
  | some o => cases o <;> rfl
/-- {k: v} of plain parts -/
theorem WE_eDict1 {k v : EM} {x y : Vl} {key : Key} (hk : ∀ s, WE (k lo) s (fun z s' => z = x ∧ s' = s) NoX) (hv : ∀ s, WE (v lo) s (fun z s' => z = y ∧ s' = s) NoX) (hx : keyOf x = some key) (h : QV (.ref s.length) (s ++ [.dic [(key, y)]])) : WE (eDict [(k, v)] lo) s QV E := by
  obtain ⟨a, s1, e1, rfl, rfl⟩ := (hk (s ++ [.dic []])).get
  obtain ⟨b, s2, e2, rfl, rfl⟩ := (hv (s ++ [.dic []])).get
  simp only [WE_eq]
  unfold WE0 eDict
  have : dpM [(k, v)] lo (s ++ [.dic []]) = .ok [(a, b)] (s ++ [.dic []]) := by
    simp only [dpM, bnd, e1, e2, ret]
  simp only [this, get_last]
  simp [mapO, keyP, hx, mergeP, put]
  exact h
end
/-- a deck: the cells at l and the count c, at d -/
structure Deck (s : Sto) (d l c : Nat) (cells : List Int) : Prop where
  top : s[d]? = some (.lst [.ref l, .int c])
  cel : s[l]? = some (.lst (cells.map Vl.int))
  nn : ∀ x ∈ cells, 0 ≤ x
  ne : l ≠ d
theorem Deck.fr {X : List Nat} {s s' : Sto} {d l c : Nat} {cells : List Int} (D : Deck s d l c cells) (f : Fr X s s') (h1 : d ∉ X) (h2 : l ∉ X) : Deck s' d l c cells := ⟨f.at D.top h1, f.at D.cel h2, D.nn, D.ne⟩
/-- some deck with at most c draws -/
def DeckLe (s : Sto) (d l c : Nat) : Prop := ∃ k cells, k ≤ c ∧ Deck s d l k cells
end Sm

/-! S16: operations on values that are known, as rewriting rules -/
namespace Sm
open PySem L2
section
variable {α : Type} {s : Sto} {lo : Lo} {i j : Int} {a b : Nat} {xs ys : List Vl} {x y : Str} {v w : Vl} {kvs : List (Key × Vl)} {k : Bool}
@[simp] theorem opAdd_int : opAdd (.int i) (.int j) s = some (.int (i + j), s) := rfl
@[simp] theorem opSub_int : opSub (.int i) (.int j) s = some (.int (i - j), s) := rfl
@[simp] theorem opNeg_int : opNeg (.int i) s = some (.int (-i), s) := rfl
@[simp] theorem opAdd_tup (h : xs.length + ys.length ≤ LIM) : opAdd (.tup xs) (.tup ys) s = some (.tup (xs ++ ys), s) := by simp only [opAdd, if_pos h]
@[simp] theorem opAdd_str (h : x.length + y.length ≤ LIM) : opAdd (.str x) (.str y) s = some (.str (x ++ y), s) := by simp only [opAdd, if_pos h]
@[simp] theorem opAdd_lst (h1 : s[a]? = some (.lst xs)) (h2 : s[b]? = some (.lst ys)) (h : xs.length + ys.length ≤ LIM) : opAdd (.ref a) (.ref b) s = some (.ref s.length, s ++ [.lst (xs ++ ys)]) := by simp only [opAdd, h1, h2, if_pos h]
@[simp] theorem opMul_int (h : (-(2 ^ 64) < i ∧ i < 2 ^ 64) ∨ (-(2 ^ 64) < j ∧ j < 2 ^ 64)) : opMul (.int i) (.int j) s = some (.int (i * j), s) := by simp only [opMul, if_pos h]
@[simp] theorem opMul_lst (h1 : s[a]? = some (.lst xs)) (h : 0 ≤ i ∧ i < 2 ^ 60 ∧ xs.length * i.toNat ≤ LIM) : opMul (.ref a) (.int i) s = some (.ref s.length, s ++ [.lst (List.replicate i.toNat xs).flatten]) := by simp only [opMul, h1, if_pos h]
@[simp] theorem opFdiv_int (h : 0 < j ∧ j < 1073741824) : opFdiv (.int i) (.int j) s = some (.int (i / j), s) := by simp only [opFdiv, if_pos h]
@[simp] theorem opMod_int (h : 0 < j) : opMod (.int i) (.int j) s = some (.int (i % j), s) := by simp only [opMod, if_pos h]
@[simp] theorem opPow_int (h : 0 ≤ j ∧ j ≤ 1000000 ∧ i.natAbs < 2 ^ 64) : opPow (.int i) (.int j) s = some (.int (i ^ j.toNat), s) := by simp only [opPow, if_pos h]
@[simp] theorem opLt_int : opLt (.int i) (.int j) s = some (.bl (decide (i < j)), s) := rfl
@[simp] theorem opLe_int : opLe (.int i) (.int j) s = some (.bl (decide (i ≤ j)), s) := rfl
@[simp] theorem opGt_int : opGt (.int i) (.int j) s = some (.bl (decide (j < i)), s) := rfl
@[simp] theorem opGe_int : opGe (.int i) (.int j) s = some (.bl (decide (j ≤ i)), s) := rfl
@[simp] theorem opIsN_non : opIsN v .non s = some (.bl (isNon v), s) := by cases v <;> rfl
@[simp] theorem opNotN_non : opNotN v .non s = some (.bl (!isNon v), s) := by cases v <;> rfl
@[simp] theorem isNon_non : isNon .non = true := rfl
@[simp] theorem isNon_int : isNon (.int i) = false := rfl
@[simp] theorem isNon_str : isNon (.str x) = false := rfl
@[simp] theorem isNon_tup : isNon (.tup xs) = false := rfl
@[simp] theorem isNon_ref : isNon (.ref a) = false := rfl
@[simp] theorem isNon_bl : isNon (.bl k) = false := rfl
@[simp] theorem opEq_int : opEq (.int i) (.int j) s = some (.bl (i == j), s) := rfl
@[simp] theorem opNe_int : opNe (.int i) (.int j) s = some (.bl (!(i == j)), s) := rfl
@[simp] theorem opEq_str : opEq (.str x) (.str y) s = some (.bl (x == y), s) := rfl
@[simp] theorem opNe_str : opNe (.str x) (.str y) s = some (.bl (!(x == y)), s) := rfl
@[simp] theorem opIx_tup : opIx (.tup xs) (.int i) s = (atI xs i).map fun v => (v, s) := rfl
@[simp] theorem opIx_lst (h : s[a]? = some (.lst xs)) : opIx (.ref a) (.int i) s = (atI xs i).map fun v => (v, s) := by simp only [opIx, h]
@[simp] theorem opIx_dicI (h : s[a]? = some (.dic kvs)) : opIx (.ref a) (.int i) s = (look kvs (.inl i)).map fun v => (v, s) := by simp only [opIx, h, keyOf]
@[simp] theorem opIx_dicS (h : s[a]? = some (.dic kvs)) : opIx (.ref a) (.str x) s = (look kvs (.inr x)).map fun v => (v, s) := by simp only [opIx, h, keyOf]
@[simp] theorem opSet_lst (h : s[a]? = some (.lst xs)) : opSet (.ref a) (.int i) v s = (ixN xs.length i).map fun n => s.set a (.lst (xs.set n v)) := by
  simp only [opSet, h]
  cases ixN xs.length i <;> rfl
@[simp] theorem opSet_dicI (h : s[a]? = some (.dic kvs)) (hl : kvs.length < LIM) : opSet (.ref a) (.int i) v s = some (s.set a (.dic (put kvs (.inl i) v))) := by simp only [opSet, h, keyOf, if_pos hl]
@[simp] theorem opSet_dicS (h : s[a]? = some (.dic kvs)) (hl : kvs.length < LIM) : opSet (.ref a) (.str x) v s = some (s.set a (.dic (put kvs (.inr x) v))) := by simp only [opSet, h, keyOf, if_pos hl]
@[simp] theorem oLen_lst (h : s[a]? = some (.lst xs)) : oLen [.ref a] s = some (.int xs.length, s) := by simp [oLen, lenM, h]
@[simp] theorem oLen_dic (h : s[a]? = some (.dic kvs)) : oLen [.ref a] s = some (.int kvs.length, s) := by simp [oLen, lenM, h]
@[simp] theorem oLen_tup : oLen [.tup xs] s = some (.int xs.length, s) := rfl
@[simp] theorem oAbs_int : oAbs [.int i] s = some (.int (if i < 0 then -i else i), s) := rfl
@[simp] theorem oInt_int : oInt [.int i] s = some (.int i, s) := rfl
@[simp] theorem oInt_bl : oInt [.bl k] s = some (.int (if k then 1 else 0), s) := rfl
@[simp] theorem oMax_int : oMax [.int i, .int j] s = some (.int (if j > i then j else i), s) := rfl
@[simp] theorem oMin_int : oMin [.int i, .int j] s = some (.int (if j < i then j else i), s) := rfl
@[simp] theorem oTup_ok (h : xs.length ≤ LIM) : oTup xs s = some (.tup xs, s) := by simp only [oTup, if_pos h]
@[simp] theorem oLst_ok (h : xs.length ≤ LIM) : oLst xs s = some (.ref s.length, s ++ [.lst xs]) := by simp only [oLst, if_pos h]
@[simp] theorem oTuple_lst (h : s[a]? = some (.lst xs)) : oTuple [.ref a] s = some (.tup xs, s) := by simp only [oTuple, h]
@[simp] theorem oTuple_tup : oTuple [.tup xs] s = some (.tup xs, s) := rfl
@[simp] theorem oList_lst (h : s[a]? = some (.lst xs)) : oList [.ref a] s = some (.ref s.length, s ++ [.lst xs]) := by simp only [oList, h]
@[simp] theorem oList_tup : oList [.tup xs] s = some (.ref s.length, s ++ [.lst xs]) := rfl
@[simp] theorem oList_dic (h : s[a]? = some (.dic kvs)) : oList [.ref a] s = some (.ref s.length, s ++ [.lst (kvs.map fun kv => keyVl kv.1)]) := by simp only [oList, h]
@[simp] theorem oAppend_lst (h : s[a]? = some (.lst xs)) (hl : xs.length < LIM) : oAppend (.ref a) [v] s = some (.non, s.set a (.lst (xs ++ [v]))) := by simp only [oAppend, h, if_pos hl]
@[simp] theorem oExtend_lst (h : s[a]? = some (.lst xs)) (h2 : s[b]? = some (.lst ys)) (hl : xs.length + ys.length ≤ LIM) : oExtend (.ref a) [.ref b] s = some (.non, s.set a (.lst (xs ++ ys))) := by simp only [oExtend, h, h2, if_pos hl]
@[simp] theorem oPop_lst (h : s[a]? = some (.lst (xs ++ [v]))) : oPop (.ref a) [] s = some (v, s.set a (.lst xs)) := by
  simp only [oPop, h]
  simp
@[simp] theorem kd_lst (h : s[a]? = some (.lst xs)) : kd .list (.ref a) s = true := by simp only [kd, h]
@[simp] theorem kd_dic (h : s[a]? = some (.dic kvs)) : kd .dict (.ref a) s = true := by simp only [kd, h]
@[simp] theorem kd_str : kd .str (.str x) s = true := rfl
@[simp] theorem opSl_tup {lo hi : Option Int} : opSl (.tup xs) lo hi s = some (.tup (cutL xs lo hi), s) := rfl
@[simp] theorem opSl_lst {lo hi : Option Int} (h : s[a]? = some (.lst xs)) : opSl (.ref a) lo hi s = some (.ref s.length, s ++ [.lst (cutL xs lo hi)]) := by simp only [opSl, h]
@[simp] theorem opSl_scr {lo hi : Option Int} {ns : List Int} : opSl (.scr ns) lo hi s = some (.ref s.length, s ++ [.lst ((cutL ns lo hi).map Vl.int)]) := rfl
@[simp] theorem opIn_lst (h : s[a]? = some (.lst xs)) (hf : flat v = true) (ha : xs.all flat = true) : opIn v (.ref a) s = some (.bl (inF v xs), s) := by simp only [opIn, inM, h, hf, ha, Bool.and_self, if_true]
@[simp] theorem opNotIn_lst (h : s[a]? = some (.lst xs)) (hf : flat v = true) (ha : xs.all flat = true) : opNotIn v (.ref a) s = some (.bl (!inF v xs), s) := by simp only [opNotIn, inM, h, hf, ha, Bool.and_self, if_true]
@[simp] theorem opIn_tup (hf : flat v = true) (ha : xs.all flat = true) : opIn v (.tup xs) s = some (.bl (inF v xs), s) := by simp only [opIn, inM, hf, ha, Bool.and_self, if_true]
@[simp] theorem opNotIn_tup (hf : flat v = true) (ha : xs.all flat = true) : opNotIn v (.tup xs) s = some (.bl (!inF v xs), s) := by simp only [opNotIn, inM, hf, ha, Bool.and_self, if_true]
@[simp] theorem opIn_dicI (h : s[a]? = some (.dic kvs)) : opIn (.int i) (.ref a) s = some (.bl (hasK kvs (.inl i)), s) := by simp only [opIn, inM, h, keyOf]
@[simp] theorem opNotIn_dicI (h : s[a]? = some (.dic kvs)) : opNotIn (.int i) (.ref a) s = some (.bl (!hasK kvs (.inl i)), s) := by simp only [opNotIn, inM, h, keyOf]
@[simp] theorem opIn_dicS (h : s[a]? = some (.dic kvs)) : opIn (.str x) (.ref a) s = some (.bl (hasK kvs (.inr x)), s) := by simp only [opIn, inM, h, keyOf]
@[simp] theorem opNotIn_dicS (h : s[a]? = some (.dic kvs)) : opNotIn (.str x) (.ref a) s = some (.bl (!hasK kvs (.inr x)), s) := by simp only [opNotIn, inM, h, keyOf]
@[simp] theorem flat_int : flat (.int i) = true := rfl
@[simp] theorem flat_str : flat (.str x) = true := rfl
@[simp] theorem flat_bl : flat (.bl k) = true := rfl
@[simp] theorem flat_non : flat .non = true := rfl
@[simp] theorem oSortS_ints {ns : List Int} (h : s[a]? = some (.lst (ns.map Vl.int))) : oSortS [.ref a] s = some (.ref s.length, s ++ [.lst ((srt ns).map Vl.int)]) := by simp [oSortS, h, mapO_ints]
@[simp] theorem oSortS_set {ns : List Int} (h : s[a]? = some (.set ns)) (hl : ns.length < 64) : oSortS [.ref a] s = some (.ref s.length, s ++ [.lst ((srt ns).map Vl.int)]) := by simp [oSortS, h, hl]
@[simp] theorem oSet_ints {ns : List Int} (h : s[a]? = some (.lst (ns.map Vl.int))) (hl : ns.length < 4000) : oSet [.ref a] s = some (.ref s.length, s ++ [.set (ddup ns)]) := by simp [oSet, lstOf, h, mapO_ints, hl]
@[simp] theorem oAll_bls {bs : List Bool} (h : s[a]? = some (.lst (bs.map Vl.bl))) : oAll [.ref a] s = some (.bl (bs.all id), s) := by simp [oAll, lstOf, h, mapO_bls]
@[simp] theorem oAny_bls {bs : List Bool} (h : s[a]? = some (.lst (bs.map Vl.bl))) : oAny [.ref a] s = some (.bl (bs.any id), s) := by simp [oAny, lstOf, h, mapO_bls]
@[simp] theorem oSum_ints {ns : List Int} (h : s[a]? = some (.lst (ns.map Vl.int))) : oSum [.ref a] s = some (.int ns.sum, s) := by simp [oSum, lstOf, h, mapO_ints]
theorem fldW_ins {cs : List Nat} {f : Str} {c : Nat} {fs : List (Str × Vl)} {QV : Vl → Sto → Prop} (h : s[a]? = some (.ins c fs)) : fldW cs f (.ref a) s QV = (c ∈ cs ∧ match getS fs f with | some v => QV v s | none => False) := by
  simp only [fldW, h] <;> rfl
theorem setFld_ins {cs : List Nat} {f : Str} {c : Nat} {fs : List (Str × Vl)} (h : s[a]? = some (.ins c fs)) (hc : c ∈ cs ∧ fs.length < 1000) : setFld cs f (.ref a) v s = some (s.set a (.ins c (putS f v fs))) := by simp only [setFld, h, if_pos hc]
theorem methW_ins {m : Str} {tab : MTab} {c : Nat} {fs : List (Str × Vl)} {mf : List Vl → M Vl} {P : (List Vl → M Vl) → Prop} (h : s[a]? = some (.ins c fs)) (ht : tab c = some mf) (hg : getS fs m = none) : methW m tab (.ref a) s P = P mf := by simp only [methW, h, ht, hg]
@[simp] theorem lim0 : (0 ≤ LIM) = True := eq_true (by decide)
@[simp] theorem lim1 : (1 ≤ LIM) = True := eq_true (by decide)
@[simp] theorem lim2 : (2 ≤ LIM) = True := eq_true (by decide)
@[simp] theorem lim3 : (3 ≤ LIM) = True := eq_true (by decide)
@[simp] theorem lim4 : (4 ≤ LIM) = True := eq_true (by decide)
@[simp] theorem lim5 : (5 ≤ LIM) = True := eq_true (by decide)
@[simp] theorem lim6 : (6 ≤ LIM) = True := eq_true (by decide)
@[simp] theorem limz : (0 < LIM) = True := eq_true (by decide)
theorem limB {n : Nat} (h : n ≤ 1000000) : n ≤ LIM := Nat.le_trans h (by decide)
theorem limC {n : Nat} (h : n < 1000000) : n < LIM := Nat.lt_of_lt_of_le h (by decide)
end
theorem ixN_nat {n m : Nat} (h : n < m) : ixN m (n : Int) = some n := by
  simp [ixN, h]
theorem atN {α : Type} {xs : List α} {n : Nat} : atI xs (n : Int) = xs[n]? := by
  by_cases h : n < xs.length
  · simp [atI, ixN_nat h]
  · simp [atI, ixN, h, List.getElem?_eq_none (Nat.le_of_not_lt h)]
@[simp] theorem atI_0 {α : Type} {xs : List α} : atI xs 0 = xs[0]? := atN (n := 0)
@[simp] theorem atI_1 {α : Type} {xs : List α} : atI xs 1 = xs[1]? := atN (n := 1)
@[simp] theorem atI_2 {α : Type} {xs : List α} : atI xs 2 = xs[2]? := atN (n := 2)
@[simp] theorem atI_3 {α : Type} {xs : List α} : atI xs 3 = xs[3]? := atN (n := 3)
@[simp] theorem atLast {α : Type} {xs : List α} {v : α} : atI (xs ++ [v]) (-1) = some v := by
  have : ixN (xs ++ [v]).length (-1) = some xs.length := by
    simp [ixN]
    omega
  unfold atI
  rw [this]
  simp
theorem mapO_none {α β : Type} {f : α → Option β} : ∀ {xs : List α}, (∀ x ∈ xs, (f x).isSome = true) → ∃ ys, mapO f xs = some ys ∧ ys.length = xs.length
  | [], _ => ⟨[], rfl, rfl⟩
  | x :: xs, h => by
    obtain ⟨y, hy⟩ := Option.isSome_iff_exists.mp (h x (List.mem_cons_self ..))
    obtain ⟨ys, e, l⟩ := mapO_none fun z hz => h z (List.mem_cons_of_mem _ hz)
    exact ⟨y :: ys, by simp only [mapO, hy, e], by simp [l]⟩
@[simp] theorem cutL_nat {α : Type} {xs : List α} {n : Nat} : cutL xs none (some (n : Int)) = xs.take n := by
  unfold cutL
  rw [HT.sIx_none, HT.sIx_nat]
  simp [List.take_eq_take_iff]
theorem lcX_p {g : GL} {t : TM} {e : EM} {lo : Lo} {d : Nat} {xs : List Vl} {s0 : Sto} {Q : Sto → Prop} (s : Sto) (f : Vl → Option Vl) (h1 : d = s.length) (h2 : s0 = s ++ [.lst []]) (hl : xs.length < 1000000) (hx : ∀ x ∈ xs, LcP g t e lo s x (f x)) (hd : Q (s ++ [.lst (xs.filterMap f)])) : WL (lcX g t e d lo xs s0) Q := by
  subst h1 h2
  exact lcX_pure f (limC hl) hx hd
theorem lcL_p {j : Nat} {g : GL} {t : TM} {e : EM} {lo : Lo} {d : Nat} {xs : List Vl} {s0 : Sto} {Q : Sto → Prop} (s : Sto) (f : Vl → Option Vl) (h1 : d = s.length) (h2 : s0 = s ++ [.lst []]) (hj : s[j]? = some (.lst xs)) (hf : xs.length < 100000) (hx : ∀ x ∈ xs, LcP g t e lo s x (f x)) (hd : Q (s ++ [.lst (xs.filterMap f)])) :
    WL (lcN (nxLst j) g t e d lo 100000 0 s0) Q := by
  subst h1 h2
  exact lcL_pure f hj (limC (by omega)) hf hx hd
theorem lcV_p {j : Nat} {g : GL} {t : TM} {e : EM} {lo : Lo} {d : Nat} {kvs : List (Key × Vl)} {s0 : Sto} {Q : Sto → Prop} (s : Sto) (f : Vl → Option Vl) (h1 : d = s.length) (h2 : s0 = s ++ [.lst []]) (hj : s[j]? = some (.fdic kvs)) (hf : kvs.length < 100000) (hx : ∀ x ∈ kvs.map (·.2), LcP g t e lo s x (f x)) (hd : Q (s ++ [.lst ((kvs.map (·.2)).filterMap f)])) :
    WL (lcN (nxVals j) g t e d lo 100000 0 s0) Q := by
  subst h1 h2
  have hjl : j < s.length := (List.getElem?_eq_some_iff.mp hj).1
  generalize hxs : kvs.map (·.2) = xs at hx hd
  have hxl : xs.length = kvs.length := by rw [← hxs, List.length_map]
  refine lcV_inv (kvs := kvs) (fun i s' => s' = s ++ [.lst ((xs.take i).filterMap f)]) hf (by simp) (fun i s' e => by rw [e, List.getElem?_append_left hjl]; exact hj) (fun i v s' hv e => ?_) (fun s' e => by rw [e, ← hxl, List.take_length]; exact hd)
  subst e
  rw [hxs] at hv
  have hlen : ((xs.take i).filterMap f).length < LIM := Nat.lt_of_le_of_lt (Nat.le_trans (List.length_filterMap_le ..) (by rw [List.length_take]; exact Nat.min_le_right ..)) (limC (by omega))
  obtain ⟨lo', h1, h2⟩ := (hx v (List.mem_of_getElem? hv)).turn hlen
  refine ⟨lo', h1, ?_⟩
  have : (xs.take (i + 1)).filterMap f = (xs.take i).filterMap f ++ (f v).toList := by
    rw [List.take_add_one, hv, Option.toList, List.filterMap_append]
    cases h : f v <;> simp [List.filterMap_cons, h]
  rw [this]
  exact h2
/-- enumerate, both names read -/
theorem lcE_p {j : Nat} {g : GL} {t : TM} {e : EM} {lo : Lo} {d : Nat} {xs : List Vl} {s0 : Sto} {Q : Sto → Prop} (s : Sto) (f : Nat → Vl → Option Vl) (h1 : d = s.length) (h2 : s0 = s ++ [.lst []]) (hj : s[j]? = some (.lst xs)) (hf : xs.length < 100000) (hx : ∀ i x, xs[i]? = some x → LcP g t e lo s (.tup [.int (i : Nat), x]) (f i x)) (hd : Q (s ++ [.lst ((xs.zipIdx).filterMap fun p => f p.2 p.1)])) :
    WL (lcN (nxEnum j) g t e d lo 100000 0 s0) Q := by
  subst h1 h2
  have hjl : j < s.length := (List.getElem?_eq_some_iff.mp hj).1
  refine lcE_inv (xs := xs) (fun i s' => s' = s ++ [.lst (((xs.take i).zipIdx).filterMap fun p => f p.2 p.1)]) hf (by simp) (fun i s' e => by rw [e, List.getElem?_append_left hjl]; exact hj) (fun i v s' hv e => ?_) (fun s' e => by rw [e, List.take_length]; exact hd)
  subst e
  obtain ⟨hi, ev⟩ := List.getElem?_eq_some_iff.mp hv
  have hlen : (((xs.take i).zipIdx).filterMap fun p => f p.2 p.1).length < LIM := Nat.lt_of_le_of_lt (Nat.le_trans (List.length_filterMap_le ..) (by rw [List.length_zipIdx, List.length_take]; exact Nat.min_le_right ..)) (limC (by omega))
  obtain ⟨lo', h1, h2⟩ := (hx i v hv).turn hlen
  refine ⟨lo', h1, ?_⟩
  have : ((xs.take (i + 1)).zipIdx).filterMap (fun p => f p.2 p.1) = ((xs.take i).zipIdx).filterMap (fun p => f p.2 p.1) ++ (f i v).toList := by
    rw [List.take_add_one, hv, Option.toList, List.zipIdx_append, List.filterMap_append]
    have : 0 + (xs.take i).length = i := by rw [List.length_take]; omega
    rw [this]
    cases h : f i v <;> simp [List.filterMap_cons, h]
  rw [this]
  exact h2
end Sm

/-! S17: texts of plain values; == with an empty list -/
namespace Sm
open PySem L2
/-- a plain value, at most n deep, at most w wide -/
def Pn (n w : Nat) (v : Vl) : Prop := ∃ d : PyData, (∀ s m, n ≤ m → toD m s v = some d) ∧ d.leavesShort 13 = true ∧ d.showable = true ∧ d.weight ≤ w
theorem Pn.mono {n m w z : Nat} {v : Vl} (h : Pn n w v) (h1 : n ≤ m) (h2 : w ≤ z) : Pn m z v := by
  obtain ⟨d, a, b, c, e⟩ := h
  exact ⟨d, fun s k hk => a s k (Nat.le_trans h1 hk), b, c, Nat.le_trans e h2⟩
theorem Pn.non : Pn 1 64 .non := by
  refine ⟨.none, fun s m hm => ?_, rfl, rfl, by simp [PyData.weight]⟩
  obtain ⟨m, rfl⟩ : ∃ k, m = k + 1 := ⟨m - 1, by omega⟩
  rfl
theorem Pn.int {i : Int} (h : i.natAbs < 10 ^ 12) : Pn 1 64 (.int i) := by
  refine ⟨.int i, fun s m hm => ?_, ?_, ?_, ?_⟩
  · obtain ⟨m, rfl⟩ : ∃ k, m = k + 1 := ⟨m - 1, by omega⟩
    rfl
  · have := int_text_length_le10 (a := i) (k := 12) (by omega) h
    simp only [PyData.leavesShort, PyData.shown]
    refine decide_eq_true ?_
    have e : (Str.ofString (toString i)).length = (toString i).length := ofString_length _
    omega
  · simp only [PyData.showable, decide_eq_true_eq]
    rcases Nat.eq_zero_or_pos i.natAbs with z | z
    · rw [z]; decide
    · have : i.natAbs.log2 < 40 := by
        rw [Nat.log2_lt (by omega)]
        exact Nat.lt_of_lt_of_le h (by decide)
      omega
  · simp only [PyData.weight]
    split
    · omega
    · rename_i z
      have z : i.natAbs ≠ 0 := by simp at z; omega
      have : i.natAbs.log2 < 40 := by
        rw [Nat.log2_lt z]
        exact Nat.lt_of_lt_of_le h (by decide)
      omega
theorem Pn.str {x : Str} (h : (x.cps.toList.all fun c => decide (c < 16 ^ 8)) = true) (hl : x.length ≤ 64) : Pn 1 64 (.str x) := by
  refine ⟨.str x, fun s m hm => ?_, ?_, rfl, ?_⟩
  · obtain ⟨m, rfl⟩ : ∃ k, m = k + 1 := ⟨m - 1, by omega⟩
    rfl
  · exact h
  · exact hl
theorem Pn.all {n w : Nat} : ∀ {xs : List Vl}, (∀ x ∈ xs, Pn n w x) → ∃ ds : List PyData, (∀ s m, n ≤ m → mapO (toD m s) xs = some ds) ∧ PyData.leavesShortAll 13 ds = true ∧ PyData.showableAll ds = true ∧ PyData.weightAll ds ≤ xs.length * (w + 1)
  | [], _ => ⟨[], fun _ _ _ => rfl, rfl, rfl, by simp [PyData.weightAll]⟩
  | x :: xs, h => by
    obtain ⟨d, a, b, c, e⟩ := h x (List.mem_cons_self ..)
    obtain ⟨ds, a', b', c', e'⟩ := Pn.all fun y hy => h y (List.mem_cons_of_mem _ hy)
    refine ⟨d :: ds, fun s m hm => ?_, ?_, ?_, ?_⟩
    · simp only [mapO, a s m hm, a' s m hm]
    · simp only [PyData.leavesShortAll, b, b', Bool.and_self]
    · simp only [PyData.showableAll, c, c', Bool.and_self]
    · simp only [PyData.weightAll, List.length_cons, Nat.add_mul, Nat.one_mul]
      omega
theorem Pn.tup {n w : Nat} {xs : List Vl} (h : ∀ x ∈ xs, Pn n w x) : Pn (n + 1) (xs.length * (w + 1)) (.tup xs) := by
  obtain ⟨ds, a, b, c, e⟩ := Pn.all h
  refine ⟨.tuple ds, fun s m hm => ?_, ?_, ?_, ?_⟩
  · obtain ⟨m, rfl⟩ : ∃ k, m = k + 1 := ⟨m - 1, by omega⟩
    simp only [toD, a s m (by omega), Option.map]
  · simpa only [PyData.leavesShort] using b
  · simpa only [PyData.showable] using c
  · simpa only [PyData.weight] using e
theorem Pn.repr {n w : Nat} {v : Vl} (h : Pn n w v) (hn : n ≤ 40) (hw : w ≤ 2 ^ 20) : ∃ x, ∀ s, oRepr [v] s = some (.str x, s) := by
  obtain ⟨d, a, b, c, e⟩ := h
  refine ⟨d.shown, fun s => ?_⟩
  have : d.shown.length ≤ LIM := by
    rw [← lim_eq]
    exact PyData.shown_fits (by omega) (by omega) b (by omega)
  simp only [oRepr, a s 40 hn, c, this, decide_true, Bool.and_self, if_true]
theorem canLay_ints : ∀ ns : List Int, PyData.canLayAll0 (ns.map PyData.int) = true
  | [] => rfl
  | n :: ns => by simp only [List.map_cons, PyData.canLayAll0, PyData.canLay0, canLay_ints ns, Bool.and_self]
theorem toD_ints {s : Sto} {m : Nat} : ∀ ns : List Int, mapO (toD (m + 1) s) (ns.map Vl.int) = some (ns.map PyData.int)
  | [] => rfl
  | n :: ns => by
    have e : toD (m + 1) s (.int n) = some (.int n) := rfl
    simp only [List.map_cons, mapO, e, toD_ints ns]
theorem toD_lst {s : Sto} {m a : Nat} {xs : List Vl} (h : s[a]? = some (.lst xs)) : toD (m + 1) s (.ref a) = (mapO (toD m s) xs).map .list := by
  unfold toD
  simp only [h]
theorem eqM_nil {s : Sto} {a b : Nat} {ns : List Int} (h1 : s[a]? = some (.lst (ns.map Vl.int))) (h2 : s[b]? = some (.lst [])) : eqM (.ref a) (.ref b) s = some ns.isEmpty := by
  have e1 : toD 40 s (.ref a) = some (.list (ns.map PyData.int)) := by
    rw [toD_lst (m := 39) h1, toD_ints (m := 38)]
    rfl
  have e2 : toD 40 s (.ref b) = some (.list []) := by
    rw [toD_lst (m := 39) h2]
    rfl
  have e3 : PyData.canLay0 (.list (ns.map PyData.int)) = true := by simpa only [PyData.canLay0] using canLay_ints ns
  have e4 : PyData.canLay0 (.list []) = true := rfl
  simp only [eqM, eqS, e1, e2, e3, e4, Bool.and_self, if_true, PyData.eqv]
  cases ns <;> simp [PyData.eqvAll]
theorem opEq_nil {s : Sto} {a b : Nat} {ns : List Int} (h1 : s[a]? = some (.lst (ns.map Vl.int))) (h2 : s[b]? = some (.lst [])) : opEq (.ref a) (.ref b) s = some (.bl ns.isEmpty, s) := by
  simp only [opEq, eqM_nil h1 h2]
theorem opNe_nil {s : Sto} {a b : Nat} {ns : List Int} (h1 : s[a]? = some (.lst (ns.map Vl.int))) (h2 : s[b]? = some (.lst [])) : opNe (.ref a) (.ref b) s = some (.bl (!ns.isEmpty), s) := by
  simp only [opNe, eqM_nil h1 h2]
section
variable {mf : List Vl → M Vl} {s : Sto} {QV : Vl → Sto → Prop} {E : Ex → Sto → Prop} {x y z : Vl}
theorem WE_arg1 : WE (arg 1 mf [x]) s QV E = WE (mf [x]) s QV E := by rw [WE_arg]; exact if_pos rfl
theorem WE_arg2 : WE (arg 2 mf [x, y]) s QV E = WE (mf [x, y]) s QV E := by rw [WE_arg]; exact if_pos rfl
theorem WE_arg3 : WE (arg 3 mf [x, y, z]) s QV E = WE (mf [x, y, z]) s QV E := by rw [WE_arg]; exact if_pos rfl
end
@[simp] theorem rngW_nat {n : Nat} {s : Sto} {QA : List Vl → Sto → Prop} (h : n < 1000000) : rngW [.int (n : Int)] s QA = QA (rng 0 n) s := by
  rw [rngW_one]
  have h1 : -(2 ^ 62) ≤ (n : Int) := by omega
  have h2 : (n : Int) < 2 ^ 62 := by omega
  have e : (n : Int).toNat = n := Int.toNat_natCast n
  rw [e]
  exact propext ⟨fun z => z.2, fun z => ⟨⟨h1, h2⟩, z⟩⟩
theorem rng_get {n i : Nat} {v : Vl} (h : (rng 0 n)[i]? = some v) : i < n ∧ v = .int (i : Nat) := by
  have h1 := (List.getElem?_eq_some_iff.mp h).1
  have h2 : i < n := by simpa [rng] using h1
  refine ⟨h2, ?_⟩
  simp [rng, h2] at h
  exact h.symm
@[simp] theorem rng_len {n : Nat} : (rng 0 n).length = n := by simp [rng]
end Sm

/-! PD: the deck of numbers (the texts _law_deck, _law_draw, _law_one) -/
namespace K30
open PySem L2 Sm
theorem map_int_get {cells : List Int} {p : Nat} (h : p < (cells ++ [0]).length) : ∃ x, ((cells ++ [(0 : Int)]).map Vl.int)[p]? = some (.int x) ∧ (cells ++ [0])[p]? = some x := by
  refine ⟨(cells ++ [0])[p], ?_, ?_⟩
  · rw [List.getElem?_map, List.getElem?_eq_getElem h]; rfl
  · exact List.getElem?_eq_getElem h
theorem draw_spec {s : Sto} {d l c : Nat} {cells : List Int} {many : Int} (D : Deck s d l c cells) (hl : cells.length ≤ 63) (hm : 0 < many) (hm2 : many < 1073741824) (hc : c < 1000000) :
    WE (m__law_draw [.ref d, .int many]) s (fun v s' => ∃ (r : Int) (cells' : List Int), v = .int r ∧ 0 ≤ r ∧ r < many ∧ Deck s' d l (c + 1) cells' ∧ cells'.length = cells.length ∧ Fr [d, l] s s') NoX := by
  have h1 := D.top
  have h2 := D.cel
  have hne := D.ne
  have hld := lt_of_get h1
  unfold m__law_draw b__law_draw
  simp [h1, h2, ixN, atI, List.replicate, get_set_self h1, get_set_ne hne.symm]
  obtain ⟨M, hM, hM1, hM2⟩ : ∃ M : Int, M = (if 1 < (cells.length : Int) then (cells.length : Int) else 1) ∧ 0 < M ∧ M ≤ cells.length + 1 := ⟨_, rfl, by split <;> omega, by split <;> omega⟩
  rw [← hM]
  have hp0 := Int.emod_nonneg ((c : Int) + 1) (Int.ne_of_gt hM1)
  have hp1 := Int.emod_lt_of_pos ((c : Int) + 1) hM1
  obtain ⟨p, hp⟩ : ∃ p : Nat, ((c : Int) + 1) % M = p := ⟨_, (Int.toNat_of_nonneg hp0).symm⟩
  have hpl : p < (cells ++ [(0 : Int)]).length := by simp; omega
  obtain ⟨x, hx, hx'⟩ := map_int_get hpl
  have hx0 : 0 ≤ x := by
    have := List.mem_of_getElem? hx'
    simp at this
    rcases this with h | h
    · exact D.nn x h
    · omega
  generalize hs1 : s.set d (Ob.lst [Vl.ref l, Vl.int (↑c + 1)]) = s1
  have e1 : s1[d]? = some (.lst [.ref l, .int (c + 1)]) := by rw [← hs1]; exact get_set_self h1
  have e2 : s1[l]? = some (.lst (cells.map Vl.int)) := by rw [← hs1, get_set_ne hne.symm]; exact h2
  have f1 : Fr [d, l] s s1 := hs1 ▸ Fr.refl.set (Or.inl (List.mem_cons_self ..))
  have g1 : ∀ {o : Ob}, (s1 ++ [o])[d]? = some (.lst [.ref l, .int (c + 1)]) := get_push e1
  have g2 : ∀ {o : Ob}, (s1 ++ [o])[l]? = some (.lst (cells.map Vl.int)) := get_push e2
  have g3 : ∀ {t : Sto}, (s1 ++ t)[d]? = some (.lst [.ref l, .int (c + 1)]) := get_app e1
  have g4 : ∀ {t : Sto}, (s1 ++ t)[l]? = some (.lst (cells.map Vl.int)) := get_app e2
  rw [opMod_int hM1, hp]
  have hll : cells.length + 1 ≤ LIM := limB (by omega)
  simp only [List.map_append, List.map_cons, List.map_nil] at hx
  have hlt : p < cells.length + 1 := by simpa using hpl
  simp [e1, e2, g1, g2, g3, g4, atN, opAdd_lst g2 get_last, hll, hx]
  generalize hs2 : s1 ++ [Ob.lst [Vl.int 0], Ob.lst (List.map Vl.int cells ++ [Vl.int 0])] = s2
  have k1 : s2[d]? = some (.lst [.ref l, .int (c + 1)]) := by rw [← hs2]; exact g3
  have k2 : s2[l]? = some (.lst (cells.map Vl.int)) := by rw [← hs2]; exact g4
  have f2 : Fr [d, l] s s2 := hs2 ▸ f1.app _
  by_cases hbig : 1000000000000000000 ≤ x
  · have hpc : p < cells.length := by
      rcases Nat.lt_or_ge p cells.length with h | h
      · exact h
      · have : p = cells.length := by omega
        subst this
        simp at hx'
        omega
    have hq : 0 ≤ x / many := Int.ediv_nonneg hx0 (by omega)
    have i2 := ixN_nat hpc
    simp [hbig, k1, k2, hm, hm2, i2]
    refine ⟨Int.emod_nonneg x (by omega), Int.emod_lt_of_pos x hm, cells.set p (x / many), ⟨?_, ?_, ?_, hne⟩, by simp, f2.set (by simp)⟩
    · rw [get_set_ne hne]; exact k1
    · rw [get_set_self k2, List.map_set]
    · intro y hy
      rcases List.mem_or_eq_of_mem_set hy with h | h
      · exact D.nn y h
      · omega
  · have hq0 : 0 ≤ x % 2147483587 := Int.emod_nonneg x (by omega)
    have hq1 : x % 2147483587 < 2147483587 := Int.emod_lt_of_pos x (by omega)
    generalize x % 2147483587 = q at hq0 hq1
    have hb : (q + 7919 * ((c : Int) + 1) + 1).natAbs < 2 ^ 64 := by omega
    simp [hbig, k1, k2, hm, hm2, hb]
    exact ⟨Int.emod_nonneg _ (by omega), Int.emod_lt_of_pos _ hm, cells, ⟨k1, k2, D.nn, hne⟩, rfl, f2⟩
/-- a deck of at most 63 numbers, at most c of them drawn -/
def Dk (s : Sto) (d l c : Nat) : Prop := ∃ k cells, k ≤ c ∧ cells.length ≤ 63 ∧ Deck s d l k cells
theorem Dk.fr {X : List Nat} {s s' : Sto} {d l c : Nat} (D : Dk s d l c) (f : Fr X s s') (h1 : d ∉ X) (h2 : l ∉ X) : Dk s' d l c := by
  obtain ⟨k, cells, a, b, D⟩ := D
  exact ⟨k, cells, a, b, D.fr f h1 h2⟩
theorem Dk.mono {s : Sto} {d l c c' : Nat} (D : Dk s d l c) (h : c ≤ c') : Dk s d l c' := by
  obtain ⟨k, cells, a, b, D⟩ := D
  exact ⟨k, cells, Nat.le_trans a h, b, D⟩
theorem Dk.lt {s : Sto} {d l c : Nat} (D : Dk s d l c) : d < s.length ∧ l < s.length := by
  obtain ⟨k, cells, a, b, D⟩ := D
  exact ⟨lt_of_get D.top, lt_of_get D.cel⟩
theorem draw {s : Sto} {d l c : Nat} {many : Int} (D : Dk s d l c) (hm : 0 < many) (hm2 : many < 1073741824) (hc : c < 1000000) :
    WE (m__law_draw [.ref d, .int many]) s (fun v s' => ∃ (r : Nat), v = .int r ∧ (r : Int) < many ∧ Dk s' d l (c + 1) ∧ Fr [d, l] s s') NoX := by
  obtain ⟨k, cells, a, b, D⟩ := D
  refine (draw_spec D b hm hm2 (by omega)).use ?_
  rintro v s' ⟨r, cells', rfl, h0, h1, h2, h3, h4⟩
  exact ⟨r.toNat, by rw [Int.toNat_of_nonneg h0], by omega, ⟨k + 1, cells', by omega, by omega, h2⟩, h4⟩
theorem one {s : Sto} {d l c a : Nat} {xs : List Vl} (D : Dk s d l c) (ha : s[a]? = some (.lst xs)) (hd : a ∉ [d, l]) (h0 : 0 < xs.length) (h1 : xs.length < 1073741824) (hc : c < 1000000) :
    WE (m__law_one [.ref d, .ref a]) s (fun v s' => v ∈ xs ∧ Dk s' d l (c + 1) ∧ Fr [d, l] s s') NoX := by
  unfold m__law_one b__law_one
  simp [ha]
  refine (draw D (by omega) (by omega) hc).use ?_
  rintro v s' ⟨r, rfl, h2, h3, h4⟩
  have h5 := h4.at ha hd
  have h6 : r < xs.length := by omega
  simp [opIx_lst h5, atN, h6, h3, h4]
theorem deck {s : Sto} {ns : List Int} (h : ns.length ≤ 63) : WE (m__law_deck [.scr ns]) s (fun v s' => ∃ d l, v = .ref d ∧ Dk s' d l 0 ∧ Fr [] s s') NoX := by
  unfold m__law_deck b__law_deck
  have e63 : cutL ns none (some 63) = ns.take 63 := cutL_nat (n := 63)
  simp
  rw [e63]
  refine lcL_p (xs := (ns.take 63).map Vl.int) (s ++ [.lst ((ns.take 63).map Vl.int)]) (fun v => match v with | .int i => some (.int (if i < 0 then -i else i)) | _ => none) (by simp) (by simp) get_last (by simp; omega) ?_ ?_
  · intro x hx acc
    obtain ⟨i, _, rfl⟩ := List.mem_map.mp hx
    refine ⟨_, rfl, ?_⟩
    simp [tTrue, wipeL]
  · have e : ((ns.take 63).map Vl.int).filterMap (fun v => match v with | .int i => some (.int (if i < 0 then -i else i)) | _ => none) = ((ns.take 63).map fun i : Int => if i < 0 then -i else i).map Vl.int := by
      rw [List.filterMap_map, List.map_map, ← List.filterMap_eq_map]
      rfl
    rw [e]
    have hcl : ((ns.take 63).map fun i : Int => if i < 0 then -i else i).length ≤ 63 := by simp; omega
    have hcn : ∀ x ∈ ((ns.take 63).map fun i : Int => if i < 0 then -i else i), 0 ≤ x := by
      intro x hx
      obtain ⟨a, _, rfl⟩ := List.mem_map.mp hx
      split <;> omega
    generalize ((ns.take 63).map fun i : Int => if i < 0 then -i else i) = cs at hcl hcn
    generalize (ns.take 63).map Vl.int = o1
    simp
    refine ⟨⟨s.length + 1, 0, cs, Nat.le_refl _, hcl, ⟨?_, ?_, hcn, ?_⟩⟩, Fr.refl.app _⟩
    · rw [List.getElem?_append_right (by omega)]
      simp
    · rw [List.getElem?_append_right (by omega)]
      simp
    · omega
end K30

/-! PE: events and stories that the law draws -/
namespace K30
open PySem L2 Sm
def oN : Option Nat → Vl
  | none => .non
  | some c => .int c
inductive Ev where
  | make (n : Nat) | stand (x : Str) (c : Option Nat) | hold (h : Nat) (f : Str) (c : Option Nat) | keep (c : Nat) | ask (c : Nat)
def Ev.vl : Ev → Vl
  | .make n => .tup [.str "make", .int n]
  | .stand x c => .tup [.str "stand", .str x, oN c]
  | .hold h f c => .tup [.str "hold", .int h, .str f, oN c]
  | .keep c => .tup [.str "keep", .int c]
  | .ask c => .tup [.str "ask", .int c]
def oLt (n : Nat) : Option Nat → Prop
  | none => True
  | some c => c < n
def Ev.ok (n : Nat) : Ev → Prop
  | .make k => False
  | .stand x c => (x = "x" ∨ x = "y") ∧ oLt n c
  | .hold h f c => h < n ∧ (f = "f" ∨ f = "g") ∧ oLt n c
  | .keep c => c < n
  | .ask c => c < n
/-- events that go well from n cells to m -/
def okL : Nat → List Ev → Nat → Prop
  | n, [], m => n = m
  | n, .make k :: r, m => k = n ∧ okL (n + 1) r m
  | n, e :: r, m => e.ok n ∧ okL n r m
theorem okL_app : ∀ {es fs : List Ev} {n m k : Nat}, okL n es m → okL m fs k → okL n (es ++ fs) k
  | [], fs, n, m, k, h1, h2 => by
    have : n = m := h1
    subst this
    exact h2
  | .make j :: r, fs, n, m, k, h1, h2 => ⟨h1.1, okL_app h1.2 h2⟩
  | .stand .. :: r, fs, n, m, k, h1, h2 => ⟨h1.1, okL_app h1.2 h2⟩
  | .hold .. :: r, fs, n, m, k, h1, h2 => ⟨h1.1, okL_app h1.2 h2⟩
  | .keep _ :: r, fs, n, m, k, h1, h2 => ⟨h1.1, okL_app h1.2 h2⟩
  | .ask _ :: r, fs, n, m, k, h1, h2 => ⟨h1.1, okL_app h1.2 h2⟩
theorem okL_one {e : Ev} {n : Nat} (h : e.ok n) : okL n [e] n := by
  cases e <;> first | exact h.elim | exact ⟨h, rfl⟩
abbrev upTo (n : Nat) : List Vl := (List.range n).map fun i => Vl.int (i : Nat)
theorem mem_upTo {n : Nat} {v : Vl} (h : v ∈ upTo n) : ∃ i : Nat, i < n ∧ v = .int i := by
  obtain ⟨i, h1, rfl⟩ := List.mem_map.mp h
  exact ⟨i, List.mem_range.mp h1, rfl⟩
theorem upTo_eq {n : Nat} : upTo n = ((List.range n).map fun i => ((i : Nat) : Int)).map Vl.int := by simp [upTo]
theorem oneNew {s : Sto} {d l c : Nat} {xs : List Vl} (D : Dk s d l c) (h0 : 0 < xs.length) (h1 : xs.length < 1073741824) (hc : c < 1000000) :
    WE (m__law_one [.ref d, .ref s.length]) (s ++ [.lst xs]) (fun v s' => v ∈ xs ∧ Dk s' d l (c + 1) ∧ Fr [d, l] s s') NoX := by
  have hlt := D.lt
  refine (one (D.fr (Fr.refl.push (X := []) _) (by simp) (by simp)) get_last (by simp; omega) h0 h1 hc).use ?_
  rintro v s' ⟨a, b, f⟩
  exact ⟨a, b, (Fr.refl.push _).trans f⟩
theorem event {s : Sto} {d l c a n : Nat} (D : Dk s d l c) (ha : s[a]? = some (.lst (upTo n))) (hd : a ∉ [d, l]) (hn : n ≤ 100) (hc : c + 10 < 1000000) :
    WE (m__law_event [.ref d, .ref a]) s (fun v s' => ∃ e : Ev, v = e.vl ∧ e.ok n ∧ Dk s' d l (c + 5) ∧ Fr [d, l] s s') NoX := by
  unfold m__law_event b__law_event
  simp
  refine (draw D (by omega) (by omega) (by omega)).use ?_
  rintro v s1 ⟨r, rfl, hr, D1, f1⟩
  have ha1 := f1.at ha hd
  have hal : a < s1.length := lt_of_get ha1
  have hul : (upTo n).length = n := by simp [upTo]
  simp [ha1]
  rw [opAdd_lst get_last (get_push ha1) (limB (by simp; omega)), WO_some, WE_aNil, WE_arg2]
  refine (oneNew (D1.fr (Fr.refl.push (X := []) _) (by simp) (by simp)) (by simp) (by simp; omega) (by omega)).use ?_
  rintro v s2 ⟨hv, D2, f2⟩
  obtain ⟨o, rfl, ho⟩ : ∃ o, v = oN o ∧ oLt n o := by
    simp only [List.cons_append, List.nil_append, List.mem_cons] at hv
    rcases hv with rfl | hv
    · exact ⟨none, rfl, trivial⟩
    · obtain ⟨i, hi, rfl⟩ := mem_upTo hv
      exact ⟨some i, rfl, hi⟩
  have f02 : Fr [d, l] s s2 := f1.trans ((Fr.refl.push _).trans f2)
  have ha2 := f02.at ha hd
  have hStand : ∀ s3, Fr [d, l] s s3 → Dk s3 d l (c + 2) → WE (m__law_one [.ref d, .ref s3.length]) (s3 ++ [.lst [.str "x", .str "y"]]) (fun x s' => ∃ e : Ev, Vl.tup [.str "stand", x, oN o] = e.vl ∧ e.ok n ∧ Dk s' d l (c + 5) ∧ Fr [d, l] s s') NoX := by
    intro s3 f3 D3
    refine (oneNew D3 (by simp) (by simp) (by omega)).use ?_
    rintro v s4 ⟨hv, D4, f4⟩
    simp only [List.mem_cons, List.not_mem_nil, or_false] at hv
    rcases hv with rfl | rfl
    · exact ⟨.stand "x" o, rfl, ⟨.inl rfl, ho⟩, D4.mono (by omega), f3.trans f4⟩
    · exact ⟨.stand "y" o, rfl, ⟨.inr rfl, ho⟩, D4.mono (by omega), f3.trans f4⟩
  simp
  split
  · refine (hStand s2 f02 D2).use ?_
    rintro x s' h
    simp
    exact h
  rename_i h2
  rw [upTo_eq] at ha2
  rw [opEq_nil (get_push ha2) get_last, WO_some]
  have ha2' := ha2
  rw [← upTo_eq] at ha2'
  have f03 : Fr [d, l] s (s2 ++ [.lst []]) := f02.push _
  have D3 := D2.fr (Fr.refl.push (X := []) (.lst [])) (by simp) (by simp)
  by_cases hz : n = 0
  · subst hz
    simp
    have := hStand _ f03 D3
    simp at this
    refine this.use ?_
    rintro x s' h
    simp
    exact h
  have e0 : ((List.range n).map fun i => ((i : Nat) : Int)).isEmpty = false := by
    cases n with
    | zero => exact absurd rfl hz
    | succ n => simp
  have ha3 : (s2 ++ [Ob.lst []])[a]? = some (.lst (upTo n)) := get_push ha2'
  generalize s2 ++ [Ob.lst []] = s3 at f03 D3 ha3
  rw [e0]
  have hOne : ∀ {k : Nat} {s4 : Sto}, Fr [d, l] s s4 → Dk s4 d l k → k < 1000000 → WE (m__law_one [.ref d, .ref a]) s4 (fun v s' => (∃ i : Nat, i < n ∧ v = .int i) ∧ Dk s' d l (k + 1) ∧ Fr [d, l] s s') NoX := by
    intro k s4 f4 D4 hk
    refine (one D4 (f4.at ha hd) hd (by omega) (by omega) hk).use ?_
    rintro v s' ⟨h1, h2, h3⟩
    exact ⟨mem_upTo h1, h2, f4.trans h3⟩
  by_cases h4 : r < 4
  · have h4' : (r : Int) < 4 := by omega
    simp [h4']
    refine (hOne f03 D3 (by omega)).use ?_
    rintro v s4 ⟨⟨i, hi, rfl⟩, D4, f4⟩
    simp
    refine (oneNew D4 (by simp) (by simp) (by omega)).use ?_
    rintro v s5 ⟨hv, D5, f5⟩
    simp
    simp only [List.mem_cons, List.not_mem_nil, or_false] at hv
    rcases hv with rfl | rfl
    · exact ⟨.hold i "f" o, rfl, ⟨hi, .inl rfl, ho⟩, D5.mono (by omega), f4.trans f5⟩
    · exact ⟨.hold i "g" o, rfl, ⟨hi, .inr rfl, ho⟩, D5.mono (by omega), f4.trans f5⟩
  have h4' : ¬ (r : Int) < 4 := by omega
  by_cases h5 : r = 4
  · subst h5
    simp
    refine (draw D3 (by omega) (by omega) (by omega)).use ?_
    rintro v s4 ⟨q, rfl, hq, D4, f4⟩
    simp
    split
    · refine (hOne (f03.trans f4) D4 (by omega)).use ?_
      rintro v s5 ⟨⟨i, hi, rfl⟩, D5, f5⟩
      simp
      exact ⟨.keep i, rfl, hi, D5.mono (by omega), f5⟩
    · refine (hOne (f03.trans f4) D4 (by omega)).use ?_
      rintro v s5 ⟨⟨i, hi, rfl⟩, D5, f5⟩
      simp
      exact ⟨.ask i, rfl, hi, D5.mono (by omega), f5⟩
  · have h5' : ¬ ((r : Int) = 4) := by omega
    simp [h4', h5']
    refine (hOne f03 D3 (by omega)).use ?_
    rintro v s5 ⟨⟨i, hi, rfl⟩, D5, f5⟩
    simp
    exact ⟨.ask i, rfl, hi, D5.mono (by omega), f5⟩
end K30

/-! PF: the story that the law draws -/
namespace K30
open PySem L2 Sm
def itV (it : List Ev) : Vl := .tup (it.map Ev.vl)
def stV (its : List (List Ev)) : Vl := .tup (its.map itV)
structure Sto1 (s : Sto) (d l c p4 p5 : Nat) (its : List (List Ev)) (m most : Nat) (s0 : Sto) : Prop where
  dk : Dk s d l c
  g4 : s[p4]? = some (.lst (its.map itV))
  g5 : s[p5]? = some (.lst (upTo m))
  ok : okL 0 its.flatten m
  le : m ≤ most
  sm : ∀ it ∈ its, it.length ≤ 4
  fr : Fr [d, l] s0 s
theorem story {s : Sto} {d l c most items : Nat} (D : Dk s d l c) (h1 : 1 ≤ most) (h2 : most ≤ 6) (h3 : items ≤ 14) (hc : c + 1000 < 1000000) :
    WE (m__law_story [.ref d, .int most, .int items]) s (fun v s' => ∃ (its : List (List Ev)) (m : Nat), v = stV its ∧ okL 0 its.flatten m ∧ m ≤ 6 ∧ its.length = items ∧ (∀ it ∈ its, it.length ≤ 4) ∧ Dk s' d l (c + 20 * items) ∧ Fr [d, l] s s') NoX := by
  have hdl := D.lt
  unfold m__law_story b__law_story
  have hi6 : items < 1000000 := by omega
  simp [hi6]
  refine loopX_inv (fun i lo s' => ∃ its m x3 x6 x7, lo = [some (.ref d), some (.int most), some (.int items), x3, some (.ref s.length), some (.ref (s.length + 1)), x6, x7] ∧ its.length = i ∧ Sto1 s' d l (c + 20 * i) s.length (s.length + 1) its m most s) ?_ ?_ ?_
  · refine ⟨[], 0, none, none, none, rfl, rfl, D.fr (Fr.refl.app (X := []) _) (by simp) (by simp), ?_, ?_, rfl, by omega, by simp, Fr.refl.app _⟩
    · simp
    · rw [List.getElem?_append_right (by omega)]
      simp [upTo]
  · rintro i v lo s1 hv ⟨its, m, x3, x6, x7, rfl, hi, S1⟩
    obtain ⟨hi2, rfl⟩ := rng_get hv
    simp
    refine (draw (S1.dk.fr (Fr.refl.push (X := []) _) (by simp) (by simp)) (by omega) (by omega) (by omega)).use ?_
    rintro v2 s2 ⟨r, rfl, hr, D2, f2⟩
    have hr6 : r < 1000000 := by omega
    have hp : s1[s.length]? ≠ none := by rw [S1.g4]; simp
    have hlt5 : s.length + 1 < s1.length := lt_of_get S1.g5
    have nd4 : s.length ∉ [d, l] := by simp; omega
    have nd5 : s.length + 1 ∉ [d, l] := by simp; omega
    have nd6 : s1.length ∉ [d, l] := by have := S1.fr.le; simp; omega
    simp [hr6]
    refine loopX_inv (fun j lo s' => ∃ it x7, lo = [some (.ref d), some (.int most), some (.int items), some (.int i), some (.ref s.length), some (.ref (s.length + 1)), some (.ref s1.length), x7] ∧ it.length = j ∧ okL m it m ∧ s'[s1.length]? = some (.lst (it.map Ev.vl)) ∧ Sto1 s' d l (c + 20 * i + 1 + 5 * j) s.length (s.length + 1) its m most s) ?_ ?_ ?_
    · refine ⟨[], x7, rfl, rfl, rfl, f2.at get_last nd6, D2, f2.at (get_push S1.g4) nd4, f2.at (get_push S1.g5) nd5, S1.ok, S1.le, S1.sm, (S1.fr.push _).trans f2⟩
    · rintro j v lo s3 hv ⟨it, x7, rfl, hj, oki, g6, S3⟩
      obtain ⟨hj2, rfl⟩ := rng_get hv
      have hit : it.length < LIM := limC (by omega)
      simp [S3.g5, g6]
      have hmm : m ≤ 100 := by have := S3.le; omega
      have hs3 : s3.length ∉ [d, l] := by have := S3.dk.lt; simp; omega
      refine (event (S3.dk.fr (Fr.refl.push (X := []) _) (by simp) (by simp)) get_last hs3 hmm (by omega)).use ?_
      rintro v s4 ⟨e, rfl, eok, D4, f4⟩
      have g6' := f4.at (get_push g6) nd6
      have l1 := lt_of_get g6
      simp [g6', hit]
      have fr4 : Fr [d, l] s s4 := (S3.fr.push _).trans f4
      refine ⟨it ++ [e], by simp [hj], okL_app oki (okL_one eok), ?_, ?_⟩
      · simp
      · refine ⟨?_, ?_, ?_, S3.ok, S3.le, S3.sm, fr4.set (Or.inr (by omega))⟩
        · exact (D4.fr (Fr.refl.set (X := [s1.length]) (by simp)) (by simp at nd6 ⊢; omega) (by simp at nd6 ⊢; omega)).mono (by omega)
        · rw [get_set_ne (by omega)]
          exact f4.at (get_push S3.g4) nd4
        · rw [get_set_ne (by omega)]
          exact f4.at (get_push S3.g5) nd5
    · rintro lo s3 ⟨it, x7, rfl, hj, oki, g6, S3⟩
      rw [rng_len] at hj S3
      have hil : its.length < LIM := limC (by omega)
      have hfin : ∀ (s5 : Sto) (it' : List Ev) (m' : Nat), okL m it' m' → m' ≤ most → it'.length ≤ 4 → Dk s5 d l (c + 20 * i + 20) → s5[s.length]? = some (.lst (its.map itV)) → s5[s.length + 1]? = some (.lst (upTo m')) → Fr [d, l] s s5 →
          ∃ its2, its2.length = i + 1 ∧ ∃ m, Sto1 (s5.set s.length (.lst (its.map itV ++ [.tup (it'.map Ev.vl)]))) d l (c + 20 * (i + 1)) s.length (s.length + 1) its2 m most s := by
        intro s5 it' m' ok' le' len' D5 g4 g5 f5
        refine ⟨its ++ [it'], by simp [hi], m', ?_, ?_, ?_, ?_, le', ?_, f5.set (Or.inr (Nat.le_refl _))⟩
        · exact (D5.fr (Fr.refl.set (X := [s.length]) (by simp)) (by simp at nd4 ⊢; omega) (by simp at nd4 ⊢; omega)).mono (by omega)
        · rw [get_set_self g4]
          simp [itV]
        · rw [get_set_ne (by omega)]
          exact g5
        · rw [List.flatten_append]
          exact okL_app S3.ok (by simpa using ok')
        · intro y hy
          rcases List.mem_append.mp hy with h | h
          · exact S3.sm y h
          · simp at h; subst h; exact len'
      have hmL : (upTo m).length = m := by simp [upTo]
      have hitL : it.length < LIM := limC (by omega)
      have hit1 : it.length + 1 < LIM := limC (by omega)
      have l1 : s1.length < s3.length := lt_of_get g6
      have n64 : s1.length ≠ s.length := by omega
      have n65 : s1.length ≠ s.length + 1 := by omega
      simp [S3.g5, hmL]
      by_cases hm : m < most
      · simp [hm]
        refine (draw S3.dk (by omega) (by omega) (by omega)).use ?_
        rintro v s4 ⟨q, rfl, hq, D4, f4⟩
        have a4 := f4.at S3.g4 nd4
        have a5 := f4.at S3.g5 nd5
        have a6 := f4.at g6 nd6
        have F4 := S3.fr.trans f4
        simp
        split
        · have hmm : m < LIM := limC (by omega)
          simp [a4, a5, a6, hmL, hitL, get_set_ne n65, hmm]
          have eup : upTo m ++ [Vl.int m] = upTo (m + 1) := by simp [upTo, List.range_succ]
          have eit : it.map Ev.vl ++ [Vl.tup [Vl.str "make", Vl.int m]] = (it ++ [Ev.make m]).map Ev.vl := by simp [Ev.vl]
          have b5' : (s4.set s1.length (Ob.lst (it.map Ev.vl ++ [Vl.tup [Vl.str "make", Vl.int m]])))[s.length + 1]? = some (.lst (upTo m)) := by rw [get_set_ne n65]; exact a5
          have b6 : ((s4.set s1.length (Ob.lst (it.map Ev.vl ++ [Vl.tup [Vl.str "make", Vl.int m]]))).set (s.length + 1) (Ob.lst (upTo m ++ [Vl.int m])))[s1.length]? = some (.lst ((it ++ [Ev.make m]).map Ev.vl)) := by
            rw [get_set_ne n65.symm, get_set_self a6, eit]
          have b5 : ((s4.set s1.length (Ob.lst (it.map Ev.vl ++ [Vl.tup [Vl.str "make", Vl.int m]]))).set (s.length + 1) (Ob.lst (upTo m ++ [Vl.int m])))[s.length + 1]? = some (.lst (upTo (m + 1))) := by
            rw [get_set_self b5', eup]
          have b4 : ((s4.set s1.length (Ob.lst (it.map Ev.vl ++ [Vl.tup [Vl.str "make", Vl.int m]]))).set (s.length + 1) (Ob.lst (upTo m ++ [Vl.int m])))[s.length]? = some (.lst (its.map itV)) := by
            rw [get_set_ne (by omega), get_set_ne n64]; exact a4
          have F5 : Fr [d, l] s ((s4.set s1.length (Ob.lst (it.map Ev.vl ++ [Vl.tup [Vl.str "make", Vl.int m]]))).set (s.length + 1) (Ob.lst (upTo m ++ [Vl.int m]))) := (F4.set (Or.inr (by omega))).set (Or.inr (by omega))
          have D5 : Dk ((s4.set s1.length (Ob.lst (it.map Ev.vl ++ [Vl.tup [Vl.str "make", Vl.int m]]))).set (s.length + 1) (Ob.lst (upTo m ++ [Vl.int m]))) d l (c + 20 * i + 12) :=
            (D4.fr ((Fr.refl.set (X := [s1.length, s.length + 1]) (by simp)).set (by simp)) (by simp at nd6 nd5 ⊢; omega) (by simp at nd6 nd5 ⊢; omega)).mono (by omega)
          generalize (s4.set s1.length (Ob.lst (it.map Ev.vl ++ [Vl.tup [Vl.str "make", Vl.int m]]))).set (s.length + 1) (Ob.lst (upTo m ++ [Vl.int m])) = s5 at b4 b5 b6 F5 D5
          have okm : okL m (it ++ [Ev.make m]) (m + 1) := okL_app oki ⟨rfl, rfl⟩
          refine (draw D5 (by omega) (by omega) (by omega)).use ?_
          rintro v s6 ⟨q2, rfl, hq2, D6, f6⟩
          have c4 := f6.at b4 nd4
          have c5 := f6.at b5 nd5
          have c6 := f6.at b6 nd6
          have F6 := F5.trans f6
          simp
          split
          · have k6 : kd .list (.ref s1.length) s6 = true := kd_lst c6
            simp [k6]
            refine (oneNew D6 (by simp) (by simp) (by omega)).use ?_
            rintro v s7 ⟨hv, D7, f7⟩
            have F7 := F6.trans f7
            have e4 := f7.at c4 nd4
            have e5 := f7.at c5 nd5
            have e6 := f7.at c6 nd6
            have elast : atI (upTo (m + 1)) (-1) = some (.int m) := by rw [← eup]; exact atLast
            have hl2 : ((it ++ [Ev.make m]).map Ev.vl).length < LIM := limC (by simp; omega)
            obtain ⟨nm, rfl, hnm⟩ : ∃ nm : Str, v = .str nm ∧ (nm = "x" ∨ nm = "y") := by
              simp only [List.mem_cons, List.not_mem_nil, or_false] at hv
              rcases hv with rfl | rfl
              · exact ⟨_, rfl, .inl rfl⟩
              · exact ⟨_, rfl, .inr rfl⟩
            simp [opIx_lst e5, elast, oAppend_lst e6 hl2]
            have eit2 : it.map Ev.vl ++ [(Ev.make m).vl, Vl.tup [Vl.str "stand", Vl.str nm, Vl.int m]] = (it ++ [Ev.make m, Ev.stand nm (some m)]).map Ev.vl := by simp [Ev.vl, oN]
            rw [eit2]
            have w6 : (s7.set s1.length (Ob.lst ((it ++ [Ev.make m, Ev.stand nm (some m)]).map Ev.vl)))[s1.length]? = some (.lst ((it ++ [Ev.make m, Ev.stand nm (some m)]).map Ev.vl)) := get_set_self e6
            have w4 : (s7.set s1.length (Ob.lst ((it ++ [Ev.make m, Ev.stand nm (some m)]).map Ev.vl)))[s.length]? = some (.lst (its.map itV)) := by rw [get_set_ne n64]; exact e4
            have w5 : (s7.set s1.length (Ob.lst ((it ++ [Ev.make m, Ev.stand nm (some m)]).map Ev.vl)))[s.length + 1]? = some (.lst (upTo (m + 1))) := by rw [get_set_ne n65]; exact e5
            have F8 : Fr [d, l] s (s7.set s1.length (Ob.lst ((it ++ [Ev.make m, Ev.stand nm (some m)]).map Ev.vl))) := F7.set (Or.inr (by omega))
            have D8 : Dk (s7.set s1.length (Ob.lst ((it ++ [Ev.make m, Ev.stand nm (some m)]).map Ev.vl))) d l (c + 20 * i + 20) :=
              (D7.fr (Fr.refl.set (X := [s1.length]) (by simp)) (by simp at nd6 ⊢; omega) (by simp at nd6 ⊢; omega)).mono (by omega)
            have oks : okL m (it ++ [Ev.make m, Ev.stand nm (some m)]) (m + 1) := okL_app oki ⟨rfl, ⟨hnm, Nat.lt_succ_self m⟩, rfl⟩
            have lens : (it ++ [Ev.make m, Ev.stand nm (some m)]).length ≤ 4 := by simp; omega
            generalize it ++ [Ev.make m, Ev.stand nm (some m)] = it9 at w6 w4 w5 F8 D8 oks lens
            generalize s7.set s1.length (Ob.lst (it9.map Ev.vl)) = s8 at w6 w4 w5 F8 D8
            simp [w4, w6, hil]
            exact hfin s8 it9 (m + 1) oks (by omega) lens D8 w4 w5 F8
          · simp [c4, c6, hil]
            have := hfin s6 _ (m + 1) okm (by omega) (by simp; omega) (D6.mono (by omega)) c4 c5 F6
            simpa using this
        · simp [a4, a6, hil]
          exact hfin s4 it m oki (by omega) (by omega) (D4.mono (by omega)) a4 a5 F4
      · simp [hm, S3.g4, g6, hil]
        exact hfin s3 it m oki S3.le (by omega) (S3.dk.mono (by omega)) S3.g4 S3.g5 S3.fr
  · rintro lo s3 ⟨its, m, x3, x6, x7, rfl, hi, S3⟩
    simp [S3.g4]
    rw [rng_len] at hi S3
    exact ⟨its, rfl, m, S3.ok, by have := S3.le; omega, hi, S3.sm, S3.dk, S3.fr⟩
end K30

/-! PG: what events leave, as a pure state, and how it stands in a store -/
namespace K30
open PySem L2 Sm
structure Hs where
  rows : List (List (Key × Vl))
  stand : List (Key × Vl)
  kept : List Int
def Hs.step (h : Hs) : Ev → Hs
  | .make _ => { h with rows := h.rows ++ [[]] }
  | .stand x c => { h with stand := put h.stand (.inr x) (oN c) }
  | .hold i f c => match h.rows[i]? with
    | some r => { h with rows := h.rows.set i (put r (.inr f) (oN c)) }
    | none => h
  | .keep c => { h with kept := h.kept ++ [(c : Int)] }
  | .ask _ => h
abbrev Hs0 : Hs := ⟨[], [], []⟩
def vOk (n : Nat) (v : Vl) : Prop := v = .non ∨ ∃ c : Nat, c < n ∧ v = .int c
structure HsOk (n B : Nat) (h : Hs) : Prop where
  len : h.rows.length = n
  row : ∀ r ∈ h.rows, r.length ≤ B ∧ ∀ kv ∈ r, vOk n kv.2
  std : h.stand.length ≤ B ∧ ∀ kv ∈ h.stand, vOk n kv.2
  kpt : h.kept.length ≤ B ∧ ∀ c ∈ h.kept, 0 ≤ c ∧ c < n
theorem put_len {kvs : List (Key × Vl)} {k : Key} {v : Vl} : (put kvs k v).length ≤ kvs.length + 1 := by
  induction kvs with
  | nil => simp [put]
  | cons p r ih =>
    unfold put
    split
    · simp
    · simp; omega
theorem put_mem {kvs : List (Key × Vl)} {k : Key} {v : Vl} {kv : Key × Vl} (h : kv ∈ put kvs k v) : kv ∈ kvs ∨ kv.2 = v := by
  induction kvs with
  | nil => simp [put] at h; right; rw [h]
  | cons p r ih =>
    unfold put at h
    split at h
    · rcases List.mem_cons.mp h with z | z
      · right; rw [z]
      · left; exact List.mem_cons_of_mem _ z
    · rcases List.mem_cons.mp h with z | z
      · left; rw [z]; exact List.mem_cons_self ..
      · rcases ih z with q | q
        · left; exact List.mem_cons_of_mem _ q
        · right; exact q
theorem vOk.mono {n m : Nat} {v : Vl} (h : vOk n v) (k : n ≤ m) : vOk m v := by
  rcases h with h | ⟨c, a, b⟩
  · exact .inl h
  · exact .inr ⟨c, by omega, b⟩
theorem vOk_oN {n : Nat} {c : Option Nat} (h : oLt n c) : vOk n (oN c) := by
  cases c with
  | none => exact .inl rfl
  | some c => exact .inr ⟨c, h, rfl⟩
theorem HsOk.mono {n B B' : Nat} {h : Hs} (k : HsOk n B h) (hb : B ≤ B') : HsOk n B' h :=
  ⟨k.len, fun r hr => ⟨by have := (k.row r hr).1; omega, (k.row r hr).2⟩, ⟨by have := k.std.1; omega, k.std.2⟩, ⟨by have := k.kpt.1; omega, k.kpt.2⟩⟩
theorem HsOk.step {n B m : Nat} {h : Hs} {e : Ev} {es : List Ev} (k : HsOk n B h) (o : okL n (e :: es) m) : ∃ n', HsOk n' (B + 1) (h.step e) ∧ okL n' es m ∧ n ≤ n' := by
  cases e with
  | make j =>
    refine ⟨n + 1, ⟨?_, ?_, ?_, ?_⟩, o.2, by omega⟩
    · simp [Hs.step, k.len]
    · intro r hr
      simp only [Hs.step, List.mem_append, List.mem_singleton] at hr
      rcases hr with hr | rfl
      · exact ⟨by have := (k.row r hr).1; omega, fun kv hkv => ((k.row r hr).2 kv hkv).mono (by omega)⟩
      · simp
    · exact ⟨by have := k.std.1; simp [Hs.step]; omega, fun kv hkv => (k.std.2 kv hkv).mono (by omega)⟩
    · exact ⟨by have := k.kpt.1; simp [Hs.step]; omega, fun c hc => by have := k.kpt.2 c hc; omega⟩
  | stand x c =>
    refine ⟨n, ⟨k.len, (k.mono (by omega)).row, ⟨?_, ?_⟩, (k.mono (by omega)).kpt⟩, o.2, by omega⟩
    · have := k.std.1
      have := put_len (kvs := h.stand) (k := .inr x) (v := oN c)
      simp only [Hs.step]
      omega
    · intro kv hkv
      rcases put_mem hkv with z | z
      · exact k.std.2 kv z
      · rw [z]; exact vOk_oN o.1.2
  | hold i f c =>
    obtain ⟨⟨hi, _, hc⟩, o2⟩ := o
    have hi' : i < h.rows.length := by rw [k.len]; exact hi
    have e : h.rows[i]? = some h.rows[i] := List.getElem?_eq_getElem hi'
    refine ⟨n, ⟨?_, ?_, ?_, ?_⟩, o2, by omega⟩
    · simp only [Hs.step, e, List.length_set, k.len]
    · simp only [Hs.step, e]
      intro r hr
      have hm : h.rows[i] ∈ h.rows := List.getElem_mem _
      rcases List.mem_or_eq_of_mem_set hr with z | rfl
      · exact (k.mono (by omega)).row r z
      · have := (k.row _ hm).1
        have := put_len (kvs := h.rows[i]) (k := .inr f) (v := oN c)
        refine ⟨by omega, fun kv hkv => ?_⟩
        rcases put_mem hkv with z | z
        · exact (k.row _ hm).2 kv z
        · rw [z]; exact vOk_oN hc
    · simp only [Hs.step, e]; exact (k.mono (by omega)).std
    · simp only [Hs.step, e]; exact (k.mono (by omega)).kpt
  | keep c =>
    refine ⟨n, ⟨k.len, (k.mono (by omega)).row, (k.mono (by omega)).std, ⟨?_, ?_⟩⟩, o.2, by omega⟩
    · have := k.kpt.1
      simp [Hs.step]; omega
    · intro z hz
      simp only [Hs.step, List.mem_append, List.mem_singleton] at hz
      rcases hz with hz | rfl
      · exact k.kpt.2 z hz
      · have := o.1
        simp [Ev.ok] at this
        omega
  | ask c => exact ⟨n, k.mono (by omega), o.2, by omega⟩
theorem HsOk.steps {n B m : Nat} {h : Hs} : ∀ {es : List Ev}, HsOk n B h → okL n es m → HsOk m (B + es.length) (es.foldl Hs.step h)
  | [], k, o => by have : n = m := o
                   subst this
                   exact k
  | e :: es, k, o => by
    obtain ⟨n', k', o', _⟩ := k.step o
    have := HsOk.steps k' o'
    exact this.mono (by simp; omega)
theorem Hs0_ok : HsOk 0 0 Hs0 := ⟨rfl, fun r hr => by simp at hr, ⟨Nat.le_refl _, fun r hr => by simp at hr⟩, ⟨Nat.le_refl _, fun r hr => by simp at hr⟩⟩
/-- the state stands in the store -/
structure Hp0 (s0 : Sto) (fx : List (Nat × Ob)) (ko : List Int → Ob) (b3 b1 k : Nat) (rs : List Nat) (h : Hs) (s : Sto) : Prop where
  sg : s[b3]? = some (.lst (rs.map Vl.ref))
  st : s[b1]? = some (.dic h.stand)
  kp : s[k]? = some (ko h.kept)
  len : rs.length = h.rows.length
  rw : ∀ (i r : Nat), rs[i]? = some r → ∃ row, h.rows[i]? = some row ∧ s[r]? = some (.dic row)
  nd : (b3 :: b1 :: k :: rs).Nodup
  new : ∀ x ∈ b3 :: b1 :: k :: rs, s0.length ≤ x
  fxd : ∀ x o, (x, o) ∈ fx → s[x]? = some o ∧ x ∉ b3 :: b1 :: k :: rs
  fr : Fr [] s0 s
section
variable {s0 s : Sto} {fx : List (Nat × Ob)} {ko : List Int → Ob} {b3 b1 k : Nat} {rs : List Nat} {h : Hs}
theorem ne_mem {a b : Nat} {rs : List Nat} (h : a ∉ rs) (hb : b ∈ rs) : a ≠ b := by
  rintro rfl
  exact h hb
theorem Hp0.fram {s' : Sto} (P : Hp0 s0 fx ko b3 b1 k rs h s) (f : Fr [] s s') : Hp0 s0 fx ko b3 b1 k rs h s' :=
  ⟨f.at P.sg (by simp), f.at P.st (by simp), f.at P.kp (by simp), P.len, fun i r hr => by
    obtain ⟨row, a, b⟩ := P.rw i r hr
    exact ⟨row, a, f.at b (by simp)⟩, P.nd, P.new, fun x o hx => ⟨f.at (P.fxd x o hx).1 (by simp), (P.fxd x o hx).2⟩, P.fr.trans f⟩
theorem Hp0.make (P : Hp0 s0 fx ko b3 b1 k rs h s) (j : Nat) : Hp0 s0 fx ko b3 b1 k (rs ++ [s.length]) (h.step (.make j)) ((s ++ [Ob.dic []]).set b3 (Ob.lst (rs.map Vl.ref ++ [Vl.ref s.length]))) := by
  have l3 := lt_of_get P.sg
  have l1 := lt_of_get P.st
  have lk := lt_of_get P.kp
  have lr : ∀ r ∈ rs, r < s.length := by
    intro r hr
    obtain ⟨i, hi⟩ := List.mem_iff_getElem?.mp hr
    obtain ⟨row, _, q⟩ := P.rw i r hi
    exact lt_of_get q
  have nd := P.nd
  simp only [List.nodup_cons, List.mem_cons, not_or] at nd
  obtain ⟨⟨n1, n2, n3⟩, ⟨n4, n5⟩, n6, n7⟩ := nd
  refine ⟨?_, ?_, ?_, ?_, ?_, ?_, ?_, ?_, ?_⟩
  · rw [get_set_self (get_push P.sg)]; simp
  · rw [get_set_ne n1]; exact get_push P.st
  · rw [get_set_ne n2]; exact get_push P.kp
  · simp [Hs.step, P.len]
  · intro i r hr
    rcases Nat.lt_or_ge i rs.length with z | z
    · rw [List.getElem?_append_left z] at hr
      obtain ⟨row, a, b⟩ := P.rw i r hr
      refine ⟨row, ?_, ?_⟩
      · simp only [Hs.step]
        rw [List.getElem?_append_left (by rw [← P.len]; exact z)]
        exact a
      · rw [get_set_ne (ne_mem n3 (List.mem_of_getElem? hr))]
        exact get_push b
    · rw [List.getElem?_append_right z] at hr
      have : i - rs.length = 0 := by
        rcases Nat.eq_zero_or_pos (i - rs.length) with q | q
        · exact q
        · rw [List.getElem?_eq_none (by simp; omega)] at hr; cases hr
      rw [this] at hr
      simp at hr
      subst hr
      refine ⟨[], ?_, ?_⟩
      · simp only [Hs.step]
        rw [List.getElem?_append_right (by rw [← P.len]; exact z), ← P.len, this]
        rfl
      · rw [get_set_ne (by omega)]; exact get_last
  · simp only [List.nodup_cons, List.mem_cons, List.mem_append, List.nodup_append, not_or, List.mem_singleton]
    refine ⟨⟨n1, n2, n3, by omega, by simp⟩, ⟨n4, n5, by omega, by simp⟩, ⟨n6, by omega, by simp⟩, n7, by simp, ?_⟩
    intro a ha b hb
    simp at hb
    have := lr a ha
    omega
  · intro x hx
    have hs := P.fr.le
    simp only [List.mem_cons, List.mem_append, List.not_mem_nil, or_false] at hx
    rcases hx with hx | hx | hx | hx | hx
    · exact P.new x (by simp [hx])
    · exact P.new x (by simp [hx])
    · exact P.new x (by simp [hx])
    · exact P.new x (by simp [hx])
    · omega
  · intro x o hx
    obtain ⟨a, b⟩ := P.fxd x o hx
    have := lt_of_get a
    simp only [List.mem_cons, List.mem_append, List.not_mem_nil, or_false, not_or] at b ⊢
    exact ⟨by rw [get_set_ne (Ne.symm b.1)]; exact get_push a, b.1, b.2.1, b.2.2.1, b.2.2.2, by omega⟩
  · exact (P.fr.push _).set (Or.inr (P.new b3 (by simp)))
theorem Hp0.setSt (P : Hp0 s0 fx ko b3 b1 k rs h s) {st : List (Key × Vl)} : Hp0 s0 fx ko b3 b1 k rs { h with stand := st } (s.set b1 (Ob.dic st)) := by
  have nd := P.nd
  simp only [List.nodup_cons, List.mem_cons, not_or] at nd
  obtain ⟨⟨n1, n2, n3⟩, ⟨n4, n5⟩, n6, n7⟩ := nd
  refine ⟨?_, ?_, ?_, P.len, ?_, P.nd, P.new, ?_, P.fr.set (Or.inr (P.new b1 (by simp)))⟩
  · rw [get_set_ne (Ne.symm n1)]; exact P.sg
  · rw [get_set_self P.st]
  · rw [get_set_ne n4]; exact P.kp
  · intro i r hr
    obtain ⟨row, a, b⟩ := P.rw i r hr
    exact ⟨row, a, by rw [get_set_ne (ne_mem n5 (List.mem_of_getElem? hr))]; exact b⟩
  · intro x o hx
    obtain ⟨a, b⟩ := P.fxd x o hx
    exact ⟨by rw [get_set_ne (show _ ≠ x from fun q => b (by simp [q]))]; exact a, b⟩
theorem Hp0.setKp (P : Hp0 s0 fx ko b3 b1 k rs h s) {kp : List Int} : Hp0 s0 fx ko b3 b1 k rs { h with kept := kp } (s.set k (ko kp)) := by
  have nd := P.nd
  simp only [List.nodup_cons, List.mem_cons, not_or] at nd
  obtain ⟨⟨n1, n2, n3⟩, ⟨n4, n5⟩, n6, n7⟩ := nd
  refine ⟨?_, ?_, ?_, P.len, ?_, P.nd, P.new, ?_, P.fr.set (Or.inr (P.new k (by simp)))⟩
  · rw [get_set_ne (Ne.symm n2)]; exact P.sg
  · rw [get_set_ne (Ne.symm n4)]; exact P.st
  · rw [get_set_self P.kp]
  · intro i r hr
    obtain ⟨row, a, b⟩ := P.rw i r hr
    exact ⟨row, a, by rw [get_set_ne (ne_mem n6 (List.mem_of_getElem? hr))]; exact b⟩
  · intro x o hx
    obtain ⟨a, b⟩ := P.fxd x o hx
    exact ⟨by rw [get_set_ne (show _ ≠ x from fun q => b (by simp [q]))]; exact a, b⟩
theorem Hp0.setRow (P : Hp0 s0 fx ko b3 b1 k rs h s) {i r : Nat} {row : List (Key × Vl)} (hi : rs[i]? = some r) : Hp0 s0 fx ko b3 b1 k rs { h with rows := h.rows.set i row } (s.set r (Ob.dic row)) := by
  have nd := P.nd
  simp only [List.nodup_cons, List.mem_cons, not_or] at nd
  obtain ⟨⟨n1, n2, n3⟩, ⟨n4, n5⟩, n6, n7⟩ := nd
  have hr := List.mem_of_getElem? hi
  obtain ⟨row0, a0, b0⟩ := P.rw i r hi
  refine ⟨?_, ?_, ?_, by simp [P.len], ?_, P.nd, P.new, ?_, P.fr.set (Or.inr (P.new r (by simp [hr])))⟩
  · rw [get_set_ne (ne_mem n3 hr).symm]; exact P.sg
  · rw [get_set_ne (ne_mem n5 hr).symm]; exact P.st
  · rw [get_set_ne (ne_mem n6 hr).symm]; exact P.kp
  · intro j r' hj
    by_cases e : j = i
    · subst e
      rw [hi] at hj
      cases hj
      refine ⟨row, ?_, get_set_self b0⟩
      rw [List.getElem?_set_self (List.getElem?_eq_some_iff.mp a0).1]
    · obtain ⟨row', a, b⟩ := P.rw j r' hj
      have : r ≠ r' := by
        intro q
        subst q
        obtain ⟨l1, e1⟩ := List.getElem?_eq_some_iff.mp hi
        obtain ⟨l2, e2⟩ := List.getElem?_eq_some_iff.mp hj
        exact e ((List.getElem_inj n7).mp (e2.trans e1.symm))
      exact ⟨row', by rw [List.getElem?_set_ne (Ne.symm e)]; exact a, by rw [get_set_ne this]; exact b⟩
  · intro x o hx
    obtain ⟨a, b⟩ := P.fxd x o hx
    exact ⟨by rw [get_set_ne (show r ≠ x from fun q => b (by simp [← q, hr]))]; exact a, b⟩
end
end K30

/-! PH: the heap of the package and the heap of the law -/
namespace K30
open PySem L2 Sm
abbrev topO (a1 a2 a3 : Nat) : Ob := .ins 0 [("standing", .ref a1), ("kept_cells", .ref a2), ("strong", .ref a3)]
def kdL (ks : List Int) : List (Key × Vl) := ks.foldl (fun acc c => put acc (.inl c) (.bl true)) []
def kdO (ks : List Int) : Ob := .dic (kdL ks)
def klO (ks : List Int) : Ob := .lst (ks.map Vl.int)
theorem kdL_len {ks : List Int} : (kdL ks).length ≤ ks.length := by
  have : ∀ (ks : List Int) (acc : List (Key × Vl)), (ks.foldl (fun acc c => put acc (.inl c) (.bl true)) acc).length ≤ acc.length + ks.length := by
    intro ks
    induction ks with
    | nil => intro acc; simp
    | cons k ks ih =>
      intro acc
      have h1 := ih (put acc (.inl k) (.bl true))
      have h2 := put_len (kvs := acc) (k := .inl k) (v := .bl true)
      simp only [List.foldl_cons, List.length_cons]
      omega
  have := this ks []
  simp only [List.length_nil, Nat.zero_add] at this
  exact this
theorem kdL_app {ks : List Int} {c : Int} : kdL (ks ++ [c]) = put (kdL ks) (.inl c) (.bl true) := by simp [kdL]
@[simp] theorem ne_make_stand : (Str.ofString "make" = Str.ofString "stand") = False := eq_false (by decide)
@[simp] theorem ne_make_hold : (Str.ofString "make" = Str.ofString "hold") = False := eq_false (by decide)
@[simp] theorem ne_make_keep : (Str.ofString "make" = Str.ofString "keep") = False := eq_false (by decide)
@[simp] theorem ne_make_ask : (Str.ofString "make" = Str.ofString "ask") = False := eq_false (by decide)
@[simp] theorem ne_stand_make : (Str.ofString "stand" = Str.ofString "make") = False := eq_false (by decide)
@[simp] theorem ne_stand_hold : (Str.ofString "stand" = Str.ofString "hold") = False := eq_false (by decide)
@[simp] theorem ne_stand_keep : (Str.ofString "stand" = Str.ofString "keep") = False := eq_false (by decide)
@[simp] theorem ne_stand_ask : (Str.ofString "stand" = Str.ofString "ask") = False := eq_false (by decide)
@[simp] theorem ne_hold_make : (Str.ofString "hold" = Str.ofString "make") = False := eq_false (by decide)
@[simp] theorem ne_hold_stand : (Str.ofString "hold" = Str.ofString "stand") = False := eq_false (by decide)
@[simp] theorem ne_hold_keep : (Str.ofString "hold" = Str.ofString "keep") = False := eq_false (by decide)
@[simp] theorem ne_hold_ask : (Str.ofString "hold" = Str.ofString "ask") = False := eq_false (by decide)
@[simp] theorem ne_keep_make : (Str.ofString "keep" = Str.ofString "make") = False := eq_false (by decide)
@[simp] theorem ne_keep_stand : (Str.ofString "keep" = Str.ofString "stand") = False := eq_false (by decide)
@[simp] theorem ne_keep_hold : (Str.ofString "keep" = Str.ofString "hold") = False := eq_false (by decide)
@[simp] theorem ne_keep_ask : (Str.ofString "keep" = Str.ofString "ask") = False := eq_false (by decide)
@[simp] theorem ne_ask_make : (Str.ofString "ask" = Str.ofString "make") = False := eq_false (by decide)
@[simp] theorem ne_ask_stand : (Str.ofString "ask" = Str.ofString "stand") = False := eq_false (by decide)
@[simp] theorem ne_ask_hold : (Str.ofString "ask" = Str.ofString "hold") = False := eq_false (by decide)
@[simp] theorem ne_ask_keep : (Str.ofString "ask" = Str.ofString "keep") = False := eq_false (by decide)
theorem okL_le : ∀ {es : List Ev} {n m : Nat}, okL n es m → n ≤ m
  | [], n, m, h => Nat.le_of_eq h
  | .make j :: r, n, m, h => by have := okL_le h.2; omega
  | .stand .. :: r, n, m, h => okL_le h.2
  | .hold .. :: r, n, m, h => okL_le h.2
  | .keep _ :: r, n, m, h => okL_le h.2
  | .ask _ :: r, n, m, h => okL_le h.2
section
variable {s : Sto} {a a1 a2 a3 : Nat} {Q : Vl → Sto → Prop}
theorem fw1 (top : s[a]? = some (topO a1 a2 a3)) : fldW cs_standing "standing" (.ref a) s Q = Q (.ref a1) s := by
  rw [fldW_ins top]
  exact propext ⟨fun h => h.2, fun h => ⟨List.mem_singleton.mpr rfl, h⟩⟩
theorem fw2 (top : s[a]? = some (topO a1 a2 a3)) : fldW cs_kept_cells "kept_cells" (.ref a) s Q = Q (.ref a2) s := by
  rw [fldW_ins top]
  exact propext ⟨fun h => h.2, fun h => ⟨List.mem_singleton.mpr rfl, h⟩⟩
theorem fw3 (top : s[a]? = some (topO a1 a2 a3)) : fldW cs_strong "strong" (.ref a) s Q = Q (.ref a3) s := by
  rw [fldW_ins top]
  exact propext ⟨fun h => h.2, fun h => ⟨List.mem_singleton.mpr rfl, h⟩⟩
end
theorem applyS {s0 s : Sto} {a a1 a2 a3 n B m : Nat} {rs : List Nat} {h : Hs} {es : List Ev} (P : Hp0 s0 [(a, topO a1 a2 a3)] kdO a3 a1 a2 rs h s) (O : HsOk n B h) (o : okL n es m) (hb : B + es.length < 1000) (hn : m < 1000) :
    WE (m_Heap_apply [.ref a, itV es]) s (fun v s' => v = .non ∧ ∃ rs', Hp0 s0 [(a, topO a1 a2 a3)] kdO a3 a1 a2 rs' (es.foldl Hs.step h) s') NoX := by
  unfold m_Heap_apply b_Heap_apply
  simp [itV]
  refine loopX_inv (fun i lo s' => ∃ rs n' x2, lo = [some (.ref a), some (itV es), x2] ∧ Hp0 s0 [(a, topO a1 a2 a3)] kdO a3 a1 a2 rs ((es.take i).foldl Hs.step h) s' ∧ HsOk n' (B + i) ((es.take i).foldl Hs.step h) ∧ okL n' (es.drop i) m) ?_ ?_ ?_
  · exact ⟨rs, n, none, rfl, P, O, o⟩
  · rintro i v lo s1 hv ⟨rs, n', x2, rfl, P1, O1, o1⟩
    rw [List.getElem?_map] at hv
    obtain ⟨e, he, rfl⟩ : ∃ e, es[i]? = some e ∧ v = e.vl := by
      cases q : es[i]? with
      | none => rw [q] at hv; cases hv
      | some e => rw [q] at hv; exact ⟨e, rfl, by simpa using hv.symm⟩
    obtain ⟨hi, ee⟩ := List.getElem?_eq_some_iff.mp he
    have ed : es.drop i = e :: es.drop (i + 1) := by rw [List.drop_eq_getElem_cons hi, ee]
    rw [ed] at o1
    have et : (es.take (i + 1)).foldl Hs.step h = ((es.take i).foldl Hs.step h).step e := by
      rw [List.take_add_one, he]
      simp
    rw [et]
    generalize (es.take i).foldl Hs.step h = h1 at P1 O1
    obtain ⟨n2, O2, o2, hn2⟩ := O1.step o1
    have top := (P1.fxd a _ (List.mem_singleton.mpr rfl)).1
    have hm2 := okL_le o2
    have hrl : rs.length < LIM := by rw [P1.len, O1.len]; exact limC (by omega)
    have hrl' : h1.rows.length < LIM := by rw [O1.len]; exact limC (by omega)
    have hsl : h1.stand.length < LIM := limC (by have := O1.std.1; omega)
    have hkl : (kdL h1.kept).length < LIM := limC (by have := O1.kpt.1; have := kdL_len (ks := h1.kept); omega)
    simp
    cases e with
    | make j =>
      simp [Ev.vl, fw3 top, P1.sg, oAppend_lst (get_push P1.sg) (by simpa using hrl)]
      exact ⟨⟨_, P1.make j⟩, n2, O2, o2⟩
    | stand x c =>
      simp [Ev.vl, fw1 top, P1.st, hsl]
      exact ⟨⟨_, P1.setSt⟩, n2, O2, o2⟩
    | hold j f c =>
      obtain ⟨⟨hj, _, _⟩, _⟩ := o1
      have hj' : j < rs.length := by rw [P1.len, O1.len]; exact hj
      have hjr : rs[j]? = some rs[j] := List.getElem?_eq_getElem hj'
      obtain ⟨row, hr, hs⟩ := P1.rw j _ hjr
      have hrow := (O1.row row (List.mem_of_getElem? hr)).1
      have hrw : row.length < LIM := limC (by omega)
      have hat : atI (rs.map Vl.ref) (j : Int) = some (.ref rs[j]) := by rw [atN, List.getElem?_map, hjr]; rfl
      simp [Ev.vl, fw3 top, P1.sg, hat, hs, hrw]
      refine ⟨⟨rs, ?_⟩, n2, O2, o2⟩
      have := P1.setRow (row := put row (.inr f) (oN c)) hjr
      simp only [Hs.step, hr]
      exact this
    | keep c =>
      simp [Ev.vl, fw2 top, P1.kp, kdO, hkl]
      refine ⟨⟨rs, ?_⟩, n2, O2, o2⟩
      have := P1.setKp (kp := h1.kept ++ [(c : Int)])
      rw [kdO, kdL_app] at this
      exact this
    | ask c =>
      simp [Ev.vl]
      exact ⟨⟨rs, P1⟩, n2, O2, o2⟩
  · rintro lo s1 ⟨rs, n', x2, rfl, P1, O1, o1⟩
    simp at P1
    exact ⟨rfl, rs, P1⟩
theorem okL_pre : ∀ {es fs : List Ev} {n m : Nat}, okL n (es ++ fs) m → ∃ k, okL n es k ∧ okL k fs m
  | [], fs, n, m, h => ⟨n, rfl, h⟩
  | .make j :: r, fs, n, m, h => by obtain ⟨k, a, b⟩ := okL_pre h.2; exact ⟨k, ⟨h.1, a⟩, b⟩
  | .stand .. :: r, fs, n, m, h => by obtain ⟨k, a, b⟩ := okL_pre h.2; exact ⟨k, ⟨h.1, a⟩, b⟩
  | .hold .. :: r, fs, n, m, h => by obtain ⟨k, a, b⟩ := okL_pre h.2; exact ⟨k, ⟨h.1, a⟩, b⟩
  | .keep _ :: r, fs, n, m, h => by obtain ⟨k, a, b⟩ := okL_pre h.2; exact ⟨k, ⟨h.1, a⟩, b⟩
  | .ask _ :: r, fs, n, m, h => by obtain ⟨k, a, b⟩ := okL_pre h.2; exact ⟨k, ⟨h.1, a⟩, b⟩
/-- a story, small and well-formed -/
structure StOk (its : List (List Ev)) : Prop where
  ok : ∃ m, okL 0 its.flatten m ∧ m ≤ 6
  sm : ∀ it ∈ its, it.length ≤ 4
  len : its.length ≤ 14
def stAt (its : List (List Ev)) (i : Nat) : Hs := (its.take i).flatten.foldl Hs.step Hs0
theorem StOk.flen {its : List (List Ev)} (S : StOk its) {i : Nat} : (its.take i).flatten.length ≤ 4 * i := by
  have : ∀ xs : List (List Ev), (∀ x ∈ xs, x.length ≤ 4) → xs.flatten.length ≤ 4 * xs.length := by
    intro xs
    induction xs with
    | nil => intro _; simp
    | cons x xs ih =>
      intro h
      have h1 := h x (List.mem_cons_self ..)
      have h2 := ih fun y hy => h y (List.mem_cons_of_mem _ hy)
      simp only [List.flatten_cons, List.length_append, List.length_cons]
      omega
  have h := this (its.take i) fun x hx => S.sm x (List.mem_of_mem_take hx)
  have : (its.take i).length ≤ i := by simp; omega
  omega
theorem StOk.at {its : List (List Ev)} (S : StOk its) {i : Nat} (hi : i ≤ its.length) : ∃ n, n ≤ 6 ∧ okL 0 (its.take i).flatten n ∧ HsOk n (4 * i) (stAt its i) := by
  obtain ⟨m, o, hm⟩ := S.ok
  have e : its.flatten = (its.take i).flatten ++ (its.drop i).flatten := by rw [← List.flatten_append, List.take_append_drop]
  rw [e] at o
  obtain ⟨k, a, b⟩ := okL_pre o
  have := okL_le b
  exact ⟨k, by omega, a, (Hs0_ok.steps a).mono (by have := S.flen (i := i); omega)⟩
theorem StOk.at1 {its : List (List Ev)} (S : StOk its) {i : Nat} {it : List Ev} (hi : its[i]? = some it) : ∃ n m, m ≤ 6 ∧ HsOk n (4 * i) (stAt its i) ∧ okL n it m ∧ stAt its (i + 1) = it.foldl Hs.step (stAt its i) := by
  have hl := (List.getElem?_eq_some_iff.mp hi).1
  obtain ⟨m, hm, o, _⟩ := S.at (i := i + 1) hl
  have e : (its.take (i + 1)).flatten = (its.take i).flatten ++ it := by
    rw [List.take_add_one, hi, List.flatten_append]
    simp
  rw [e] at o
  obtain ⟨k, a, b⟩ := okL_pre o
  refine ⟨k, m, hm, (Hs0_ok.steps a).mono (by have := S.flen (i := i); omega), b, ?_⟩
  unfold stAt
  rw [e, List.foldl_append]
theorem initS {s0 : Sto} : WE (m_HeapU_initU [.ref s0.length]) (s0 ++ [Ob.ins 0 []]) (fun v s' => v = .non ∧ Hp0 s0 [(s0.length, topO (s0.length + 1) (s0.length + 2) (s0.length + 3))] kdO (s0.length + 3) (s0.length + 1) (s0.length + 2) [] Hs0 s') NoX := by
  obtain ⟨s, hs⟩ : ∃ s, s = s0 ++ [Ob.ins 0 []] := ⟨_, rfl⟩
  rw [← hs]
  have hl : s.length = s0.length + 1 := by rw [hs]; simp
  have h : s[s0.length]? = some (.ins 0 []) := by rw [hs]; exact get_last
  have fs : Fr [] s0 s := by rw [hs]; exact Fr.refl.push _
  obtain ⟨a, ha⟩ : ∃ a, a = s0.length := ⟨_, rfl⟩
  rw [← ha] at h hl ⊢
  have e1 : setFld cs_standing "standing" (.ref a) (.ref s.length) (s ++ [Ob.dic []]) = some ((s ++ [Ob.dic []]).set a (.ins 0 [("standing", .ref s.length)])) := setFld_ins (get_push h) ⟨by simp, by simp⟩
  obtain ⟨s1, h1⟩ : ∃ s1, s1 = (s ++ [Ob.dic []]).set a (.ins 0 [("standing", .ref s.length)]) := ⟨_, rfl⟩
  rw [← h1] at e1
  have g1 : s1[a]? = some (.ins 0 [("standing", .ref s.length)]) := by rw [h1]; exact get_set_self (get_push h)
  have l1 : s1.length = a + 2 := by rw [h1]; simp [hl]
  have d1 : s1[a + 1]? = some (.dic []) := by rw [h1, get_set_ne (by omega), ← hl]; exact get_last
  have f1 : Fr [] s0 s1 := by rw [h1]; exact (fs.push _).set (Or.inr (by omega))
  have e2 : setFld cs_kept_cells "kept_cells" (.ref a) (.ref s1.length) (s1 ++ [Ob.dic []]) = some ((s1 ++ [Ob.dic []]).set a (.ins 0 [("standing", .ref s.length), ("kept_cells", .ref s1.length)])) := setFld_ins (get_push g1) ⟨by simp, by simp⟩
  obtain ⟨s2, h2⟩ : ∃ s2, s2 = (s1 ++ [Ob.dic []]).set a (.ins 0 [("standing", .ref s.length), ("kept_cells", .ref s1.length)]) := ⟨_, rfl⟩
  rw [← h2] at e2
  have g2 : s2[a]? = some (.ins 0 [("standing", .ref s.length), ("kept_cells", .ref s1.length)]) := by rw [h2]; exact get_set_self (get_push g1)
  have l2 : s2.length = a + 3 := by rw [h2]; simp [l1]
  have d2 : s2[a + 2]? = some (.dic []) := by rw [h2, get_set_ne (by omega), ← l1]; exact get_last
  have d2' : s2[a + 1]? = some (.dic []) := by rw [h2, get_set_ne (by omega)]; exact get_push d1
  have f2 : Fr [] s0 s2 := by rw [h2]; exact (f1.push _).set (Or.inr (by omega))
  have e3 : setFld cs_strong "strong" (.ref a) (.ref s2.length) (s2 ++ [Ob.lst []]) = some ((s2 ++ [Ob.lst []]).set a (.ins 0 [("standing", .ref s.length), ("kept_cells", .ref s1.length), ("strong", .ref s2.length)])) := setFld_ins (get_push g2) ⟨by simp, by simp⟩
  obtain ⟨s3, h3⟩ : ∃ s3, s3 = (s2 ++ [Ob.lst []]).set a (.ins 0 [("standing", .ref s.length), ("kept_cells", .ref s1.length), ("strong", .ref s2.length)]) := ⟨_, rfl⟩
  rw [← h3] at e3
  have g3 : s3[a]? = some (.ins 0 [("standing", .ref s.length), ("kept_cells", .ref s1.length), ("strong", .ref s2.length)]) := by rw [h3]; exact get_set_self (get_push g2)
  have d3 : s3[a + 3]? = some (.lst []) := by rw [h3, get_set_ne (by omega), ← l2]; exact get_last
  have d3' : s3[a + 2]? = some (.dic []) := by rw [h3, get_set_ne (by omega)]; exact get_push d2
  have d3'' : s3[a + 1]? = some (.dic []) := by rw [h3, get_set_ne (by omega)]; exact get_push d2'
  have f3 : Fr [] s0 s3 := by rw [h3]; exact (f2.push _).set (Or.inr (by omega))
  unfold m_HeapU_initU b_HeapU_initU
  simp [e1, e2, e3]
  rw [hl, l1, l2] at g3
  refine ⟨d3, d3'', d3', rfl, ?_, ?_, ?_, ?_, f3⟩
  · intro i r hr; simp at hr
  · simp
  · intro x hx; simp at hx; omega
  · intro x o hx
    simp at hx
    obtain ⟨rfl, rfl⟩ := hx
    exact ⟨g3, by simp⟩
theorem heapAt {s0 : Sto} {its : List (List Ev)} {i : Nat} (S : StOk its) (hi : i ≤ its.length) : WE (m_heap_at [stV its, .int i]) s0 (fun v s' => v = .ref s0.length ∧ ∃ rs, Hp0 s0 [(s0.length, topO (s0.length + 1) (s0.length + 2) (s0.length + 3))] kdO (s0.length + 3) (s0.length + 1) (s0.length + 2) rs (stAt its i) s') NoX := by
  unfold m_heap_at b_heap_at
  simp [WE_eMake]
  refine initS.use ?_
  rintro v s1 ⟨rfl, P⟩
  simp [stV]
  refine loopX_inv (fun j lo s' => ∃ x3 rs, lo = [some (stV its), some (.int i), some (.ref s0.length), x3] ∧ Hp0 s0 [(s0.length, topO (s0.length + 1) (s0.length + 2) (s0.length + 3))] kdO (s0.length + 3) (s0.length + 1) (s0.length + 2) rs (stAt its j) s') ?_ ?_ ?_
  · exact ⟨none, [], rfl, P⟩
  · rintro j v lo s2 hv ⟨x3, rs, rfl, P2⟩
    have hj : j < i := by
      have := (List.getElem?_eq_some_iff.mp hv).1
      simp at this
      omega
    rw [List.getElem?_take_of_lt hj, List.getElem?_map] at hv
    obtain ⟨it, he, rfl⟩ : ∃ it, its[j]? = some it ∧ v = itV it := by
      cases q : its[j]? with
      | none => rw [q] at hv; cases hv
      | some e => rw [q] at hv; exact ⟨e, rfl, by simpa using hv.symm⟩
    obtain ⟨n, m, hm, O, o, ee⟩ := S.at1 he
    have top := (P2.fxd s0.length _ (List.mem_singleton.mpr rfl)).1
    have hsm := S.sm it (List.mem_of_getElem? he)
    have hlen := S.len
    simp [WE_eMeth, methW_ins (m := "apply") (tab := tabA 1 tab_apply) top rfl rfl]
    refine (applyS P2 O o (by omega) (by omega)).use ?_
    rintro v s3 ⟨rfl, rs', P3⟩
    rw [ee]
    exact ⟨_, rs', rfl, P3⟩
  · rintro lo s2 ⟨x3, rs, rfl, P2⟩
    simp
    have : (List.take i (List.map itV its)).length = i := by simp; omega
    rw [this] at P2
    exact ⟨rs, P2⟩
end K30

/-! PI: held lists -/
namespace K30
open PySem L2 Sm
def vInt : Vl → Option Int
  | .int c => some c
  | _ => none
def heldR (row : List (Key × Vl)) : List Int := row.filterMap fun kv => vInt kv.2
def Hs.held (h : Hs) : List (List Int) := h.rows.map heldR
def Hs.starts (h : Hs) : List Int := h.kept ++ heldR h.stand
def nonF (v : Vl) : Option Vl := if Sm.isNon v = true then none else some v
theorem heldR_eq {n : Nat} : ∀ {row : List (Key × Vl)}, (∀ kv ∈ row, vOk n kv.2) → (row.map (·.2)).filterMap nonF = (heldR row).map Vl.int
  | [], _ => rfl
  | kv :: row, h => by
    have ih := heldR_eq (row := row) fun x hx => h x (List.mem_cons_of_mem _ hx)
    unfold heldR at ih ⊢
    rcases h kv (List.mem_cons_self ..) with e | ⟨c, hc, e⟩
    · have e1 : nonF kv.2 = none := by rw [e]; rfl
      have e2 : vInt kv.2 = none := by rw [e]; rfl
      simp only [List.map_cons, List.filterMap_cons, e1, e2, ih]
    · have e1 : nonF kv.2 = some (.int c) := by rw [e]; rfl
      have e2 : vInt kv.2 = some (c : Int) := by rw [e]; rfl
      simp only [List.map_cons, List.filterMap_cons, e1, e2, ih]
structure HeldAt (s : Sto) (j : Nat) (held : List (List Int)) : Prop where
  ex : ∃ hs : List Nat, s[j]? = some (.lst (hs.map Vl.ref)) ∧ hs.length = held.length ∧ ∀ (i x : Nat), hs[i]? = some x → ∃ row, held[i]? = some row ∧ s[x]? = some (Ob.lst (row.map Vl.int))
theorem HeldAt.fr {s s' : Sto} {j : Nat} {held : List (List Int)} (H : HeldAt s j held) (f : Fr [] s s') : HeldAt s' j held := by
  obtain ⟨hs, a, b, c⟩ := H.ex
  exact ⟨hs, f.at a (by simp), b, fun i x hx => by
    obtain ⟨row, p, q⟩ := c i x hx
    exact ⟨row, p, f.at q (by simp)⟩⟩
/-- the outer walk, for any inner one -/
theorem heldWalk {s : Sto} {j : Nat} {rs : List Nat} {rows : List (List (Key × Vl))} {lo : Lo} {e : EM} {v8 : Nat} {Q : Sto → Prop} (hj : s[j]? = some (.lst (rs.map Vl.ref))) (hl : rs.length = rows.length) (hr : ∀ (i r : Nat), rs[i]? = some r → ∃ row, rows[i]? = some row ∧ s[r]? = some (Ob.dic row)) (hlen : rs.length < 1000)
    (he : ∀ (s' : Sto) (r : Nat) (row : List (Key × Vl)), row ∈ rows → s'[r]? = some (.dic row) → Fr [] s s' → r < s.length → WE (e (lo.set v8 (some (.ref r)))) s' (fun y s'' => y = .ref (s''.length - 1) ∧ s'.length < s''.length ∧ s''[(s''.length - 1)]? = some (.lst ((heldR row).map Vl.int)) ∧ Fr [] s' s'') NoX)
    (hd : ∀ s', Fr [] s s' → HeldAt s' s.length (rows.map heldR) → Q s') : WL (lcN (nxLst j) (glN v8) tTrue e s.length lo 100000 0 (s ++ [.lst []])) Q := by
  have hjl := lt_of_get hj
  refine lcL_inv (xs := rs.map Vl.ref) (fun i s' => Fr [] s s' ∧ s.length < s'.length ∧ ∃ hs : List Nat, s'[s.length]? = some (.lst (hs.map Vl.ref)) ∧ hs.length = i ∧ ∀ (p x : Nat), hs[p]? = some x → x ≠ s.length ∧ ∃ row, rows[p]? = some row ∧ s'[x]? = some (.lst ((heldR row).map Vl.int))) (by simp; omega) ?_ ?_ ?_ ?_
  · exact ⟨Fr.refl.push _, by simp, [], get_last, rfl, fun p x hx => by simp at hx⟩
  · rintro i s' ⟨f, _⟩
    exact f.at hj (by simp)
  · rintro i v s' hv ⟨f, hlt, hs, g, hi, hrow⟩
    refine ⟨_, rfl, ?_⟩
    rw [List.getElem?_map] at hv
    obtain ⟨r, he', rfl⟩ : ∃ r, rs[i]? = some r ∧ v = .ref r := by
      cases q : rs[i]? with
      | none => rw [q] at hv; cases hv
      | some e => rw [q] at hv; exact ⟨e, rfl, by simpa using hv.symm⟩
    obtain ⟨row, hr1, hr2⟩ := hr i r he'
    unfold LcT tTrue
    rw [WE_ret, if_pos rfl]
    refine (he s' r row (List.mem_of_getElem? hr1) (f.at hr2 (by simp)) f (lt_of_get hr2)).use ?_
    rintro y s2 ⟨rfl, hl2, g2, f2⟩
    have g3 := f2.at g (by simp)
    have hil : i < rs.length := (List.getElem?_eq_some_iff.mp he').1
    simp only [g3]
    have hne : (s2.length - 1) ≠ s.length := by omega
    refine ⟨limC (by simp; omega), (f.trans f2).set (Or.inr (Nat.le_refl _)), by simp; omega, hs ++ [(s2.length - 1)], ?_, by simp [hi], ?_⟩
    · rw [get_set_self g3]; simp
    · intro p x hx
      rcases Nat.lt_or_ge p hs.length with z | z
      · rw [List.getElem?_append_left z] at hx
        obtain ⟨a, row, b, c⟩ := hrow p x hx
        exact ⟨a, row, b, by rw [get_set_ne (Ne.symm a)]; exact f2.at c (by simp)⟩
      · rw [List.getElem?_append_right z] at hx
        have : p - hs.length = 0 := by
          rcases Nat.eq_zero_or_pos (p - hs.length) with q | q
          · exact q
          · rw [List.getElem?_eq_none (by simp; omega)] at hx; cases hx
        rw [this] at hx
        simp only [List.getElem?_cons_zero, Option.some.injEq] at hx
        subst hx
        have : p = i := by omega
        subst this
        exact ⟨hne, row, hr1, by rw [get_set_ne (Ne.symm hne)]; exact g2⟩
  · rintro s' ⟨f, hlt, hs, g, hi, hrow⟩
    refine hd s' f ⟨hs, g, by rw [hi]; simp [hl], ?_⟩
    intro i x hx
    obtain ⟨_, row, a, b⟩ := hrow i x hx
    exact ⟨heldR row, by rw [List.getElem?_map, a]; rfl, b⟩
/-- the inner walk of the law -/
theorem innerL {s : Sto} {r n : Nat} {row : List (Key × Vl)} {lo : Lo} (hr : s[r]? = some (.dic row)) (hv : ∀ kv ∈ row, vOk n kv.2) (hl : row.length < 1000) (h8 : lo[8]? = some (some (.ref r))) (h9 : lo.length = 10) :
    WE (eLc 100000 (iLst (eListVals (eVar 8))) (glN 9) (tVal (eOp opNotN (eVar 9) (eC .non))) (eVar 9) [9] lo) s (fun y s'' => y = .ref (s''.length - 1) ∧ s.length < s''.length ∧ s''[(s''.length - 1)]? = some (.lst ((heldR row).map Vl.int)) ∧ Fr [] s s'') NoX := by
  simp [h8, hr]
  refine lcL_p (xs := row.map (·.2)) (s ++ [.lst (row.map (·.2))]) nonF (by simp) (by simp) get_last (by simp; omega) ?_ ?_
  · intro x hx acc
    refine ⟨_, rfl, ?_⟩
    simp [wipeL, h9]
    unfold nonF
    by_cases q : Sm.isNon x = true <;> simp [q]
  · rw [heldR_eq hv]
    simp
    exact Fr.refl.app _
/-- the same over a dict in its lock -/
theorem innerV {s : Sto} {r n : Nat} {row : List (Key × Vl)} {lo : Lo} (hr : s[r]? = some (.dic row)) (hv : ∀ kv ∈ row, vOk n kv.2) (hl : row.length < 1000) (h1 : lo[1]? = some (some (.ref r))) (h3 : lo.length = 3) :
    WE (eLock (eVar 1) (eLc 100000 (iVal (eVar 1)) (glN 2) (tVal (eOp opNotN (eVar 2) (eC .non))) (eVar 2) [2]) lo) s (fun y s'' => y = .ref (s''.length - 1) ∧ s.length < s''.length ∧ s''[(s''.length - 1)]? = some (.lst ((heldR row).map Vl.int)) ∧ Fr [] s s'') NoX := by
  refine WE_eLock (j := r) (by simp [h1]) hr ?_
  have hf : (s.set r (Ob.fdic row))[r]? = some (.fdic row) := get_set_self hr
  have hrl := lt_of_get hr
  simp [h1, hf]
  refine lcV_p (kvs := row) (s.set r (.fdic row)) nonF (by simp) (by simp) hf (by omega) ?_ ?_
  · intro x hx acc
    refine ⟨_, rfl, ?_⟩
    simp [wipeL, h3]
    unfold nonF
    by_cases q : Sm.isNon x = true <;> simp [q]
  · rw [heldR_eq hv]
    refine ⟨⟨row, get_push hf⟩, ?_⟩
    have hlen : ((s.set r (.fdic row) ++ [Ob.lst ((heldR row).map Vl.int)]).set r (Ob.dic row)).length = s.length + 1 := by simp
    rw [hlen]
    refine ⟨by simp, by simp, ?_, ?_⟩
    · rw [get_set_ne (by omega)]
      simp
    · refine ⟨by simp, fun i hi _ => ?_⟩
      by_cases e : i = r
      · subst e
        rw [get_set_self (get_push hf), hr]
      · rw [get_set_ne (Ne.symm e), List.getElem?_append_left (by simpa using hi), get_set_ne (Ne.symm e)]
end K30

/-! PJ: held_lists, _law_heap, cells_at -/
namespace K30
open PySem L2 Sm
theorem heldLists {s0 s : Sto} {a a1 a2 a3 n B : Nat} {rs : List Nat} {h : Hs} (P : Hp0 s0 [(a, topO a1 a2 a3)] kdO a3 a1 a2 rs h s) (O : HsOk n B h) (hB : B < 1000) (hn : n < 1000) :
    WE (m_Heap_held_lists [.ref a]) s (fun v s' => v = .ref s.length ∧ HeldAt s' s.length h.held ∧ Fr [] s s') NoX := by
  have top := (P.fxd a _ (List.mem_singleton.mpr rfl)).1
  unfold m_Heap_held_lists b_Heap_held_lists
  simp [fw3 top, P.sg]
  refine heldWalk P.sg P.len P.rw (by rw [P.len, O.len]; exact hn) ?_ ?_
  · intro s' r row hrow hs' f hr
    exact innerV hs' (O.row row hrow).2 (by have := (O.row row hrow).1; omega) (by simp [wipeL]) (by simp [wipeL])
  · intro s' f H
    exact ⟨rfl, H, f⟩
theorem cellsAt {s0 : Sto} {its : List (List Ev)} {i : Nat} (S : StOk its) (hi : i ≤ its.length) : WE (m_cells_at [stV its, .int i]) s0 (fun v s' => v = .int (stAt its i).rows.length ∧ Fr [] s0 s') NoX := by
  unfold m_cells_at b_cells_at
  simp
  refine (heapAt S hi).use ?_
  rintro v s1 ⟨rfl, rs, P⟩
  have top := (P.fxd s0.length _ (List.mem_singleton.mpr rfl)).1
  simp [fw3 top, P.sg, P.len]
  exact P.fr
theorem lawHeap {s0 : Sto} {its : List (List Ev)} {i : Nat} (S : StOk its) (hi : i ≤ its.length) :
    WE (m__law_heap [stV its, .int i]) s0 (fun v s' => ∃ j k, v = .tup [.ref j, .ref k] ∧ HeldAt s' j (stAt its i).held ∧ s'[k]? = some (.lst ((stAt its i).starts.map Vl.int)) ∧ Fr [] s0 s') NoX := by
  unfold m__law_heap b__law_heap
  simp [stV]
  obtain ⟨n, hn6, _, OK⟩ := S.at hi
  have hlen := S.len
  refine loopX_inv (fun j lo s' => ∃ x2 x7 rs, lo = [some (stV its), some (.int i), x2, none, some (.ref s0.length), some (.ref (s0.length + 1)), some (.ref (s0.length + 2)), x7, none, none] ∧ Hp0 s0 [] klO s0.length (s0.length + 1) (s0.length + 2) rs (stAt its j) s') ?_ ?_ ?_
  · refine ⟨none, none, [], rfl, ?_, ?_, ?_, rfl, ?_, ?_, ?_, ?_, Fr.refl.app _⟩
    · simp
    · simp
      rfl
    · simp [klO]
      rfl
    · intro i r hr; simp at hr
    · simp
    · intro x hx; simp at hx; omega
    · intro x o hx; simp at hx
  · rintro j v lo s2 hv ⟨x2, x7, rs, rfl, P2⟩
    have hj : j < i := by
      have := (List.getElem?_eq_some_iff.mp hv).1
      simp at this
      omega
    rw [List.getElem?_take_of_lt hj, List.getElem?_map] at hv
    obtain ⟨it, he, rfl⟩ : ∃ it, its[j]? = some it ∧ v = itV it := by
      cases q : its[j]? with
      | none => rw [q] at hv; cases hv
      | some e => rw [q] at hv; exact ⟨e, rfl, by simpa using hv.symm⟩
    obtain ⟨n, m, hm, O, o, ee⟩ := S.at1 he
    have hsm := S.sm it (List.mem_of_getElem? he)
    simp [itV]
    rw [ee]
    generalize stAt its j = h at P2 O
    refine loopX_inv (fun p lo s' => ∃ rs n' x7, lo = [some (stV its), some (.int i), some (itV it), none, some (.ref s0.length), some (.ref (s0.length + 1)), some (.ref (s0.length + 2)), x7, none, none] ∧ Hp0 s0 [] klO s0.length (s0.length + 1) (s0.length + 2) rs ((it.take p).foldl Hs.step h) s' ∧ HsOk n' (4 * j + p) ((it.take p).foldl Hs.step h) ∧ okL n' (it.drop p) m) ?_ ?_ ?_
    · exact ⟨rs, n, x7, rfl, P2, O, o⟩
    · rintro p v lo s3 hv ⟨rs, n', x7, rfl, P1, O1, o1⟩
      rw [List.getElem?_map] at hv
      obtain ⟨e, he, rfl⟩ : ∃ e, it[p]? = some e ∧ v = e.vl := by
        cases q : it[p]? with
        | none => rw [q] at hv; cases hv
        | some e => rw [q] at hv; exact ⟨e, rfl, by simpa using hv.symm⟩
      obtain ⟨hi, ee⟩ := List.getElem?_eq_some_iff.mp he
      have ed : it.drop p = e :: it.drop (p + 1) := by rw [List.drop_eq_getElem_cons hi, ee]
      rw [ed] at o1
      have et : (it.take (p + 1)).foldl Hs.step h = ((it.take p).foldl Hs.step h).step e := by
        rw [List.take_add_one, he]
        simp
      rw [et]
      generalize (it.take p).foldl Hs.step h = h1 at P1 O1
      obtain ⟨n2, O2, o2, hn2⟩ := O1.step o1
      have hm2 := okL_le o2
      have hrl : rs.length < LIM := by rw [P1.len, O1.len]; exact limC (by omega)
      have hsl : h1.stand.length < LIM := limC (by have := O1.std.1; omega)
      have hkl : h1.kept.length < LIM := limC (by have := O1.kpt.1; omega)
      have kp := P1.kp
      unfold klO at kp
      cases e with
      | make j =>
        simp [Ev.vl, P1.sg, oAppend_lst (get_push P1.sg) (by simpa using hrl)]
        exact ⟨⟨_, P1.make j⟩, n2, O2, o2⟩
      | stand x c =>
        simp [Ev.vl, P1.st, hsl]
        exact ⟨⟨_, P1.setSt⟩, n2, O2, o2⟩
      | hold j f c =>
        obtain ⟨⟨hj, _, _⟩, _⟩ := o1
        have hj' : j < rs.length := by rw [P1.len, O1.len]; exact hj
        have hjr : rs[j]? = some rs[j] := List.getElem?_eq_getElem hj'
        obtain ⟨row, hr, hs⟩ := P1.rw j _ hjr
        have hrow := (O1.row row (List.mem_of_getElem? hr)).1
        have hrw : row.length < LIM := limC (by omega)
        have hat : atI (rs.map Vl.ref) (j : Int) = some (.ref rs[j]) := by rw [atN, List.getElem?_map, hjr]; rfl
        simp [Ev.vl, P1.sg, hat, hs, hrw]
        refine ⟨⟨rs, ?_⟩, n2, O2, o2⟩
        have := P1.setRow (row := put row (.inr f) (oN c)) hjr
        simp only [Hs.step, hr]
        exact this
      | keep c =>
        simp [Ev.vl, kp, hkl]
        refine ⟨⟨rs, ?_⟩, n2, O2, o2⟩
        have := P1.setKp (kp := h1.kept ++ [(c : Int)])
        unfold klO at this
        rw [List.map_append] at this
        exact this
      | ask c =>
        simp [Ev.vl]
        exact ⟨⟨rs, P1⟩, n2, O2, o2⟩
    · rintro lo s1 ⟨rs, n', x2, rfl, P1, O1, o1⟩
      simp at P1
      exact ⟨_, _, rs, rfl, P1⟩
  · rintro lo s2 ⟨x2, x7, rs, rfl, P2⟩
    have : (List.take i (List.map itV its)).length = i := by simp; omega
    rw [this] at P2
    simp [P2.sg]
    generalize stAt its i = h at P2 OK
    refine heldWalk P2.sg P2.len P2.rw (by rw [P2.len, OK.len]; omega) ?_ ?_
    · intro s' r row hrow hs' f hr
      exact innerL hs' (OK.row row hrow).2 (by have := (OK.row row hrow).1; omega) (by simp [wipeL]) (by simp [wipeL])
    · intro s3 f3 H3
      have st3 := f3.at P2.st (by simp)
      have kp3 := f3.at P2.kp (by simp)
      unfold klO at kp3
      simp [st3]
      refine lcL_p (xs := h.stand.map (·.2)) (s3 ++ [.lst (h.stand.map (·.2))]) nonF (by simp) (by simp) get_last (by have := OK.std.1; simp; omega) ?_ ?_
      · intro x hx acc
        refine ⟨_, rfl, ?_⟩
        simp [wipeL]
        unfold nonF
        by_cases q : Sm.isNon x = true <;> simp [q]
      · rw [heldR_eq OK.std.2]
        have kp4 : (s3 ++ [Ob.lst (h.stand.map (·.2))] ++ [Ob.lst ((heldR h.stand).map Vl.int)])[s0.length + 2]? = some (.lst (h.kept.map Vl.int)) := get_push (get_push kp3)
        have hhl : (heldR h.stand).length ≤ h.stand.length := List.length_filterMap_le ..
        rw [opAdd_lst kp4 get_last (limB (by have := OK.std.1; have := OK.kpt.1; simp; omega))]
        simp
        refine ⟨_, _, ⟨rfl, rfl⟩, H3.fr (Fr.refl.app _), ?_, P2.fr.trans (f3.app _)⟩
        rw [List.getElem?_append_right (by omega)]
        simp [Hs.starts]
end K30

/-! PK: reach in a graph, plainly -/
namespace K30
open PySem L2 Sm
def rowOf (held : List (List Int)) (x : Int) : List Int := (held[x.toNat]?).getD []
inductive Rch (held : List (List Int)) (S : Int → Prop) : Int → Prop
  | base {x : Int} : S x → Rch held S x
  | step {x y : Int} : Rch held S x → y ∈ rowOf held x → Rch held S y
structure GOk (held : List (List Int)) (n : Nat) : Prop where
  len : held.length = n
  rng : ∀ row ∈ held, ∀ y ∈ row, 0 ≤ y ∧ y < n
theorem rowOf_rng {held : List (List Int)} {n : Nat} (G : GOk held n) {x y : Int} (h : y ∈ rowOf held x) : 0 ≤ y ∧ y < n := by
  unfold rowOf at h
  cases e : held[x.toNat]? with
  | none => rw [e] at h; simp at h
  | some row => rw [e] at h; exact G.rng row (List.mem_of_getElem? e) y h
theorem Rch.rng {held : List (List Int)} {n : Nat} (G : GOk held n) {S : Int → Prop} (hS : ∀ x, S x → 0 ≤ x ∧ x < n) {x : Int} (h : Rch held S x) : 0 ≤ x ∧ x < n := by
  cases h with
  | base a => exact hS _ a
  | step a b => exact rowOf_rng G b
theorem nodup_sub : ∀ {A B : List Int}, A.Nodup → (∀ x ∈ A, x ∈ B) → A.length ≤ B.length
  | [], B, _, _ => Nat.zero_le _
  | a :: A, B, nd, h => by
    have ha := h a (List.mem_cons_self ..)
    simp only [List.nodup_cons] at nd
    have ih := nodup_sub (B := B.erase a) nd.2 fun x hx => (List.mem_erase_of_ne (show x ≠ a from fun e => nd.1 (e ▸ hx))).mpr (h x (List.mem_cons_of_mem _ hx))
    rw [List.length_erase_of_mem ha] at ih
    have := List.length_pos_of_mem ha
    simp only [List.length_cons]
    omega
def iota (n : Nat) : List Int := (List.range n).map fun i => ((i : Nat) : Int)
theorem mem_iota {n : Nat} {x : Int} : x ∈ iota n ↔ 0 ≤ x ∧ x < n := by
  unfold iota
  constructor
  · intro h
    obtain ⟨i, hi, rfl⟩ := List.mem_map.mp h
    have := List.mem_range.mp hi
    omega
  · intro h
    exact List.mem_map.mpr ⟨x.toNat, List.mem_range.mpr (by omega), by omega⟩
theorem nodup_rng {A : List Int} {n : Nat} (nd : A.Nodup) (h : ∀ x ∈ A, 0 ≤ x ∧ x < n) : A.length ≤ n := by
  have := nodup_sub (B := iota n) nd fun x hx => mem_iota.mpr (h x hx)
  simpa [iota] using this
/-- as many as there are: all of them -/
theorem full {A : List Int} {n : Nat} (nd : A.Nodup) (h : ∀ x ∈ A, 0 ≤ x ∧ x < n) (hl : n ≤ A.length) {y : Int} (hy : 0 ≤ y ∧ y < n) : y ∈ A := by
  by_cases q : y ∈ A
  · exact q
  · exfalso
    have : (y :: A).length ≤ n := nodup_rng (List.nodup_cons.mpr ⟨q, nd⟩) fun x hx => by
      rcases List.mem_cons.mp hx with rfl | z
      · exact hy
      · exact h x z
    simp at this
    omega
abbrev Inc (A : List Int) : Prop := A.Pairwise (· < ·)
theorem Inc.nodup {A : List Int} (h : Inc A) : A.Nodup := h.imp fun a => by omega
theorem inc_ext : ∀ {A B : List Int}, Inc A → Inc B → (∀ x, x ∈ A ↔ x ∈ B) → A = B
  | [], [], _, _, _ => rfl
  | [], b :: B, _, _, h => by have := (h b).mpr (List.mem_cons_self ..); simp at this
  | a :: A, [], _, _, h => by have := (h a).mp (List.mem_cons_self ..); simp at this
  | a :: A, b :: B, ia, ib, h => by
    have ia' := List.pairwise_cons.mp ia
    have ib' := List.pairwise_cons.mp ib
    have hab : a = b := by
      rcases List.mem_cons.mp ((h a).mp (List.mem_cons_self ..)) with z | z
      · exact z
      · rcases List.mem_cons.mp ((h b).mpr (List.mem_cons_self ..)) with y | y
        · exact y.symm
        · have := ib'.1 a z
          have := ia'.1 b y
          omega
    subst hab
    congr 1
    refine inc_ext ia'.2 ib'.2 fun x => ⟨fun hx => ?_, fun hx => ?_⟩
    · rcases List.mem_cons.mp ((h x).mp (List.mem_cons_of_mem _ hx)) with z | z
      · have := ia'.1 x hx
        omega
      · exact z
    · rcases List.mem_cons.mp ((h x).mpr (List.mem_cons_of_mem _ hx)) with z | z
      · have := ib'.1 x hx
        omega
      · exact z
theorem srt_inc {A : List Int} (nd : A.Nodup) : Inc (srt A) := by
  have h1 := srt_sorted A
  have h2 : (srt A).Nodup := (srt_perm A).nodup_iff.mpr nd
  exact (h1.and h2).imp fun h => by omega
theorem mem_srt {A : List Int} {x : Int} : x ∈ srt A ↔ x ∈ A := (srt_perm A).mem_iff
end K30

/-! PL: _law_closed -/
namespace K30
open PySem L2 Sm
structure GOk2 (held : List (List Int)) (n : Nat) : Prop extends GOk held n where
  n6 : n ≤ 6
  rl : ∀ row ∈ held, row.length < 100
theorem HeldAt.row {s : Sto} {j : Nat} {held : List (List Int)} {n : Nat} (H : HeldAt s j held) (G : GOk held n) {x : Int} (h : 0 ≤ x ∧ x < n) : ∃ (xs : List Vl) (r : Nat), s[j]? = some (.lst xs) ∧ xs.length = n ∧ atI xs x = some (.ref r) ∧ s[r]? = some (.lst ((rowOf held x).map Vl.int)) := by
  obtain ⟨hs, a, b, c⟩ := H.ex
  have hx : x.toNat < hs.length := by rw [b, G.len]; omega
  have e : hs[x.toNat]? = some hs[x.toNat] := List.getElem?_eq_getElem hx
  obtain ⟨row, p, q⟩ := c _ _ e
  refine ⟨_, hs[x.toNat], a, by simp [b, G.len], ?_, ?_⟩
  · have this : ((x.toNat : Nat) : Int) = x := by omega
    have z : atI (hs.map Vl.ref) ((x.toNat : Nat) : Int) = some (.ref hs[x.toNat]) := by rw [atN, List.getElem?_map, e]; rfl
    rw [this] at z
    exact z
  · rw [rowOf, p]; exact q
theorem rowOf_len {held : List (List Int)} {n : Nat} (G : GOk2 held n) {x : Int} : (rowOf held x).length < 100 := by
  unfold rowOf
  cases e : held[x.toNat]? with
  | none => simp
  | some row => exact G.rl row (List.mem_of_getElem? e)
theorem flat_len {held : List (List Int)} {n : Nat} (G : GOk2 held n) : ∀ xs : List Int, (xs.flatMap (rowOf held)).length ≤ 100 * xs.length
  | [] => by simp
  | x :: xs => by
    have h1 := flat_len G xs
    have h2 := rowOf_len G (x := x)
    simp only [List.flatMap_cons, List.length_append, List.length_cons]
    omega
theorem closedS {s : Sto} {j k n : Nat} {held : List (List Int)} {starts : List Int} (H : HeldAt s j held) (G : GOk2 held n) (hk : s[k]? = some (.lst (starts.map Vl.int))) (hr : ∀ x ∈ starts, 0 ≤ x ∧ x < n) (hl : starts.length < 1000) :
    WE (m__law_closed [.ref j, .ref k]) s (fun v s' => ∃ p C, v = .ref p ∧ s'[p]? = some (.lst (C.map Vl.int)) ∧ Inc C ∧ (∀ y, y ∈ C ↔ Rch held (· ∈ starts) y) ∧ Fr [] s s') NoX := by
  have hn6 := G.n6
  obtain ⟨hs, hj, hsl, hrows⟩ := H.ex
  have hsn : hs.length = n := hsl.trans G.len
  have hlen : (hs.map Vl.ref).length = n := by simp [hsn]
  have dl : (ddup starts).length ≤ n := nodup_rng (ddup_nodup _) fun x hx => hr x (mem_ddup.mp hx)
  have h64 : (ddup starts).length < 64 := by omega
  have h4 : starts.length < 4000 := by omega
  have hj2 : ∀ t : Sto, (s ++ t)[j]? = some (.lst (hs.map Vl.ref)) := fun t => get_app hj
  have hn1 : n < 1000000 := by omega
  unfold m__law_closed b__law_closed
  simp [oSet_ints hk h4, oSortS_set get_last h64, hj2, hsn, hn1]
  refine loopX_inv (fun t lo s' => ∃ p F x3 x4 x5, lo = [some (.ref j), some (.ref k), some (.ref p), x3, x4, x5] ∧ s'[p]? = some (.lst (F.map Vl.int)) ∧ Fr [] s s' ∧ Inc F ∧ (∀ x ∈ starts, x ∈ F) ∧ (∀ x ∈ F, Rch held (· ∈ starts) x) ∧ ((∀ x ∈ F, ∀ y ∈ rowOf held x, y ∈ F) ∨ t ≤ F.length)) ?_ ?_ ?_
  · refine ⟨s.length + 1, srt (ddup starts), none, none, none, rfl, ?_, Fr.refl.app _, srt_inc (ddup_nodup _), ?_, ?_, Or.inr (Nat.zero_le _)⟩
    · rw [List.getElem?_append_right (by omega)]; simp
    · intro x hx; exact mem_srt.mpr (mem_ddup.mpr hx)
    · intro x hx; exact .base (mem_ddup.mp (mem_srt.mp hx))
  · rintro t v lo s1 hv ⟨p, F, x3, x4, x5, rfl, hp, f1, inc, sub, rch, cl⟩
    obtain ⟨ht, rfl⟩ := rng_get hv
    have Frng : ∀ x ∈ F, 0 ≤ x ∧ x < n := fun x hx => (rch x hx).rng G.toGOk hr
    have Flen : F.length ≤ n := nodup_rng inc.nodup Frng
    have hpl := lt_of_get hp
    simp [hp, get_push hp]
    have hpq : p ≠ s1.length := by omega
    refine loopL_inv (xs := F.map Vl.int) (fun i lo s' => ∃ x5, lo = [some (.ref j), some (.ref k), some (.ref p), some (.int t), some (.ref s1.length), x5] ∧ s'[s1.length]? = some (.lst ((F ++ (F.take i).flatMap (rowOf held)).map Vl.int)) ∧ s'[p]? = some (.lst (F.map Vl.int)) ∧ Fr [] s s') (by simp; omega) ?_ ?_ ?_ ?_
    · exact ⟨x5, rfl, by simp, get_push hp, f1.push _⟩
    · rintro i lo s' ⟨x5, rfl, _, h, _⟩
      exact h
    · rintro i v lo s2 hv ⟨x5, rfl, gq, gp, f2⟩
      rw [List.getElem?_map] at hv
      obtain ⟨x, hx, rfl⟩ : ∃ x, F[i]? = some x ∧ v = .int x := by
        cases q : F[i]? with
        | none => rw [q] at hv; cases hv
        | some e => rw [q] at hv; exact ⟨e, rfl, by simpa using hv.symm⟩
      obtain ⟨xs, r, a1, a2, a3, a4⟩ := (H.fr f2).row G.toGOk (Frng x (List.mem_of_getElem? hx))
      have hil := (List.getElem?_eq_some_iff.mp hx).1
      have b1 := flat_len G (F.take i)
      have b2 := rowOf_len G (x := x)
      have hb : ((F ++ (F.take i).flatMap (rowOf held)).map Vl.int).length + ((rowOf held x).map Vl.int).length ≤ LIM := limB (by simp at b1 ⊢; omega)
      simp only [WG_gNm, WS_sExpr, WE_eBm]
      simp [kd_lst gq, opIx_lst a1, a3, oExtend_lst gq a4 hb]
      refine ⟨?_, ?_, f2.set (Or.inr (by have := f1.le; omega))⟩
      · rw [get_set_self gq, List.take_add_one, hx]
        simp
      · rw [get_set_ne (Ne.symm hpq)]; exact gp
    · rintro lo s2 ⟨x5, rfl, gq, gp, f2⟩
      simp only [List.length_map, List.take_length] at gq
      have b1 := flat_len G F
      have hm4 : (F ++ F.flatMap (rowOf held)).length < 4000 := by rw [List.length_append]; omega
      have Mrng : ∀ x ∈ F ++ F.flatMap (rowOf held), Rch held (· ∈ starts) x := by
        intro x hx
        rcases List.mem_append.mp hx with h | h
        · exact rch x h
        · obtain ⟨y, hy, hxy⟩ := List.mem_flatMap.mp h
          exact .step (rch y hy) hxy
      have dl2 : (ddup (F ++ F.flatMap (rowOf held))).length ≤ n := nodup_rng (ddup_nodup _) fun x hx => (Mrng x (mem_ddup.mp hx)).rng G.toGOk hr
      have h642 : (ddup (F ++ F.flatMap (rowOf held))).length < 64 := by omega
      simp only [WS_sSet, WE_eCB]
      simp [oSet_ints gq hm4, oSortS_set get_last h642]
      generalize hM : F ++ F.flatMap (rowOf held) = M at *
      have memM : ∀ x, x ∈ srt (ddup M) ↔ x ∈ M := fun x => mem_srt.trans mem_ddup
      refine ⟨srt (ddup M), ?_, f2.app _, srt_inc (ddup_nodup _), ?_, ?_, ?_⟩
      · rfl
      · intro x hx; exact (memM x).mpr (hM ▸ List.mem_append_left _ (sub x hx))
      · intro x hx; exact Mrng x ((memM x).mp hx)
      · have FM : ∀ x ∈ F, x ∈ M := fun x hx => hM ▸ List.mem_append_left _ hx
        have RM : ∀ x ∈ F, ∀ y ∈ rowOf held x, y ∈ M := fun x hx y hy => hM ▸ List.mem_append_right _ (List.mem_flatMap.mpr ⟨x, hx, hy⟩)
        by_cases q : ∀ x ∈ M, x ∈ F
        · left
          intro x hx y hy
          exact (memM y).mpr (RM x (q x ((memM x).mp hx)) y hy)
        · have hcl : t ≤ F.length := by
            rcases cl with c | c
            · exfalso
              apply q
              intro x hx
              rw [← hM] at hx
              rcases List.mem_append.mp hx with h | h
              · exact h
              · obtain ⟨y, hy, hxy⟩ := List.mem_flatMap.mp h
                exact c y hy x hxy
            · exact c
          right
          obtain ⟨z, hz⟩ := Classical.not_forall.mp q
          have hzM : z ∈ M := Classical.byContradiction fun w => hz fun v => absurd v w
          have hzF : z ∉ F := fun w => hz fun _ => w
          have : (z :: F).length ≤ (srt (ddup M)).length := nodup_sub (List.nodup_cons.mpr ⟨hzF, inc.nodup⟩) fun x hx => by
            rcases List.mem_cons.mp hx with rfl | w
            · exact (memM _).mpr hzM
            · exact (memM x).mpr (FM x w)
          simp at this
          omega
  · rintro lo s1 ⟨p, F, x3, x4, x5, rfl, hp, f1, inc, sub, rch, cl⟩
    rw [rng_len] at cl
    have Frng : ∀ x ∈ F, 0 ≤ x ∧ x < n := fun x hx => (rch x hx).rng G.toGOk hr
    have cl2 : ∀ x ∈ F, ∀ y ∈ rowOf held x, y ∈ F := by
      rcases cl with c | c
      · exact c
      · intro x hx y hy
        exact full inc.nodup Frng c (rowOf_rng G.toGOk hy)
    simp
    refine ⟨F, hp, inc, fun y => ⟨rch y, fun h => ?_⟩, f1⟩
    induction h with
    | base a => exact sub _ a
    | step a b ih => exact cl2 _ ih _ b
end K30

/-! PM: reached_flags -/
namespace K30
open PySem L2 Sm
theorem put_keys {acc : List (Key × Vl)} {c : Int} {v : Vl} : ∀ {K : List Int}, acc.map (·.1) = K.map Sum.inl → ∃ K' : List Int, (put acc (.inl c) v).map (·.1) = K'.map Sum.inl ∧ (∀ x, x ∈ K' ↔ x ∈ K ∨ x = c) := by
  induction acc with
  | nil =>
    intro K h
    cases K with
    | nil => exact ⟨[c], rfl, fun x => by simp⟩
    | cons k K => simp at h
  | cons p r ih =>
    intro K h
    cases K with
    | nil => simp at h
    | cons k K =>
      simp only [List.map_cons, List.cons.injEq] at h
      obtain ⟨h1, h2⟩ := h
      unfold put
      by_cases q : p.1 = .inl c
      · rw [if_pos q]
        have : k = c := by rw [q] at h1; cases h1; rfl
        subst this
        exact ⟨k :: K, by simp [h2], fun x => by simp; intro e; exact Or.inl e⟩
      · rw [if_neg q]
        obtain ⟨K', e1, e2⟩ := ih h2
        exact ⟨k :: K', by simp [h1, e1], fun x => by simp [e2, or_assoc]⟩
theorem kdL_keys (ks : List Int) : ∃ K : List Int, (kdL ks).map (·.1) = K.map Sum.inl ∧ ∀ x, x ∈ K ↔ x ∈ ks := by
  have : ∀ (ks : List Int) (acc : List (Key × Vl)) (K : List Int), acc.map (·.1) = K.map Sum.inl → ∃ K' : List Int, (ks.foldl (fun acc c => put acc (.inl c) (.bl true)) acc).map (·.1) = K'.map Sum.inl ∧ ∀ x, x ∈ K' ↔ x ∈ K ∨ x ∈ ks := by
    intro ks
    induction ks with
    | nil => intro acc K h; exact ⟨K, h, fun x => by simp⟩
    | cons k ks ih =>
      intro acc K h
      obtain ⟨K1, a1, a2⟩ := put_keys (c := k) (v := .bl true) h
      obtain ⟨K2, b1, b2⟩ := ih _ K1 a1
      exact ⟨K2, b1, fun x => by rw [b2, a2]; simp [or_assoc]⟩
  obtain ⟨K, a, b⟩ := this ks [] [] rfl
  exact ⟨K, a, fun x => by rw [b]; simp⟩
def pot : List (List Int) → List Bool → Nat
  | r :: rs, b :: bs => (if b then 0 else r.length) + pot rs bs
  | _, _ => 0
theorem pot_set : ∀ {held : List (List Int)} {fl : List Bool} {i : Nat} {row : List Int}, held[i]? = some row → fl[i]? = some false → pot held (fl.set i true) + row.length = pot held fl
  | [], fl, i, row, h, _ => by simp at h
  | r :: rs, [], i, row, _, h => by simp at h
  | r :: rs, b :: bs, 0, row, h1, h2 => by
    simp at h1 h2
    subst h1 h2
    simp [pot]
    omega
  | r :: rs, b :: bs, i + 1, row, h1, h2 => by
    simp at h1 h2
    have := pot_set h1 h2
    simp only [List.set_cons_succ, pot]
    omega
theorem pot_le {n : Nat} : ∀ {held : List (List Int)} {fl : List Bool}, (∀ row ∈ held, row.length < 100) → pot held fl ≤ 100 * held.length
  | [], fl, _ => by simp [pot]
  | r :: rs, [], _ => by simp [pot]
  | r :: rs, b :: bs, h => by
    have h1 := h r (List.mem_cons_self ..)
    have h2 := pot_le (n := n) (fl := bs) fun x hx => h x (List.mem_cons_of_mem _ hx)
    simp only [pot, List.length_cons]
    split <;> omega
abbrev on (fl : List Bool) (x : Int) : Prop := 0 ≤ x ∧ fl[x.toNat]? = some true
theorem on_set {fl : List Bool} {x y : Int} (hx : 0 ≤ x) (hl : x.toNat < fl.length) : on (fl.set x.toNat true) y ↔ on fl y ∨ y = x := by
  unfold on
  by_cases e : y = x
  · subst e
    simp [List.getElem?_set_self hl, hx]
  · constructor
    · rintro ⟨a, b⟩
      rw [List.getElem?_set_ne (by omega)] at b
      exact .inl ⟨a, b⟩
    · rintro (⟨a, b⟩ | b)
      · exact ⟨a, by rw [List.getElem?_set_ne (by omega)]; exact b⟩
      · exact absurd b e
theorem rowOf_get {held : List (List Int)} {x : Int} (hl : x.toNat < held.length) : held[x.toNat]? = some (rowOf held x) := by
  unfold rowOf
  rw [List.getElem?_eq_getElem hl]
  rfl
theorem standV {s0 s : Sto} {a a1 a2 a3 n B : Nat} {rs : List Nat} {h : Hs} {lo : Lo} (P : Hp0 s0 [(a, topO a1 a2 a3)] kdO a3 a1 a2 rs h s) (O : HsOk n B h) (hB : B < 100) (h0 : lo[0]? = some (some (.ref a))) (h5 : lo.length = 5) :
    WE (eLock (eFld cs_standing "standing" (eVar 0)) (eLc 100000 (iVal (eFld cs_standing "standing" (eVar 0))) (glN 4) (tVal (eOp opNotN (eVar 4) (eC .non))) (eVar 4) [4]) lo) s (fun y s'' => y = .ref (s''.length - 1) ∧ s.length < s''.length ∧ s''[(s''.length - 1)]? = some (.lst ((heldR h.stand).map Vl.int)) ∧ Fr [] s s'') NoX := by
  have top := (P.fxd a _ (List.mem_singleton.mpr rfl)).1
  have hna := (P.fxd a _ (List.mem_singleton.mpr rfl)).2
  have hr := P.st
  have hne : a1 ≠ a := fun e => hna (by simp [e])
  have hl := O.std.1
  refine WE_eLock (j := a1) (by simp [h0, fw1 top]) hr ?_
  have hf : (s.set a1 (Ob.fdic h.stand))[a1]? = some (.fdic h.stand) := get_set_self hr
  have top' : (s.set a1 (Ob.fdic h.stand))[a]? = some (topO a1 a2 a3) := by rw [get_set_ne hne]; exact top
  have hrl := lt_of_get hr
  simp [h0, fw1 top', hf]
  refine lcV_p (kvs := h.stand) (s.set a1 (.fdic h.stand)) nonF (by simp) (by simp) hf (by omega) ?_ ?_
  · intro x hx acc
    refine ⟨_, rfl, ?_⟩
    simp [wipeL, h5]
    unfold nonF
    by_cases q : Sm.isNon x = true <;> simp [q]
  · rw [heldR_eq O.std.2]
    refine ⟨⟨h.stand, get_push hf⟩, ?_⟩
    have hlen : ((s.set a1 (.fdic h.stand) ++ [Ob.lst ((heldR h.stand).map Vl.int)]).set a1 (Ob.dic h.stand)).length = s.length + 1 := by simp
    rw [hlen]
    refine ⟨by simp, by simp, ?_, ?_⟩
    · rw [get_set_ne (by omega)]
      simp
    · refine ⟨by simp, fun i hi _ => ?_⟩
      by_cases e : i = a1
      · subst e
        rw [get_set_self (get_push hf), hr]
      · rw [get_set_ne (Ne.symm e), List.getElem?_append_left (by simpa using hi), get_set_ne (Ne.symm e)]
theorem flagsS {s0 s : Sto} {a a1 a2 a3 j n B : Nat} {rs : List Nat} {h : Hs} (P : Hp0 s0 [(a, topO a1 a2 a3)] kdO a3 a1 a2 rs h s) (O : HsOk n B h) (hB : B < 100) (H : HeldAt s j h.held) (G : GOk2 h.held n) :
    WE (m_Heap_reached_flags [.ref a, .ref j]) s (fun v s' => ∃ q fl, v = .ref q ∧ s'[q]? = some (.lst (fl.map Vl.bl)) ∧ fl.length = n ∧ (∀ x, on fl x ↔ Rch h.held (· ∈ h.starts) x) ∧ Fr [] s s') NoX := by
  have hn6 := G.n6
  have top := (P.fxd a _ (List.mem_singleton.mpr rfl)).1
  have hna := (P.fxd a _ (List.mem_singleton.mpr rfl)).2
  obtain ⟨hs, hj, hsl, hrows⟩ := H.ex
  have hsn : hs.length = n := hsl.trans G.len
  have hj2 : ∀ t : Sto, (s ++ t)[j]? = some (.lst (hs.map Vl.ref)) := fun t => get_app hj
  have hc : (0 : Int) ≤ n ∧ (n : Int) < 2 ^ 60 ∧ [Vl.bl false].length * (n : Int).toNat ≤ LIM := ⟨by omega, by omega, by simp; exact limB (by omega)⟩
  unfold m_Heap_reached_flags b_Heap_reached_flags
  simp [hj2, hsn, opMul_lst (get_last (s := s)) hc]
  obtain ⟨s1, hs1⟩ : ∃ s1, s1 = s ++ [Ob.lst [Vl.bl false], Ob.lst (List.replicate n (Vl.bl false))] := ⟨_, rfl⟩
  rw [← hs1]
  have fs1 : Fr [] s s1 := hs1 ▸ Fr.refl.app _
  have l1 : s1.length = s.length + 2 := by rw [hs1]; simp
  have g1 : s1[s.length + 1]? = some (.lst ((List.replicate n false).map Vl.bl)) := by
    rw [hs1, List.getElem?_append_right (by omega)]
    simp
  have P1 := P.fram fs1
  refine (standV P1 O hB rfl rfl).use ?_
  rintro y s2 ⟨rfl, l2, g2, f2⟩
  have P2 := P1.fram f2
  have top2 := (P2.fxd a _ (List.mem_singleton.mpr rfl)).1
  have kp2 := P2.kp
  unfold kdO at kp2
  obtain ⟨K, ek, mk⟩ := kdL_keys h.kept
  have ek2 : (kdL h.kept).map (fun kv => keyVl kv.1) = K.map Vl.int := by
    have : (kdL h.kept).map (fun kv => keyVl kv.1) = ((kdL h.kept).map (·.1)).map keyVl := by simp
    rw [this, ek, List.map_map]
    rfl
  have Klen : K.length ≤ B := by
    have e1 : K.length = (kdL h.kept).length := by
      have := congrArg List.length ek
      simp at this
      exact this.symm
    have := kdL_len (ks := h.kept)
    have := O.kpt.1
    omega
  have hhl : (heldR h.stand).length ≤ B := Nat.le_trans (List.length_filterMap_le ..) O.std.1
  simp [fw2 top2, oList_dic kp2]
  rw [ek2, opAdd_lst (get_push g2) get_last (limB (by simp; omega))]
  simp
  obtain ⟨W0, hW0⟩ : ∃ W0, W0 = heldR h.stand ++ K := ⟨_, rfl⟩
  have mW0 : ∀ x, x ∈ W0 ↔ x ∈ h.starts := by
    intro x
    rw [hW0]
    simp [Hs.starts, mk]
    exact Or.comm
  obtain ⟨s3, hs3⟩ : ∃ s3, s3 = s2 ++ [Ob.lst (List.map Vl.int K), Ob.lst (List.map Vl.int (heldR h.stand) ++ List.map Vl.int K)] := ⟨_, rfl⟩
  rw [← hs3]
  have f3 : Fr [] s s3 := fs1.trans (f2.trans (hs3 ▸ Fr.refl.app _))
  have g3 : s3[s2.length + 1]? = some (.lst (W0.map Vl.int)) := by
    rw [hs3, hW0, List.getElem?_append_right (by omega)]
    simp
  have q3 : s3[s.length + 1]? = some (.lst ((List.replicate n false).map Vl.bl)) := by
    rw [hs3]
    exact get_app (f2.at g1 (by simp))
  have stR : ∀ x, x ∈ h.starts → 0 ≤ x ∧ x < n := by
    intro x hx
    unfold Hs.starts at hx
    rcases List.mem_append.mp hx with z | z
    · exact O.kpt.2 x z
    · obtain ⟨kv, hkv, e⟩ := List.mem_filterMap.mp z
      rcases O.std.2 kv hkv with q | ⟨c, q1, q2⟩
      · rw [q] at e; simp [vInt] at e
      · rw [q2] at e; simp [vInt] at e; omega
  have hneW : s.length + 1 ≠ s2.length + 1 := by omega
  refine loopW_inv (fun m lo s' => ∃ (W : List Int) (fl : List Bool) (x4 : Option Vl), lo = [some (.ref a), some (.ref j), some (.ref (s.length + 1)), some (.ref (s2.length + 1)), x4] ∧ s'[s.length + 1]? = some (.lst (fl.map Vl.bl)) ∧ s'[s2.length + 1]? = some (.lst (W.map Vl.int)) ∧ fl.length = n ∧ Fr [] s s' ∧ (∀ x ∈ W, Rch h.held (· ∈ h.starts) x) ∧ (∀ x, on fl x → Rch h.held (· ∈ h.starts) x) ∧ (∀ x ∈ h.starts, x ∈ W ∨ on fl x) ∧ (∀ x, on fl x → ∀ y ∈ rowOf h.held x, y ∈ W ∨ on fl y) ∧ m = W.length + pot h.held fl ∧ m ≤ 1000) (W0.length + pot h.held (List.replicate n false)) ?_ ?_ ?_
  · have := pot_le (n := n) (fl := List.replicate n false) G.rl
    rw [G.len] at this
    have : W0.length ≤ B + B := by rw [hW0]; simp; omega
    omega
  · refine ⟨W0, List.replicate n false, none, rfl, q3, g3, by simp, f3, fun x hx => .base ((mW0 x).mp hx), ?_, fun x hx => .inl ((mW0 x).mpr hx), ?_, rfl, ?_⟩
    · rintro x ⟨_, hx⟩
      rw [List.getElem?_replicate] at hx
      split at hx <;> simp at hx
    · rintro x ⟨_, hx⟩
      rw [List.getElem?_replicate] at hx
      split at hx <;> simp at hx
    · have := pot_le (n := n) (fl := List.replicate n false) G.rl
      rw [G.len] at this
      have : W0.length ≤ B + B := by rw [hW0]; simp; omega
      omega
  · rintro m lo s4 ⟨W, fl, x4, rfl, gq, gw, hfl, f4, hW, hon, hst, hcl, hm, hm1⟩
    simp [opNe_nil (get_push gw) get_last]
    rcases List.eq_nil_or_concat W with rfl | ⟨W', x, rfl⟩
    · simp [get_push gq]
      refine ⟨fl, rfl, hfl, fun x => ⟨hon x, fun hx => ?_⟩, f4.push _⟩
      induction hx with
      | base b => exact (hst _ b).resolve_left (by simp)
      | step b c ih => exact (hcl _ ih _ c).resolve_left (by simp)
    · rw [List.concat_eq_append] at *
      have hxr := (hW x (by simp)).rng G.toGOk stR
      have gw' : (s4 ++ [Ob.lst []])[s2.length + 1]? = some (.lst (W'.map Vl.int ++ [.int x])) := by
        have := get_push (o' := Ob.lst []) gw
        simpa using this
      have lw := lt_of_get gw'
      have gq' : ((s4 ++ [Ob.lst []]).set (s2.length + 1) (.lst (W'.map Vl.int)))[s.length + 1]? = some (.lst (fl.map Vl.bl)) := by
        rw [get_set_ne (by omega)]; exact get_push gq
      have gw5 : ((s4 ++ [Ob.lst []]).set (s2.length + 1) (.lst (W'.map Vl.int)))[s2.length + 1]? = some (.lst (W'.map Vl.int)) := get_set_self gw'
      have f5 : Fr [] s ((s4 ++ [Ob.lst []]).set (s2.length + 1) (.lst (W'.map Vl.int))) := (f4.push _).set (Or.inr (by omega))
      have hxl : x.toNat < fl.length := by omega
      have hxe : ((x.toNat : Nat) : Int) = x := by omega
      obtain ⟨b, hb⟩ : ∃ b, fl[x.toNat]? = some b := ⟨_, List.getElem?_eq_getElem hxl⟩
      have hat : atI (fl.map Vl.bl) x = some (.bl b) := by
        have : atI (fl.map Vl.bl) ((x.toNat : Nat) : Int) = some (.bl b) := by rw [atN, List.getElem?_map, hb]; rfl
        rwa [hxe] at this
      simp [oPop_lst gw', kd_lst gw']
      generalize (s4 ++ [Ob.lst []]).set (s2.length + 1) (.lst (W'.map Vl.int)) = s5 at gq' gw5 f5
      have hpush : ∀ y, y ∈ W' ++ [x] → y ∈ W' ∨ y = x := fun y hy => by simpa using hy
      have hmm : m = W'.length + 1 + pot h.held fl := by rw [hm]; simp
      cases b with
      | true =>
        have hox : on fl x := ⟨hxr.1, hb⟩
        simp [opIx_lst gq', hat]
        refine ⟨W'.length + pot h.held fl, by omega, W', fl, gq', gw5, hfl, f5, fun y hy => hW y (by simp [hy]), fun y h1 h2 => hon y ⟨h1, h2⟩, ?_, ?_, rfl, by omega⟩
        · intro y hy
          rcases hst y hy with z | z
          · rcases hpush y z with w | rfl
            · exact .inl w
            · exact .inr hox
          · exact .inr z
        · intro z h1 h2 y hy
          rcases hcl z ⟨h1, h2⟩ y hy with w | w
          · rcases hpush y w with v | rfl
            · exact .inl v
            · exact .inr hox
          · exact .inr w
      | false =>
        have hrow : x.toNat < h.held.length := by rw [G.len]; omega
        have hpot := pot_set (rowOf_get hrow) hb
        have hix : ixN fl.length x = some x.toNat := by
          have := ixN_nat (n := x.toNat) (m := fl.length) hxl
          rwa [hxe] at this
        have eset : (fl.map Vl.bl).set x.toNat (.bl true) = (fl.set x.toNat true).map Vl.bl := by rw [List.map_set]
        have gq6 : (s5.set (s.length + 1) (Ob.lst ((fl.set x.toNat true).map Vl.bl)))[s.length + 1]? = some (.lst ((fl.set x.toNat true).map Vl.bl)) := get_set_self gq'
        have gw6 : (s5.set (s.length + 1) (Ob.lst ((fl.set x.toNat true).map Vl.bl)))[s2.length + 1]? = some (.lst (W'.map Vl.int)) := by rw [get_set_ne hneW]; exact gw5
        have f6 : Fr [] s (s5.set (s.length + 1) (Ob.lst ((fl.set x.toNat true).map Vl.bl))) := f5.set (Or.inr (by omega))
        obtain ⟨xs, r, a1', a2', a3', a4'⟩ := (H.fr f6).row G.toGOk hxr
        have b2 := rowOf_len G (x := x)
        have hb2 : (W'.map Vl.int).length + ((rowOf h.held x).map Vl.int).length ≤ LIM := limB (by simp; omega)
        simp [opIx_lst gq', hat, opSet_lst gq', hix]
        rw [eset]
        generalize s5.set (s.length + 1) (Ob.lst ((fl.set x.toNat true).map Vl.bl)) = s6 at gq6 gw6 f6 a1' a4'
        simp [kd_lst gw6, opIx_lst a1', a3', oExtend_lst gw6 a4' hb2]
        have hsw : ∀ {y : Int}, on (fl.set x.toNat true) y ↔ on fl y ∨ y = x := on_set hxr.1 hxl
        refine ⟨W'.length + (rowOf h.held x).length + pot h.held (fl.set x.toNat true), by omega, W' ++ rowOf h.held x, fl.set x.toNat true, ?_, ?_, by simp [hfl], f6.set (Or.inr (by omega)), ?_, ?_, ?_, ?_, by simp, by omega⟩
        · rw [get_set_ne (Ne.symm hneW)]; exact gq6
        · rw [get_set_self gw6]; simp
        · intro y hy
          rcases List.mem_append.mp hy with z | z
          · exact hW y (by simp [z])
          · exact .step (hW x (by simp)) z
        · intro y h1 h2
          rcases hsw.mp ⟨h1, h2⟩ with z | rfl
          · exact hon y z
          · exact hW y (by simp)
        · intro y hy
          rcases hst y hy with z | z
          · rcases hpush y z with w | rfl
            · exact .inl (List.mem_append_left _ w)
            · exact .inr (hsw.mpr (.inr rfl))
          · exact .inr (hsw.mpr (.inl z))
        · intro z h1 h2 y hy
          rcases hsw.mp ⟨h1, h2⟩ with hz | rfl
          · rcases hcl z hz y hy with w | w
            · rcases hpush y w with v | rfl
              · exact .inl (List.mem_append_left _ v)
              · exact .inr (hsw.mpr (.inr rfl))
            · exact .inr (hsw.mpr (.inl w))
          · exact .inl (List.mem_append_right _ hy)
end K30

/-! PN: reached_at -/
namespace K30
open PySem L2 Sm
theorem gok {n B : Nat} {h : Hs} (O : HsOk n B h) (hn : n ≤ 6) (hB : B < 100) : GOk2 h.held n := by
  refine ⟨⟨by simp [Hs.held, O.len], ?_⟩, hn, ?_⟩
  · intro row hrow y hy
    obtain ⟨r, hr, rfl⟩ := List.mem_map.mp hrow
    obtain ⟨kv, hkv, e⟩ := List.mem_filterMap.mp hy
    rcases (O.row r hr).2 kv hkv with q | ⟨c, q1, q2⟩
    · rw [q] at e; simp [vInt] at e
    · rw [q2] at e; simp [vInt] at e; omega
  · intro row hrow
    obtain ⟨r, hr, rfl⟩ := List.mem_map.mp hrow
    have h1 := (O.row r hr).1
    have h2 : (heldR r).length ≤ r.length := List.length_filterMap_le ..
    omega
def tF (i : Nat) (v : Vl) : Option Vl := match v with
  | .bl true => some (.int i)
  | _ => none
theorem tIdx : ∀ (fl : List Bool) (k : Nat), ∃ C : List Int, ((fl.map Vl.bl).zipIdx k).filterMap (fun p => tF p.2 p.1) = C.map Vl.int ∧ Inc C ∧ ∀ y, y ∈ C ↔ (k : Int) ≤ y ∧ fl[(y - k).toNat]? = some true
  | [], k => ⟨[], rfl, List.Pairwise.nil, fun y => by simp⟩
  | b :: fl, k => by
    obtain ⟨C, h1, h2, h3⟩ := tIdx fl (k + 1)
    have hsh : ∀ y : Int, (k : Int) + 1 ≤ y → (b :: fl)[(y - k).toNat]? = fl[(y - (k + 1 : Nat)).toNat]? := by
      intro y hy
      have : (y - k).toNat = (y - (k + 1 : Nat)).toNat + 1 := by omega
      rw [this]
      rfl
    cases b with
    | false =>
      refine ⟨C, ?_, h2, fun y => ?_⟩
      · rw [List.map_cons, List.zipIdx_cons, List.filterMap_cons]
        exact h1
      · rw [h3]
        constructor
        · rintro ⟨a, c⟩
          exact ⟨by omega, by rw [hsh y (by omega)]; exact c⟩
        · rintro ⟨a, c⟩
          have : (k : Int) + 1 ≤ y := by
            rcases Int.lt_or_le (k : Int) y with q | q
            · omega
            · have : y = k := by omega
              subst this
              simp at c
          exact ⟨by omega, by rw [← hsh y this]; exact c⟩
    | true =>
      refine ⟨(k : Int) :: C, ?_, List.pairwise_cons.mpr ⟨fun y hy => ?_, h2⟩, fun y => ?_⟩
      · rw [List.map_cons, List.zipIdx_cons, List.filterMap_cons]
        show Vl.int k :: _ = _
        rw [h1]
        rfl
      · have := (h3 y).mp hy
        omega
      · rw [List.mem_cons, h3]
        constructor
        · rintro (rfl | ⟨a, c⟩)
          · simp
          · exact ⟨by omega, by rw [hsh y (by omega)]; exact c⟩
        · rintro ⟨a, c⟩
          rcases Int.lt_or_le (k : Int) y with q | q
          · exact .inr ⟨by omega, by rw [← hsh y (by omega)]; exact c⟩
          · left; omega
theorem reachedAt {s0 : Sto} {its : List (List Ev)} {i : Nat} (S : StOk its) (hi : i ≤ its.length) :
    WE (m_reached_at [stV its, .int i]) s0 (fun v s' => ∃ C : List Int, v = .tup (C.map Vl.int) ∧ Inc C ∧ (∀ y, y ∈ C ↔ Rch (stAt its i).held (· ∈ (stAt its i).starts) y) ∧ Fr [] s0 s') NoX := by
  obtain ⟨n, hn6, _, O⟩ := S.at hi
  have hlen := S.len
  have G := gok O hn6 (by omega)
  unfold m_reached_at b_reached_at
  simp
  refine (heapAt S hi).use ?_
  rintro v s1 ⟨rfl, rs, P⟩
  generalize stAt its i = h at P O G
  have top := (P.fxd s0.length _ (List.mem_singleton.mpr rfl)).1
  simp [WE_eMeth, methW_ins (m := "reached_flags") (tab := tabA 1 tab_reached_flags) top rfl rfl, methW_ins (m := "held_lists") (tab := tabA 0 tab_held_lists) top rfl rfl]
  refine (heldLists P O (by omega) (by omega)).use ?_
  rintro v s2 ⟨rfl, H, f2⟩
  simp
  refine (flagsS (P.fram f2) O (by omega) H G).use ?_
  rintro v s3 ⟨q, fl, rfl, g3, hfl, hon, f3⟩
  simp [g3]
  obtain ⟨C, c1, c2, c3⟩ := tIdx fl 0
  refine lcE_p (xs := fl.map Vl.bl) s3 tF rfl rfl g3 (by simp; omega) ?_ ?_
  · intro k x hx acc
    rw [List.getElem?_map] at hx
    obtain ⟨b, _, rfl⟩ : ∃ b, fl[k]? = some b ∧ x = .bl b := by
      cases q : fl[k]? with
      | none => rw [q] at hx; cases hx
      | some e => rw [q] at hx; exact ⟨e, rfl, by simpa using hx.symm⟩
    refine ⟨_, rfl, ?_⟩
    cases b <;> simp [wipeL, tF]
  · rw [c1]
    simp
    refine ⟨C, rfl, c2, fun y => ?_, P.fr.trans (f2.trans (f3.push _))⟩
    rw [c3, ← hon]
    simp
end K30

/-! PO: comers -/
namespace K30
open PySem L2 Sm
theorem hasK_keys {y : Int} : ∀ {kvs : List (Key × Vl)} {K : List Int}, kvs.map (·.1) = K.map Sum.inl → hasK kvs (.inl y) = decide (y ∈ K)
  | [], [], _ => by simp [hasK]
  | [], _ :: _, h => by simp at h
  | _ :: _, [], h => by simp at h
  | p :: r, k :: K, h => by
    simp only [List.map_cons, List.cons.injEq] at h
    unfold hasK
    by_cases q : p.1 = .inl y
    · have : k = y := by rw [q] at h; have := h.1; cases this; rfl
      simp [q, this]
    · have : y ≠ k := fun e => q (by rw [h.1, e])
      rw [if_neg q, hasK_keys h.2]
      simp [this]
theorem put_new {y : Int} {v : Vl} : ∀ {kvs : List (Key × Vl)} {K : List Int}, kvs.map (·.1) = K.map Sum.inl → y ∉ K → (put kvs (.inl y) v).map (·.1) = (K ++ [y]).map Sum.inl
  | [], [], _, _ => rfl
  | [], _ :: _, h, _ => by simp at h
  | _ :: _, [], h, _ => by simp at h
  | p :: r, k :: K, h, hy => by
    simp only [List.map_cons, List.cons.injEq] at h
    simp only [List.mem_cons, not_or] at hy
    unfold put
    have q : p.1 ≠ .inl y := fun e => hy.1 (by rw [h.1] at e; cases e; rfl)
    rw [if_neg q]
    simp only [List.map_cons, List.cons_append, put_new h.2 hy.2, h.1]
theorem Rch.pre {held : List (List Int)} {y z c : Int} (hz : z ∈ rowOf held y) (h : Rch held (· = z) c) : Rch held (· = y) c := by
  induction h with
  | base a => subst a; exact .step (.base rfl) hz
  | step a b ih => exact .step ih b
theorem back {held : List (List Int)} {n : Nat} {K : List Int} {y c : Int} (G : GOk held n) (hy : 0 ≤ y ∧ y < n) (cl : ∀ x : Int, 0 ≤ x ∧ x < n → (∃ z ∈ rowOf held x, z ∈ K) → x ∈ K) (h : Rch held (· = y) c) : c ∈ K → y ∈ K := by
  induction h with
  | base a => subst a; exact id
  | step a b ih =>
    intro hc
    exact ih (cl _ (a.rng G (fun x (e : x = y) => e ▸ hy)) ⟨_, b, hc⟩)
def inK (kvs : List (Key × Vl)) (v : Vl) : Option Vl := match v with
  | .int z => if hasK kvs (.inl z) then some v else none
  | _ => none
theorem inK_eq {kvs : List (Key × Vl)} : ∀ row : List Int, (row.map Vl.int).filterMap (inK kvs) = (row.filter fun z => hasK kvs (.inl z)).map Vl.int
  | [] => rfl
  | z :: row => by
    have ih := inK_eq (kvs := kvs) row
    by_cases q : hasK kvs (.inl z) = true
    · have e : inK kvs (.int z) = some (.int z) := by simp [inK, q]
      simp only [List.map_cons, List.filterMap_cons, e, List.filter_cons, q, if_true, ih]
    · have e : inK kvs (.int z) = none := by simp [inK, q]
      simp only [List.map_cons, List.filterMap_cons, e, List.filter_cons, q, ih]
      rfl
theorem comersS {s0 : Sto} {its : List (List Ev)} {i n : Nat} {c : Int} (S : StOk its) (hi : i ≤ its.length) (O : HsOk n (4 * i) (stAt its i)) (hn6 : n ≤ 6) (hc : 0 ≤ c ∧ c < n) :
    WE (m_comers [stV its, .int i, .int c]) s0 (fun v s' => ∃ C : List Int, v = .tup (C.map Vl.int) ∧ Inc C ∧ (∀ y, y ∈ C ↔ (0 ≤ y ∧ y < n) ∧ Rch (stAt its i).held (· = y) c) ∧ Fr [] s0 s') NoX := by
  have hlen := S.len
  have G := gok O hn6 (by omega)
  unfold m_comers b_comers
  simp [WE_eMeth]
  refine (heapAt S hi).use ?_
  rintro v s1 ⟨rfl, rs, P⟩
  generalize stAt its i = h at P O G
  have top := (P.fxd s0.length _ (List.mem_singleton.mpr rfl)).1
  simp [methW_ins (m := "held_lists") (tab := tabA 0 tab_held_lists) top rfl rfl]
  refine (heldLists P O (by omega) (by omega)).use ?_
  rintro v s2 ⟨rfl, H, f2⟩
  simp
  refine WE_eDict1 (x := .int c) (y := .bl true) (key := .inl c) (fun s => by simp) (fun s => by simp) rfl ?_
  simp
  have F2 : Fr [] s0 s2 := P.fr.trans f2
  have f3 : Fr [] s0 (s2 ++ [Ob.dic [(Sum.inl c, Vl.bl true)]]) := F2.push _
  have f3' : Fr [] s2 (s2 ++ [Ob.dic [(Sum.inl c, Vl.bl true)]]) := Fr.refl.push _
  have g3 : (s2 ++ [Ob.dic [(Sum.inl c, Vl.bl true)]])[s2.length]? = some (.dic [(Sum.inl c, Vl.bl true)]) := get_last
  have hjl : s1.length < s2.length := by obtain ⟨hs, hj, _⟩ := H.ex; exact lt_of_get hj
  generalize s2 ++ [Ob.dic [(Sum.inl c, Vl.bl true)]] = s3 at f3 f3' g3
  refine loopW_inv (fun m lo s' => ∃ (b : Bool) (kvs : List (Key × Vl)) (K : List Int) (x6 x7 : Option Vl), lo = [some (stV its), some (.int i), some (.int c), some (.ref s1.length), some (.ref s2.length), some (.bl b), x6, x7, none] ∧ s'[s2.length]? = some (.dic kvs) ∧ kvs.map (·.1) = K.map Sum.inl ∧ K.Nodup ∧ c ∈ K ∧ (∀ x ∈ K, (0 ≤ x ∧ x < n) ∧ Rch h.held (· = x) c) ∧ (b = false → ∀ x : Int, 0 ≤ x ∧ x < n → (∃ z ∈ rowOf h.held x, z ∈ K) → x ∈ K) ∧ Fr [] s2 s' ∧ m = if b then 1 + (n - K.length) else 0) (1 + (n - 1)) (by omega) ?_ ?_
  · exact ⟨true, _, [c], none, none, rfl, g3, rfl, by simp, by simp, fun x hx => by simp at hx; subst hx; exact ⟨hc, .base rfl⟩, by simp, f3', by simp⟩
  · rintro m lo s4 ⟨b, kvs, K, x6, x7, rfl, g4, ek, nd, hcK, hK, hcl, f4, hm⟩
    have Klen : K.length ≤ n := nodup_rng nd fun x hx => (hK x hx).1
    simp
    cases b with
    | false =>
      have hkl : kvs.length < 1000 := by
        have := congrArg List.length ek
        simp at this
        omega
      have ek2 : kvs.map (fun kv => keyVl kv.1) = K.map Vl.int := by
        have : kvs.map (fun kv => keyVl kv.1) = (kvs.map (·.1)).map keyVl := by simp
        rw [this, ek, List.map_map]
        rfl
      have gk : (s4 ++ [Ob.lst (kvs.map fun kv => keyVl kv.1)])[s4.length]? = some (.lst (K.map Vl.int)) := by rw [← ek2]; exact get_last
      simp [oList_dic g4, oSortS_ints gk]
      refine ⟨srt K, rfl, srt_inc nd, fun y => ?_, F2.trans (f4.app _)⟩
      rw [mem_srt]
      constructor
      · exact hK y
      · rintro ⟨h1, h2⟩
        exact back G.toGOk h1 (hcl rfl) h2 hcK
    | true =>
      have hm' : m = 1 + (n - K.length) := by simpa using hm
      obtain ⟨hs, hj, hsl, hrows⟩ := (H.fr f4).ex
      have hsn : hs.length = n := hsl.trans G.len
      simp [hj]
      refine loopE_inv (xs := hs.map Vl.ref) (fun t lo s' => ∃ (b : Bool) (kvs : List (Key × Vl)) (K' : List Int) (x6 x7 : Option Vl), lo = [some (stV its), some (.int i), some (.int c), some (.ref s1.length), some (.ref s2.length), some (.bl b), x6, x7, none] ∧ s'[s2.length]? = some (.dic kvs) ∧ kvs.map (·.1) = K'.map Sum.inl ∧ K'.Nodup ∧ c ∈ K' ∧ (∀ x ∈ K', (0 ≤ x ∧ x < n) ∧ Rch h.held (· = x) c) ∧ Fr [] s2 s' ∧ ((b = false ∧ K' = K ∧ ∀ x : Int, 0 ≤ x ∧ x < t → (∃ z ∈ rowOf h.held x, z ∈ K) → x ∈ K) ∨ (b = true ∧ K.length < K'.length))) (by simp; omega) ?_ ?_ ?_ ?_
      · exact ⟨false, kvs, K, x6, x7, rfl, g4, ek, nd, hcK, hK, f4, .inl ⟨rfl, rfl, fun x hx => by omega⟩⟩
      · rintro t lo s5 ⟨b, kvs, K', x6, x7, rfl, g5, ek5, nd5, hc5, hK5, f5, hb5⟩
        obtain ⟨hs', hj', _, _⟩ := (H.fr f5).ex
        have e1 := f4.at (H.ex.choose_spec.1) (by simp)
        have e2 := f5.at (H.ex.choose_spec.1) (by simp)
        rw [hj] at e1
        rw [e2, ← e1]
      · rintro t v lo s5 hv ⟨b, kvs, K', x6, x7, rfl, g5, ek5, nd5, hc5, hK5, f5, hb5⟩
        have htn : t < n := by
          have := (List.getElem?_eq_some_iff.mp hv).1
          simp at this
          omega
        rw [List.getElem?_map] at hv
        obtain ⟨r, hr, rfl⟩ : ∃ r, hs[t]? = some r ∧ v = .ref r := by
          cases q : hs[t]? with
          | none => rw [q] at hv; cases hv
          | some e => rw [q] at hv; exact ⟨e, rfl, by simpa using hv.symm⟩
        have hjE : s5[s1.length]? = some (.lst (hs.map Vl.ref)) := by
          have e1 := f4.at (H.ex.choose_spec.1) (by simp)
          have e2 := f5.at (H.ex.choose_spec.1) (by simp)
          rw [hj] at e1
          rw [e2, ← e1]
        have Klen5 : K'.length ≤ n := nodup_rng nd5 fun x hx => (hK5 x hx).1
        have hkl : kvs.length < LIM := by
          have := congrArg List.length ek5
          simp at this
          exact limC (by omega)
        obtain ⟨xs, r', a1', a2', a3', a4'⟩ := (H.fr f5).row G.toGOk (x := (t : Nat)) ⟨by omega, by omega⟩
        have hrr : r' = r := by
          rw [hjE] at a1'
          cases a1'
          rw [atN, List.getElem?_map, hr] at a3'
          simp at a3'
          exact a3'.symm
        subst hrr
        have hh : ∀ y : Int, hasK kvs (.inl y) = decide (y ∈ K') := fun y => hasK_keys ek5
        simp [opNotIn_dicI g5, hh, a4']
        split
        · rename_i htK
          refine ⟨kvs, g5, K', ek5, nd5, hc5, hK5, f5, ?_⟩
          rcases hb5 with ⟨rfl, rfl, hcl5⟩ | hb
          · refine .inl ⟨rfl, rfl, fun x h1 h2 z hz hzK => ?_⟩
            rcases Int.lt_or_le x t with q | q
            · exact hcl5 x ⟨h1, q⟩ ⟨z, hz, hzK⟩
            · have : x = t := by omega
              subst this
              exact htK
          · exact .inr hb
        · rename_i htK
          have hrl := rowOf_len G (x := (t : Nat))
          refine lcL_p (xs := (rowOf h.held (t : Nat)).map Vl.int) s5 (inK kvs) rfl rfl a4' (by simp; omega) ?_ ?_
          · intro x hx acc
            obtain ⟨z, _, rfl⟩ := List.mem_map.mp hx
            refine ⟨_, rfl, ?_⟩
            simp [wipeL, opIn_dicI (get_push g5)]
            by_cases q : hasK kvs (.inl z) = true <;> simp [inK, q]
          · rw [inK_eq]
            have gl : (s5 ++ [Ob.lst (((rowOf h.held (t : Nat)).filter fun z => hasK kvs (.inl z)).map Vl.int)])[s5.length]? = some (.lst (((rowOf h.held (t : Nat)).filter fun z => hasK kvs (.inl z)).map Vl.int)) := get_last
            have g6 : (s5 ++ [Ob.lst (((rowOf h.held (t : Nat)).filter fun z => hasK kvs (.inl z)).map Vl.int)] ++ [Ob.lst []])[s2.length]? = some (.dic kvs) := get_push (get_push g5)
            have f6 : Fr [] s2 (s5 ++ [Ob.lst (((rowOf h.held (t : Nat)).filter fun z => hasK kvs (.inl z)).map Vl.int)] ++ [Ob.lst []]) := (f5.push _).push _
            have hne := opNe_nil (get_push (o' := Ob.lst []) gl) get_last
            have hem : ((rowOf h.held (t : Nat)).filter fun z => hasK kvs (.inl z)).isEmpty = false ↔ ∃ z ∈ rowOf h.held (t : Nat), z ∈ K' := by
              rw [List.isEmpty_eq_false_iff_exists_mem]
              constructor
              · rintro ⟨z, hz⟩
                obtain ⟨z1, z2⟩ := List.mem_filter.mp hz
                rw [hh] at z2
                exact ⟨z, z1, by simpa using z2⟩
              · rintro ⟨z, z1, z2⟩
                exact ⟨z, List.mem_filter.mpr ⟨z1, by rw [hh]; simpa using z2⟩⟩
            generalize ((rowOf h.held (t : Nat)).filter fun z => hasK kvs (.inl z)) = fl at gl g6 f6 hne hem
            rw [WE_eCB, WE_aNil, oLst_ok (by simp), WO_some, hne, WO_some]
            generalize s5 ++ [Ob.lst (fl.map Vl.int)] ++ [Ob.lst []] = s6 at g6 f6
            cases hfe : fl.isEmpty with
            | true =>
              simp
              refine ⟨kvs, g6, K', ek5, nd5, hc5, hK5, f6, ?_⟩
              rcases hb5 with ⟨rfl, rfl, hcl5⟩ | hb
              · refine .inl ⟨rfl, rfl, fun x h1 h2 z hz hzK => ?_⟩
                rcases Int.lt_or_le x t with q | q
                · exact hcl5 x ⟨h1, q⟩ ⟨z, hz, hzK⟩
                · have : x = t := by omega
                  subst this
                  have := hem.mpr ⟨z, hz, hzK⟩
                  rw [hfe] at this
                  cases this
              · exact .inr hb
            | false =>
              obtain ⟨z, z1, z2⟩ := hem.mp hfe
              simp [opSet_dicI g6 hkl]
              refine ⟨_, get_set_self g6, K' ++ [(t : Int)], put_new ek5 htK, ?_, List.mem_append_left _ hc5, ?_, f6.set (Or.inr (Nat.le_refl _)), ?_⟩
              · rw [List.nodup_append]
                refine ⟨nd5, by simp, fun a ha b hb => ?_⟩
                simp at hb
                intro e
                exact htK (by rw [← hb, ← e]; exact ha)
              · intro x hx
                rcases List.mem_append.mp hx with q | q
                · exact hK5 x q
                · simp at q
                  subst q
                  exact ⟨⟨by omega, by omega⟩, (hK5 z z2).2.pre z1⟩
              · rcases hb5 with ⟨_, rfl, _⟩ | ⟨_, hb⟩
                · simp
                · simp
                  omega
      · rintro lo s5 ⟨b, kvs, K', x6, x7, rfl, g5, ek5, nd5, hc5, hK5, f5, hb5⟩
        have Klen5 : K'.length ≤ n := nodup_rng nd5 fun x hx => (hK5 x hx).1
        rw [List.length_map, hsn] at hb5
        rcases hb5 with ⟨rfl, rfl, hcl5⟩ | ⟨rfl, hlt⟩
        · exact ⟨0, by omega, false, kvs, K', x6, x7, rfl, g5, ek5, nd5, hc5, hK5, fun _ => hcl5, f5, rfl⟩
        · exact ⟨1 + (n - K'.length), by omega, true, kvs, K', x6, x7, rfl, g5, ek5, nd5, hc5, hK5, by simp, f5, by simp⟩
end K30

/-! PQ: _law_moment_right -/
namespace K30
open PySem L2 Sm
theorem inF_ints {c : Int} : ∀ C : List Int, inF (.int c) (C.map Vl.int) = decide (c ∈ C)
  | [] => by simp [inF]
  | x :: C => by
    have := inF_ints (c := c) C
    have e : eqF (.int x) (.int c) = decide (c = x) := by
      simp [eqF]
      by_cases q : x = c
      · simp [q]
      · simp [q, Ne.symm q]
    simp [inF, e] at this ⊢
    rw [this]
theorem flat_ints (C : List Int) : (C.map Vl.int).all flat = true := by simp [flat]
theorem Rch.congr {held : List (List Int)} {S T : Int → Prop} (h : ∀ x, S x → T x) {c : Int} (r : Rch held S c) : Rch held T c := by
  induction r with
  | base a => exact .base (h _ a)
  | step a b ih => exact .step ih b
theorem repr_ints {C : List Int} {n : Nat} (h : ∀ x ∈ C, 0 ≤ x ∧ x < n) (hn : n ≤ 1000) (hl : C.length ≤ 1000) : ∃ x, ∀ s, oRepr [.tup (C.map Vl.int)] s = some (.str x, s) := by
  have : Pn 2 ((C.map Vl.int).length * (64 + 1)) (.tup (C.map Vl.int)) := Pn.tup fun v hv => by
    obtain ⟨i, hi, rfl⟩ := List.mem_map.mp hv
    have := h i hi
    exact Pn.int (by omega)
  exact this.repr (by omega) (by simp; omega)
theorem dueS {s : Sto} {j n : Nat} {held : List (List Int)} {c : Int} {st mo stt x5 : Option Vl} (H : HeldAt s j held) (G : GOk2 held n) (hc : 0 ≤ c ∧ c < n) {Q : Sto → Prop}
    (hd : ∀ s' D, Fr [] s s' → s'[s.length]? = some (.lst (D.map Vl.int)) → Inc D → (∀ y, y ∈ D ↔ (0 ≤ y ∧ y < n) ∧ Rch held (· = y) c) → Q s') :
    WL (lcX (glN 6) (tVal (eOp opIn (eVar 2) (eCall (arg 2 m__law_closed) (aCons (eVar 3) (aCons (eCB oLst (aCons (eVar 6) aNil)) aNil))))) (eVar 6) s.length [st, mo, some (.int c), some (.ref j), stt, x5, none] (rng 0 n) (s ++ [.lst []])) Q := by
  have hn6 := G.n6
  refine lcX_inv (fun p s' => Fr [] s s' ∧ ∃ D : List Int, s'[s.length]? = some (.lst (D.map Vl.int)) ∧ Inc D ∧ D.length ≤ p ∧ ∀ y : Int, y ∈ D ↔ (0 ≤ y ∧ y < p) ∧ Rch held (· = y) c) ?_ ?_ ?_
  · exact ⟨Fr.refl.push _, [], get_last, List.Pairwise.nil, Nat.le_refl _, fun y => by simp; omega⟩
  · rintro p v s1 hv ⟨f1, D, gD, incD, lenD, memD⟩
    obtain ⟨hp, rfl⟩ := rng_get hv
    refine ⟨_, rfl, ?_⟩
    unfold LcT
    simp
    have g1 : (s1 ++ [Ob.lst [Vl.int p]])[s1.length]? = some (.lst ([((p : Nat) : Int)].map Vl.int)) := get_last
    refine (closedS (H.fr (f1.push _)) G g1 (fun x hx => by simp at hx; omega) (by simp)).use ?_
    rintro v s2 ⟨q, C, rfl, gC, incC, memC, f2⟩
    have f2' : Fr [] s1 s2 := (Fr.refl.push _).trans f2
    have gD2 := f2'.at gD (by simp)
    have hmem : c ∈ C ↔ Rch held (· = (p : Int)) c := by
      rw [memC]
      exact ⟨fun h => h.congr fun x hx => by simpa using hx, fun h => h.congr fun x hx => by simpa using hx⟩
    simp [opIn_lst (v := Vl.int c) gC rfl (flat_ints C), inF_ints]
    by_cases hcC : c ∈ C
    · simp [hcC, gD2]
      have hDl : D.length < LIM := limC (by omega)
      refine ⟨hDl, (f1.trans f2').set (Or.inr (Nat.le_refl _)), D ++ [(p : Int)], by simp, ?_, by simp; omega, ?_⟩
      · rw [Inc, List.pairwise_append]
        refine ⟨incD, by simp, fun a ha b hb => ?_⟩
        have := (memD a).mp ha
        simp at hb
        omega
      · intro y
        rw [List.mem_append, memD]
        constructor
        · rintro (⟨h1, h2⟩ | h)
          · exact ⟨by omega, h2⟩
          · simp at h
            subst h
            exact ⟨by omega, hmem.mp hcC⟩
        · rintro ⟨h1, h2⟩
          rcases Int.lt_or_le y p with q | q
          · exact .inl ⟨by omega, h2⟩
          · right; simp; omega
    · simp [hcC]
      refine ⟨f1.trans f2', D, gD2, incD, by omega, ?_⟩
      intro y
      rw [memD]
      constructor
      · rintro ⟨h1, h2⟩
        exact ⟨by omega, h2⟩
      · rintro ⟨h1, h2⟩
        rcases Int.lt_or_le y p with q | q
        · exact ⟨by omega, h2⟩
        · have : y = p := by omega
          subst this
          exact absurd (hmem.mpr h2) hcC
  · rintro s1 ⟨f1, D, gD, incD, lenD, memD⟩
    rw [rng_len] at memD
    exact hd s1 D f1 gD incD memD
theorem momentS {s0 : Sto} {its : List (List Ev)} {i : Nat} (S : StOk its) (hi : i ≤ its.length) :
    WE (m__law_moment_right [stV its, .int i]) s0 (fun v s' => v = .bl true ∧ Fr [] s0 s') NoX := by
  obtain ⟨n, hn6, _, O⟩ := S.at hi
  have hlen := S.len
  have G := gok O hn6 (by omega)
  unfold m__law_moment_right b__law_moment_right
  simp
  refine (lawHeap S hi).use ?_
  rintro v s1 ⟨j, k, rfl, H, gk, f1⟩
  simp
  refine (cellsAt S hi).use ?_
  rintro v s2 ⟨rfl, f2⟩
  obtain ⟨hs, hj, hsl, _⟩ := H.ex
  have hsn : hs.length = n := hsl.trans G.len
  have hrn : (stAt its i).rows.length = n := O.len
  rw [hrn]
  obtain ⟨xr, hxr⟩ := (Pn.int (i := (n : Int)) (by omega)).repr (by omega) (by omega)
  have hj2 := f2.at hj (by simp)
  simp [hxr, hj2, hsn]
  have stR : ∀ x, x ∈ (stAt its i).starts → 0 ≤ x ∧ x < n := by
    intro x hx
    unfold Hs.starts at hx
    rcases List.mem_append.mp hx with z | z
    · exact O.kpt.2 x z
    · obtain ⟨kv, hkv, e⟩ := List.mem_filterMap.mp z
      rcases O.std.2 kv hkv with q | ⟨c, q1, q2⟩
      · rw [q] at e; simp [vInt] at e
      · rw [q2] at e; simp [vInt] at e; omega
  have stL : (stAt its i).starts.length < 1000 := by
    have h1 := O.kpt.1
    have h2 : (heldR (stAt its i).stand).length ≤ (stAt its i).stand.length := List.length_filterMap_le ..
    have h3 := O.std.1
    simp [Hs.starts]
    omega
  refine (reachedAt S hi).use ?_
  rintro v s3 ⟨C1, rfl, inc1, mem1, f3⟩
  have rng1 : ∀ x ∈ C1, 0 ≤ x ∧ x < n := fun x hx => ((mem1 x).mp hx).rng G.toGOk stR
  have len1 : C1.length ≤ n := nodup_rng inc1.nodup rng1
  obtain ⟨x1, hx1⟩ := repr_ints rng1 (by omega) (by omega)
  simp [hx1]
  have f23 := f2.trans f3
  refine (closedS (H.fr f23) G (f23.at gk (by simp)) stR stL).use ?_
  rintro v s4 ⟨q, C2, rfl, g4, inc2, mem2, f4⟩
  have e12 : C2 = C1 := inc_ext inc2 inc1 fun x => (mem2 x).trans (mem1 x).symm
  subst e12
  have f14 := f23.trans f4
  have hj4 := f14.at hj (by simp)
  have hn9 : n < 1000000 := by omega
  simp [oTuple_lst g4, hx1, hj4, hsn, hn9]
  refine loopX_inv (fun t lo s' => ∃ x2 x5, lo = [some (stV its), some (.int i), x2, some (.ref j), some (.ref k), x5, none] ∧ Fr [] s1 s') ?_ ?_ ?_
  · exact ⟨none, none, rfl, f14⟩
  · rintro t v lo s5 hv ⟨x2, x5, rfl, f5⟩
    obtain ⟨ht, rfl⟩ := rng_get hv
    have hj5 := f5.at hj (by simp)
    simp [hj5, hsn, hn9, wipeL]
    refine dueS (H.fr f5) G ⟨by omega, by omega⟩ ?_
    intro s6 D f6 g6 incD memD
    simp [oTuple_lst g6]
    refine (comersS S hi O hn6 ⟨by omega, by omega⟩).use ?_
    rintro v s7 ⟨C, rfl, incC, memC, f7⟩
    have eCD : C = D := inc_ext incC incD fun x => (memC x).trans (memD x).symm
    subst eCD
    have rngC : ∀ x ∈ C, 0 ≤ x ∧ x < n := fun x hx => ((memC x).mp hx).1
    have lenC : C.length ≤ n := nodup_rng incC.nodup rngC
    obtain ⟨x7, hx7⟩ := repr_ints rngC (by omega) (by omega)
    simp [hx7]
    exact f5.trans (f6.trans f7)
  · rintro lo s5 ⟨x2, x5, rfl, f5⟩
    simp
    exact f1.trans f5
end K30

/-! PR: the law's pure program answers True -/
namespace K30
open PySem L2 Sm
theorem oN_pn {n : Nat} {c : Option Nat} (h : oLt n c) (hn : n ≤ 100) : Pn 1 64 (oN c) := by
  cases c with
  | none => exact Pn.non
  | some c =>
    have h : c < n := h
    exact Pn.int (by omega)
theorem ev_pn {n m : Nat} : ∀ {es : List Ev}, okL n es m → m ≤ 100 → ∀ e ∈ es, Pn 2 1000 e.vl
  | [], _, _, e, he => by simp at he
  | e' :: r, h, hm, e, he => by
    have key : ∀ {k : Nat}, okL k r m → (∀ e ∈ r, Pn 2 1000 e.vl) := fun h => ev_pn h hm
    have tup : ∀ {xs : List Vl}, (∀ x ∈ xs, Pn 1 64 x) → xs.length ≤ 4 → Pn 2 1000 (.tup xs) := fun h l => (Pn.tup h).mono (by omega) (by omega)
    have hs : ∀ {x : Str}, (x.cps.toList.all fun c => decide (c < 16 ^ 8)) = true → x.length ≤ 64 → Pn 1 64 (.str x) := fun a b => Pn.str a b
    rcases List.mem_cons.mp he with rfl | he2
    · have hle := okL_le h
      cases e with
      | make j =>
        obtain ⟨rfl, h2⟩ := h
        have := okL_le h2
        refine tup (fun x hx => ?_) (by simp)
        simp only [List.mem_cons, List.not_mem_nil, or_false] at hx
        rcases hx with rfl | rfl
        · exact hs (by decide) (by decide)
        · exact Pn.int (by omega)
      | stand x c =>
        obtain ⟨⟨hx', hc⟩, h2⟩ := h
        refine tup (fun y hy => ?_) (by simp)
        simp only [List.mem_cons, List.not_mem_nil, or_false] at hy
        rcases hy with rfl | rfl | rfl
        · exact hs (by decide) (by decide)
        · rcases hx' with rfl | rfl
          · exact hs (by decide) (by decide)
          · exact hs (by decide) (by decide)
        · exact oN_pn hc (by omega)
      | hold i f c =>
        obtain ⟨⟨hi, hf, hc⟩, h2⟩ := h
        refine tup (fun y hy => ?_) (by simp)
        simp only [List.mem_cons, List.not_mem_nil, or_false] at hy
        rcases hy with rfl | rfl | rfl | rfl
        · exact hs (by decide) (by decide)
        · exact Pn.int (by omega)
        · rcases hf with rfl | rfl
          · exact hs (by decide) (by decide)
          · exact hs (by decide) (by decide)
        · exact oN_pn hc (by omega)
      | keep c =>
        obtain ⟨hc, h2⟩ := h
        have hc : c < n := hc
        refine tup (fun y hy => ?_) (by simp)
        simp only [List.mem_cons, List.not_mem_nil, or_false] at hy
        rcases hy with rfl | rfl
        · exact hs (by decide) (by decide)
        · exact Pn.int (by omega)
      | ask c =>
        obtain ⟨hc, h2⟩ := h
        have hc : c < n := hc
        refine tup (fun y hy => ?_) (by simp)
        simp only [List.mem_cons, List.not_mem_nil, or_false] at hy
        rcases hy with rfl | rfl
        · exact hs (by decide) (by decide)
        · exact Pn.int (by omega)
    · cases e' with
      | make j => exact key h.2 e he2
      | stand x c => exact key h.2 e he2
      | hold i f c => exact key h.2 e he2
      | keep c => exact key h.2 e he2
      | ask c => exact key h.2 e he2
theorem story_repr {its : List (List Ev)} (S : StOk its) : ∃ x, ∀ s, oRepr [stV its] s = some (.str x, s) := by
  obtain ⟨m, o, hm⟩ := S.ok
  have he := ev_pn o (by omega)
  have h1 : ∀ it ∈ its, Pn 3 5000 (itV it) := by
    intro it hit
    have hl := S.sm it hit
    refine (Pn.tup (n := 2) (w := 1000) fun v hv => ?_).mono (by omega) (by simp; omega)
    obtain ⟨e, hev, rfl⟩ := List.mem_map.mp hv
    exact he e (List.mem_flatten.mpr ⟨it, hit, hev⟩)
  have hl := S.len
  have h2 : Pn 4 ((its.map itV).length * (5000 + 1)) (stV its) := Pn.tup fun v hv => by
    obtain ⟨it, hit, rfl⟩ := List.mem_map.mp hv
    exact h1 it hit
  exact h2.repr (by omega) (by simp; omega)
theorem allTrue {s : Sto} {its : List (List Ev)} {x0 x1 x2 x4 : Option Vl} {Q : Sto → Prop} (S : StOk its)
    (hd : ∀ s', Fr [] s s' → s'[s.length]? = some (.lst ((List.replicate (its.length + 1) true).map Vl.bl)) → Q s') :
    WL (lcX (glN 5) tTrue (eCall (arg 2 m__law_moment_right) (aCons (eVar 3) (aCons (eVar 5) aNil))) s.length [x0, x1, x2, some (stV its), x4, none] (rng 0 (its.length + 1)) (s ++ [.lst []])) Q := by
  have hl := S.len
  refine lcX_inv (fun p s' => Fr [] s s' ∧ s'[s.length]? = some (.lst ((List.replicate p true).map Vl.bl))) ?_ ?_ ?_
  · exact ⟨Fr.refl.push _, get_last⟩
  · rintro p v s1 hv ⟨f1, g1⟩
    obtain ⟨hp, rfl⟩ := rng_get hv
    refine ⟨_, rfl, ?_⟩
    unfold LcT tTrue
    simp
    refine (momentS (i := p) S (by omega)).use ?_
    rintro v s2 ⟨rfl, f2⟩
    have g2 := f2.at g1 (by simp)
    simp only [g2]
    refine ⟨limC (by simp; omega), (f1.trans f2).set (Or.inr (Nat.le_refl _)), ?_⟩
    rw [get_set_self g2, List.replicate_succ']
    simp
  · rintro s1 ⟨f1, g1⟩
    rw [rng_len] at g1
    exact hd s1 f1 g1
theorem pure_law : ∀ ns : List Int, ns.length ≤ 63 → ∃ st, m_law [.scr ns] [] = .ok (.bl true) st := by
  intro ns hns
  have key : WE (m_law [.scr ns]) [] (fun v _ => v = .bl true) NoX := by
    unfold m_law b_law
    simp
    refine (deck hns).use ?_
    rintro v s1 ⟨d, l, rfl, D, _⟩
    simp
    rw [show (6 : Int) = ((6 : Nat) : Int) from rfl, rngW_nat (by omega)]
    refine loopX_inv (fun t lo s' => ∃ x2 x3 x4, lo = [some (.scr ns), some (.ref d), x2, x3, x4, none] ∧ Dk s' d l (1000 * t)) ?_ ?_ ?_
    · exact ⟨none, none, none, rfl, D⟩
    · rintro t v lo s2 hv ⟨x2, x3, x4, rfl, D2⟩
      obtain ⟨ht, rfl⟩ := rng_get hv
      simp
      refine (draw D2 (by omega) (by omega) (by omega)).use ?_
      rintro v s3 ⟨r, rfl, hr, D3, f3⟩
      simp
      refine (draw D3 (by omega) (by omega) (by omega)).use ?_
      rintro v s4 ⟨r2, rfl, hr2, D4, f4⟩
      simp
      rw [show (1 : Int) + r = ((1 + r : Nat) : Int) by omega]
      refine (story D4 (by omega) (by omega) (by omega) (by omega)).use ?_
      rintro v s5 ⟨its, m, rfl, ok, hm, hlen, hsm, D5, f5⟩
      have S : StOk its := ⟨⟨m, ok, hm⟩, hsm, by omega⟩
      obtain ⟨x, hx⟩ := story_repr S
      have hl9 : its.length + 1 < 1000000 := by omega
      simp [hx]
      have olen : ∀ s, oLen [stV its] s = some (.int its.length, s) := fun s => by simp [stV]
      simp [olen]
      rw [show (its.length : Int) + 1 = ((its.length + 1 : Nat) : Int) by omega, rngW_nat hl9]
      refine allTrue S ?_
      intro s6 f6 g6
      simp [oAll_bls g6, hx]
      exact (D5.fr f6 (by simp) (by simp)).mono (by omega)
    · rintro lo s2 ⟨x2, x3, x4, rfl, D2⟩
      simp
  obtain ⟨a, s', e, rfl⟩ := key.get
  exact ⟨s', e⟩
end K30

open PySem PySem.W PyProof.Rows
set_option maxRecDepth 100000 in
set_option maxHeartbeats 0 in
theorem PySem.Challenge.cw_maybegone_k30_heaps_walked_holds : PySem.Challenge.rw_maybegone_k30_heaps_walked.Holds := by
  w_on; o_law; k_head; (case hw => w_witness2)
  k_fill
  refine Sm.walk_G (l := PySem.Challenge.rw_maybegone_k30_heaps_walked) (n := 63) (k := 6) (x := "_law_script") (m := K30.m_law) rfl (by decide) rfl ⟨rfl, by decide, by decide⟩ (fun w h Y => PySem.W.kIn_of Y) ?F K30.pure_law
  case F =>
    intro w mg fa h KX G hmg
    refine' K30.all_mk KX G hmg ?aC_Heap ?a_heap_at ?a_cells_at ?a_reached_at ?a_comers ?a__law_deck ?a__law_draw ?a__law_one ?a__law_event ?a__law_story ?a__law_heap ?a__law_closed ?a__law_moment_right ?a_law ?in_Heap ?ma_Heap_apply ?ma_Heap_held_lists ?ma_Heap_reached_flags ?l_HeapU_initU ?c_HeapU_initU ?k_HeapU_initU ?l_Heap_apply ?c_Heap_apply ?k_Heap_apply ?l_Heap_held_lists ?c_Heap_held_lists ?k_Heap_held_lists ?l_Heap_reached_flags ?c_Heap_reached_flags ?k_Heap_reached_flags ?l_heap_at ?c_heap_at ?k_heap_at ?l_cells_at ?c_cells_at ?k_cells_at ?l_reached_at ?c_reached_at ?k_reached_at ?l_comers ?c_comers ?k_comers ?l__law_deck ?c__law_deck ?k__law_deck ?l__law_draw ?c__law_draw ?k__law_draw ?l__law_one ?c__law_one ?k__law_one ?l__law_event ?c__law_event ?k__law_event ?l__law_story ?c__law_story ?k__law_story ?l__law_heap ?c__law_heap ?k__law_heap ?l__law_closed ?c__law_closed ?k__law_closed ?l__law_moment_right ?c__law_moment_right ?k__law_moment_right ?l_law ?c_law ?k_law ?pg_Heap ?hd_Heap ?po_Heap ?sa_Heap ?mm_Heap ?kc_Heap ?ii_Heap ?na_Heap_kept_cells ?na_Heap_standing ?na_Heap_strong ?mi_Heap_apply ?mi_Heap_held_lists ?mi_Heap_reached_flags ?z_abs ?z_all ?z_enumerate ?z_int ?z_len ?z_list ?z_max ?z_range ?z_repr ?z_set ?z_sorted ?z_tuple
    (case aC_Heap => k_is)
    (case a_heap_at => k_is)
    (case a_cells_at => k_is)
    (case a_reached_at => k_is)
    (case a_comers => k_is)
    (case a__law_deck => k_is)
    (case a__law_draw => k_is)
    (case a__law_one => k_is)
    (case a__law_event => k_is)
    (case a__law_story => k_is)
    (case a__law_heap => k_is)
    (case a__law_closed => k_is)
    (case a__law_moment_right => k_is)
    (case a_law => k_is)
    (case in_Heap => k_is)
    (case ma_Heap_apply => k_is)
    (case ma_Heap_held_lists => k_is)
    (case ma_Heap_reached_flags => k_is)
    (case l_HeapU_initU => k_is)
    (case c_HeapU_initU => k_is)
    (case k_HeapU_initU => k_is)
    (case l_Heap_apply => k_is)
    (case c_Heap_apply => k_is)
    (case k_Heap_apply => k_is)
    (case l_Heap_held_lists => k_is)
    (case c_Heap_held_lists => k_is)
    (case k_Heap_held_lists => k_is)
    (case l_Heap_reached_flags => k_is)
    (case c_Heap_reached_flags => k_is)
    (case k_Heap_reached_flags => k_is)
    (case l_heap_at => k_is)
    (case c_heap_at => k_is)
    (case k_heap_at => k_is)
    (case l_cells_at => k_is)
    (case c_cells_at => k_is)
    (case k_cells_at => k_is)
    (case l_reached_at => k_is)
    (case c_reached_at => k_is)
    (case k_reached_at => k_is)
    (case l_comers => k_is)
    (case c_comers => k_is)
    (case k_comers => k_is)
    (case l__law_deck => k_is)
    (case c__law_deck => k_is)
    (case k__law_deck => k_is)
    (case l__law_draw => k_is)
    (case c__law_draw => k_is)
    (case k__law_draw => k_is)
    (case l__law_one => k_is)
    (case c__law_one => k_is)
    (case k__law_one => k_is)
    (case l__law_event => k_is)
    (case c__law_event => k_is)
    (case k__law_event => k_is)
    (case l__law_story => k_is)
    (case c__law_story => k_is)
    (case k__law_story => k_is)
    (case l__law_heap => k_is)
    (case c__law_heap => k_is)
    (case k__law_heap => k_is)
    (case l__law_closed => k_is)
    (case c__law_closed => k_is)
    (case k__law_closed => k_is)
    (case l__law_moment_right => k_is)
    (case c__law_moment_right => k_is)
    (case k__law_moment_right => k_is)
    (case l_law => k_is)
    (case c_law => k_is)
    (case k_law => k_is)
    (case pg_Heap => k_is)
    (case hd_Heap => k_is)
    (case po_Heap => k_is)
    (case sa_Heap => k_is)
    (case mm_Heap => k_is)
    (case kc_Heap => k_is)
    (case ii_Heap => k_is)
    (case na_Heap_kept_cells => k_is)
    (case na_Heap_standing => k_is)
    (case na_Heap_strong => k_is)
    (case mi_Heap_apply => k_is)
    (case mi_Heap_held_lists => k_is)
    (case mi_Heap_reached_flags => k_is)
    (case z_abs => k_is)
    (case z_all => k_is)
    (case z_enumerate => k_is)
    (case z_int => k_is)
    (case z_len => k_is)
    (case z_list => k_is)
    (case z_max => k_is)
    (case z_range => k_is)
    (case z_repr => k_is)
    (case z_set => k_is)
    (case z_sorted => k_is)
    (case z_tuple => k_is)
