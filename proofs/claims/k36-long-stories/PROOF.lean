import PyProof.Rows.All
import Wide.All
import OpenK.AllK
import Wide.FinOn
import HandS.ForMost
import HandS.ForExc
import HandS.CallSlots
import HandS.Strs
import HandS.TupAny
import HandS.Deep
import HandS.Conv
import HandS.SortInts
import PyProof.ReprRoads
import HandS.Style
import HandS.ExcOwn
import HandS.SetFor
import HandS.New0
import HandS.Star
import HandS.Text
import HandS.More
import HandS.IsInst
import HandS.SetKeys
import KE.GoesMore
import HandS.Defaults
import HandS.NoneIn
import HandS.FStr
import HandS.Flow
import HandS.RaiseMore
import PySem.Challenge.RW_maybegone_k36_long_stories
import PyProof.ReprLen
set_option Elab.async false
set_option linter.all false
set_option maxRecDepth 100000
set_option maxHeartbeats 4000000
/-! S0: a pure world beside the abstract heap: values, objects, stores, results; how they stand for each other -/
namespace Sm
open PySem L2

/-- pure values: a tuple is its items, a mutable object is its number -/
inductive Vl where
  | non | bl (b : Bool) | int (i : Int) | str (x : Str) | tup (xs : List Vl) | ref (i : Nat) | scr (ns : List Int) | ty (n : String) | fn (i : Nat)
/-- mutable objects -/
inductive Ob where
  | lst (xs : List Vl)
  | dic (kvs : List (Key × Vl))
  | dit (kvs : List (List Key × Vl))
  | fdic (kvs : List (Key × Vl))
  | ins (c : Nat) (fs : List (Str × Vl))
  | set (xs : List Int)
abbrev Sto := List Ob
/-- an exception: its class, its fields (none: it has no dict) -/
structure Ex where
  c : Nat
  fs : Option (List (Str × Vl))
inductive Res (α : Type) where
  | ok (a : α) (s : Sto) | exc (e : Ex) (s : Sto) | fail
abbrev M (α : Type) := Sto → Res α
abbrev Lo := List (Option Vl)
def bnd {α β : Type} (m : M α) (f : α → M β) : M β := fun s => match m s with
  | .ok a s' => f a s'
  | .exc e s' => .exc e s'
  | .fail => .fail
def ret {α : Type} (a : α) : M α := fun s => .ok a s
def failM {α : Type} : M α := fun _ => .fail
def lift {α : Type} (f : Sto → Option (α × Sto)) : M α := fun s => match f s with
  | some (a, s') => .ok a s'
  | none => .fail

/-- the tables: the written part, the classes, the defs held as values -/
structure Tb where
  K : PySem.W.Frag
  w : World
  cl : List Addr
  fns : List Addr

mutual
inductive RV (T : Tb) (ρ : List Addr) (H : Hp) : Vl → V → Prop
  | non : RV T ρ H .non .non
  | bl (b : Bool) : RV T ρ H (.bl b) (.bl b)
  | int (i : Int) : RV T ρ H (.int i) (.int i)
  | str (x : Str) : RV T ρ H (.str x) (.str x)
  | tup {a : Addr} {vs : List V} {xs : List Vl} : SqT T.K H a vs → RVs T ρ H xs vs → RV T ρ H (.tup xs) (.ref a)
  | ref {i : Nat} {a : Addr} : ρ[i]? = some a → RV T ρ H (.ref i) (.ref a)
  | scr {ns : List Int} {a : Addr} {o : Obj} : H a = some (.frz o (.lst (ns.map V.int))) → RV T ρ H (.scr ns) (.ref a)
  | scrK {ns : List Int} {a : Addr} : (∀ H' : Hp, SqL T.K H' a (ns.map V.int)) → RV T ρ H (.scr ns) (.ref a)
  | ty (n : String) : RV T ρ H (.ty n) (.ty n)
  | fn {i : Nat} {a : Addr} : T.fns[i]? = some a → RV T ρ H (.fn i) (.ref a)
inductive RVs (T : Tb) (ρ : List Addr) (H : Hp) : List Vl → List V → Prop
  | nil : RVs T ρ H [] []
  | cons {x : Vl} {v : V} {xs : List Vl} {vs : List V} : RV T ρ H x v → RVs T ρ H xs vs → RVs T ρ H (x :: xs) (v :: vs)
end

/-- more is known, nothing that cannot change has changed -/
structure Ext0 (T : Tb) (ρ : List Addr) (H : Hp) (ρ' : List Addr) (H' : Hp) : Prop where
  pre : ∀ (i : Nat) (a : Addr), ρ[i]? = some a → ρ'[i]? = some a
  tup : ∀ a vs, SqT T.K H a vs → SqT T.K H' a vs
  frz : ∀ a o u, H a = some (.frz o (.lst u)) → H' a = some (.frz o (.lst u))
structure Ext (T : Tb) (ρ : List Addr) (H : Hp) (ρ' : List Addr) (H' : Hp) : Prop extends Ext0 T ρ H ρ' H' where
  frd : ∀ a o u, H a = some (.frz o (.dK u)) → H' a = some (.frz o (.dK u))
theorem Ext.refl {T : Tb} {ρ : List Addr} {H : Hp} : Ext T ρ H ρ H := ⟨⟨fun _ _ h => h, fun _ _ h => h, fun _ _ _ h => h⟩, fun _ _ _ h => h⟩
theorem Ext.trans {T : Tb} {ρ ρ1 ρ2 : List Addr} {H H1 H2 : Hp} (a : Ext T ρ H ρ1 H1) (b : Ext T ρ1 H1 ρ2 H2) : Ext T ρ H ρ2 H2 :=
  ⟨⟨fun i x h => b.pre i x (a.pre i x h), fun x vs h => b.tup x vs (a.tup x vs h), fun x o u h => b.frz x o u (a.frz x o u h)⟩, fun x o u h => b.frd x o u (a.frd x o u h)⟩

section
variable {T : Tb} {ρ ρ' : List Addr} {H H' : Hp}
mutual
theorem RV.mono0 (e : Ext0 T ρ H ρ' H') : ∀ {x : Vl} {v : V}, RV T ρ H x v → RV T ρ' H' x v
  | _, _, .non => .non
  | _, _, .bl b => .bl b
  | _, _, .int i => .int i
  | _, _, .str x => .str x
  | _, _, .tup h hs => .tup (e.tup _ _ h) (RVs.mono0 e hs)
  | _, _, .ref h => .ref (e.pre _ _ h)
  | _, _, .scr h => .scr (e.frz _ _ _ h)
  | _, _, .scrK h => .scrK h
  | _, _, .ty n => .ty n
  | _, _, .fn h => .fn h
theorem RVs.mono0 (e : Ext0 T ρ H ρ' H') : ∀ {xs : List Vl} {vs : List V}, RVs T ρ H xs vs → RVs T ρ' H' xs vs
  | _, _, .nil => .nil
  | _, _, .cons h hs => .cons (RV.mono0 e h) (RVs.mono0 e hs)
end
theorem RV.mono {x : Vl} {v : V} (h : RV T ρ H x v) (e : Ext T ρ H ρ' H') : RV T ρ' H' x v := h.mono0 e.toExt0
theorem RVs.mono {xs : List Vl} {vs : List V} (h : RVs T ρ H xs vs) (e : Ext T ρ H ρ' H') : RVs T ρ' H' xs vs := h.mono0 e.toExt0
theorem RVs.length : ∀ {xs : List Vl} {vs : List V}, RVs T ρ H xs vs → xs.length = vs.length
  | _, _, .nil => rfl
  | _, _, .cons _ hs => by
    rw [List.length_cons, List.length_cons, RVs.length hs]
theorem RVs.append : ∀ {xs ys : List Vl} {vs us : List V}, RVs T ρ H xs vs → RVs T ρ H ys us → RVs T ρ H (xs ++ ys) (vs ++ us)
  | _, _, _, _, .nil, h => h
  | _, _, _, _, .cons a b, h => .cons a (RVs.append b h)
theorem RVs.get : ∀ {xs : List Vl} {vs : List V} {i : Nat} {x : Vl}, RVs T ρ H xs vs → xs[i]? = some x → ∃ v, vs[i]? = some v ∧ RV T ρ H x v
  | _, _, _, _, .nil, e => by simp at e
  | _, _, 0, _, .cons a _, e => by simp at e; subst e; exact ⟨_, rfl, a⟩
  | _, _, i + 1, x, .cons _ b, e => by
    obtain ⟨v, h1, h2⟩ := RVs.get (i := i) (x := x) b (by simpa using e)
    exact ⟨v, by simpa using h1, h2⟩
theorem RVs.get' : ∀ {xs : List Vl} {vs : List V} {i : Nat} {v : V}, RVs T ρ H xs vs → vs[i]? = some v → ∃ x, xs[i]? = some x ∧ RV T ρ H x v
  | _, _, _, _, .nil, e => by simp at e
  | _, _, 0, _, .cons a _, e => by simp at e; subst e; exact ⟨_, rfl, a⟩
  | _, _, i + 1, v, .cons _ b, e => by
    obtain ⟨x, h1, h2⟩ := RVs.get' (i := i) (v := v) b (by simpa using e)
    exact ⟨x, by simpa using h1, h2⟩
theorem RVs.set {x : Vl} {v : V} (r : RV T ρ H x v) : ∀ {xs : List Vl} {vs : List V} (i : Nat), RVs T ρ H xs vs → RVs T ρ H (xs.set i x) (vs.set i v)
  | _, _, _, .nil => .nil
  | _, _, 0, .cons _ t => .cons r t
  | _, _, i + 1, .cons q t => .cons q (RVs.set r i t)
theorem RVs.take : ∀ {xs : List Vl} {vs : List V} (n : Nat), RVs T ρ H xs vs → RVs T ρ H (xs.take n) (vs.take n)
  | _, _, 0, _ => .nil
  | _, _, _ + 1, .nil => .nil
  | _, _, n + 1, .cons r t => .cons r (RVs.take n t)
theorem RVs.drop : ∀ {xs : List Vl} {vs : List V} (n : Nat), RVs T ρ H xs vs → RVs T ρ H (xs.drop n) (vs.drop n)
  | _, _, 0, r => r
  | _, _, _ + 1, .nil => .nil
  | _, _, n + 1, .cons _ t => RVs.drop n t
end

/-- an object of the store and what stands at its address -/
def RO (T : Tb) (ρ : List Addr) (H : Hp) : Ob → Addr → Prop
  | .lst xs, a => ∃ vs, H a = some (.lst vs) ∧ RVs T ρ H xs vs
  | .dic kvs, a => ∃ vs : List (Key × V), H a = some (.dK vs) ∧ vs.map (·.1) = kvs.map (·.1) ∧ RVs T ρ H (kvs.map (·.2)) (vs.map (·.2))
  | .dit kvs, a => ∃ vs : List (List Key × V), H a = some (.dT vs) ∧ vs.map (·.1) = kvs.map (·.1) ∧ RVs T ρ H (kvs.map (·.2)) (vs.map (·.2))
  | .fdic kvs, a => ∃ (o : Obj) (vs : List (Key × V)), H a = some (.frz o (.dK vs)) ∧ vs.map (·.1) = kvs.map (·.1) ∧ RVs T ρ H (kvs.map (·.2)) (vs.map (·.2))
  | .set xs, a => xs.Nodup ∧ ∃ S : Int → Bool, (∀ k, S k = true ↔ k ∈ xs) ∧ H a = some (SetO T.w a S xs.length)
  | .ins c fs, a => ∃ (C dx : Addr) (vs : List (Str × V)), T.cl[c]? = some C ∧ H a = some (.ins C dx vs) ∧ vs.map (·.1) = fs.map (·.1) ∧ RVs T ρ H (fs.map (·.2)) (vs.map (·.2))
/-- what never stands at a store's address -/
def Fixd : HO → Prop
  | .tup _ => True
  | .frz _ _ => True
  | _ => False
/-- what a store's address never holds -/
def FixT : HO → Prop
  | .tup _ => True
  | .frz _ (.lst _) => True
  | .frz _ (.tup _) => True
  | _ => False
theorem RO.some {T : Tb} {ρ : List Addr} {H : Hp} {o : Ob} {a : Addr} (h : RO T ρ H o a) : ∃ u, H a = some u ∧ ¬ FixT u := by
  cases o with
  | lst xs => obtain ⟨vs, h, _⟩ := h; exact ⟨_, h, fun z => z⟩
  | dic xs => obtain ⟨vs, h, _⟩ := h; exact ⟨_, h, fun z => z⟩
  | dit xs => obtain ⟨vs, h, _⟩ := h; exact ⟨_, h, fun z => z⟩
  | fdic xs => obtain ⟨o, vs, h, _⟩ := h; exact ⟨_, h, fun z => z⟩
  | set xs => obtain ⟨_, S, _, h⟩ := h; exact ⟨_, h, fun z => z⟩
  | ins c xs => obtain ⟨C, dx, vs, _, h, _⟩ := h; exact ⟨_, h, fun z => z⟩
theorem RO.mono {T : Tb} {ρ ρ' : List Addr} {H H' : Hp} {o : Ob} {a : Addr} (h : RO T ρ H o a) (e : Ext0 T ρ H ρ' H') (k : H' a = H a) : RO T ρ' H' o a := by
  cases o with
  | lst xs => obtain ⟨vs, h, r⟩ := h; exact ⟨vs, k.trans h, r.mono0 e⟩
  | dic xs => obtain ⟨vs, h, n, r⟩ := h; exact ⟨vs, k.trans h, n, r.mono0 e⟩
  | dit xs => obtain ⟨vs, h, n, r⟩ := h; exact ⟨vs, k.trans h, n, r.mono0 e⟩
  | fdic xs => obtain ⟨o, vs, h, n, r⟩ := h; exact ⟨o, vs, k.trans h, n, r.mono0 e⟩
  | set xs => obtain ⟨n, S, q, h⟩ := h; exact ⟨n, S, q, k.trans h⟩
  | ins c xs => obtain ⟨C, dx, vs, hc, h, n, r⟩ := h; exact ⟨C, dx, vs, hc, k.trans h, n, r.mono0 e⟩

structure Rel (T : Tb) (ρ : List Addr) (H : Hp) (s : Sto) : Prop where
  len : ρ.length = s.length
  nd : ρ.Nodup
  ob : ∀ (i : Nat) (a : Addr) (o : Ob), ρ[i]? = some a → s[i]? = some o → RO T ρ H o a

section
variable {T : Tb} {ρ ρ' : List Addr} {H H' : Hp} {s : Sto}
theorem Rel.at (r : Rel T ρ H s) {i : Nat} {o : Ob} (h : s[i]? = some o) : ∃ a, ρ[i]? = some a ∧ RO T ρ H o a := by
  have hi : i < ρ.length := by
    have := (List.getElem?_eq_some_iff.mp h).1
    rw [r.len]; exact this
  exact ⟨ρ[i], List.getElem?_eq_getElem hi, r.ob i _ o (List.getElem?_eq_getElem hi) h⟩
theorem Rel.tracked (r : Rel T ρ H s) {i : Nat} {a : Addr} (h : ρ[i]? = some a) : ∃ u, H a = some u ∧ ¬ FixT u := by
  have hi : i < s.length := by
    have := (List.getElem?_eq_some_iff.mp h).1
    rw [← r.len]; exact this
  exact (r.ob i a _ h (List.getElem?_eq_getElem hi)).some
theorem rd_ne {H : Hp} {a p : Addr} {u o : HO} (h : Rd H a u) (hp : H p = none) : Rd (upd H p o) a u := by
  rcases h with h | ⟨z, h⟩
  · exact .inl (by rw [upd_ne (ne_of_none h hp)]; exact h)
  · exact .inr ⟨z, by rw [upd_ne (ne_of_none h hp)]; exact h⟩
/-- a new address -/
theorem ext_upd {p : Addr} {o : HO} (hp : H p = none) : Ext T ρ H ρ (upd H p o) :=
  ⟨⟨fun _ _ h => h, fun a vs h => h.elim (fun q => .inl (rd_ne q hp)) .inr, fun a z u h => by rw [upd_ne (ne_of_none h hp)]; exact h⟩, fun a z u h => by rw [upd_ne (ne_of_none h hp)]; exact h⟩
theorem ext_push {p : Addr} : Ext T ρ H (ρ ++ [p]) H :=
  ⟨⟨fun i a h => by rw [List.getElem?_append_left (List.getElem?_eq_some_iff.mp h).1]; exact h, fun _ _ h => h, fun _ _ _ h => h⟩, fun _ _ _ h => h⟩
/-- a change where nothing fixed stands -/
theorem ext0_set {a : Addr} {u o : HO} (ha : H a = some u) (hu : ¬ FixT u) : Ext0 T ρ H ρ (upd H a o) := by
  refine ⟨fun _ _ h => h, fun b vs h => ?_, fun b z w h => ?_⟩
  · rcases h with (h | ⟨z, h⟩) | h
    · have : b ≠ a := fun e => by subst e; rw [h] at ha; cases ha; exact hu trivial
      exact .inl (.inl (by rw [upd_ne this]; exact h))
    · have : b ≠ a := fun e => by subst e; rw [h] at ha; cases ha; exact hu trivial
      exact .inl (.inr ⟨z, by rw [upd_ne this]; exact h⟩)
    · exact .inr h
  · have : b ≠ a := fun e => by subst e; rw [h] at ha; cases ha; exact hu trivial
    rw [upd_ne this]; exact h
theorem FixT.fixd {u : HO} (h : FixT u) : Fixd u := by
  cases u <;> first | exact trivial | exact h
theorem ext_set {a : Addr} {u o : HO} (ha : H a = some u) (hu : ¬ Fixd u) : Ext T ρ H ρ (upd H a o) :=
  ⟨ext0_set ha fun z => hu z.fixd, fun b z w h => by
    have : b ≠ a := fun e => by subst e; rw [h] at ha; cases ha; exact hu trivial
    rw [upd_ne this]; exact h⟩
/-- something that the store does not know is laid -/
theorem Rel.laid (r : Rel T ρ H s) {p : Addr} {o : HO} (hp : H p = none) : Rel T ρ (upd H p o) s :=
  ⟨r.len, r.nd, fun i a o h1 h2 => (r.ob i a o h1 h2).mono (ext_upd hp).toExt0 (by
    obtain ⟨u, hu, _⟩ := r.tracked h1
    exact upd_ne (ne_of_none hu hp))⟩
theorem getElem?_snoc {α : Type} {l : List α} {x y : α} {i : Nat} (h : (l ++ [x])[i]? = some y) : l[i]? = some y ∨ (i = l.length ∧ y = x) := by
  by_cases hi : i < l.length
  · rw [List.getElem?_append_left hi] at h; exact .inl h
  · rw [List.getElem?_append_right (by omega)] at h
    have h' := h
    have : i - l.length = 0 := by
      cases e : i - l.length with
      | zero => rfl
      | succ n => rw [e] at h; simp at h
    rw [this] at h
    simp at h
    exact .inr ⟨by omega, h.symm⟩
/-- a new object -/
theorem Rel.new (r : Rel T ρ H s) {p : Addr} {o : HO} {b : Ob} (hp : H p = none) (hb : RO T (ρ ++ [p]) (upd H p o) b p) : Rel T (ρ ++ [p]) (upd H p o) (s ++ [b]) := by
  refine ⟨by rw [List.length_append, List.length_append, r.len]; rfl, ?_, fun i a o' h1 h2 => ?_⟩
  · rw [List.nodup_append]
    refine ⟨r.nd, by simp, fun x hx y hy => ?_⟩
    simp at hy
    subst hy
    obtain ⟨i, hi⟩ := List.getElem?_of_mem hx
    obtain ⟨u, hu, _⟩ := r.tracked hi
    exact ne_of_none hu hp
  · rcases getElem?_snoc h1 with q1 | ⟨e1, e2⟩
    · rcases getElem?_snoc h2 with q2 | ⟨e3, e4⟩
      · obtain ⟨u, hu, _⟩ := r.tracked q1
        exact (r.ob i a o' q1 q2).mono ((ext_upd hp).trans ext_push).toExt0 (upd_ne (ne_of_none hu hp))
      · exfalso
        have := (List.getElem?_eq_some_iff.mp q1).1
        have := r.len
        omega
    · rcases getElem?_snoc h2 with q2 | ⟨e3, e4⟩
      · exfalso
        have := (List.getElem?_eq_some_iff.mp q2).1
        have := r.len
        omega
      · subst e2 e4
        exact hb
theorem Rel.newExt (r : Rel T ρ H s) {p : Addr} {o : HO} (hp : H p = none) : Ext T ρ H (ρ ++ [p]) (upd H p o) := (ext_upd hp).trans ext_push
theorem Rel.newRef (r : Rel T ρ H s) {p : Addr} {H1 : Hp} : RV T (ρ ++ [p]) H1 (.ref s.length) (.ref p) :=
  .ref (by rw [← r.len, List.getElem?_append_right (Nat.le_refl _)]; simp)
/-- an object changed -/
theorem Rel.set (r : Rel T ρ H s) {i : Nat} {a : Addr} {o : HO} {b : Ob} (ha : ρ[i]? = some a) (hb : RO T ρ (upd H a o) b a) : Rel T ρ (upd H a o) (s.set i b) := by
  obtain ⟨u, hu, nf⟩ := r.tracked ha
  refine ⟨by rw [List.length_set]; exact r.len, r.nd, fun j c o' h1 h2 => ?_⟩
  by_cases e : j = i
  · subst e
    have ec : c = a := Option.some.inj (h1.symm.trans ha)
    subst ec
    have hl : j < s.length := by rw [← r.len]; exact (List.getElem?_eq_some_iff.mp h1).1
    rw [List.getElem?_set_self hl] at h2
    cases h2
    exact hb
  · rw [List.getElem?_set_ne (fun z => e z.symm)] at h2
    have nc : c ≠ a := fun z => by
      subst z
      exact e (nodup_at r.nd h1 ha)
    exact (r.ob j c o' h1 h2).mono (ext0_set hu nf) (upd_ne nc)
where
  nodup_at {α : Type} {l : List α} {x : α} {i j : Nat} (nd : l.Nodup) (a : l[i]? = some x) (b : l[j]? = some x) : i = j := by
    exact (List.getElem?_inj (List.getElem?_eq_some_iff.mp a).1 nd).mp (a.trans b.symm)
theorem Rel.setExt (r : Rel T ρ H s) {i : Nat} {a : Addr} {o u : HO} (ha : ρ[i]? = some a) (hu : H a = some u) (nf : ¬ Fixd u := by exact fun z => z) : Ext T ρ H ρ (upd H a o) := ext_set hu nf
end

/-- the frame's slots -/
structure RL (T : Tb) (ρ : List Addr) (H : Hp) (lo : Lo) (σ : St) : Prop where
  len : lo.length = σ.length
  at_ : ∀ (i : Nat) (x : Vl), lo[i]? = some (some x) → ∃ v, σ[i]? = some (some v) ∧ RV T ρ H x v
theorem RL.mono {T : Tb} {ρ ρ' : List Addr} {H H' : Hp} {lo : Lo} {σ : St} (r : RL T ρ H lo σ) (e : Ext T ρ H ρ' H') : RL T ρ' H' lo σ :=
  ⟨r.len, fun i x h => let ⟨v, h1, h2⟩ := r.at_ i x h; ⟨v, h1, h2.mono e⟩⟩
theorem RL.set {T : Tb} {ρ : List Addr} {H : Hp} {lo : Lo} {σ : St} (r : RL T ρ H lo σ) {x : Vl} {v : V} (i : Nat) (h : RV T ρ H x v) : RL T ρ H (lo.set i (some x)) (σ.set i (some v)) := by
  refine ⟨by rw [List.length_set, List.length_set]; exact r.len, fun j y hj => ?_⟩
  by_cases e : j = i
  · subst e
    have hl : j < lo.length := by have := (List.getElem?_eq_some_iff.mp hj).1; rw [List.length_set] at this; exact this
    rw [List.getElem?_set_self hl] at hj
    cases hj
    exact ⟨v, List.getElem?_set_self (by rw [← r.len]; exact hl), h⟩
  · rw [List.getElem?_set_ne (fun z => e z.symm)] at hj
    obtain ⟨w, h1, h2⟩ := r.at_ j y hj
    exact ⟨w, by rw [List.getElem?_set_ne (fun z => e z.symm)]; exact h1, h2⟩

/-- an exception as it is handed on -/
def PoX (T : Tb) (W : XK) (ρ : List Addr) (H : Hp) (e : Ex) (s : Sto) : Prop :=
  ∀ (ρ' : List Addr) (H' : Hp) (C : Addr), Ext T ρ H ρ' H' → Rel T ρ' H' s → T.cl[e.c]? = some C →
    match e.fs with
    | none => W (.ref C) none H'
    | some fs => ∀ (d : Addr) (vs : List (Str × V)), H' d = some (.xd vs) → vs.map (·.1) = fs.map (·.1) → RVs T ρ' H' (fs.map (·.2)) (vs.map (·.2)) → W (.ref C) (some d) H'
/-- what is asked behind a computation -/
def Po {α β : Type} (R : List Addr → Hp → α → β → Prop) (T : Tb) (W : XK) (ρ : List Addr) (H : Hp) (r : Res α) (Q : β → Hp → Prop) : Prop := match r with
  | .ok a s => ∀ (ρ' : List Addr) (H' : Hp) (b : β), Ext T ρ H ρ' H' → Rel T ρ' H' s → R ρ' H' a b → Q b H'
  | .exc e s => PoX T W ρ H e s
  | .fail => False
theorem Po.mono {α β : Type} {R : List Addr → Hp → α → β → Prop} {T : Tb} {W : XK} {ρ ρ' : List Addr} {H H' : Hp} {r : Res α} {Q : β → Hp → Prop} (p : Po R T W ρ H r Q) (e : Ext T ρ H ρ' H') : Po R T W ρ' H' r Q := by
  cases r with
  | ok a s => exact fun ρ2 H2 b e2 => p ρ2 H2 b (e.trans e2)
  | exc x s => exact fun ρ2 H2 C e2 => p ρ2 H2 C (e.trans e2)
  | fail => exact p
/-- the reading of a computation -/
def tG {α β : Type} (R : List Addr → Hp → α → β → Prop) (T : Tb) (W : WX) (m : Lo → M α) : St → Hp → (β → Hp → Prop) → Prop := fun σ H Q =>
  ∃ (ρ : List Addr) (s : Sto) (lo : Lo), Rel T ρ H s ∧ RL T ρ H lo σ ∧ Po R T (fun c d H' => W c d σ H') ρ H (m lo s) Q
abbrev tE (T : Tb) (W : WX) (m : Lo → M Vl) : TE := tG (RV T) T W m
abbrev tA (T : Tb) (W : WX) (m : Lo → M (List Vl)) : TA := tG (RVs T) T W m
abbrev RB : List Addr → Hp → Bool → Bool → Prop := fun _ _ a b => a = b
abbrev tT (T : Tb) (W : WX) (m : Lo → M Bool) : TT := tG RB T W m
/-- the state behind a part -/
structure Bh {α β : Type} (R : List Addr → Hp → α → β → Prop) (T : Tb) (σ : St) (H : Hp) (b : β) (k : List Addr → Sto → Lo → α → Prop) : Prop where
  ex : ∃ (ρ : List Addr) (s : Sto) (lo : Lo) (a : α), Rel T ρ H s ∧ RL T ρ H lo σ ∧ R ρ H a b ∧ k ρ s lo a
/-- THE step: a part, then the rest -/
theorem tG_bnd {α β γ δ : Type} {R : List Addr → Hp → α → β → Prop} {R' : List Addr → Hp → γ → δ → Prop} {T : Tb} {W : WX} {m : Lo → M α} {f : Lo → α → M γ} {σ : St} {H : Hp} {Q : δ → Hp → Prop} {Q' : β → Hp → Prop}
    (h : tG R' T W (fun lo => bnd (m lo) (f lo)) σ H Q)
    (k : ∀ (ρ : List Addr) (s : Sto) (lo : Lo) (a : α) (b : β) (H1 : Hp), Rel T ρ H1 s → RL T ρ H1 lo σ → R ρ H1 a b → Po R' T (fun c d H' => W c d σ H') ρ H1 (f lo a s) Q → Q' b H1) : tG R T W m σ H Q' := by
  obtain ⟨ρ, s, lo, r, rl, p⟩ := h
  refine ⟨ρ, s, lo, r, rl, ?_⟩
  have p : Po R' T _ ρ H (bnd (m lo) (f lo) s) Q := p
  unfold bnd at p
  cases e : m lo s with
  | ok a s1 =>
    rw [e] at p
    exact fun ρ' H' b x r' hb => k ρ' s1 lo a b H' r' (rl.mono x) hb (p.mono x)
  | exc z s1 =>
    rw [e] at p
    exact p
  | fail =>
    rw [e] at p
    exact p
end Sm

/-! S1: expressions: names, constants, operators, tests, displays -/
namespace Sm
open PySem L2

theorem pe_mono {X : Cx} {e : Expr} {t t' : TE} (h : PE X e t) (k : ∀ σ H Q, t' σ H Q → t σ H Q) : PE X e t' := ⟨fun pins s σ H Q I q => h.run pins s σ H Q I (k σ H Q q)⟩
theorem pt_mono {X : Cx} {e : Expr} {t t' : TT} (h : PT X e t) (k : ∀ σ H Q, t' σ H Q → t σ H Q) : PT X e t' := ⟨fun pins s σ H Q I q => h.run pins s σ H Q I (k σ H Q q)⟩
theorem pw_mono {X : Cx} {e : Expr} {t t' : TT} (h : PW X e t) (k : ∀ σ H Q, t' σ H Q → t σ H Q) : PW X e t' := ⟨fun w pins s σ H Q I q => h.run w pins s σ H Q I (k σ H Q q)⟩
theorem pa_mono {X : Cx} {es : List Expr} {t t' : TA} (h : PA X es t) (k : ∀ σ H Q, t' σ H Q → t σ H Q) : PA X es t' := ⟨fun p pins s σ H Q I q => h.run p pins s σ H Q I (k σ H Q q)⟩

/-! ### the combinators -/
abbrev EM := Lo → M Vl
abbrev TM := Lo → M Bool
abbrev AM := Lo → M (List Vl)
abbrev O1 := Vl → Sto → Option (Vl × Sto)
abbrev O2 := Vl → Vl → Sto → Option (Vl × Sto)
abbrev OC := List Vl → Sto → Option (Vl × Sto)
abbrev OMt := Vl → List Vl → Sto → Option (Vl × Sto)
def eVar (i : Nat) : EM := fun lo s => match lo[i]? with
  | some (some v) => .ok v s
  | _ => .fail
def eC (v : Vl) : EM := fun _ s => .ok v s
def eOp1 (f : O1) (a : EM) : EM := fun lo => bnd (a lo) fun x => lift (f x)
def eOp (f : O2) (a b : EM) : EM := fun lo => bnd (a lo) fun x => bnd (b lo) fun y => lift (f x y)
def aNil : AM := fun _ s => .ok [] s
def aCons (a : EM) (r : AM) : AM := fun lo => bnd (a lo) fun x => bnd (r lo) fun xs => ret (x :: xs)
def eCB (f : OC) (a : AM) : EM := fun lo => bnd (a lo) fun xs => lift (f xs)
def eMt (f : OMt) (o : EM) (a : AM) : EM := fun lo => bnd (o lo) fun x => bnd (a lo) fun xs => lift (f x xs)
def tVal (a : EM) : TM := fun lo => bnd (a lo) fun x => match x with
  | .bl b => ret b
  | _ => failM
def tAndM (a b : TM) : TM := fun lo => bnd (a lo) fun x => match x with
  | true => b lo
  | false => ret false
def tOrM (a b : TM) : TM := fun lo => bnd (a lo) fun x => match x with
  | true => ret true
  | false => b lo
def tNotM (a : TM) : TM := fun lo => bnd (a lo) fun x => ret (!x)
def eAndM (a b : EM) : EM := fun lo => bnd (a lo) fun x => match x with
  | .bl true => b lo
  | .bl false => ret (.bl false)
  | _ => failM
def eOrM (a b : EM) : EM := fun lo => bnd (a lo) fun x => match x with
  | .bl false => b lo
  | .bl true => ret (.bl true)
  | _ => failM
def eNotM (a : EM) : EM := fun lo => bnd (a lo) fun x => match x with
  | .bl b => ret (.bl (!b))
  | _ => failM
def eIfM (t : TM) (a b : EM) : EM := fun lo => bnd (t lo) fun x => match x with
  | true => a lo
  | false => b lo
abbrev LIM : Nat := 16777216
theorem lim_eq : sizeLine = LIM := sizeLine_eq
def oTup : OC := fun xs s => if xs.length ≤ LIM then some (.tup xs, s) else none
def oLst : OC := fun xs s => if xs.length ≤ LIM then some (.ref s.length, s ++ [.lst xs]) else none

/-! ### behind an operation -/
def Aft (T : Tb) (ρ : List Addr) (H : Hp) (s : Sto) (v : Vl) (Q : VK) : Prop := ∀ (ρ' : List Addr) (H' : Hp) (z : V), Ext T ρ H ρ' H' → Rel T ρ' H' s → RV T ρ' H' v z → Q z H'
section
variable {T : Tb} {ρ : List Addr} {H : Hp} {s s' : Sto} {v : Vl} {Q : VK}
theorem Aft.here (k : Aft T ρ H s v Q) (r : Rel T ρ H s) {z : V} (h : RV T ρ H v z) : Q z H := k ρ H z .refl r h
theorem Aft.tup {xs : List Vl} {vs : List V} (k : Aft T ρ H s (.tup xs) Q) (r : Rel T ρ H s) (h : RVs T ρ H xs vs) {p : Addr} (hp : H p = none) : Q (.ref p) (upd H p (.tup vs)) :=
  k ρ _ _ (ext_upd hp) (r.laid hp) (.tup (SqT.of upd_same) (h.mono (ext_upd hp)))
theorem Aft.new {b : Ob} {o : HO} (k : Aft T ρ H (s ++ [b]) (.ref s.length) Q) (r : Rel T ρ H s) {p : Addr} (hp : H p = none) (hb : RO T (ρ ++ [p]) (upd H p o) b p) : Q (.ref p) (upd H p o) :=
  k _ _ _ (r.newExt hp) (r.new hp hb) r.newRef
theorem Aft.lst {xs : List Vl} {vs : List V} (k : Aft T ρ H (s ++ [.lst xs]) (.ref s.length) Q) (r : Rel T ρ H s) (h : RVs T ρ H xs vs) {p : Addr} (hp : H p = none) : Q (.ref p) (upd H p (.lst vs)) :=
  k.new r hp ⟨vs, upd_same, h.mono (r.newExt hp)⟩
theorem Aft.set {i : Nat} {b : Ob} {o u : HO} {a : Addr} {v : Vl} {z : V} (k : Aft T ρ H (s.set i b) v Q) (r : Rel T ρ H s) (ha : ρ[i]? = some a) (hu : H a = some u) (nf : ¬ Fixd u) (hb : RO T ρ (upd H a o) b a) (hv : RV T ρ H v z) : Q z (upd H a o) :=
  k _ _ _ (r.setExt ha hu nf) (r.set ha hb) (hv.mono (r.setExt ha hu nf))
end
def rO1 (T : Tb) (f : O1) : V → Hp → VK → Prop := fun x H Q => ∃ ρ s a v s', Rel T ρ H s ∧ RV T ρ H a x ∧ f a s = some (v, s') ∧ Aft T ρ H s' v Q
def rO (T : Tb) (f : O2) : R2 := fun x y H Q => ∃ ρ s a b v s', Rel T ρ H s ∧ RV T ρ H a x ∧ RV T ρ H b y ∧ f a b s = some (v, s') ∧ Aft T ρ H s' v Q
def rC (T : Tb) (f : OC) : List V → Hp → VK → Prop := fun xs H Q => ∃ ρ s as v s', Rel T ρ H s ∧ RVs T ρ H as xs ∧ f as s = some (v, s') ∧ Aft T ρ H s' v Q
def rMt (T : Tb) (f : OMt) : V → List V → Hp → VK → Prop := fun x xs H Q => ∃ ρ s a as v s', Rel T ρ H s ∧ RV T ρ H a x ∧ RVs T ρ H as xs ∧ f a as s = some (v, s') ∧ Aft T ρ H s' v Q
theorem po_lift {T : Tb} {W : XK} {ρ : List Addr} {H : Hp} {s : Sto} {f : Sto → Option (Vl × Sto)} {Q : VK} (p : Po (RV T) T W ρ H (lift f s) Q) : ∃ v s', f s = some (v, s') ∧ Aft T ρ H s' v Q := by
  unfold lift at p
  cases e : f s with
  | none => rw [e] at p; exact p.elim
  | some q =>
    obtain ⟨v, s'⟩ := q
    rw [e] at p
    exact ⟨v, s', rfl, p⟩
theorem po_ret {α β : Type} {R : List Addr → Hp → α → β → Prop} {T : Tb} {W : XK} {ρ : List Addr} {H : Hp} {s : Sto} {a : α} {Q : β → Hp → Prop} (p : Po R T W ρ H (ret a s) Q) (r : Rel T ρ H s) {b : β} (h : R ρ H a b) : Q b H := p ρ H b .refl r h
theorem po_bnd {α β γ δ : Type} {R : List Addr → Hp → α → β → Prop} {R' : List Addr → Hp → γ → δ → Prop} {T : Tb} {W : WX} {m : Lo → M α} {f : α → M γ} {ρ : List Addr} {s : Sto} {lo : Lo} {σ : St} {H : Hp} {Q : δ → Hp → Prop} {Q' : β → Hp → Prop}
    (r : Rel T ρ H s) (rl : RL T ρ H lo σ) (p : Po R' T (fun c d H' => W c d σ H') ρ H (bnd (m lo) f s) Q)
    (k : ∀ (ρ' : List Addr) (s' : Sto) (a : α) (b : β) (H' : Hp), Ext T ρ H ρ' H' → Rel T ρ' H' s' → RL T ρ' H' lo σ → R ρ' H' a b → Po R' T (fun c d H' => W c d σ H') ρ' H' (f a s') Q → Q' b H') : tG R T W m σ H Q' := by
  refine ⟨ρ, s, lo, r, rl, ?_⟩
  unfold bnd at p
  cases e : m lo s with
  | ok a s1 =>
    rw [e] at p
    exact fun ρ' H' b x r' hb => k ρ' s1 a b H' x r' (rl.mono x) hb (p.mono x)
  | exc z s1 => rw [e] at p; exact p
  | fail => rw [e] at p; exact p

section
variable {X : Cx} {T : Tb} {W : WX} {a b c e : Expr} {es : List Expr} {ma mb mc me : EM} {ta tb : TM} {mr : AM} {pos : Pos}
theorem ce_var (i : Nat) {x : Str} (hN : X.N[i]? = some x := by rfl) (hv : Vis X.env.scope x := by first | exact Or.inl rfl | exact Or.inr (Or.inl rfl) | exact Or.inr (Or.inr rfl)) (hd : (x == ("__debug__" : Str)) = false := by decide)
    (hcd : (x == ("__classdict__" : Str)) = false := by decide) : PE X (.Name x pos) (tE T W (eVar i)) :=
  pe_mono (pe_var hN hv hd hcd) fun σ H Q h => by
    obtain ⟨ρ, s, lo, r, rl, p⟩ := h
    have p : Po (RV T) T _ ρ H (eVar i lo s) Q := p
    unfold eVar at p
    split at p
    · rename_i v hv
      obtain ⟨z, h1, h2⟩ := rl.at_ i v hv
      exact ⟨z, h1, p ρ H z .refl r h2⟩
    · exact p.elim
theorem ce_of {v : Vl} {z : V} (h : PE X e (tC z)) (hv : ∀ ρ H, RV T ρ H v z) : PE X e (tE T W (eC v)) :=
  pe_mono h fun σ H Q h => by
    obtain ⟨ρ, s, lo, r, rl, p⟩ := h
    exact p ρ H z .refl r (hv ρ H)
theorem ce_int {i j} : PE X (.Constant (.int i) j pos) (tE T W (eC (.int i))) := ce_of pe_int fun _ _ => .int i
theorem ce_bl {i j} : PE X (.Constant (.bool i) j pos) (tE T W (eC (.bl i))) := ce_of pe_bl fun _ _ => .bl i
theorem ce_non {j} : PE X (.Constant .none j pos) (tE T W (eC .non)) := ce_of pe_non fun _ _ => .non
theorem ce_str {i j} : PE X (.Constant (.str i) j pos) (tE T W (eC (.str i))) := ce_of pe_str fun _ _ => .str i
/-- two parts and an operation of their values -/
theorem top_le {f : O2} {σ : St} {H : Hp} {Q : VK} (h : tE T W (eOp f ma mb) σ H Q) : tOp (rO T f) (tE T W ma) (tE T W mb) σ H Q :=
  tG_bnd (f := fun lo x => bnd (mb lo) fun y => lift (f x y)) h fun ρ s lo x z H1 r rl hx p =>
    po_bnd (m := mb) r rl p fun ρ' s' y z' H' ext r' rl' hy p' => by
      obtain ⟨v, s2, e, k⟩ := po_lift p'
      exact ⟨ρ', s', x, y, v, s2, r', hx.mono ext, hy, e, k⟩
theorem ce_op {op : Operator} {f : O2} (ho : OpR X (binaryOp op) (rO T f)) (ha : PE X a (tE T W ma)) (hb : PE X b (tE T W mb)) : PE X (.BinOp a op b pos) (tE T W (eOp f ma mb)) :=
  pe_mono (pe_op ho ha hb) fun _ _ _ h => top_le h
theorem ce_cmp {op : CmpOp} {f : O2} (ho : OpR X (compareOp op) (rO T f)) (ha : PE X a (tE T W ma)) (hb : PE X b (tE T W mb)) (hm : behindInMarks op b = false := by first | exact nomark _ | rfl) : PE X (.Compare a [op] [b] pos) (tE T W (eOp f ma mb)) :=
  pe_mono (pe_cmpR ho ha hb hm) fun _ _ _ h => top_le h
theorem ce_ix {f : O2} (ho : IxR X (rO T f)) (ha : PE X a (tE T W ma)) (hb : PE X b (tE T W mb)) (hs : PlainIx b := by exact fun _ _ => rfl) : PE X (.Subscript a b pos) (tE T W (eOp f ma mb)) :=
  pe_mono (pe_ix ho ha hb hs) fun _ _ _ h => top_le h
theorem ce_un {op : UnaryOp} {f : O1} (ho : UnR X (unaryOp op) (rO1 T f)) (ha : PE X a (tE T W ma)) : PE X (.UnaryOp op a pos) (tE T W (eOp1 f ma)) :=
  pe_mono (pe_un ho ha) fun σ H Q h =>
    tG_bnd (f := fun lo x => lift (f x)) h fun ρ s lo x z H1 r rl hx p => by
      obtain ⟨v, s2, e, k⟩ := po_lift p
      exact ⟨ρ, s, x, v, s2, r, hx, e, k⟩
/-! ### tests -/
theorem tval_le {σ : St} {H : Hp} {Q : Bool → Hp → Prop} (h : tT T W (tVal ma) σ H Q) : tE T W ma σ H fun x H1 => ∃ k, x = .bl k ∧ Q k H1 :=
  tG_bnd h fun ρ s lo x z H1 r rl hx p => by
    cases hx with
    | bl k => exact ⟨k, rfl, p ρ H1 k .refl r rfl⟩
    | _ => exact p.elim
theorem ct_val (h : PE X e (tE T W me)) (he : ∀ whole, isTrue e X.env whole = (do let v ← whole; standAt e.pos; holding [v] (truthy v)) := by intro _; rfl) : PT X e (tT T W (tVal me)) :=
  pt_mono (pt_val h he) fun _ _ _ h => tval_le h
theorem ct_cmp {op : CmpOp} {f : O2} (ho : OpR X (compareOp op) (rO T f)) (ha : PE X a (tE T W ma)) (hb : PE X b (tE T W mb)) (hm : behindInMarks op b = false := by first | exact nomark _ | rfl) : PT X (.Compare a [op] [b] pos) (tT T W (tVal (eOp f ma mb))) :=
  pt_mono (pt_cmpR ho ha hb hm) fun _ _ _ h => top_le (tval_le h)
theorem ct_not (h : PT X a (tT T W ta)) : PT X (.UnaryOp .Not a pos) (tT T W (tNotM ta)) :=
  pt_mono (pt_not h) fun _ _ _ h => tG_bnd h fun ρ s lo x z H1 r rl hx p => by
    cases hx
    exact po_ret (R := RB) p r rfl
theorem cw_and1 (ha : PT X a (tT T W ta)) : PW X (.BoolOp .And [a] pos) (tT T W ta) := pw_and1 ha
theorem cw_or1 (ha : PT X a (tT T W ta)) : PW X (.BoolOp .Or [a] pos) (tT T W ta) := pw_or1 ha
theorem cw_and (ha : PT X a (tT T W ta)) (hb : PW X (.BoolOp .And (b :: es) pos) (tT T W tb)) : PW X (.BoolOp .And (a :: b :: es) pos) (tT T W (tAndM ta tb)) :=
  pw_mono (pw_and ha hb) fun _ _ _ h => tG_bnd h fun ρ s lo x z H1 r rl hx p => by
    cases hx
    cases x with
    | true => exact ⟨ρ, s, lo, r, rl, p⟩
    | false => exact po_ret (R := RB) p r rfl
theorem cw_or (ha : PT X a (tT T W ta)) (hb : PW X (.BoolOp .Or (b :: es) pos) (tT T W tb)) : PW X (.BoolOp .Or (a :: b :: es) pos) (tT T W (tOrM ta tb)) :=
  pw_mono (pw_or ha hb) fun _ _ _ h => tG_bnd h fun ρ s lo x z H1 r rl hx p => by
    cases hx
    cases x with
    | false => exact ⟨ρ, s, lo, r, rl, p⟩
    | true => exact po_ret (R := RB) p r rfl
/-! ### and, or, not, if as values -/
theorem ce_one {op} (h : PE X a (tE T W ma)) : PE X (.BoolOp op [a] pos) (tE T W ma) := pe_one h
theorem ce_and (ha : PE X a (tE T W ma)) (hb : PE X (.BoolOp .And (b :: es) pos) (tE T W mb)) : PE X (.BoolOp .And (a :: b :: es) pos) (tE T W (eAndM ma mb)) :=
  pe_mono (pe_and ha hb) fun _ _ _ h => tG_bnd h fun ρ s lo x z H1 r rl hx p => by
    cases hx with
    | bl k =>
      cases k with
      | true => exact ⟨true, rfl, ρ, s, lo, r, rl, p⟩
      | false => exact ⟨false, rfl, po_ret (R := RV T) p r (.bl false)⟩
    | _ => exact p.elim
theorem ce_or (ha : PE X a (tE T W ma)) (hb : PE X (.BoolOp .Or (b :: es) pos) (tE T W mb)) : PE X (.BoolOp .Or (a :: b :: es) pos) (tE T W (eOrM ma mb)) :=
  pe_mono (pe_or ha hb) fun _ _ _ h => tG_bnd h fun ρ s lo x z H1 r rl hx p => by
    cases hx with
    | bl k =>
      cases k with
      | false => exact ⟨false, rfl, ρ, s, lo, r, rl, p⟩
      | true => exact ⟨true, rfl, po_ret (R := RV T) p r (.bl true)⟩
    | _ => exact p.elim
theorem ce_not (ha : PE X a (tE T W ma)) : PE X (.UnaryOp .Not a pos) (tE T W (eNotM ma)) :=
  pe_mono (pe_not ha) fun _ _ _ h => tG_bnd h fun ρ s lo x z H1 r rl hx p => by
    cases hx with
    | bl k => exact ⟨k, rfl, po_ret (R := RV T) p r (.bl _)⟩
    | _ => exact p.elim
theorem ce_if (hc : PT X c (tT T W ta)) (ha : PE X a (tE T W ma)) (hb : PE X b (tE T W mb)) : PE X (.IfExp c a b pos) (tE T W (eIfM ta ma mb)) :=
  pe_mono (pe_ifExp hc ha hb) fun _ _ _ h => tG_bnd h fun ρ s lo x z H1 r rl hx p => by
    cases hx
    cases x with
    | true => exact ⟨ρ, s, lo, r, rl, p⟩
    | false => exact ⟨ρ, s, lo, r, rl, p⟩
/-! ### argument lists, displays -/
theorem ca_nil : PA X [] (tA T W aNil) := pa_mono pa_nil fun σ H Q h => by
  obtain ⟨ρ, s, lo, r, rl, p⟩ := h
  exact p ρ H [] .refl r .nil
theorem ca_cons (ha : PE X e (tE T W me)) (hr : PA X es (tA T W mr)) (hs : starEach (e :: es) X.env = (false, eval e X.env) :: starEach es X.env := by rfl) : PA X (e :: es) (tA T W (aCons me mr)) :=
  pa_mono (pa_cons ha hr hs) fun _ _ _ h => tG_bnd (R := RV T) h fun ρ s lo x z H1 r rl hx p =>
    po_bnd (R := RVs T) (m := mr) r rl p fun ρ' s' xs zs H' ext r' rl' hxs p' => po_ret (R := RVs T) p' r' (.cons (hx.mono ext) hxs)
theorem tcb_le {f : OC} {σ : St} {H : Hp} {Q : VK} (h : tE T W (eCB f mr) σ H Q) : tA T W mr σ H fun vs H1 => rC T f vs H1 Q :=
  tG_bnd (R := RVs T) h fun ρ s lo xs zs H1 r rl hx p => by
    obtain ⟨v, s2, e, k⟩ := po_lift p
    exact ⟨ρ, s, xs, v, s2, r, hx, e, k⟩
theorem ce_tup {x1} (h : PA X es (tA T W mr)) : PE X (.Tuple es x1 pos) (tE T W (eCB oTup mr)) :=
  pe_mono (pe_tup h) fun _ _ _ h => tG_bnd (R := RVs T) h fun ρ s lo xs zs H1 r rl hx p => by
    obtain ⟨v, s2, e, k⟩ := po_lift p
    unfold oTup at e
    split at e
    · rename_i hl
      cases e
      exact ⟨by rw [← hx.length, lim_eq]; exact hl, fun q hq => k.tup r hx hq⟩
    · cases e
theorem ce_lst (h : PA X es (tA T W mr)) : PE X (.List es pos) (tE T W (eCB oLst mr)) :=
  pe_mono (pe_lst h) fun _ _ _ h => tG_bnd (R := RVs T) h fun ρ s lo xs zs H1 r rl hx p => by
    obtain ⟨v, s2, e, k⟩ := po_lift p
    unfold oLst at e
    split at e
    · rename_i hl
      cases e
      exact ⟨by rw [← hx.length, lim_eq]; exact hl, fun q hq => k.lst r hx hq⟩
    · cases e
/-! ### built-ins by name; methods of built-in types -/
theorem ce_callB {x : Str} {p : Pos} {id : String} {f : OC} (hc : CallR X (.builtin id) (rC T f)) (hg : Gl X x) (hm : X.mg x = none) (hv : bootBuiltins x = some (.builtin id)) (ha : PA X (e :: es) (tA T W mr)) (hn : x ≠ "__name__" := by decide) (hdb : (x == ("__debug__" : Str)) = false := by decide)
    (he : starEach (e :: es) X.env = (false, eval e X.env) :: starEach es X.env := by rfl) (hpl : (backTo pos (starEach es X.env)).any (·.1) = false := by rfl) : PE X (.Call (.Name x p) (e :: es) [] pos) (tE T W (eCB f mr)) :=
  pe_mono (pe_callB hc hg hm hv ha hn hdb he hpl) fun _ _ _ h => tcb_le h
theorem ce_callTy {x : Str} {p : Pos} {id : String} {f : OC} (hc : CallR X (.type id) (rC T f)) (hg : Gl X x) (hm : X.mg x = none) (hv : bootBuiltins x = some (.type id)) (ha : PA X (e :: es) (tA T W mr)) (hn : x ≠ "__name__" := by decide) (hdb : (x == ("__debug__" : Str)) = false := by decide)
    (he : starEach (e :: es) X.env = (false, eval e X.env) :: starEach es X.env := by rfl) (hpl : (backTo pos (starEach es X.env)).any (·.1) = false := by rfl) : PE X (.Call (.Name x p) (e :: es) [] pos) (tE T W (eCB f mr)) :=
  pe_mono (pe_callTy hc hg hm hv ha hn hdb he hpl) fun _ _ _ h => tcb_le h
end
end Sm

/-! S2: operators on values -/
namespace Sm
open PySem L2

/-! ### values that are known by their form -/
section
variable {T : Tb} {ρ : List Addr} {H : Hp} {z : V}
theorem RV.nonE (h : RV T ρ H .non z) : z = .non := by cases h; rfl
theorem RV.blE {b : Bool} (h : RV T ρ H (.bl b) z) : z = .bl b := by cases h; rfl
theorem RV.intE {i : Int} (h : RV T ρ H (.int i) z) : z = .int i := by cases h; rfl
theorem RV.strE {x : Str} (h : RV T ρ H (.str x) z) : z = .str x := by cases h; rfl
theorem RV.refE {i : Nat} (h : RV T ρ H (.ref i) z) : ∃ a, z = .ref a ∧ ρ[i]? = some a := by cases h; exact ⟨_, rfl, by assumption⟩
theorem RV.tupE {xs : List Vl} (h : RV T ρ H (.tup xs) z) : ∃ a vs, z = .ref a ∧ SqT T.K H a vs ∧ RVs T ρ H xs vs := by cases h; exact ⟨_, _, rfl, by assumption, by assumption⟩
theorem RV.scrE {ns : List Int} (h : RV T ρ H (.scr ns) z) : ∃ a, z = .ref a ∧ SqL T.K H a (ns.map V.int) := by
  cases h with
  | scr h => exact ⟨_, rfl, .inl (.inr ⟨_, h⟩)⟩
  | scrK h => exact ⟨_, rfl, h H⟩
theorem Rel.lst {s : Sto} {i : Nat} {xs : List Vl} {a : Addr} (r : Rel T ρ H s) (h : s[i]? = some (.lst xs)) (ha : ρ[i]? = some a) : ∃ vs, H a = some (.lst vs) ∧ RVs T ρ H xs vs := r.ob i a _ ha h
theorem Rel.dic {s : Sto} {i : Nat} {kvs : List (Key × Vl)} {a : Addr} (r : Rel T ρ H s) (h : s[i]? = some (.dic kvs)) (ha : ρ[i]? = some a) :
    ∃ vs : List (Key × V), H a = some (.dK vs) ∧ vs.map (·.1) = kvs.map (·.1) ∧ RVs T ρ H (kvs.map (·.2)) (vs.map (·.2)) := r.ob i a _ ha h
end

/-! ### ints -/
def opSub : O2
  | .int i, .int j, s => some (.int (i - j), s)
  | _, _, _ => none
def opMul : O2
  | .int i, .int j, s => if (-(2 ^ 64) < i ∧ i < 2 ^ 64) ∨ (-(2 ^ 64) < j ∧ j < 2 ^ 64) then some (.int (i * j), s) else none
  | .ref i, .int k, s => match s[i]? with
    | some (.lst xs) => if 0 ≤ k ∧ k < 2 ^ 60 ∧ xs.length * k.toNat ≤ LIM then some (.ref s.length, s ++ [.lst (List.replicate k.toNat xs).flatten]) else none
    | _ => none
  | _, _, _ => none
def opFdiv : O2
  | .int i, .int j, s => if 0 < j ∧ j < 1073741824 then some (.int (i / j), s) else none
  | _, _, _ => none
def opMod : O2
  | .int i, .int j, s => if 0 < j then some (.int (i % j), s) else none
  | _, _, _ => none
def opPow : O2
  | .int i, .int j, s => if 0 ≤ j ∧ j ≤ 1000000 ∧ i.natAbs < 2 ^ 64 then some (.int (i ^ j.toNat), s) else none
  | _, _, _ => none
def opAdd : O2
  | .int i, .int j, s => some (.int (i + j), s)
  | .str x, .str y, s => if x.length + y.length ≤ LIM then some (.str (x ++ y), s) else none
  | .tup xs, .tup ys, s => if xs.length + ys.length ≤ LIM then some (.tup (xs ++ ys), s) else none
  | .ref i, .ref j, s => match s[i]?, s[j]? with
    | some (.lst xs), some (.lst ys) => if xs.length + ys.length ≤ LIM then some (.ref s.length, s ++ [.lst (xs ++ ys)]) else none
    | _, _ => none
  | _, _, _ => none
def opLt : O2
  | .int i, .int j, s => some (.bl (decide (i < j)), s)
  | _, _, _ => none
def opLe : O2
  | .int i, .int j, s => some (.bl (decide (i ≤ j)), s)
  | _, _, _ => none
def opGt : O2
  | .int i, .int j, s => some (.bl (decide (j < i)), s)
  | _, _, _ => none
def opGe : O2
  | .int i, .int j, s => some (.bl (decide (j ≤ i)), s)
  | _, _, _ => none
def isNon : Vl → Bool
  | .non => true
  | _ => false
def opIsN : O2
  | x, .non, s => some (.bl (isNon x), s)
  | _, _, _ => none
def opNotN : O2
  | x, .non, s => some (.bl (!isNon x), s)
  | _, _, _ => none
def opNeg : O1
  | .int i, s => some (.int (-i), s)
  | _, _ => none
section
variable {X : Cx} {T : Tb}
theorem OpR.imp {f : Value → Value → Sem Value} {r r' : R2} (h : OpR X f r) (k : ∀ x y H Q, r' x y H Q → r x y H Q) : OpR X f r' := fun pins s σ H x y v u Q I rx ry q => h pins s σ H x y v u Q I rx ry (k x y H Q q)
theorem oi {f : Value → Value → Sem Value} {C : Int → Int → Prop} {g : Int → Int → Vl} {gv : Int → Int → V} {op : O2} (hg : ∀ ρ H i j, RV T ρ H (g i j) (gv i j)) (h : OpR X f (rI C gv))
    (hop : ∀ a b s v s', op a b s = some (v, s') → ∃ i j, a = .int i ∧ b = .int j ∧ C i j ∧ v = g i j ∧ s' = s) : OpR X f (rO T op) := OpR.imp h fun x y H Q q => by
  obtain ⟨ρ, s, a, b, v, s', r, ha, hb, e, k⟩ := q
  obtain ⟨i, j, rfl, rfl, c, rfl, rfl⟩ := hop a b s v s' e
  exact ⟨i, j, ha.intE, hb.intE, c, k.here r (hg ρ H i j)⟩
theorem oi0 {f : Value → Value → Sem Value} {g : Int → Int → Vl} {gv : Int → Int → V} {op : O2} (hg : ∀ ρ H i j, RV T ρ H (g i j) (gv i j)) (h : OpR X f (rI0 gv))
    (hop : ∀ a b s v s', op a b s = some (v, s') → ∃ i j, a = .int i ∧ b = .int j ∧ v = g i j ∧ s' = s) : OpR X f (rO T op) := OpR.imp h fun x y H Q q => by
  obtain ⟨ρ, s, a, b, v, s', r, ha, hb, e, k⟩ := q
  obtain ⟨i, j, rfl, rfl, rfl, rfl⟩ := hop a b s v s' e
  exact ⟨i, j, ha.intE, hb.intE, k.here r (hg ρ H i j)⟩
theorem o_sub : OpR X (binaryOp .Sub) (rO T opSub) := oi0 (g := fun i j => .int (i - j)) (fun _ _ i j => .int _) op_sub fun a b s v s' e => by
  cases a <;> cases b <;> simp [opSub] at e
  exact ⟨_, _, rfl, rfl, e.1.symm, e.2.symm⟩
theorem o_lt : OpR X (compareOp .Lt) (rO T opLt) := oi0 (g := fun i j => .bl (decide (i < j))) (fun _ _ i j => .bl _) op_lt fun a b s v s' e => by
  cases a <;> cases b <;> simp [opLt] at e
  exact ⟨_, _, rfl, rfl, e.1.symm, e.2.symm⟩
theorem o_le : OpR X (compareOp .LtE) (rO T opLe) := oi0 (g := fun i j => .bl (decide (i ≤ j))) (fun _ _ i j => .bl _) op_le fun a b s v s' e => by
  cases a <;> cases b <;> simp [opLe] at e
  exact ⟨_, _, rfl, rfl, e.1.symm, e.2.symm⟩
theorem o_gt : OpR X (compareOp .Gt) (rO T opGt) := oi0 (g := fun i j => .bl (decide (j < i))) (fun _ _ i j => .bl _) op_gt fun a b s v s' e => by
  cases a <;> cases b <;> simp [opGt] at e
  exact ⟨_, _, rfl, rfl, e.1.symm, e.2.symm⟩
theorem o_ge : OpR X (compareOp .GtE) (rO T opGe) := oi0 (g := fun i j => .bl (decide (j ≤ i))) (fun _ _ i j => .bl _) op_ge fun a b s v s' e => by
  cases a <;> cases b <;> simp [opGe] at e
  exact ⟨_, _, rfl, rfl, e.1.symm, e.2.symm⟩
theorem o_fdiv : OpR X (binaryOp .FloorDiv) (rO T opFdiv) := oi (C := CDiv) (g := fun i j => .int (i / j)) (fun _ _ i j => .int _) op_fdiv fun a b s v s' e => by
  cases a <;> cases b <;> simp [opFdiv] at e
  exact ⟨_, _, rfl, rfl, e.1, e.2.1.symm, e.2.2.symm⟩
theorem o_mod : OpR X (binaryOp .Mod) (rO T opMod) := oi (C := fun _ j => 0 < j) (g := fun i j => .int (i % j)) (fun _ _ i j => .int _) op_mod fun a b s v s' e => by
  cases a <;> cases b <;> simp [opMod] at e
  exact ⟨_, _, rfl, rfl, e.1, e.2.1.symm, e.2.2.symm⟩
theorem o_pow : OpR X (binaryOp .Pow) (rO T opPow) := oi (C := CPow) (g := fun i j => .int (i ^ j.toNat)) (fun _ _ i j => .int _) op_pow fun a b s v s' e => by
  cases a <;> cases b <;> simp only [opPow] at e <;> try cases e
  split at e
  · rename_i h
    cases e
    exact ⟨_, _, rfl, rfl, h, rfl, rfl⟩
  · cases e
theorem o_neg : UnR X (unaryOp .USub) (rO1 T opNeg) := fun pins s σ H x v Q I rx q => by
  obtain ⟨ρ, st, a, w, s', r, ha, e, k⟩ := q
  cases a <;> simp [opNeg] at e
  obtain ⟨rfl, rfl⟩ := e
  exact un_neg pins s σ H x v Q I rx ⟨_, ha.intE, k.here r (.int _)⟩
theorem o_add (hK : X.K = T.K := by rfl) : OpR X (binaryOp .Add) (rO T opAdd) := fun pins s σ H x y v u Q I rx ry q => by
  obtain ⟨ρ, st, a, b, w, s', r, ha, hb, e, k⟩ := q
  cases a <;> cases b <;> simp only [opAdd] at e <;> try cases e
  · exact op_add pins s σ H x y v u Q I rx ry ⟨_, _, ha.intE, hb.intE, k.here r (.int _)⟩
  · split at e
    · rename_i h
      cases e
      exact op_add_str pins s σ H x y v u Q I rx ry ⟨_, _, ha.strE, hb.strE, by rw [lim_eq]; exact h, k.here r (.str _)⟩
    · cases e
  · split at e
    · rename_i xs ys h
      cases e
      obtain ⟨p, vs, rfl, h1, h2⟩ := ha.tupE
      obtain ⟨p', vs', rfl, h1', h2'⟩ := hb.tupE
      refine op_catA pins s σ H _ _ v u Q I rx ry ⟨p, p', vs, vs', rfl, rfl, by rw [hK]; exact h1, by rw [hK]; exact h1', by rw [← h2.length, ← h2'.length, lim_eq]; exact h, ?_, ?_, ?_⟩
      · intro e
        subst e
        cases h2
        exact k.here r (.tup h1' h2')
      · intro _ e
        subst e
        cases h2'
        rw [List.append_nil] at k
        exact k.here r (.tup h1 h2)
      · intro _ _ q hq
        exact k.tup r (h2.append h2') hq
    · cases e
  · rename_i i j
    split at e
    · rename_i xs ys h1 h2
      split at e
      · rename_i h
        cases e
        obtain ⟨p, rfl, hp⟩ := ha.refE
        obtain ⟨p', rfl, hp'⟩ := hb.refE
        obtain ⟨vs, g1, g2⟩ := r.lst h1 hp
        obtain ⟨vs', g1', g2'⟩ := r.lst h2 hp'
        exact op_cat pins s σ H _ _ v u Q I rx ry ⟨p, p', vs, vs', rfl, rfl, g1, g1', by rw [← g2.length, ← g2'.length, lim_eq]; exact h, fun q hq => k.lst r (g2.append g2') hq⟩
      · cases e
    · cases e
theorem RVs.rep {ρ : List Addr} {H : Hp} {xs : List Vl} {vs : List V} (h : RVs T ρ H xs vs) : ∀ n : Nat, RVs T ρ H (List.replicate n xs).flatten (List.replicate n vs).flatten
  | 0 => .nil
  | n + 1 => by
    rw [List.replicate_succ, List.replicate_succ, List.flatten_cons, List.flatten_cons]
    exact h.append (RVs.rep h n)
theorem o_mul : OpR X (binaryOp .Mult) (rO T opMul) := fun pins s σ H x y v u Q I rx ry q => by
  obtain ⟨ρ, st, a, b, w, s', r, ha, hb, e, k⟩ := q
  cases a <;> cases b <;> simp only [opMul] at e <;> try cases e
  · split at e
    · rename_i h
      cases e
      exact op_mul pins s σ H x y v u Q I rx ry ⟨_, _, ha.intE, hb.intE, h, k.here r (.int _)⟩
    · cases e
  · split at e
    · rename_i xs h1
      split at e
      · rename_i h
        cases e
        obtain ⟨p, rfl, hp⟩ := ha.refE
        obtain ⟨vs, g1, g2⟩ := r.lst h1 hp
        have hz := h.2.1
        exact op_rep pins s σ H _ _ v u Q I rx ry ⟨p, _, vs, rfl, hb.intE, g1, by omega, by omega, by rw [← g2.length, lim_eq]; exact h.2.2, fun q hq => k.lst r (g2.rep _) hq⟩
      · cases e
    · cases e
theorem RV.non_iff {ρ : List Addr} {H : Hp} {a : Vl} {x : V} (h : RV T ρ H a x) : decide (x = .non) = isNon a := by
  cases h <;> simp [isNon]
theorem o_isN : OpR X (compareOp .Is) (rO T opIsN) := fun pins s σ H x y v u Q I rx ry q => by
  obtain ⟨ρ, st, a, b, w, s', r, ha, hb, e, k⟩ := q
  cases b <;> simp only [opIsN] at e <;> try cases e
  exact op_isN pins s σ H x y v u Q I rx ry ⟨hb.nonE, by rw [ha.non_iff]; exact k.here r (.bl _)⟩
theorem o_notN : OpR X (compareOp .IsNot) (rO T opNotN) := fun pins s σ H x y v u Q I rx ry q => by
  obtain ⟨ρ, st, a, b, w, s', r, ha, hb, e, k⟩ := q
  cases b <;> simp only [opNotN] at e <;> try cases e
  refine op_notN pins s σ H x y v u Q I rx ry ⟨hb.nonE, ?_⟩
  rw [ha.non_iff]
  exact k.here r (.bl _)
end

/-! ### data -/
def mapO {α β : Type} (f : α → Option β) : List α → Option (List β)
  | [] => some []
  | x :: xs => match f x, mapO f xs with
    | some y, some ys => some (y :: ys)
    | _, _ => none
def toD : Nat → Sto → Vl → Option PyData
  | 0, _, _ => none
  | n + 1, s, v => match v with
    | .non => some .none
    | .bl b => some (.bool b)
    | .int i => some (.int i)
    | .str x => some (.str x)
    | .tup xs => (mapO (toD n s) xs).map .tuple
    | .ref i => match s[i]? with
      | some (.lst xs) => (mapO (toD n s) xs).map .list
      | _ => none
    | _ => none
section
variable {T : Tb} {ρ : List Addr} {H : Hp} {s : Sto}
theorem toDs_dp {f : Vl → Option PyData} {n : Nat} (hf : ∀ v z d, RV T ρ H v z → f v = some d → Dp T.K H z d ∧ d.depth ≤ n) : ∀ {xs : List Vl} {vs : List V} {ds : List PyData}, RVs T ρ H xs vs → mapO f xs = some ds → DpAll T.K H vs ds ∧ PyData.depthAll ds ≤ n
  | _, _, _, .nil, e => by
    simp only [mapO] at e
    cases e
    exact ⟨.nil, by simp only [PyData.depthAll]; omega⟩
  | _, _, _, .cons h hs, e => by
    simp only [mapO] at e
    split at e
    · rename_i y ys e1 e2
      cases e
      obtain ⟨a1, a2⟩ := hf _ _ _ h e1
      obtain ⟨b1, b2⟩ := toDs_dp hf hs e2
      refine ⟨.cons a1 b1, ?_⟩
      simp only [PyData.depthAll]
      omega
    · cases e
theorem toD_dp (r : Rel T ρ H s) : ∀ (n : Nat) (v : Vl) (z : V) (d : PyData), RV T ρ H v z → toD n s v = some d → Dp T.K H z d ∧ d.depth ≤ n
  | 0, _, _, _, _, e => by cases e
  | n + 1, v, z, d, h, e => by
    have ih := toD_dp r n
    cases v <;> simp only [toD] at e <;> try cases e
    · rw [h.nonE]; exact ⟨.non, by simp only [PyData.depth]; omega⟩
    · rw [h.blE]; exact ⟨.bl _, by simp only [PyData.depth]; omega⟩
    · rw [h.intE]; exact ⟨.int _, by simp only [PyData.depth]; omega⟩
    · rw [h.strE]; exact ⟨.str _, by simp only [PyData.depth]; omega⟩
    · rename_i xs
      cases e1 : mapO (toD n s) xs with
      | none => rw [e1] at e; cases e
      | some ds =>
        rw [e1] at e
        cases e
        obtain ⟨a, vs, rfl, h1, h2⟩ := h.tupE
        obtain ⟨b1, b2⟩ := toDs_dp ih h2 e1
        exact ⟨.tup h1 b1, by simp only [PyData.depth]; omega⟩
    · rename_i i
      split at e
      · rename_i xs hx
        cases e1 : mapO (toD n s) xs with
        | none => rw [e1] at e; cases e
        | some ds =>
          rw [e1] at e
          cases e
          obtain ⟨a, rfl, ha⟩ := h.refE
          obtain ⟨vs, h1, h2⟩ := r.lst hx ha
          obtain ⟨b1, b2⟩ := toDs_dp ih h2 e1
          exact ⟨.lst (SqL.of h1) b1, by simp only [PyData.depth]; omega⟩
      · cases e
end
/-- == -/
def eqS : Vl → Vl → Option Bool
  | .non, .non => some true
  | .int i, .int j => some (i == j)
  | .bl i, .bl j => some (i == j)
  | .str i, .str j => some (i == j)
  | .non, .int _ => some false
  | .non, .str _ => some false
  | .int _, .non => some false
  | .int _, .str _ => some false
  | .str _, .non => some false
  | .str _, .int _ => some false
  | _, _ => none
def eqM (a b : Vl) (s : Sto) : Option Bool := match eqS a b with
  | some k => some k
  | none => match toD 40 s a, toD 40 s b with
    | some d, some e => if d.canLay0 && e.canLay0 then some (PyData.eqv d e) else none
    | _, _ => none
def opEq : O2 := fun a b s => match eqM a b s with
  | some k => some (.bl k, s)
  | none => none
def opNe : O2 := fun a b s => match eqM a b s with
  | some k => some (.bl (!k), s)
  | none => none
section
variable {X : Cx} {T : Tb}
theorem eqS_ok {ρ : List Addr} {H : Hp} {a b : Vl} {x y : V} {k : Bool} (ha : RV T ρ H a x) (hb : RV T ρ H b y) (e : eqS a b = some k) : scal x y = true ∧ decide (x = y) = k := by
  cases ha <;> cases hb <;> simp only [eqS] at e <;> try cases e
  all_goals (refine ⟨rfl, ?_⟩)
  all_goals first
    | (rw [dec_int]; done)
    | (rw [dec_bl]; done)
    | (rw [dec_str]; done)
    | simp
theorem sh40 {d : PyData} (h : d.canLay0 = true) (h2 : d.depth ≤ 40) : SeqAt.shaped d = true := by
  unfold SeqAt.shaped
  rw [h, decide_eq_true (by omega)]
  rfl
theorem o_eq (hu : X.A.units + 64 < cLine) (hK : X.K = T.K := by rfl) : OpR X (compareOp .Eq) (rO T opEq) := fun pins s σ H x y v u Q I rx ry q => by
  obtain ⟨ρ, st, a, b, w, s', r, ha, hb, e, k⟩ := q
  unfold opEq at e
  split at e
  · rename_i c hc
    cases e
    unfold eqM at hc
    split at hc
    · rename_i c' hs
      cases hc
      obtain ⟨h1, h2⟩ := eqS_ok ha hb hs
      exact op_eq pins s σ H x y v u Q I rx ry ⟨h1, by rw [h2]; exact k.here r (.bl _)⟩
    · split at hc
      · rename_i d e hd he
        split at hc
        · rename_i hl
          cases hc
          obtain ⟨l1, l2⟩ := Bool.and_eq_true_iff.mp hl
          obtain ⟨p1, p2⟩ := toD_dp r 40 a x d ha hd
          obtain ⟨q1, q2⟩ := toD_dp r 40 b y e hb he
          exact op_eqD hu pins s σ H x y v u Q I rx ry ⟨d, e, by rw [hK]; exact p1, by rw [hK]; exact q1, sh40 l1 p2, sh40 l2 q2, k.here r (.bl _)⟩
        · cases hc
      · cases hc
  · cases e
theorem o_ne (hu : X.A.units + 64 < cLine) (hK : X.K = T.K := by rfl) : OpR X (compareOp .NotEq) (rO T opNe) := fun pins s σ H x y v u Q I rx ry q => by
  obtain ⟨ρ, st, a, b, w, s', r, ha, hb, e, k⟩ := q
  unfold opNe at e
  split at e
  · rename_i c hc
    cases e
    unfold eqM at hc
    split at hc
    · rename_i c' hs
      cases hc
      obtain ⟨h1, h2⟩ := eqS_ok ha hb hs
      exact op_ne pins s σ H x y v u Q I rx ry ⟨h1, by rw [h2]; exact k.here r (.bl _)⟩
    · split at hc
      · rename_i d e hd he
        split at hc
        · rename_i hl
          cases hc
          obtain ⟨l1, l2⟩ := Bool.and_eq_true_iff.mp hl
          obtain ⟨p1, p2⟩ := toD_dp r 40 a x d ha hd
          obtain ⟨q1, q2⟩ := toD_dp r 40 b y e hb he
          exact op_neD hu pins s σ H x y v u Q I rx ry ⟨d, e, by rw [hK]; exact p1, by rw [hK]; exact q1, sh40 l1 p2, sh40 l2 q2, k.here r (.bl _)⟩
        · cases hc
      · cases hc
  · cases e
end
end Sm

/-! S3: subscripts, slices, in, stores, built-in calls, methods of built-in types -/
namespace Sm
open PySem L2

/-! ### dicts as lists of pairs -/
section
variable {κ : Type} [DecidableEq κ]
def look (kvs : List (κ × Vl)) (k : κ) : Option Vl := match kvs with
  | [] => none
  | p :: r => if p.1 = k then some p.2 else look r k
def hasK (kvs : List (κ × Vl)) (k : κ) : Bool := match kvs with
  | [] => false
  | p :: r => if p.1 = k then true else hasK r k
/-- in its place, or at the end -/
def put (kvs : List (κ × Vl)) (k : κ) (v : Vl) : List (κ × Vl) := match kvs with
  | [] => [(k, v)]
  | p :: r => if p.1 = k then (k, v) :: r else p :: put r k v
variable {T : Tb} {ρ : List Addr} {H : Hp}
theorem look_ok {k : κ} : ∀ {kvs : List (κ × Vl)} {vs : List (κ × V)}, vs.map (·.1) = kvs.map (·.1) → RVs T ρ H (kvs.map (·.2)) (vs.map (·.2)) →
    (look kvs k = none → valV vs k = none) ∧ ∀ v, look kvs k = some v → ∃ z, valV vs k = some z ∧ RV T ρ H v z
  | [], [], _, _ => ⟨fun _ => rfl, fun v e => by simp [look] at e⟩
  | [], _ :: _, e, _ => by simp at e
  | _ :: _, [], e, _ => by simp at e
  | p :: r, q :: t, e, h => by
    simp only [List.map_cons, List.cons.injEq] at e
    rw [List.map_cons, List.map_cons] at h
    cases h with
    | cons h1 h2 =>
      have ih := look_ok (k := k) e.2 h2
      by_cases hk : p.1 = k
      · have hq : q.1 = k := e.1.trans hk
        rw [valV_pos hq]
        refine ⟨fun z => ?_, fun v z => ?_⟩
        · simp only [look, if_pos hk] at z; cases z
        · simp only [look, if_pos hk] at z; cases z; exact ⟨_, rfl, h1⟩
      · have hq : ¬ q.1 = k := fun z => hk (e.1.symm.trans z)
        rw [valV_neg hq]
        simp only [look, if_neg hk]
        exact ih
theorem hasK_look (kvs : List (κ × Vl)) (k : κ) : hasK kvs k = (look kvs k).isSome := by
  induction kvs with
  | nil => rfl
  | cons p r ih =>
    unfold hasK look
    by_cases h : p.1 = k
    · rw [if_pos h, if_pos h]; rfl
    · rw [if_neg h, if_neg h]; exact ih
theorem hasK_ok {k : κ} {kvs : List (κ × Vl)} {vs : List (κ × V)} (e : vs.map (·.1) = kvs.map (·.1)) (h : RVs T ρ H (kvs.map (·.2)) (vs.map (·.2))) : hasK kvs k = (valV vs k).isSome := by
  rw [hasK_look]
  obtain ⟨h1, h2⟩ := look_ok (k := k) e h
  cases q : look kvs k with
  | none => rw [h1 q]; rfl
  | some v => obtain ⟨z, hz, _⟩ := h2 v q; rw [hz]; rfl
theorem putK_cons_eq {k : κ} {q : κ × V} {t : List (κ × V)} {z : V} (nd : q.1 = k) (hn : valV t k = none) : putK (q :: t) k z = (k, z) :: t := by
  unfold putK
  rw [if_pos (by simp [nd])]
  rw [List.map_cons, if_pos nd, nd]
  congr 1
  rw [List.map_congr_left (g := id)]
  · simp
  · intro p hp
    have : ¬ p.1 = k := fun e => by
      have h2 : (valV t k).isSome = true := by
        rw [← valV_any]
        exact List.any_eq_true.mpr ⟨p, hp, by simp [e]⟩
      rw [hn] at h2; cases h2
    rw [if_neg this]; rfl
theorem putK_cons_ne {k : κ} {q : κ × V} {t : List (κ × V)} {z : V} (h : ¬ q.1 = k) : putK (q :: t) k z = q :: putK t k z := by
  unfold putK
  rw [List.any_cons, decide_eq_false h, Bool.false_or]
  split
  · rw [List.map_cons, if_neg h]
  · rfl
theorem put_ok {k : κ} {v : Vl} {z : V} (hv : RV T ρ H v z) : ∀ {kvs : List (κ × Vl)} {vs : List (κ × V)}, (vs.map (·.1)).Nodup → vs.map (·.1) = kvs.map (·.1) → RVs T ρ H (kvs.map (·.2)) (vs.map (·.2)) →
    (putK vs k z).map (·.1) = (put kvs k v).map (·.1) ∧ RVs T ρ H ((put kvs k v).map (·.2)) ((putK vs k z).map (·.2))
  | [], [], _, _, _ => ⟨rfl, .cons hv .nil⟩
  | [], _ :: _, _, e, _ => by simp at e
  | _ :: _, [], _, e, _ => by simp at e
  | p :: r, q :: t, nd, e, h => by
    simp only [List.map_cons, List.cons.injEq] at e
    rw [List.map_cons, List.nodup_cons] at nd
    rw [List.map_cons, List.map_cons] at h
    cases h with
    | cons h1 h2 =>
      by_cases hk : p.1 = k
      · have hq : q.1 = k := e.1.trans hk
        have hn : valV t k = none := by
          cases w : valV t k with
          | none => rfl
          | some u =>
            exfalso
            have h3 : (t.any fun kv => decide (kv.1 = k)) = true := by rw [valV_any, w]; rfl
            obtain ⟨p', hp, e'⟩ := List.any_eq_true.mp h3
            exact nd.1 (by rw [hq, ← of_decide_eq_true e']; exact List.mem_map_of_mem hp)
        rw [putK_cons_eq hq hn]
        simp only [put, if_pos hk]
        exact ⟨by simp [e.2], .cons hv h2⟩
      · have hq : ¬ q.1 = k := fun z => hk (e.1.symm.trans z)
        rw [putK_cons_ne hq]
        simp only [put, if_neg hk]
        obtain ⟨a, b⟩ := put_ok hv nd.2 e.2 h2
        exact ⟨by simp [e.1, a], .cons h1 b⟩
end
def keyOf : Vl → Option Key
  | .int i => some (.inl i)
  | .str x => some (.inr x)
  | _ => none
def keyVl : Key → Vl
  | .inl i => .int i
  | .inr x => .str x
section
variable {T : Tb} {ρ : List Addr} {H : Hp}
theorem keyOf_ok {a : Vl} {x : V} {k : Key} (h : RV T ρ H a x) (e : keyOf a = some k) : x = kV k := by
  cases a <;> simp [keyOf] at e
  · subst e; exact h.intE
  · subst e; exact h.strE
theorem keyVl_ok (k : Key) : RV T ρ H (keyVl k) (kV k) := by
  cases k with
  | inl i => exact .int i
  | inr x => exact .str x
theorem RVs.at : ∀ {xs : List Vl} {vs : List V} {i : Int} {x : Vl}, RVs T ρ H xs vs → atI xs i = some x → ∃ v, atI vs i = some v ∧ RV T ρ H x v := fun {xs vs i x} h e => by
  unfold atI at e ⊢
  rw [← h.length]
  cases q : ixN xs.length i with
  | none => rw [q] at e; cases e
  | some j =>
    rw [q] at e
    exact h.get e
end
/-- the dict's keys are unlike: by the abstract heap -/
theorem dk_nodup {X : Cx} {pins : List (Addr × Obj)} {σ : St} {H : Hp} {s : Shared} {a : Addr} {vs : List (Key × V)} (I : Inv X pins σ H s) (h : H a = some (.dK vs)) : (vs.map (·.1)).Nodup := by
  obtain ⟨_, _, us, rel, dd⟩ := dk_of I.hok h
  have e := rel.keys
  rw [e]
  obtain ⟨_, _, _, _, _, _, _, _, nd⟩ := dd
  exact nd
/-! ### subscripts -/
def opIx : O2
  | .tup xs, .int i, s => (atI xs i).map fun v => (v, s)
  | .scr ns, .int i, s => (atI ns i).map fun v => (.int v, s)
  | .str x, .int i, s => if x.length ≤ LIM then (atI x.cps.toList i).map fun c => (.str ⟨#[c]⟩, s) else none
  | .ref j, y, s => match s[j]? with
    | some (.lst xs) => match y with
      | .int i => (atI xs i).map fun v => (v, s)
      | _ => none
    | some (.dic kvs) => match keyOf y with
      | some k => (look kvs k).map fun v => (v, s)
      | none => none
    | _ => none
  | _, _, _ => none
section
variable {X : Cx} {T : Tb}
theorem o_ix (hu : X.A.units + 1 < cLine) (hK : X.K = T.K := by rfl) : IxR X (rO T opIx) := fun value slice pins s σ H x y v u Q I rx ry q hs => by
  obtain ⟨ρ, st, a, b, w, s', r, ha, hb, e, k⟩ := q
  cases a with
  | tup xs =>
    cases b <;> simp only [opIx] at e <;> try cases e
    obtain ⟨z, hz, e⟩ := Option.map_eq_some_iff.mp e
    cases e
    obtain ⟨p, vs, rfl, h1, h2⟩ := ha.tupE
    obtain ⟨z', h3, h4⟩ := h2.at hz
    exact ix_tup value slice pins s σ H _ y v u Q I rx ry ⟨p, vs, _, z', rfl, hb.intE, by rw [hK]; exact h1, h3, k.here r h4⟩ hs
  | scr ns =>
    cases b <;> simp only [opIx] at e <;> try cases e
    obtain ⟨z, hz, e⟩ := Option.map_eq_some_iff.mp e
    cases e
    obtain ⟨p, rfl, h1⟩ := ha.scrE
    refine ix_list value slice pins s σ H _ y v u Q I rx ry ⟨p, _, _, .int z, rfl, hb.intE, by rw [hK]; exact h1, ?_, k.here r (.int z)⟩ hs
    unfold atI at hz ⊢
    rw [List.length_map]
    cases q : ixN ns.length _ with
    | none => rw [q] at hz; cases hz
    | some j =>
      rw [q] at hz
      have hz : ns[j]? = some z := hz
      show (ns.map V.int)[j]? = some (V.int z)
      rw [List.getElem?_map, hz]; rfl
  | str t =>
    cases b <;> simp only [opIx] at e <;> try cases e
    split at e
    · rename_i hl
      obtain ⟨z, hz, e⟩ := Option.map_eq_some_iff.mp e
      cases e
      exact ix_str value slice pins s σ H x y v u Q I rx ry ⟨t, _, z, ha.strE, hb.intE, by rw [lim_eq]; exact hl, hz, k.here r (.str _)⟩ hs
    · cases e
  | ref j =>
    obtain ⟨p, rfl, hp⟩ := ha.refE
    simp only [opIx] at e
    split at e
    · rename_i xs hx
      split at e
      · obtain ⟨z, hz, e⟩ := Option.map_eq_some_iff.mp e
        cases e
        obtain ⟨vs, h1, h2⟩ := r.lst hx hp
        obtain ⟨z', h3, h4⟩ := h2.at hz
        exact ix_list value slice pins s σ H _ y v u Q I rx ry ⟨p, vs, _, z', rfl, hb.intE, SqL.of h1, h3, k.here r h4⟩ hs
      · cases e
    · rename_i kvs hx
      split at e
      · rename_i key hk
        obtain ⟨z, hz, e⟩ := Option.map_eq_some_iff.mp e
        cases e
        obtain ⟨vs, h1, h2, h3⟩ := r.dic hx hp
        obtain ⟨z', h4, h5⟩ := (look_ok (k := key) h2 h3).2 _ hz
        have ey := keyOf_ok hb hk
        subst ey
        have g : DGet H p (kV key) (some z') := by rw [← h4]; exact DGet.k h1
        obtain rfl : v = Value.ref p := rx
        exact PyProof.Rows.tail_any (dict_typeIs I g) PySem.F.slot_dict_getitem.lookup (d_getItem hu I g ry fun w' s3 I3 rw' => ⟨z', H, I3, rw', k.here r h5⟩) hs
      · cases e
    · cases e
  | _ => simp only [opIx] at e; cases e
end
/-! ### slices -/
def cutL {α : Type} (xs : List α) (lo hi : Option Int) : List α := (xs.drop (HT.sIx xs.length 0 lo)).take (HT.sIx xs.length xs.length hi - HT.sIx xs.length 0 lo)
abbrev OSl := Vl → Option Int → Option Int → Sto → Option (Vl × Sto)
def opSl : OSl
  | .tup xs, lo, hi, s => some (.tup (cutL xs lo hi), s)
  | .scr ns, lo, hi, s => some (.ref s.length, s ++ [.lst ((cutL ns lo hi).map Vl.int)])
  | .str x, lo, hi, s => if x.length ≤ LIM then some (.str (cutS x lo hi), s) else none
  | .ref j, lo, hi, s => match s[j]? with
    | some (.lst xs) => some (.ref s.length, s ++ [.lst (cutL xs lo hi)])
    | _ => none
  | _, _, _, _ => none
def oPart : Option EM → Lo → M (Option Int)
  | none, _ => ret none
  | some m, lo => bnd (m lo) fun x => match x with
    | .int i => ret (some i)
    | _ => failM
def eSl (f : OSl) (a : EM) (l h : Option EM) : EM := fun lo => bnd (a lo) fun x => bnd (oPart l lo) fun i => bnd (oPart h lo) fun j => lift (f x i j)
theorem cutL_map {α β : Type} (f : α → β) (xs : List α) (lo hi : Option Int) : cutL (xs.map f) lo hi = (cutL xs lo hi).map f := by
  unfold cutL
  rw [List.length_map, List.map_take, List.map_drop]
def rSl (T : Tb) (f : OSl) : V → Option Int → Option Int → Hp → VK → Prop := fun x lo hi H Q => ∃ ρ s a v s', Rel T ρ H s ∧ RV T ρ H a x ∧ f a lo hi s = some (v, s') ∧ Aft T ρ H s' v Q
section
variable {X : Cx} {T : Tb} {W : WX}
theorem RVs.cut {ρ : List Addr} {H : Hp} {xs : List Vl} {vs : List V} (h : RVs T ρ H xs vs) (lo hi : Option Int) : RVs T ρ H (cutL xs lo hi) (cutV vs lo hi) := by
  unfold cutL cutV
  rw [h.length]
  exact (h.drop _).take _
theorem RVs.ints {ρ : List Addr} {H : Hp} : ∀ ns : List Int, RVs T ρ H (ns.map Vl.int) (ns.map V.int)
  | [] => .nil
  | n :: ns => .cons (.int n) (RVs.ints ns)
theorem o_sl (hK : X.K = T.K := by rfl) : SlR X (rSl T opSl) := fun pins s σ H x v vl vu lo hi sl Q I rx hs pl pu q => by
  obtain ⟨ρ, st, a, w, s', r, ha, e, k⟩ := q
  cases a with
  | tup xs =>
    simp only [opSl] at e
    cases e
    obtain ⟨p, vs, rfl, h1, h2⟩ := ha.tupE
    refine sl_tupA pins s σ H _ v vl vu lo hi sl Q I rx hs pl pu ⟨p, vs, rfl, by rw [hK]; exact h1, fun hw => ?_, fun _ q hq => k.tup r (h2.cut lo hi) hq⟩
    have : cutL xs lo hi = xs := by
      unfold cutL
      rw [h2.length, hw.1, hw.2]
      rw [List.drop_zero, Nat.sub_zero, ← h2.length, List.take_length]
    rw [this] at k
    exact k.here r (.tup h1 h2)
  | scr ns =>
    simp only [opSl] at e
    cases e
    obtain ⟨p, rfl, h1⟩ := ha.scrE
    refine sl_list pins s σ H _ v vl vu lo hi sl Q I rx hs pl pu ⟨p, _, rfl, by rw [hK]; exact h1, fun q hq => ?_⟩
    refine k.lst r ?_ hq
    rw [← cutL_map]
    exact RVs.cut (RVs.ints ns) lo hi
  | str t =>
    simp only [opSl] at e
    split at e
    · rename_i hl
      cases e
      exact sl_str pins s σ H x v vl vu lo hi sl Q I rx hs pl pu ⟨t, ha.strE, by rw [lim_eq]; exact hl, k.here r (.str _)⟩
    · cases e
  | ref j =>
    simp only [opSl] at e
    split at e
    · rename_i xs hx
      cases e
      obtain ⟨p, rfl, hp⟩ := ha.refE
      obtain ⟨vs, h1, h2⟩ := r.lst hx hp
      exact sl_list pins s σ H _ v vl vu lo hi sl Q I rx hs pl pu ⟨p, vs, rfl, SqL.of h1, fun q hq => k.lst r (h2.cut lo hi) hq⟩
    · cases e
  | _ => simp only [opSl] at e; cases e
/-- a slice's part -/
abbrev tO (T : Tb) (W : WX) (m : Option EM) : TO := tG (fun _ _ a b => a = b) T W (oPart m)
theorem co_none : PO X none (tO T W none) := ⟨fun pins s σ H Q I h => po_none.run pins s σ H Q I (by
  obtain ⟨ρ, st, lo, r, rl, p⟩ := h
  exact p ρ H none .refl r rfl)⟩
theorem co_some {e : Expr} {me : EM} (he : PE X e (tE T W me)) : PO X (some e) (tO T W (some me)) := ⟨fun pins s σ H Q I h => (po_some he).run pins s σ H Q I (by
  refine tG_bnd (R := RV T) h fun ρ st lo x z H1 r rl hx p => ?_
  cases hx with
  | int i => exact ⟨i, rfl, p ρ H1 (some i) .refl r rfl⟩
  | _ => exact p.elim)⟩
theorem ce_slice {e : Expr} {l h : Option Expr} {me : EM} {ml mh : Option EM} {pos p2 : Pos} {f : OSl} (hr : SlR X (rSl T f)) (he : PE X e (tE T W me)) (hl : PO X l (tO T W ml)) (hh : PO X h (tO T W mh)) : PE X (.Subscript e (.Slice l h none p2) pos) (tE T W (eSl f me ml mh)) :=
  pe_mono (pe_slice hr he hl hh) fun σ H Q q => tG_bnd (R := RV T) q fun ρ s lo x z H1 r rl hx p =>
    po_bnd (R := fun _ _ a b => a = b) (m := oPart ml) r rl p fun ρ1 s1 i i' H2 ext1 r1 rl1 hi p1 =>
      po_bnd (R := fun _ _ a b => a = b) (m := oPart mh) r1 rl1 p1 fun ρ2 s2 j j' H3 ext2 r2 rl2 hj p2 => by
        subst hi hj
        obtain ⟨v, s3, e, k⟩ := po_lift p2
        exact ⟨ρ2, s2, x, v, s3, r2, hx.mono (ext1.trans ext2), e, k⟩
end
/-! ### in -/
def flat : Vl → Bool
  | .non => true
  | .bl _ => true
  | .int _ => true
  | .str _ => true
  | _ => false
def eqF : Vl → Vl → Bool
  | .non, .non => true
  | .bl a, .bl b => a == b
  | .bl a, .int b => (if a then 1 else 0) == b
  | .int a, .bl b => a == (if b then 1 else 0)
  | .int a, .int b => a == b
  | .str a, .str b => a == b
  | _, _ => false
def inF (x : Vl) (xs : List Vl) : Bool := xs.any fun y => eqF y x
def inM (x y : Vl) (s : Sto) : Option Bool := match y with
  | .tup ys => if flat x && ys.all flat then some (inF x ys) else none
  | .str b => match x with
    | .str a => match a.cps.toList with
      | [c] => some (decide (c ∈ b.cps.toList))
      | _ => none
    | _ => none
  | .ref j => match s[j]? with
    | some (.lst ys) => if flat x && ys.all flat then some (inF x ys) else none
    | some (.dic kvs) => match keyOf x with
      | some k => some (hasK kvs k)
      | none => none
    | _ => none
  | _ => none
def opIn : O2 := fun x y s => match inM x y s with
  | some b => some (.bl b, s)
  | none => none
def opNotIn : O2 := fun x y s => match inM x y s with
  | some b => some (.bl (!b), s)
  | none => none
section
variable {X : Cx} {T : Tb} {ρ : List Addr} {H : Hp}
theorem flat_ok {a : Vl} {x : V} (h : RV T ρ H a x) (f : flat a = true) : flatV x = true := by
  cases h <;> simp [flat] at f <;> rfl
theorem eqF_ok {a b : Vl} {x y : V} (h : RV T ρ H a x) (g : RV T ρ H b y) (fa : flat a = true) (fb : flat b = true) : eqV x y = eqF a b := by
  cases h <;> simp [flat] at fa <;> cases g <;> simp [flat] at fb <;> rfl
theorem flats_ok : ∀ {xs : List Vl} {vs : List V}, RVs T ρ H xs vs → xs.all flat = true → vs.all flatV = true
  | _, _, .nil, _ => rfl
  | _, _, .cons h hs, e => by
    rw [List.all_cons, Bool.and_eq_true_iff] at e
    rw [List.all_cons, flat_ok h e.1, flats_ok hs e.2]; rfl
theorem inF_ok {a : Vl} {x : V} (h : RV T ρ H a x) (f : flat a = true) : ∀ {xs : List Vl} {vs : List V}, RVs T ρ H xs vs → xs.all flat = true → inV x vs = inF a xs
  | _, _, .nil, _ => rfl
  | _, _, .cons g hs, e => by
    rw [List.all_cons, Bool.and_eq_true_iff] at e
    have ih := inF_ok h f hs e.2
    unfold inV inF at ih ⊢
    rw [List.any_cons, List.any_cons, ih, eqF_ok g h e.1 f]
/-- the four kinds, told apart -/
theorem inM_cases {s : Sto} {a b : Vl} {x y : V} {c : Bool} (r : Rel T ρ H s) (ha : RV T ρ H a x) (hb : RV T ρ H b y) (e : inM a b s = some c) :
    (∃ p vs, y = .ref p ∧ (SqL T.K H p vs ∨ SqT T.K H p vs) ∧ flatV x = true ∧ vs.all flatV = true ∧ inV x vs = c) ∨ (∃ (n : Nat) (z : Str), x = .str ⟨#[n]⟩ ∧ y = .str z ∧ decide (n ∈ z.cps.toList) = c) ∨
    ∃ p o, y = .ref p ∧ DGet H p x o ∧ o.isSome = c := by
  cases b with
  | tup ys =>
    simp only [inM] at e
    split at e
    · rename_i hf
      cases e
      obtain ⟨f1, f2⟩ := Bool.and_eq_true_iff.mp hf
      obtain ⟨p, vs, rfl, h1, h2⟩ := hb.tupE
      exact .inl ⟨p, vs, rfl, .inr h1, flat_ok ha f1, flats_ok h2 f2, inF_ok ha f1 h2 f2⟩
    · cases e
  | str z =>
    simp only [inM] at e
    cases a <;> simp only at e <;> try cases e
    rename_i t
    split at e
    · rename_i c' hc
      cases e
      refine .inr (.inl ⟨c', z, ?_, hb.strE, rfl⟩)
      rw [ha.strE]
      obtain ⟨⟨l⟩⟩ := t
      have hc : l = [c'] := hc
      subst hc; rfl
    · cases e
  | ref j =>
    obtain ⟨p, rfl, hp⟩ := hb.refE
    simp only [inM] at e
    split at e
    · rename_i ys hx
      split at e
      · rename_i hf
        cases e
        obtain ⟨f1, f2⟩ := Bool.and_eq_true_iff.mp hf
        obtain ⟨vs, h1, h2⟩ := r.lst hx hp
        exact .inl ⟨p, vs, rfl, .inl (SqL.of h1), flat_ok ha f1, flats_ok h2 f2, inF_ok ha f1 h2 f2⟩
      · cases e
    · rename_i kvs hx
      split at e
      · rename_i k hk
        cases e
        obtain ⟨vs, h1, h2, h3⟩ := r.dic hx hp
        have ey := keyOf_ok ha hk
        subst ey
        exact .inr (.inr ⟨p, _, rfl, DGet.k h1, (hasK_ok h2 h3).symm⟩)
      · cases e
    · cases e
  | _ => simp only [inM] at e; cases e
theorem o_in (hu : X.A.units + 1 < cLine) (hK : X.K = T.K := by rfl) : OpR X (compareOp .In) (rO T opIn) := fun pins s σ H x y v u Q I rx ry q => by
  obtain ⟨ρ, st, a, b, w, s', r, ha, hb, e, k⟩ := q
  unfold opIn at e
  split at e
  · rename_i c hc
    cases e
    rcases inM_cases r ha hb hc with ⟨p, vs, rfl, h1, h2, h3, h4⟩ | ⟨n, z, rfl, rfl, h4⟩ | ⟨p, o, rfl, g, h4⟩
    · exact op_in_seq pins s σ H x _ v u Q I rx ry ⟨p, vs, rfl, by rw [hK]; exact h1, h2, h3, by rw [if_neg (by decide), h4]; exact k.here r (.bl _)⟩
    · exact op_in_sign pins s σ H _ _ v u Q I rx ry ⟨n, z, rfl, rfl, by rw [h4]; exact k.here r (.bl _)⟩
    · obtain rfl : u = Value.ref p := ry
      exact d_in hu I g rx fun s3 I3 => ⟨.bl o.isSome, H, I3, rfl, by rw [h4]; exact k.here r (.bl _)⟩
  · cases e
theorem o_notIn (hu : X.A.units + 1 < cLine) (hK : X.K = T.K := by rfl) : OpR X (compareOp .NotIn) (rO T opNotIn) := fun pins s σ H x y v u Q I rx ry q => by
  obtain ⟨ρ, st, a, b, w, s', r, ha, hb, e, k⟩ := q
  unfold opNotIn at e
  split at e
  · rename_i c hc
    cases e
    rcases inM_cases r ha hb hc with ⟨p, vs, rfl, h1, h2, h3, h4⟩ | ⟨n, z, rfl, rfl, h4⟩ | ⟨p, o, rfl, g, h4⟩
    · exact op_notIn_seq pins s σ H x _ v u Q I rx ry ⟨p, vs, rfl, by rw [hK]; exact h1, h2, h3, by rw [if_pos rfl, h4]; exact k.here r (.bl _)⟩
    · exact op_notIn_sign pins s σ H _ _ v u Q I rx ry ⟨n, z, rfl, rfl, by rw [h4]; exact k.here r (.bl _)⟩
    · obtain rfl : u = Value.ref p := ry
      exact d_notIn hu I g rx fun s3 I3 => ⟨.bl (!o.isSome), H, I3, rfl, by rw [h4]; exact k.here r (.bl _)⟩
  · cases e
end
end Sm

/-! S4: built-in calls and methods of built-in types -/
namespace Sm
open PySem L2
section
variable {T : Tb} {ρ : List Addr} {H : Hp}
theorem RVs.one {a : Vl} {xs : List V} (h : RVs T ρ H [a] xs) : ∃ x, xs = [x] ∧ RV T ρ H a x := by
  cases h with
  | cons h1 h2 => cases h2; exact ⟨_, rfl, h1⟩
theorem RVs.two {a b : Vl} {xs : List V} (h : RVs T ρ H [a, b] xs) : ∃ x y, xs = [x, y] ∧ RV T ρ H a x ∧ RV T ρ H b y := by
  cases h with
  | cons h1 h2 =>
    obtain ⟨y, rfl, h3⟩ := h2.one
    exact ⟨_, y, rfl, h1, h3⟩
theorem RVs.zero {xs : List V} (h : RVs T ρ H [] xs) : xs = [] := by cases h; rfl
def asInt : Vl → Option Int
  | .int i => some i
  | _ => none
def asBl : Vl → Option Bool
  | .bl i => some i
  | _ => none
def asStr : Vl → Option Str
  | .str i => some i
  | _ => none
theorem asInts_ok : ∀ {xs : List Vl} {vs : List V} {ns : List Int}, RVs T ρ H xs vs → mapO asInt xs = some ns → vs = ns.map V.int
  | _, _, _, .nil, e => by simp [mapO] at e; subst e; rfl
  | _, _, _, .cons h hs, e => by
    simp only [mapO] at e
    split at e
    · rename_i y ys e1 e2
      cases e
      have := asInts_ok hs e2
      subst this
      cases h <;> simp [asInt] at e1
      subst e1; rfl
    · cases e
theorem asBls_ok : ∀ {xs : List Vl} {vs : List V} {ns : List Bool}, RVs T ρ H xs vs → mapO asBl xs = some ns → vs = ns.map V.bl
  | _, _, _, .nil, e => by simp [mapO] at e; subst e; rfl
  | _, _, _, .cons h hs, e => by
    simp only [mapO] at e
    split at e
    · rename_i y ys e1 e2
      cases e
      have := asBls_ok hs e2
      subst this
      cases h <;> simp [asBl] at e1
      subst e1; rfl
    · cases e
theorem asStrs_ok : ∀ {xs : List Vl} {vs : List V} {ns : List Str}, RVs T ρ H xs vs → mapO asStr xs = some ns → vs = ns.map V.str
  | _, _, _, .nil, e => by simp [mapO] at e; subst e; rfl
  | _, _, _, .cons h hs, e => by
    simp only [mapO] at e
    split at e
    · rename_i y ys e1 e2
      cases e
      have := asStrs_ok hs e2
      subst this
      cases h <;> simp [asStr] at e1
      subst e1; rfl
    · cases e
end
theorem mapO_ints (ns : List Int) : mapO asInt (ns.map Vl.int) = some ns := by
  induction ns with
  | nil => rfl
  | cons n ns ih => simp only [List.map_cons, mapO, asInt, ih]
theorem mapO_bls (ns : List Bool) : mapO asBl (ns.map Vl.bl) = some ns := by
  induction ns with
  | nil => rfl
  | cons n ns ih => simp only [List.map_cons, mapO, asBl, ih]
theorem mapO_strs (ns : List Str) : mapO asStr (ns.map Vl.str) = some ns := by
  induction ns with
  | nil => rfl
  | cons n ns ih => simp only [List.map_cons, mapO, asStr, ih]
/-! ### sorting ints -/
def insS (x : Int) : List Int → List Int
  | [] => [x]
  | y :: ys => if x ≤ y then x :: y :: ys else y :: insS x ys
def srt : List Int → List Int
  | [] => []
  | x :: xs => insS x (srt xs)
theorem insS_perm (x : Int) : ∀ ys : List Int, (insS x ys).Perm (x :: ys)
  | [] => .refl _
  | y :: ys => by
    unfold insS
    split
    · exact .refl _
    · exact (List.Perm.cons y (insS_perm x ys)).trans (List.Perm.swap x y ys)
theorem srt_perm : ∀ xs : List Int, (srt xs).Perm xs
  | [] => .refl _
  | x :: xs => (insS_perm x (srt xs)).trans (List.Perm.cons x (srt_perm xs))
theorem insS_mem {x z : Int} {ys : List Int} : z ∈ insS x ys ↔ z = x ∨ z ∈ ys := by
  rw [(insS_perm x ys).mem_iff, List.mem_cons]
theorem insS_sorted (x : Int) : ∀ ys : List Int, ys.Pairwise (· ≤ ·) → (insS x ys).Pairwise (· ≤ ·)
  | [], _ => List.pairwise_singleton _ _
  | y :: ys, h => by
    unfold insS
    split
    · rename_i hle
      refine List.pairwise_cons.mpr ⟨fun z hz => ?_, h⟩
      rcases List.mem_cons.mp hz with rfl | hz
      · exact hle
      · exact Int.le_trans hle ((List.pairwise_cons.mp h).1 z hz)
    · rename_i hle
      refine List.pairwise_cons.mpr ⟨fun z hz => ?_, insS_sorted x ys (List.pairwise_cons.mp h).2⟩
      rcases insS_mem.mp hz with rfl | hz
      · omega
      · exact (List.pairwise_cons.mp h).1 z hz
theorem srt_sorted : ∀ xs : List Int, (srt xs).Pairwise (· ≤ ·)
  | [] => List.Pairwise.nil
  | x :: xs => insS_sorted x _ (srt_sorted xs)
theorem srt_eq {xs ys : List Int} (p : ys.Perm xs) (h : ys.Pairwise (· ≤ ·)) : ys = srt xs := PySem.W.ksm_same (p.trans (srt_perm xs).symm) h (srt_sorted xs)
theorem srt_mem {z : Int} {xs : List Int} : z ∈ srt xs ↔ z ∈ xs := (srt_perm xs).mem_iff
theorem srt_length (xs : List Int) : (srt xs).length = xs.length := (srt_perm xs).length_eq

/-! ### calls -/
def lenM (x : Vl) (s : Sto) : Option Nat := match x with
  | .tup xs => some xs.length
  | .scr ns => some ns.length
  | .str z => if z.length ≤ LIM then some z.length else none
  | .ref j => match s[j]? with
    | some (.lst xs) => some xs.length
    | some (.dic kvs) => some kvs.length
    | _ => none
  | _ => none
def oLen : OC
  | [x], s => (lenM x s).map fun n => (.int n, s)
  | _, _ => none
def oAbs : OC
  | [.int i], s => some (.int (if i < 0 then -i else i), s)
  | _, _ => none
def oInt : OC
  | [.int i], s => some (.int i, s)
  | [.bl b], s => some (.int (if b then 1 else 0), s)
  | _, _ => none
def oStr : OC
  | [.int i], s => if i.natAbs.log2 < 1920 then some (.str (toString i), s) else none
  | _, _ => none
def oMax : OC
  | [.int i, .int j], s => some (.int (if j > i then j else i), s)
  | _, _ => none
def oMin : OC
  | [.int i, .int j], s => some (.int (if j < i then j else i), s)
  | _, _ => none
def oTuple : OC
  | [.tup xs], s => some (.tup xs, s)
  | [.ref j], s => match s[j]? with
    | some (.lst xs) => some (.tup xs, s)
    | _ => none
  | _, _ => none
def oList : OC
  | [.tup xs], s => some (.ref s.length, s ++ [.lst xs])
  | [.ref j], s => match s[j]? with
    | some (.lst xs) => some (.ref s.length, s ++ [.lst xs])
    | some (.dic kvs) => some (.ref s.length, s ++ [.lst (kvs.map fun kv => keyVl kv.1)])
    | _ => none
  | _, _ => none
def lstOf (x : Vl) (s : Sto) : Option (List Vl) := match x with
  | .ref j => match s[j]? with
    | some (.lst xs) => some xs
    | _ => none
  | _ => none
def oSum : OC
  | [x], s => match lstOf x s with
    | some xs => (mapO asInt xs).map fun ns => (.int ns.sum, s)
    | none => none
  | _, _ => none
def oAll : OC
  | [x], s => match lstOf x s with
    | some xs => (mapO asBl xs).map fun ns => (.bl (ns.all id), s)
    | none => none
  | _, _ => none
def oAny : OC
  | [x], s => match lstOf x s with
    | some xs => (mapO asBl xs).map fun ns => (.bl (ns.any id), s)
    | none => none
  | _, _ => none
def oSorted : OC
  | [x], s => match lstOf x s with
    | some xs => (mapO asInt xs).map fun ns => (.ref s.length, s ++ [.lst ((srt ns).map Vl.int)])
    | none => none
  | _, _ => none
def oRepr : OC
  | [x], s => match toD 40 s x with
    | some d => if d.showable && decide (d.shown.length ≤ LIM) then some (.str d.shown, s) else none
    | none => none
  | _, _ => none
section
variable {X : Cx} {T : Tb}
theorem CallR.imp {f : Value} {r r' : List V → Hp → VK → Prop} (h : CallR X f r) (k : ∀ xs H Q, r' xs H Q → r xs H Q) : CallR X f r' := fun pins s σ H xs us Q I rs q => h pins s σ H xs us Q I rs (k xs H Q q)
theorem d_lenC {H : Hp} {a : Addr} {kvs : List (Key × V)} : ∀ (pins : List (Addr × Obj)) (s : Shared) (σ : St) (xs : List V) (us : List Value) (Q : VK), Inv X pins σ H s → Vals xs us → xs = [.ref a] → H a = some (.dK kvs) → Q (.int kvs.length) H →
    wpAny (model X.prog X.w) X.A (call (.builtin "len") us) (EP X pins σ Q) X.xe s := fun pins s σ xs us Q I r e h q => by
  subst e
  cases r with
  | cons r1 r2 =>
    cases r2
    obtain rfl := r1
    exact d_len I (.inl h) fun t s' I' => ⟨.int _, H, I', ⟨t, rfl⟩, q⟩
theorem c_len (hK : X.K = T.K := by rfl) : CallR X (.builtin "len") (rC T oLen) := fun pins s σ H xs us Q I rs q => by
  obtain ⟨ρ, st, as, w, s', r, ha, e, k⟩ := q
  unfold oLen at e
  split at e
  · rename_i x
    obtain ⟨z, rfl, hz⟩ := ha.one
    obtain ⟨n, hn, e⟩ := Option.map_eq_some_iff.mp e
    cases e
    have fin := k.here r (.int (n : Int))
    cases x with
    | tup ys =>
      obtain ⟨p, vs, rfl, h1, h2⟩ := hz.tupE
      cases hn
      rw [h2.length] at fin
      exact call_len_seq pins s σ H _ us Q I rs ⟨p, vs, rfl, .inr (by rw [hK]; exact h1), fin⟩
    | scr ns =>
      obtain ⟨p, rfl, h1⟩ := hz.scrE
      cases hn
      exact call_len_seq pins s σ H _ us Q I rs ⟨p, _, rfl, .inl (by rw [hK]; exact h1), by rw [List.length_map]; exact fin⟩
    | str t =>
      simp only [lenM] at hn
      split at hn
      · rename_i hl
        cases hn
        exact call_len pins s σ H _ us Q I rs ⟨_, _, rfl, by rw [hz.strE]; exact ⟨by rw [lim_eq]; exact hl, rfl⟩, fin⟩
      · cases hn
    | ref j =>
      obtain ⟨p, rfl, hp⟩ := hz.refE
      simp only [lenM] at hn
      split at hn
      · rename_i ys hx
        cases hn
        obtain ⟨vs, h1, h2⟩ := r.lst hx hp
        rw [h2.length] at fin
        exact call_len_seq pins s σ H _ us Q I rs ⟨p, vs, rfl, .inl (SqL.of h1), fin⟩
      · rename_i kvs hx
        cases hn
        obtain ⟨vs, h1, h2, h3⟩ := r.dic hx hp
        have : kvs.length = vs.length := by have := congrArg List.length h2; simpa using this.symm
        rw [this] at fin
        exact d_lenC pins s σ _ us Q I rs rfl h1 fin
      · cases hn
    | _ => cases hn
  · cases e
theorem c_abs : CallR X (.builtin "abs") (rC T oAbs) := CallR.imp call_abs fun xs H Q q => by
  obtain ⟨ρ, st, as, w, s', r, ha, e, k⟩ := q
  unfold oAbs at e
  split at e
  · obtain ⟨z, rfl, hz⟩ := ha.one
    cases e
    exact ⟨_, by rw [hz.intE], k.here r (.int _)⟩
  · cases e
theorem c_int : CallR X (.type "int") (rC T oInt) := CallR.imp call_int1 fun xs H Q q => by
  obtain ⟨ρ, st, as, w, s', r, ha, e, k⟩ := q
  unfold oInt at e
  split at e
  · obtain ⟨z, rfl, hz⟩ := ha.one
    cases e
    exact .inl ⟨_, by rw [hz.intE], k.here r (.int _)⟩
  · obtain ⟨z, rfl, hz⟩ := ha.one
    cases e
    exact .inr ⟨_, by rw [hz.blE], k.here r (.int _)⟩
  · cases e
theorem c_str : CallR X (.type "str") (rC T oStr) := CallR.imp call_str_int fun xs H Q q => by
  obtain ⟨ρ, st, as, w, s', r, ha, e, k⟩ := q
  unfold oStr at e
  split at e
  · split at e
    · rename_i hl
      obtain ⟨z, rfl, hz⟩ := ha.one
      cases e
      exact ⟨_, by rw [hz.intE], hl, k.here r (.str _)⟩
    · cases e
  · cases e
theorem c_max (hc : X.calm = true := by rfl) : CallR X (.builtin "max") (rC T oMax) := CallR.imp (call_max2 hc) fun xs H Q q => by
  obtain ⟨ρ, st, as, w, s', r, ha, e, k⟩ := q
  unfold oMax at e
  split at e
  · obtain ⟨z, z', rfl, hz, hz'⟩ := ha.two
    cases e
    exact ⟨_, _, by rw [hz.intE, hz'.intE], k.here r (.int _)⟩
  · cases e
theorem c_min (hc : X.calm = true := by rfl) : CallR X (.builtin "min") (rC T oMin) := CallR.imp (call_min2 hc) fun xs H Q q => by
  obtain ⟨ρ, st, as, w, s', r, ha, e, k⟩ := q
  unfold oMin at e
  split at e
  · obtain ⟨z, z', rfl, hz, hz'⟩ := ha.two
    cases e
    exact ⟨_, _, by rw [hz.intE, hz'.intE], k.here r (.int _)⟩
  · cases e
theorem c_tuple (hK : X.K = T.K := by rfl) : CallR X (.type "tuple") (rC T oTuple) := CallR.imp call_tuple_of fun xs H Q q => by
  obtain ⟨ρ, st, as, w, s', r, ha, e, k⟩ := q
  unfold oTuple at e
  split at e
  · obtain ⟨z, rfl, hz⟩ := ha.one
    cases e
    obtain ⟨p, vs, rfl, h1, h2⟩ := hz.tupE
    exact ⟨p, vs, rfl, .inr ⟨by rw [hK]; exact h1, k.here r (.tup h1 h2)⟩⟩
  · split at e
    · rename_i xs hx
      cases e
      obtain ⟨z, rfl, hz⟩ := ha.one
      obtain ⟨p, rfl, hp⟩ := hz.refE
      obtain ⟨vs, h1, h2⟩ := r.lst hx hp
      exact ⟨p, vs, rfl, .inl ⟨SqL.of h1, fun q hq => k.tup r h2 hq⟩⟩
    · cases e
  · cases e
theorem keys_ok {ρ : List Addr} {H : Hp} : ∀ {kvs : List (Key × Vl)} {vs : List (Key × V)}, vs.map (·.1) = kvs.map (·.1) → RVs T ρ H (kvs.map fun kv => keyVl kv.1) (vs.map fun kv => kV kv.1)
  | [], [], _ => .nil
  | [], _ :: _, e => by simp at e
  | _ :: _, [], e => by simp at e
  | p :: r, q :: t, e => by
    simp only [List.map_cons, List.cons.injEq] at e
    rw [List.map_cons, List.map_cons, e.1]
    exact .cons (keyVl_ok _) (keys_ok e.2)
theorem c_list (hc : X.calm = true := by rfl) (hK : X.K = T.K := by rfl) : CallR X (.type "list") (rC T oList) := fun pins s σ H xs us Q I rs q => by
  obtain ⟨ρ, st, as, w, s', r, ha, e, k⟩ := q
  unfold oList at e
  split at e
  · obtain ⟨z, rfl, hz⟩ := ha.one
    cases e
    obtain ⟨p, vs, rfl, h1, h2⟩ := hz.tupE
    exact call_list_of pins s σ H _ us Q I rs ⟨p, vs, rfl, .inr (by rw [hK]; exact h1), fun q hq => k.lst r h2 hq⟩
  · obtain ⟨z, rfl, hz⟩ := ha.one
    obtain ⟨p, rfl, hp⟩ := hz.refE
    split at e
    · rename_i xs hx
      cases e
      obtain ⟨vs, h1, h2⟩ := r.lst hx hp
      exact call_list_of pins s σ H _ us Q I rs ⟨p, vs, rfl, .inl (SqL.of h1), fun q hq => k.lst r h2 hq⟩
    · rename_i kvs hx
      cases e
      obtain ⟨vs, h1, h2, h3⟩ := r.dic hx hp
      exact call_list_dK hc pins s σ H _ us Q I rs ⟨p, vs, rfl, h1, fun q hq => k.lst r (keys_ok h2) hq⟩
    · cases e
  · cases e
theorem lstOf_ok {ρ : List Addr} {H : Hp} {s : Sto} {x : Vl} {z : V} {xs : List Vl} (r : Rel T ρ H s) (hz : RV T ρ H x z) (e : lstOf x s = some xs) : ∃ p vs, z = .ref p ∧ H p = some (.lst vs) ∧ RVs T ρ H xs vs := by
  unfold lstOf at e
  split at e
  · split at e
    · rename_i ys hx
      cases e
      obtain ⟨p, rfl, hp⟩ := hz.refE
      obtain ⟨vs, h1, h2⟩ := r.lst hx hp
      exact ⟨p, vs, rfl, h1, h2⟩
    · cases e
  · cases e
theorem c_sum (hc : X.calm = true := by rfl) : CallR X (.builtin "sum") (rC T oSum) := CallR.imp (cr_sum hc) fun xs H Q q => by
  obtain ⟨ρ, st, as, w, s', r, ha, e, k⟩ := q
  unfold oSum at e
  split at e
  · split at e
    · rename_i x xs hx
      obtain ⟨z, rfl, hz⟩ := ha.one
      obtain ⟨ns, hn, e⟩ := Option.map_eq_some_iff.mp e
      cases e
      obtain ⟨p, vs, rfl, h1, h2⟩ := lstOf_ok r hz hx
      rw [asInts_ok h2 hn] at h1
      exact ⟨p, ns, rfl, SqL.of h1, k.here r (.int _)⟩
    · cases e
  · cases e
theorem c_all (hc : X.calm = true := by rfl) : CallR X (.builtin "all") (rC T oAll) := CallR.imp (cr_all hc) fun xs H Q q => by
  obtain ⟨ρ, st, as, w, s', r, ha, e, k⟩ := q
  unfold oAll at e
  split at e
  · split at e
    · rename_i x xs hx
      obtain ⟨z, rfl, hz⟩ := ha.one
      obtain ⟨ns, hn, e⟩ := Option.map_eq_some_iff.mp e
      cases e
      obtain ⟨p, vs, rfl, h1, h2⟩ := lstOf_ok r hz hx
      rw [asBls_ok h2 hn] at h1
      exact ⟨p, ns, rfl, SqL.of h1, k.here r (.bl _)⟩
    · cases e
  · cases e
theorem c_any (hc : X.calm = true := by rfl) : CallR X (.builtin "any") (rC T oAny) := CallR.imp (cr_any hc) fun xs H Q q => by
  obtain ⟨ρ, st, as, w, s', r, ha, e, k⟩ := q
  unfold oAny at e
  split at e
  · split at e
    · rename_i x xs hx
      obtain ⟨z, rfl, hz⟩ := ha.one
      obtain ⟨ns, hn, e⟩ := Option.map_eq_some_iff.mp e
      cases e
      obtain ⟨p, vs, rfl, h1, h2⟩ := lstOf_ok r hz hx
      rw [asBls_ok h2 hn] at h1
      exact ⟨p, ns, rfl, SqL.of h1, k.here r (.bl _)⟩
    · cases e
  · cases e
theorem c_sorted : CallR X (.builtin "sorted") (rC T oSorted) := CallR.imp cr_sortedI fun xs H Q q => by
  obtain ⟨ρ, st, as, w, s', r, ha, e, k⟩ := q
  unfold oSorted at e
  split at e
  · split at e
    · rename_i x xs hx
      obtain ⟨z, rfl, hz⟩ := ha.one
      obtain ⟨ns, hn, e⟩ := Option.map_eq_some_iff.mp e
      cases e
      obtain ⟨p, vs, rfl, h1, h2⟩ := lstOf_ok r hz hx
      rw [asInts_ok h2 hn] at h1
      refine ⟨p, ns, rfl, SqL.of h1, fun ns' q hp hs hq => ?_⟩
      rw [srt_eq hp hs]
      exact k.lst r (RVs.ints _) hq
    · cases e
  · cases e
/-- repr of data -/
theorem dp_noDict {K : PySem.W.Frag} {H : Hp} : ∀ (d : PyData) (v : V), Dp K H v d → d.hasDict = false
  | .none, _, _ => by simp only [PyData.hasDict]
  | .bool _, _, _ => by simp only [PyData.hasDict]
  | .int _, _, _ => by simp only [PyData.hasDict]
  | .str _, _, _ => by simp only [PyData.hasDict]
  | .list ds, _, .lst _ h => by
    simp only [PyData.hasDict]
    exact go ds _ h
  | .tuple ds, _, .tup _ h => by
    simp only [PyData.hasDict]
    exact go ds _ h
where
  go {K : PySem.W.Frag} {H : Hp} : ∀ (ds : List PyData) (vs : List V), DpAll K H vs ds → PyData.hasDictAll ds = false
  | [], _, _ => by simp only [PyData.hasDictAll]
  | d :: ds, _, .cons h hs => by
    simp only [PyData.hasDictAll]
    rw [dp_noDict d _ h, go ds _ hs]
    rfl
theorem c_repr (hg : X.A.guards = some []) (hu : X.A.units + 64 < cLine) (hK : X.K = T.K := by rfl) : CallR X (.builtin "repr") (rC T oRepr) := fun pins s σ H xs us Q I rs q => by
  obtain ⟨ρ, st, as, w, s', r, ha, e, k⟩ := q
  unfold oRepr at e
  split at e
  · rename_i x
    split at e
    · rename_i d hd
      split at e
      · rename_i hb
        cases e
        obtain ⟨hs, hl⟩ := Bool.and_eq_true_iff.mp hb
        have hl := of_decide_eq_true hl
        obtain ⟨z, rfl, hz⟩ := ha.one
        obtain ⟨p1, p2⟩ := toD_dp r 40 x z d hz hd
        have nd := dp_noDict d z p1
        have fin := k.here r (.str d.shown)
        cases rs with
        | cons r1 r2 =>
          cases r2
          rename_i u
          rw [← hK] at p1
          obtain ⟨bs, rd⟩ := Dp.reads I d z u p1 r1
          cases p1 with
          | non =>
            obtain rfl := r1
            simp only [PyData.shown] at fin
            exact PySem.P.repr_of_none ⟨.str _, H, I.tok _, ⟨_, rfl⟩, fin⟩
          | bl b =>
            obtain rfl := r1
            simp only [PyData.shown] at fin
            refine PySem.P.repr_of_bool ⟨.str _, H, I.tok _, ⟨_, rfl⟩, fin⟩
          | int i =>
            obtain ⟨t, rfl⟩ := r1
            simp only [PyData.shown] at fin
            simp only [PyData.showable] at hs
            exact PySem.P.repr_of_int (of_decide_eq_true hs) ⟨.str _, H, I.tok _, ⟨_, rfl⟩, fin⟩
          | str y =>
            obtain ⟨t, rfl⟩ := r1
            simp only [PyData.shown] at fin hl
            exact PySem.P.repr_of_str ⟨.str _, H, I.tok _, ⟨_, rfl⟩, fin⟩ (by rw [lim_eq]; exact hl)
          | lst g1 g2 =>
            obtain rfl := r1
            exact repr_of_reads' rd hs (fun z => by rw [nd] at z; cases z) hg (by omega) (fun _ _ e => e) (fun h' u tk hk => ⟨.str _, H, I.kept (t' := tk) hk, ⟨_, rfl⟩, fin⟩) (by rw [lim_eq]; exact hl)
          | tup g1 g2 =>
            obtain rfl := r1
            exact repr_of_reads' rd hs (fun z => by rw [nd] at z; cases z) hg (by omega) (fun _ _ e => e) (fun h' u tk hk => ⟨.str _, H, I.kept (t' := tk) hk, ⟨_, rfl⟩, fin⟩) (by rw [lim_eq]; exact hl)
      · cases e
    · cases e
  · cases e
end
/-! ### methods of built-in types -/
inductive Kd where
  | list | dict | str
def kd (k : Kd) (x : Vl) (s : Sto) : Bool := match k, x with
  | .str, .str _ => true
  | .list, .ref j => match s[j]? with
    | some (.lst _) => true
    | _ => false
  | .dict, .ref j => match s[j]? with
    | some (.dic _) => true
    | _ => false
  | _, _ => false
def Kd.nm : Kd → String
  | .list => "list"
  | .dict => "dict"
  | .str => "str"
def eBm (t : Kd) (f : OMt) (o : EM) (a : AM) : EM := fun lo => bnd (o lo) fun x s => match kd t x s with
  | true => bnd (a lo) (fun xs => lift (f x xs)) s
  | false => .fail
def eBm0 (t : Kd) (f : OMt) (o : EM) : EM := fun lo => bnd (o lo) fun x s => match kd t x s with
  | true => lift (f x []) s
  | false => .fail
def oAppend : OMt
  | .ref j, [v], s => match s[j]? with
    | some (.lst xs) => if xs.length < LIM then some (.non, s.set j (.lst (xs ++ [v]))) else none
    | _ => none
  | _, _, _ => none
def oExtend : OMt
  | .ref j, [.ref i], s => match s[j]?, s[i]? with
    | some (.lst xs), some (.lst ys) => if xs.length + ys.length ≤ LIM then some (.non, s.set j (.lst (xs ++ ys))) else none
    | _, _ => none
  | _, _, _ => none
def oPop : OMt
  | .ref j, [], s => match s[j]? with
    | some (.lst xs) => match xs[xs.length - 1]? with
      | some v => some (v, s.set j (.lst xs.dropLast))
      | none => none
    | _ => none
  | _, _, _ => none
section
variable {X : Cx} {T : Tb} {W : WX} {o e : Expr} {es : List Expr} {mo : EM} {ma : AM} {name : Str} {apos cpos : Pos} {id : String} {f : OMt} {t : Kd}
theorem kd_ok {ρ : List Addr} {H : Hp} {s : Sto} {x : Vl} {z : V} (r : Rel T ρ H s) (hz : RV T ρ H x z) (h : kd t x s = true) : tyV X.K t.nm z H := by
  cases t <;> cases x <;> simp only [kd] at h <;> try cases h
  · split at h
    · rename_i hx
      obtain ⟨p, rfl, hp⟩ := hz.refE
      obtain ⟨vs, h1, h2⟩ := r.lst hx hp
      exact .inl ⟨rfl, vs, SqL.of h1⟩
    · cases h
  · split at h
    · rename_i hx
      obtain ⟨p, rfl, hp⟩ := hz.refE
      obtain ⟨vs, h1, h2⟩ := r.dic hx hp
      exact .inr (.inr (.inl ⟨rfl, .inl ⟨vs, h1⟩⟩))
    · cases h
  · rw [hz.strE]; exact rfl
theorem ce_bm (pa : PlainAttrs t.nm) (slot : Slot t.nm name id) (hty : typeOf (.builtin id) = pure (.type "method_descriptor")) (hm : MtR X id (rMt T f)) (ho : PE X o (tE T W mo)) (ha : PA X (e :: es) (tA T W ma))
    (hbase : attributeBase o name X.env (eval o X.env) = eval o X.env := by rfl)
    (hfew : ((backTo cpos (starEach (e :: es) X.env)).all (fun x => !x.1) && (backToKw cpos (keywordEach [] X.env)).all (fun x => x.1.isSome)
      && decide ((e :: es).length + ([] : List Keyword).length + (if ([] : List Keyword).isEmpty then 0 else 1) < 30)) = true := by rfl)
    (hline : (apos.endLine == cpos.line) = true := by rfl) (hs : starEach (e :: es) X.env = (false, eval e X.env) :: starEach es X.env := by rfl) (hplain : (backTo cpos (starEach es X.env)).any (·.1) = false := by rfl) :
    PE X (.Call (.Attribute o name apos) (e :: es) [] cpos) (tE T W (eBm t f mo ma)) :=
  pe_mono (pe_bm pa slot hty hm ho ha hbase hfew hline hs hplain) fun σ H Q h => tG_bnd (R := RV T) h fun ρ s lo x z H1 r rl hx p => by
    cases hk : kd t x s with
    | false => simp only [hk] at p; exact p.elim
    | true =>
      simp only [hk] at p
      refine ⟨kd_ok r hx hk, po_bnd (R := RVs T) (m := ma) r rl p fun ρ' s' xs zs H' ext r' rl' hxs p' => ?_⟩
      obtain ⟨v, s3, e, k⟩ := po_lift p'
      exact ⟨ρ', s', x, xs, v, s3, r', hx.mono ext, hxs, e, k⟩
theorem ce_bm0 (pa : PlainAttrs t.nm) (slot : Slot t.nm name id) (hty : typeOf (.builtin id) = pure (.type "method_descriptor")) (hm : MtR X id (rMt T f)) (ho : PE X o (tE T W mo))
    (hbase : attributeBase o name X.env (eval o X.env) = eval o X.env := by rfl) (hline : (apos.endLine == cpos.line) = true := by rfl) : PE X (.Call (.Attribute o name apos) [] [] cpos) (tE T W (eBm0 t f mo)) :=
  pe_mono (pe_bm0 pa slot hty hm ho hbase hline) fun σ H Q h => tG_bnd (R := RV T) h fun ρ s lo x z H1 r rl hx p => by
    cases hk : kd t x s with
    | false => simp only [hk] at p; exact p.elim
    | true =>
      simp only [hk] at p
      obtain ⟨v, s3, e, k⟩ := po_lift p
      exact ⟨kd_ok r hx hk, ρ, s, x, [], v, s3, r, hx, .nil, e, k⟩
theorem MtR.imp {r r' : V → List V → Hp → VK → Prop} (h : MtR X id r) (k : ∀ x xs H Q, r' x xs H Q → r x xs H Q) : MtR X id r' := fun pins s σ H x xs v us Q I rx rs q => h pins s σ H x xs v us Q I rx rs (k x xs H Q q)
theorem m_append : MtR X "list.append" (rMt T oAppend) := MtR.imp mt_append fun x xs H Q q => by
  obtain ⟨ρ, st, a, as, w, s', r, ha, hs, e, k⟩ := q
  unfold oAppend at e
  split at e
  · split at e
    · rename_i v s j ys hx
      split at e
      · rename_i hl
        cases e
        obtain ⟨p, rfl, hp⟩ := ha.refE
        obtain ⟨z, rfl, hz⟩ := hs.one
        obtain ⟨vs, h1, h2⟩ := r.lst hx hp
        refine ⟨p, vs, z, rfl, rfl, h1, by rw [← h2.length, lim_eq]; exact hl, ?_⟩
        exact k.set r hp h1 (fun z => z) ⟨_, upd_same, (h2.append (.cons hz .nil)).mono (r.setExt hp h1)⟩ .non
      · cases e
    · cases e
  · cases e
theorem m_extend : MtR X "list.extend" (rMt T oExtend) := MtR.imp mt_extend fun x xs H Q q => by
  obtain ⟨ρ, st, a, as, w, s', r, ha, hs, e, k⟩ := q
  unfold oExtend at e
  split at e
  · split at e
    · rename_i ys zs hx hy
      split at e
      · rename_i hl
        cases e
        obtain ⟨p, rfl, hp⟩ := ha.refE
        obtain ⟨z, rfl, hz⟩ := hs.one
        obtain ⟨q, rfl, hq⟩ := hz.refE
        obtain ⟨vs, h1, h2⟩ := r.lst hx hp
        obtain ⟨us, h3, h4⟩ := r.lst hy hq
        refine ⟨p, q, vs, us, rfl, rfl, h1, h3, by rw [← h2.length, ← h4.length, lim_eq]; exact hl, ?_⟩
        exact k.set r hp h1 (fun z => z) ⟨_, upd_same, (h2.append h4).mono (r.setExt hp h1)⟩ .non
      · cases e
    · cases e
  · cases e
theorem RVs.dropLast {ρ : List Addr} {H : Hp} {xs : List Vl} {vs : List V} (h : RVs T ρ H xs vs) : RVs T ρ H xs.dropLast vs.dropLast := by
  rw [List.dropLast_eq_take, List.dropLast_eq_take, h.length]
  exact h.take _
theorem m_pop : MtR X "list.pop" (rMt T oPop) := MtR.imp mt_pop fun x xs H Q q => by
  obtain ⟨ρ, st, a, as, w, s', r, ha, hs, e, k⟩ := q
  unfold oPop at e
  split at e
  · split at e
    · rename_i ys hx
      split at e
      · rename_i v hv
        cases e
        obtain ⟨p, rfl, hp⟩ := ha.refE
        rw [hs.zero]
        obtain ⟨vs, h1, h2⟩ := r.lst hx hp
        obtain ⟨z, hz, rz⟩ := h2.get hv
        refine ⟨p, vs, z, rfl, rfl, h1, by rw [← h2.length]; exact hz, ?_⟩
        exact k.set r hp h1 (fun z => z) ⟨_, upd_same, h2.dropLast.mono (r.setExt hp h1)⟩ rz
      · cases e
    · cases e
  · cases e
end
end Sm

/-! S5: statements -/
namespace Sm
open PySem L2

inductive RS where
  | nx (lo : Lo) (s : Sto) | rt (v : Vl) (s : Sto) | bk (lo : Lo) (s : Sto) | ct (lo : Lo) (s : Sto) | exc (e : Ex) (lo : Lo) (s : Sto) | fail
abbrev SM := Lo → Sto → RS
def bndS {α : Type} (m : Lo → M α) (f : Lo → α → Sto → RS) : SM := fun lo s => match m lo s with
  | .ok a s' => f lo a s'
  | .exc e s' => .exc e lo s'
  | .fail => .fail
def sNil : SM := fun lo s => .nx lo s
def sSeq (a b : SM) : SM := fun lo s => match a lo s with
  | .nx lo' s' => b lo' s'
  | .rt v s' => .rt v s'
  | .bk lo' s' => .bk lo' s'
  | .ct lo' s' => .ct lo' s'
  | .exc e lo' s' => .exc e lo' s'
  | .fail => .fail
def sExpr (e : EM) : SM := bndS e fun lo _ s => .nx lo s
def sRet (e : EM) : SM := bndS e fun _ v s => .rt v s
def sRetN : SM := fun _ s => .rt .non s
def sSet (i : Nat) (e : EM) : SM := bndS e fun lo v s => .nx (lo.set i (some v)) s
def sIf (t : TM) (a b : SM) : SM := bndS t fun lo c s => match c with
  | true => a lo s
  | false => b lo s
def sBreak : SM := fun lo s => .bk lo s
def sCont : SM := fun lo s => .ct lo s
/-- a, b = e1, e2 and three -/
def sPar (i j : Nat) (a : AM) : SM := bndS a fun lo vs s => match vs with
  | [v, w] => .nx ((lo.set i (some v)).set j (some w)) s
  | _ => .fail
def sPar3 (i j l : Nat) (a : AM) : SM := bndS a fun lo vs s => match vs with
  | [v, w, x] => .nx (((lo.set i (some v)).set j (some w)).set l (some x)) s
  | _ => .fail

/-- what is asked behind a statement -/
def PoXS (T : Tb) (W : WX) (ρ : List Addr) (H : Hp) (e : Ex) (lo : Lo) (s : Sto) : Prop :=
  ∀ (ρ' : List Addr) (H' : Hp) (σ' : St) (C : Addr), Ext T ρ H ρ' H' → Rel T ρ' H' s → RL T ρ' H' lo σ' → T.cl[e.c]? = some C →
    match e.fs with
    | none => W (.ref C) none σ' H'
    | some fs => ∀ (d : Addr) (vs : List (Str × V)), H' d = some (.xd vs) → vs.map (·.1) = fs.map (·.1) → RVs T ρ' H' (fs.map (·.2)) (vs.map (·.2)) → W (.ref C) (some d) σ' H'
def PoN (T : Tb) (ρ : List Addr) (H : Hp) (lo : Lo) (s : Sto) (Q : St → Hp → Prop) : Prop := ∀ (ρ' : List Addr) (H' : Hp) (σ' : St), Ext T ρ H ρ' H' → Rel T ρ' H' s → RL T ρ' H' lo σ' → Q σ' H'
def PoS (T : Tb) (W : WX) (ρ : List Addr) (H : Hp) (r : RS) (D : Ends) : Prop := match r with
  | .nx lo s => PoN T ρ H lo s D.nx
  | .rt v s => ∀ (ρ' : List Addr) (H' : Hp) (z : V), Ext T ρ H ρ' H' → Rel T ρ' H' s → RV T ρ' H' v z → D.rt z H'
  | .bk lo s => PoN T ρ H lo s D.bk
  | .ct lo s => PoN T ρ H lo s D.ct
  | .exc e lo s => PoXS T W ρ H e lo s
  | .fail => False
theorem PoN.mono {T : Tb} {ρ ρ' : List Addr} {H H' : Hp} {lo : Lo} {s : Sto} {Q : St → Hp → Prop} (p : PoN T ρ H lo s Q) (e : Ext T ρ H ρ' H') : PoN T ρ' H' lo s Q := fun ρ2 H2 σ2 e2 => p ρ2 H2 σ2 (e.trans e2)
theorem PoS.mono {T : Tb} {W : WX} {ρ ρ' : List Addr} {H H' : Hp} {r : RS} {D : Ends} (p : PoS T W ρ H r D) (e : Ext T ρ H ρ' H') : PoS T W ρ' H' r D := by
  cases r with
  | nx lo s => exact PoN.mono (lo := lo) p e
  | rt v s => exact fun ρ2 H2 z e2 => p ρ2 H2 z (e.trans e2)
  | bk lo s => exact PoN.mono (lo := lo) p e
  | ct lo s => exact PoN.mono (lo := lo) p e
  | exc x lo s => exact fun ρ2 H2 σ2 C e2 => p ρ2 H2 σ2 C (e.trans e2)
  | fail => exact p
def tS (T : Tb) (W : WX) (m : SM) : TS := fun D σ H => ∃ (ρ : List Addr) (s : Sto) (lo : Lo), Rel T ρ H s ∧ RL T ρ H lo σ ∧ PoS T W ρ H (m lo s) D
theorem ps_mono {X : Cx} {e : Stmt} {t t' : TS} (h : PS X e t) (k : ∀ D σ H, t' D σ H → t D σ H) : PS X e t' := ⟨fun pins s σ H D I q => h.run pins s σ H D I (k D σ H q)⟩
theorem pss_mono {X : Cx} {e : List Stmt} {t t' : TS} (h : PSs X e t) (k : ∀ D σ H, t' D σ H → t D σ H) : PSs X e t' := ⟨fun pins s σ H D I q => h.run pins s σ H D I (k D σ H q)⟩
/-- a part of a statement, then the rest -/
theorem poS_bnd {α β : Type} {R : List Addr → Hp → α → β → Prop} {T : Tb} {W : WX} {m : Lo → M α} {f : Lo → α → Sto → RS} {ρ : List Addr} {s : Sto} {lo : Lo} {σ : St} {H : Hp} {D : Ends} {Q' : β → Hp → Prop}
    (r : Rel T ρ H s) (rl : RL T ρ H lo σ) (p : PoS T W ρ H (bndS m f lo s) D)
    (k : ∀ (ρ' : List Addr) (s' : Sto) (a : α) (b : β) (H' : Hp), Ext T ρ H ρ' H' → Rel T ρ' H' s' → RL T ρ' H' lo σ → R ρ' H' a b → PoS T W ρ' H' (f lo a s') D → Q' b H') : tG R T W m σ H Q' := by
  refine ⟨ρ, s, lo, r, rl, ?_⟩
  unfold bndS at p
  cases e : m lo s with
  | ok a s1 =>
    rw [e] at p
    exact fun ρ' H' b x r' hb => k ρ' s1 a b H' x r' (rl.mono x) hb (p.mono x)
  | exc z s1 =>
    rw [e] at p
    exact fun ρ' H' C x r' hC => p ρ' H' σ C x r' (rl.mono x) hC
  | fail => rw [e] at p; exact p
theorem tS_bnd {α β : Type} {R : List Addr → Hp → α → β → Prop} {T : Tb} {W : WX} {m : Lo → M α} {f : Lo → α → Sto → RS} {σ : St} {H : Hp} {D : Ends} {Q' : β → Hp → Prop} (h : tS T W (bndS m f) D σ H)
    (k : ∀ (ρ : List Addr) (s : Sto) (lo : Lo) (a : α) (b : β) (H' : Hp), Rel T ρ H' s → RL T ρ H' lo σ → R ρ H' a b → PoS T W ρ H' (f lo a s) D → Q' b H') : tG R T W m σ H Q' := by
  obtain ⟨ρ, s, lo, r, rl, p⟩ := h
  exact poS_bnd r rl p fun ρ' s' a b H' _ r' rl' hb p' => k ρ' s' lo a b H' r' rl' hb p'
section
variable {X : Cx} {T : Tb} {W : WX} {e c : Expr} {st : Stmt} {rest a b : List Stmt} {me : EM} {mt : TM} {ms mr ma mb : SM} {pos : Pos}
theorem cs_nil : PSs X [] (tS T W sNil) := pss_mono pss_nil fun D σ H h => by
  obtain ⟨ρ, s, lo, r, rl, p⟩ := h
  exact p ρ H σ .refl r rl
theorem cs_cons (h1 : PS X st (tS T W ms)) (h2 : PSs X rest (tS T W mr)) : PSs X (st :: rest) (tS T W (sSeq ms mr)) := pss_mono (pss_cons h1 h2) fun D σ H h => by
  obtain ⟨ρ, s, lo, r, rl, p⟩ := h
  refine ⟨ρ, s, lo, r, rl, ?_⟩
  unfold sSeq at p
  cases e : ms lo s with
  | nx lo' s' =>
    rw [e] at p
    exact fun ρ' H' σ' x r' rl' => ⟨ρ', s', lo', r', rl', p.mono x⟩
  | rt v s' => rw [e] at p; exact p
  | bk lo' s' => rw [e] at p; exact p
  | ct lo' s' => rw [e] at p; exact p
  | exc z lo' s' => rw [e] at p; exact p
  | fail => rw [e] at p; exact p
theorem cs_one (h1 : PS X st (tS T W ms)) : PSs X [st] (tS T W ms) := pss_one h1
theorem cs_expr (he : PE X e (tE T W me)) (hs : swapsWith e none pos.line X.env = pure false := by rfl) : PS X (.Expr e pos) (tS T W (sExpr me)) := ps_mono (ps_expr he hs) fun D σ H h =>
  tS_bnd (R := RV T) h fun ρ s lo x z H' r rl hx p => p ρ H' σ .refl r rl
theorem cs_ret (he : PE X e (tE T W me)) : PS X (.Return (some e) pos) (tS T W (sRet me)) := ps_mono (ps_ret he) fun D σ H h =>
  tS_bnd (R := RV T) h fun ρ s lo x z H' r rl hx p => p ρ H' z .refl r hx
theorem cs_retN : PS X (.Return none pos) (tS T W sRetN) := ps_mono ps_retN fun D σ H h => by
  obtain ⟨ρ, s, lo, r, rl, p⟩ := h
  exact p ρ H .non .refl r .non
theorem cs_pass : PS X (.Pass pos) (tS T W sNil) := ps_mono ps_pass fun D σ H h => by
  obtain ⟨ρ, s, lo, r, rl, p⟩ := h
  exact p ρ H σ .refl r rl
theorem cs_break : PS X (.Break pos) (tS T W sBreak) := ps_mono ps_break fun D σ H h => by
  obtain ⟨ρ, s, lo, r, rl, p⟩ := h
  exact p ρ H σ .refl r rl
theorem cs_continue : PS X (.Continue pos) (tS T W sCont) := ps_mono ps_continue fun D σ H h => by
  obtain ⟨ρ, s, lo, r, rl, p⟩ := h
  exact p ρ H σ .refl r rl
theorem cs_if (hc : PT X c (tT T W mt)) (ha : PSs X a (tS T W ma)) (hb : PSs X b (tS T W mb)) : PS X (.If c a b pos) (tS T W (sIf mt ma mb)) := ps_mono (ps_if hc ha hb) fun D σ H h =>
  tS_bnd (R := RB) h fun ρ s lo x z H' r rl hx p => by
    cases hx
    cases x with
    | true => exact ⟨ρ, s, lo, r, rl, p⟩
    | false => exact ⟨ρ, s, lo, r, rl, p⟩
theorem tasg_le {i : Nat} {D : Ends} {σ : St} {H : Hp} (h : tS T W (sSet i me) D σ H) : tAsg (tE T W me) (gName i) D σ H :=
  tS_bnd (R := RV T) h fun ρ s lo x z H' r rl hx p => p ρ H' _ .refl r (rl.set i hx)
theorem cs_set {i : Nat} {x : Str} {pos' : Pos} (hN : X.N.Nodup) (hi : X.N[i]? = some x) (hx : Loc X.env.scope x) (he : PE X e (tE T W me)) (hs : swapsWith e (some (.Name x pos')) pos.line X.env = pure false := by rfl) (hf : X.fn x = true ∨ X.env.scope.names.lookup x = some .local := by first | exact .inl rfl | exact .inr rfl | assumption) :
    PS X (.Assign [.Name x pos'] e pos) (tS T W (sSet i me)) := ps_mono (ps_set hN hi hx he hs hf) fun D σ H h => tasg_le h
theorem cs_par {i j : Nat} {x y : Str} {a b : Expr} {ma : AM} {px py pt : Pos} {kt k2 pt2} (hc : X.calm = true) (hN : X.N.Nodup) (hi : X.N[i]? = some x) (hj : X.N[j]? = some y) (hij : i ≠ j)
    (hx : X.env.scope.names.lookup x = some .local) (hy : X.env.scope.names.lookup y = some .local) (ha : PA X [a, b] (tA T W ma))
    (hw : swappedStores [.Tuple [.Name x px, .Name y py] kt pt] (.Tuple [a, b] k2 pt2) X.env = pure (some [x, y]))
    (hs : swapsWithSole [.Tuple [.Name x px, .Name y py] kt pt] (.Tuple [a, b] k2 pt2) pos.line X.env = pure false := by rfl) :
    PS X (.Assign [.Tuple [.Name x px, .Name y py] kt pt] (.Tuple [a, b] k2 pt2) pos) (tS T W (sPar i j ma)) := ps_mono (ps_par hc hN hi hj hij hx hy ha hw hs) fun D σ H h =>
  tS_bnd (R := RVs T) h fun ρ s lo vs zs H' r rl hx p => by
    cases hx with
    | nil => exact p.elim
    | cons h1 h2 =>
      cases h2 with
      | nil => exact p.elim
      | cons h2 h3 =>
        cases h3 with
        | nil => exact ⟨_, _, rfl, p ρ H' _ .refl r ((rl.set i h1).set j h2)⟩
        | cons h3 h4 => exact p.elim
theorem cs_par3 {i j l : Nat} {x y z : Str} {a b c : Expr} {ma : AM} {px py pz pt : Pos} {kt k2 pt2} (hc : X.calm = true) (hN : X.N.Nodup) (hi : X.N[i]? = some x) (hj : X.N[j]? = some y) (hl : X.N[l]? = some z) (hij : i ≠ j) (hil : i ≠ l) (hjl : j ≠ l)
    (hx : X.env.scope.names.lookup x = some .local) (hy : X.env.scope.names.lookup y = some .local) (hz : X.env.scope.names.lookup z = some .local) (ha : PA X [a, b, c] (tA T W ma))
    (hw : swappedStores [.Tuple [.Name x px, .Name y py, .Name z pz] kt pt] (.Tuple [a, b, c] k2 pt2) X.env = pure (some [x, y, z]))
    (hs : swapsWithSole [.Tuple [.Name x px, .Name y py, .Name z pz] kt pt] (.Tuple [a, b, c] k2 pt2) pos.line X.env = pure false := by rfl) :
    PS X (.Assign [.Tuple [.Name x px, .Name y py, .Name z pz] kt pt] (.Tuple [a, b, c] k2 pt2) pos) (tS T W (sPar3 i j l ma)) := ps_mono (ps_par3 hc hN hi hj hl hij hil hjl hx hy hz ha hw hs) fun D σ H h =>
  tS_bnd (R := RVs T) h fun ρ s lo vs zs H' r rl hx p => by
    cases hx with
    | nil => exact p.elim
    | cons h1 h2 =>
      cases h2 with
      | nil => exact p.elim
      | cons h2 h3 =>
        cases h3 with
        | nil => exact p.elim
        | cons h3 h4 =>
          cases h4 with
          | nil => exact ⟨_, _, _, rfl, p ρ H' _ .refl r (((rl.set i h1).set j h2).set l h3)⟩
          | cons h4 h5 => exact p.elim
end

/-! ### targets -/
abbrev GM := Vl → Lo → M Lo
def gNm (i : Nat) : GM := fun v lo s => .ok (lo.set i (some v)) s
abbrev OSet := Vl → Vl → Vl → Sto → Option Sto
def liftU (f : Sto → Option Sto) (lo : Lo) : M Lo := fun s => match f s with
  | some s' => .ok lo s'
  | none => .fail
def gSb (f : OSet) (o i : EM) : GM := fun v lo => bnd (o lo) fun x => bnd (i lo) fun y => liftU (f x y v) lo
def gNms (js : List Nat) (vs : List Vl) (lo : Lo) : Option Lo := match js, vs with
  | [], [] => some lo
  | j :: js, v :: vs => gNms js vs (lo.set j (some v))
  | _, _ => none
/-- names in brackets -/
def gTp (js : List Nat) : GM := fun v lo s => match v with
  | .tup xs => match gNms js xs lo with
    | some lo' => .ok lo' s
    | none => .fail
  | _ => .fail
/-- the readings of targets -/
abbrev RLo (T : Tb) : List Addr → Hp → Lo → St → Prop := fun ρ H lo σ => RL T ρ H lo σ
def tGt (T : Tb) (W : WX) (g : GM) : TG := fun z σ H Q => ∃ (ρ : List Addr) (s : Sto) (lo : Lo) (v : Vl), Rel T ρ H s ∧ RL T ρ H lo σ ∧ RV T ρ H v z ∧ Po (RLo T) T (fun c d H' => W c d σ H') ρ H (g v lo s) Q
def sAsg (g : GM) (e : EM) : SM := bndS e fun lo v s => match g v lo s with
  | .ok lo' s' => .nx lo' s'
  | .exc x s' => .exc x lo s'
  | .fail => .fail
theorem pg_mono {X : Cx} {e : Expr} {t t' : TG} (h : PG X e t) (k : ∀ v σ H Q, t' v σ H Q → t v σ H Q) : PG X e t' := ⟨fun pins s σ H v u Q I r q => h.run pins s σ H v u Q I r (k v σ H Q q)⟩
def opSet : OSet
  | .ref j, y, v, s => match s[j]? with
    | some (.lst xs) => match y with
      | .int i => match ixN xs.length i with
        | some n => some (s.set j (.lst (xs.set n v)))
        | none => none
      | _ => none
    | some (.dic kvs) => match keyOf y with
      | some k => if kvs.length < LIM then some (s.set j (.dic (put kvs k v))) else none
      | none => none
    | _ => none
  | _, _, _, _ => none
def rSt (T : Tb) (f : OSet) : TSet := fun o i v H Q => ∃ ρ s a b c s', Rel T ρ H s ∧ RV T ρ H a o ∧ RV T ρ H b i ∧ RV T ρ H c v ∧ f a b c s = some s' ∧ ∀ (ρ' : List Addr) (H' : Hp), Ext T ρ H ρ' H' → Rel T ρ' H' s' → Q H'
section
variable {X : Cx} {T : Tb} {W : WX} {o i e tg : Expr} {mo mi me : EM} {g : GM} {f : OSet} {pos : Pos}
theorem cg_name {n : Nat} {x : Str} (hN : X.N.Nodup) (hi : X.N[n]? = some x) (hx : Loc X.env.scope x) (hf : X.fn x = true ∨ X.env.scope.names.lookup x = some .local := by first | exact .inl rfl | exact .inr rfl | assumption) : PG X (.Name x pos) (tGt T W (gNm n)) :=
  pg_mono (pg_name hN hi hx hf) fun v σ H Q h => by
    obtain ⟨ρ, s, lo, x, r, rl, hx, p⟩ := h
    exact p ρ H _ .refl r (rl.set n hx)
theorem cg_sub (ho : PE X o (tE T W mo)) (hi : PE X i (tE T W mi)) (hs : PSet X (rSt T f)) (k : PG X (.Subscript o i pos) (gSub (tE T W mo) (tE T W mi) (rSt T f))) : PG X (.Subscript o i pos) (tGt T W (gSb f mo mi)) :=
  pg_mono k fun v σ H Q h => by
    obtain ⟨ρ, s, lo, x, r, rl, hx, p⟩ := h
    refine po_bnd (R := RV T) (m := mo) r rl p fun ρ1 s1 a z H1 ext1 r1 rl1 ha p1 => po_bnd (R := RV T) (m := mi) r1 rl1 p1 fun ρ2 s2 b y H2 ext2 r2 rl2 hb p2 => ?_
    unfold liftU at p2
    cases e : f a b x s2 with
    | none => rw [e] at p2; exact p2.elim
    | some s3 =>
      rw [e] at p2
      exact ⟨ρ2, s2, a, b, x, s3, r2, ha.mono ext2, hb, hx.mono (ext1.trans ext2), e, fun ρ3 H3 e3 r3 => p2 ρ3 H3 σ e3 r3 (rl2.mono e3)⟩
theorem cs_asg (he : PE X e (tE T W me)) (hg : PG X tg (tGt T W g)) (hs : swapsWithSole [tg] e pos.line X.env = pure false := by rfl) (hw : swappedStores [tg] e X.env = pure none := by rfl)
    (h1 : (assignEach [tg] X.env).map (·.2) = [assign tg X.env] := by rfl) : PS X (.Assign [tg] e pos) (tS T W (sAsg g me)) := ps_mono (ps_asg he hg hs hw h1) fun D σ H h =>
  tS_bnd (R := RV T) h fun ρ s lo x z H' r rl hx p => ⟨ρ, s, lo, x, r, rl, hx, by
    cases e : g x lo s with
    | ok lo' s' =>
      rw [e] at p
      exact fun ρ2 H2 σ2 e2 r2 rl2 => p ρ2 H2 σ2 e2 r2 rl2
    | exc y s' =>
      rw [e] at p
      exact fun ρ2 H2 C e2 r2 hC => p ρ2 H2 σ C e2 r2 (rl.mono e2) hC
    | fail => rw [e] at p; exact p⟩
theorem p_set (hu : X.A.units + 1 < cLine) : PSet X (rSt T opSet) := by
  intro pins s σ H ov iv v ou iu u Q I ro ri rv h
  obtain ⟨ρ, st, a, b, c, s', r, ha, hb, hc, e, k⟩ := h
  unfold opSet at e
  split at e
  · rename_i j y w s0
    obtain ⟨p, rfl, hp⟩ := ha.refE
    split at e
    · rename_i xs hx
      split at e
      · rename_i i
        split at e
        · rename_i n hn
          cases e
          obtain ⟨vs, h1, h2⟩ := r.lst hx hp
          refine set_list pins s σ H _ _ v ou iu u Q I ro ri rv ⟨p, vs, i, n, rfl, hb.intE, h1, by rw [← h2.length]; exact hn, ?_⟩
          exact k ρ _ (r.setExt hp h1) (r.set hp ⟨_, upd_same, (h2.set hc n).mono (r.setExt hp h1)⟩)
        · cases e
      · cases e
    · rename_i kvs hx
      split at e
      · rename_i key hk
        split at e
        · rename_i hl
          cases e
          obtain ⟨vs, h1, h2, h3⟩ := r.dic hx hp
          have ey := keyOf_ok hb hk
          subst ey
          have hlen : vs.length = kvs.length := by have := congrArg List.length h2; simpa using this
          have nd := dk_nodup I h1
          obtain ⟨q1, q2⟩ := put_ok (k := key) hc nd h2 h3
          obtain rfl : ou = Value.ref p := ro
          refine d_setItem hu I (DPut.k (v := v) h1 (by rw [hlen, lim_eq]; exact hl)) ri rv fun s4 I4 => ⟨_, I4, ?_⟩
          exact k ρ _ (r.setExt hp h1) (r.set hp ⟨_, upd_same, q1, q2.mono (r.setExt hp h1)⟩)
        · cases e
      · cases e
    · cases e
  · cases e
end
end Sm

/-! S6: loops and comprehensions -/
namespace Sm
open PySem L2

/-- the i-th item of what is walked: an item, the end, or nothing known -/
abbrev NX := Nat → Sto → Option (Option Vl)
def nxFix (xs : List Vl) : NX := fun i _ => some xs[i]?
def nxLst (j : Nat) : NX := fun i s => match s[j]? with
  | some (.lst xs) => some xs[i]?
  | _ => none
def nxEnum (j : Nat) : NX := fun i s => match s[j]? with
  | some (.lst xs) => match xs[i]? with
    | some v => some (some (.tup [.int (i : Nat), v]))
    | none => some none
  | _ => none
/-- an iterator of the model yields what nx says -/
def ItOk (T : Tb) (J : It) (nx : NX) (ρ : List Addr) (H : Hp) : Prop := ∀ (ρ1 : List Addr) (H1 : Hp) (s : Sto) (i : Nat), Ext T ρ H ρ1 H1 → Rel T ρ1 H1 s → match nx i s with
  | some (some v) => J.go i H1 ∧ ∀ x H2, J.yld i H1 x H2 → Ext T ρ1 H1 ρ1 H2 ∧ Rel T ρ1 H2 s ∧ RV T ρ1 H2 v x
  | some none => J.stop i H1
  | none => True
theorem ItOk.mono {T : Tb} {J : It} {nx : NX} {ρ ρ' : List Addr} {H H' : Hp} (h : ItOk T J nx ρ H) (e : Ext T ρ H ρ' H') : ItOk T J nx ρ' H' := fun ρ1 H1 s i e1 r => h ρ1 H1 s i (e.trans e1) r
abbrev IM := Lo → M NX
abbrev tI (T : Tb) (W : WX) (m : IM) : TI := fun σ H R => tG (fun ρ H nx J => ItOk T J nx ρ H) T W m σ H R
/-- the loop, by fuel -/
def loopN (nx : NX) (g : GM) (b : SM) : Nat → Nat → SM
  | 0, _, _, _ => .fail
  | n + 1, i, lo, s => match nx i s with
    | none => .fail
    | some none => .nx lo s
    | some (some v) => match g v lo s with
      | .fail => .fail
      | .exc e s' => .exc e lo s'
      | .ok lo' s' => match b lo' s' with
        | .nx lo2 s2 => loopN nx g b n (i + 1) lo2 s2
        | .ct lo2 s2 => loopN nx g b n (i + 1) lo2 s2
        | .bk lo2 s2 => .nx lo2 s2
        | .rt v2 s2 => .rt v2 s2
        | .exc e lo2 s2 => .exc e lo2 s2
        | .fail => .fail
def sFor (n : Nat) (m : IM) (g : GM) (b : SM) : SM := bndS m fun lo nx s => loopN nx g b n 0 lo s
/-- the same over items that are known -/
def loopX (g : GM) (b : SM) : List Vl → SM
  | [], lo, s => .nx lo s
  | v :: vs, lo, s => match g v lo s with
    | .fail => .fail
    | .exc e s' => .exc e lo s'
    | .ok lo' s' => match b lo' s' with
      | .nx lo2 s2 => loopX g b vs lo2 s2
      | .ct lo2 s2 => loopX g b vs lo2 s2
      | .bk lo2 s2 => .nx lo2 s2
      | .rt v2 s2 => .rt v2 s2
      | .exc e lo2 s2 => .exc e lo2 s2
      | .fail => .fail
def sForX (m : AM) (g : GM) (b : SM) : SM := bndS m fun lo xs s => loopX g b xs lo s
theorem loopX_eq (g : GM) (b : SM) (all : List Vl) : ∀ (n i : Nat) (lo : Lo) (s : Sto), all.length - i < n → loopN (nxFix all) g b n i lo s = loopX g b (all.drop i) lo s := by
  intro n
  induction n with
  | zero => intro i lo s h; omega
  | succ n ih =>
    intro i lo s h
    unfold loopN
    simp only [nxFix]
    cases e : all[i]? with
    | none =>
      have : all.length ≤ i := List.getElem?_eq_none_iff.mp e
      rw [List.drop_eq_nil_of_le this]
      rfl
    | some v =>
      obtain ⟨hi, hv⟩ := List.getElem?_eq_some_iff.mp e
      rw [List.drop_eq_getElem_cons hi, hv]
      simp only [loopX]
      cases g v lo s with
      | fail => rfl
      | exc e s' => rfl
      | ok lo' s' =>
        simp only
        cases b lo' s' with
        | nx lo2 s2 => exact ih (i + 1) lo2 s2 (by omega)
        | ct lo2 s2 => exact ih (i + 1) lo2 s2 (by omega)
        | bk lo2 s2 => rfl
        | rt v2 s2 => rfl
        | exc e lo2 s2 => rfl
        | fail => rfl
section
variable {X : Cx} {T : Tb} {W : WX} {tg iter : Expr} {body : List Stmt} {m : IM} {ma : AM} {g : GM} {b : SM} {pos : Pos}
theorem loop_le {n : Nat} {D : Ends} {σ : St} {H : Hp} (h : tS T W (sFor n m g b) D σ H) : tFor (tI T W m) (tGt T W g) (tS T W b) D σ H :=
  tS_bnd (R := fun ρ H nx J => ItOk T J nx ρ H) h fun ρ0 s0 lo0 nx J H0 r0 rl0 ok p0 => by
    refine ⟨fun i k σ H => ∃ ρ s lo, Rel T ρ H s ∧ RL T ρ H lo σ ∧ ItOk T J nx ρ H ∧ PoS T W ρ H (loopN nx g b k i lo s) D, ⟨n, ρ0, s0, lo0, r0, rl0, ok, p0⟩, ?_⟩
    rintro i k σ1 H1 ⟨ρ, s, lo, r, rl, ok, p⟩
    cases k with
    | zero => exact p.elim
    | succ k =>
      unfold loopN at p
      have q := ok ρ H1 s i .refl r
      cases e : nx i s with
      | none => simp only [e] at p; exact p.elim
      | some o =>
        simp only [e] at p q
        cases o with
        | none => exact .inl ⟨q, p ρ H1 σ1 .refl r rl⟩
        | some v =>
          obtain ⟨go, yl⟩ := q
          refine .inr ⟨go, fun σ' H' => ∃ ρ s lo, Rel T ρ H' s ∧ RL T ρ H' lo σ' ∧ ItOk T J nx ρ H' ∧ PoS T W ρ H' (loopN nx g b k (i + 1) lo s) D, fun σ' H' h => ⟨k, Nat.lt_succ_self k, h⟩, fun x H2 y => ?_⟩
          obtain ⟨x1, r2, hv⟩ := yl x H2 y
          refine ⟨ρ, s, lo, v, r2, rl.mono x1, hv, ?_⟩
          have p := p.mono x1
          cases e2 : g v lo s with
          | fail => simp only [e2] at p; exact p
          | exc z s' => simp only [e2] at p; exact fun ρ' H' C x r' hC => p ρ' H' σ1 C x r' (rl.mono (x1.trans x)) hC
          | ok lo' s' =>
            simp only [e2] at p
            intro ρ3 H3 σ3 x3 r3 rl3
            refine ⟨ρ3, s', lo', r3, rl3, ?_⟩
            have p := p.mono x3
            have ok3 := ok.mono (x1.trans x3)
            cases e3 : b lo' s' with
            | nx lo2 s2 => simp only [e3] at p; exact fun ρ4 H4 σ4 x4 r4 rl4 => ⟨ρ4, s2, lo2, r4, rl4, ok3.mono x4, p.mono x4⟩
            | ct lo2 s2 => simp only [e3] at p; exact fun ρ4 H4 σ4 x4 r4 rl4 => ⟨ρ4, s2, lo2, r4, rl4, ok3.mono x4, p.mono x4⟩
            | bk lo2 s2 => simp only [e3] at p; exact p
            | rt v2 s2 => simp only [e3] at p; exact p
            | exc z lo2 s2 => simp only [e3] at p; exact p
            | fail => simp only [e3] at p; exact p
theorem cs_for (n : Nat) (hp : PassesOwn (model X.prog X.w) X.A X.env X.xe) (hc : X.calm = true) (hi : PI X tg iter (tI T W m)) (hg : PG X tg (tGt T W g)) (hb : PSs X body (tS T W b))
    (hs : ∀ x, foldedSetIterable iter X.env x = pure x := by intro _; rfl) : PS X (.For tg iter body [] pos) (tS T W (sFor n m g b)) := ps_mono (ps_for hp hc hi hg hb hs) fun D σ H h => loop_le h
/-- what is walked as a list that is known -/
def iFix (ma : AM) : IM := fun lo => bnd (ma lo) fun xs => ret (nxFix xs)
theorem cs_forX (hp : PassesOwn (model X.prog X.w) X.A X.env X.xe) (hc : X.calm = true) (hi : PI X tg iter (tI T W (iFix ma))) (hg : PG X tg (tGt T W g)) (hb : PSs X body (tS T W b))
    (hs : ∀ x, foldedSetIterable iter X.env x = pure x := by intro _; rfl) : PS X (.For tg iter body [] pos) (tS T W (sForX ma g b)) := ps_mono (ps_for hp hc hi hg hb hs) fun D σ H h => by
  obtain ⟨ρ, s, lo, r, rl, p⟩ := h
  unfold sForX bndS at p
  cases e : ma lo s with
  | ok xs s' =>
    refine loop_le (n := xs.length + 1) ⟨ρ, s, lo, r, rl, ?_⟩
    have : sFor (xs.length + 1) (iFix ma) g b lo s = loopX g b xs lo s' := by
      unfold sFor bndS iFix bnd
      rw [e]
      simp only [ret]
      rw [loopX_eq g b xs (xs.length + 1) 0 lo s' (by omega), List.drop_zero]
    rw [this]
    rw [e] at p
    exact p
  | exc z s' =>
    refine loop_le (n := 1) ⟨ρ, s, lo, r, rl, ?_⟩
    have : sFor 1 (iFix ma) g b lo s = .exc z lo s' := by
      unfold sFor bndS iFix bnd
      rw [e]
    rw [this]
    rw [e] at p
    exact p
  | fail =>
    rw [e] at p
    exact p.elim
theorem pi_mono {tg iter : Expr} {t t' : TI} (h : PI X tg iter t) (k : ∀ σ H R, t' σ H R → t σ H R) : PI X tg iter t' := ⟨fun pins s σ H R I q => h.run pins s σ H R I (k σ H R q)⟩
/-- over a tuple -/
def aTup (e : EM) : AM := fun lo => bnd (e lo) fun x => match x with
  | .tup xs => ret xs
  | _ => failM
/-- over range(n), range(a, b) -/
def rng (lo : Int) (n : Nat) : List Vl := (List.range n).map fun i => Vl.int (lo + (i : Nat))
def aRng (a : AM) : AM := fun lo => bnd (a lo) fun xs => match xs with
  | [.int n] => if -(2 ^ 62) ≤ n ∧ n < 2 ^ 62 then ret (rng 0 n.toNat) else failM
  | _ => failM
def aRng2 (a : AM) : AM := fun lo => bnd (a lo) fun xs => match xs with
  | [.int i, .int j] => if -(2 ^ 62) ≤ i ∧ i < 2 ^ 62 ∧ -(2 ^ 62) ≤ j ∧ j < 2 ^ 62 then ret (rng i (j - i).toNat) else failM
  | _ => failM
/-- over a list, enumerate(list): the list's number -/
def iLst (e : EM) : IM := fun lo => bnd (e lo) fun x => match x with
  | .ref j => fun s => match s[j]? with
    | some (.lst _) => .ok (nxLst j) s
    | _ => .fail
  | _ => failM
def iEnm (a : AM) : IM := fun lo => bnd (a lo) fun xs => match xs with
  | [.ref j] => fun s => match s[j]? with
    | some (.lst _) => .ok (nxEnum j) s
    | _ => .fail
  | _ => failM
theorem bnd_bnd {α β γ : Type} (m : M α) (f : α → M β) (g : β → M γ) : bnd (bnd m f) g = bnd m fun x => bnd (f x) g := by
  funext s
  unfold bnd
  cases m s <;> rfl
theorem fix_le {R : It → Hp → Prop} {σ : St} {H : Hp} (h : tI T W (iFix ma) σ H R) : tA T W (fun lo => ma lo) σ H fun vs H1 => ∀ J, (∀ ρ s xs, Rel T ρ H1 s → RVs T ρ H1 xs vs → ItOk T J (nxFix xs) ρ H1) → R J H1 :=
  tG_bnd (R := RVs T) h fun ρ s lo xs vs H1 r rl hx p J hJ => p ρ H1 J .refl r (hJ ρ s xs r hx)
theorem ci_tup {e : Expr} {me : EM} (he : PE X e (tE T W me)) (hK : X.K = T.K := by rfl) : PI X tg e (tI T W (iFix (aTup me))) := pi_mono (pi_tup he) fun σ H R h => by
  obtain ⟨ρ, s, lo, r, rl, p⟩ := h
  refine po_bnd (R := RV T) (m := me) (f := fun x => bnd (match x with | .tup xs => ret xs | _ => failM) fun xs => ret (nxFix xs)) (R' := fun ρ H nx J => ItOk T J nx ρ H) (Q := R) r rl ?_ fun ρ1 s1 x z H1 ext1 r1 rl1 hx p1 => ?_
  · unfold iFix aTup at p
    unfold bnd at p ⊢
    cases e : me lo s <;> rw [e] at p <;> exact p
  · cases hx with
    | tup h1 h2 =>
      rename_i a vs xs
      refine ⟨a, rfl, ⟨vs, by rw [hK]; exact h1⟩, p1 ρ1 H1 _ .refl r1 ?_⟩
      intro ρ2 H2 s2 i e2 r2
      have h1' := e2.tup _ _ h1
      have h2' := h2.mono e2
      rw [← hK] at h1'
      simp only [nxFix]
      cases e : xs[i]? with
      | none =>
        have : xs.length ≤ i := List.getElem?_eq_none_iff.mp e
        exact ⟨vs, h1', by rw [← h2'.length]; exact this⟩
      | some v =>
        obtain ⟨z, hz, rz⟩ := h2'.get e
        refine ⟨⟨vs, z, h1', hz⟩, fun x H3 y => ?_⟩
        obtain ⟨rfl, y⟩ := y
        have := y vs h1'
        rw [hz] at this
        cases this
        exact ⟨.refl, r2, rz⟩
    | _ => exact p1.elim
end
end Sm

/-! S7: what is walked; while; comprehensions -/
namespace Sm
open PySem L2
section
variable {X : Cx} {T : Tb} {W : WX} {tg : Expr} {pos p : Pos}
theorem ok_rng {lo : Int} {n : Nat} {ρ : List Addr} {H : Hp} : ItOk T (Itr lo n) (nxFix (rng lo n)) ρ H := by
  intro ρ1 H1 s i e r
  simp only [nxFix, rng]
  by_cases h : i < n
  · rw [List.getElem?_map, List.getElem?_range h]
    refine ⟨h, fun x H2 y => ?_⟩
    obtain ⟨rfl, rfl⟩ := y
    exact ⟨.refl, r, .int _⟩
  · rw [List.getElem?_eq_none (by simp; omega)]
    exact Nat.le_of_not_lt h
theorem ci_rng1 {a : Expr} {ma : AM} (hg : Gl X "range") (hm : X.mg "range" = none) (ha : PA X [a] (tA T W ma)) (hs : starEach [a] X.env = [(false, eval a X.env)] := by rfl) : PI X tg (.Call (.Name "range" p) [a] [] pos) (tI T W (iFix (aRng ma))) :=
  pi_mono (pi_range1 hg hm ha hs) fun σ H R h => by
    obtain ⟨ρ, s, lo, r, rl, q⟩ := h
    unfold iFix aRng at q
    rw [bnd_bnd] at q
    refine po_bnd (R := RVs T) (m := ma) r rl q fun ρ1 s1 xs zs H1 ext1 r1 rl1 hx p1 => ?_
    split at p1
    · rename_i n
      split at p1
      · rename_i hn
        obtain ⟨z, rfl, hz⟩ := hx.one
        exact ⟨n, by rw [hz.intE], hn.1, hn.2, p1 ρ1 H1 _ .refl r1 ok_rng⟩
      · exact p1.elim
    · exact p1.elim
theorem ci_rng2 {a b : Expr} {ma : AM} (hg : Gl X "range") (hm : X.mg "range" = none) (ha : PA X [a, b] (tA T W ma)) (hs : starEach [a, b] X.env = [(false, eval a X.env), (false, eval b X.env)] := by rfl) (hs2 : starEach [b] X.env = [(false, eval b X.env)] := by rfl) :
    PI X tg (.Call (.Name "range" p) [a, b] [] pos) (tI T W (iFix (aRng2 ma))) :=
  pi_mono (pi_range2 hg hm ha hs hs2) fun σ H R h => by
    obtain ⟨ρ, s, lo, r, rl, q⟩ := h
    unfold iFix aRng2 at q
    rw [bnd_bnd] at q
    refine po_bnd (R := RVs T) (m := ma) r rl q fun ρ1 s1 xs zs H1 ext1 r1 rl1 hx p1 => ?_
    split at p1
    · rename_i i j
      split at p1
      · rename_i hn
        obtain ⟨z, z', rfl, hz, hz'⟩ := hx.two
        exact ⟨i, j, by rw [hz.intE, hz'.intE], hn, p1 ρ1 H1 _ .refl r1 ok_rng⟩
      · exact p1.elim
    · exact p1.elim
theorem ci_lst {e : Expr} {me : EM} (he : PE X e (tE T W me)) (hK : X.K = T.K := by rfl) : PI X tg e (tI T W (iLst me)) := pi_mono (pi_list he) fun σ H R h => by
  obtain ⟨ρ, s, lo, r, rl, q⟩ := h
  refine po_bnd (R := RV T) (m := me) r rl q fun ρ1 s1 x z H1 ext1 r1 rl1 hx p1 => ?_
  cases hx with
  | ref ha =>
    rename_i j a
    simp only at p1
    split at p1
    · rename_i xs hj
      obtain ⟨vs, h1, h2⟩ := r1.lst hj ha
      refine ⟨a, rfl, ⟨vs, SqL.of h1⟩, p1 ρ1 H1 _ .refl r1 ?_⟩
      intro ρ2 H2 s2 i e2 r2
      have ha2 := e2.pre _ _ ha
      unfold nxLst
      cases e : s2[j]? with
      | none => trivial
      | some o =>
        cases o with
        | lst ys =>
          obtain ⟨us, g1, g2⟩ := r2.lst e ha2
          simp only
          cases e3 : ys[i]? with
          | none => exact ⟨us, SqL.of g1, by rw [← g2.length]; exact List.getElem?_eq_none_iff.mp e3⟩
          | some v =>
            obtain ⟨w, hw, rw'⟩ := g2.get e3
            refine ⟨⟨us, w, SqL.of g1, hw⟩, fun x H3 y => ?_⟩
            obtain ⟨rfl, y⟩ := y
            have := y us (SqL.of g1)
            rw [hw] at this
            cases this
            exact ⟨.refl, r2, rw'⟩
        | _ => trivial
    · exact p1.elim
  | _ => exact p1.elim
/-- enumerate(list) -/
theorem ci_enm {e : Expr} {ma : AM} {elts : List Expr} {kk : Nat} {tpos : Pos} (hg : Gl X "enumerate") (hm : X.mg "enumerate" = none) (ha : PA X [e] (tA T W ma)) (hs : starEach [e] X.env = [(false, eval e X.env)] := by rfl) (hK : X.K = T.K := by rfl) :
    PI X (.Tuple elts kk tpos) (.Call (.Name "enumerate" p) [e] [] pos) (tI T W (iEnm ma)) := pi_mono (pi_enum hg hm ha hs) fun σ H R h => by
  obtain ⟨ρ, s, lo, r, rl, q⟩ := h
  refine po_bnd (R := RVs T) (m := ma) r rl q fun ρ1 s1 xs zs H1 ext1 r1 rl1 hx p1 => ?_
  split at p1
  · rename_i j
    obtain ⟨z, rfl, hz⟩ := hx.one
    obtain ⟨a, rfl, ha⟩ := hz.refE
    split at p1
    · rename_i ys hj
      obtain ⟨vs, h1, h2⟩ := r1.lst hj ha
      refine ⟨a, vs, rfl, SqL.of h1, p1 ρ1 H1 _ .refl r1 ?_⟩
      intro ρ2 H2 s2 i e2 r2
      have ha2 := e2.pre _ _ ha
      unfold nxEnum
      cases e : s2[j]? with
      | none => trivial
      | some o =>
        cases o with
        | lst ys =>
          obtain ⟨us, g1, g2⟩ := r2.lst e ha2
          simp only
          cases e3 : ys[i]? with
          | none => exact ⟨us, SqL.of g1, by rw [← g2.length]; exact List.getElem?_eq_none_iff.mp e3⟩
          | some v =>
            obtain ⟨w, hw, rw'⟩ := g2.get e3
            refine ⟨⟨us, w, SqL.of g1, hw⟩, fun x H3 y => ?_⟩
            obtain ⟨q, u, rfl, hq, rfl, y⟩ := y
            have := y us (SqL.of g1)
            rw [hw] at this
            cases this
            exact ⟨ext_upd hq, r2.laid hq, .tup (SqT.of upd_same) (.cons (.int _) (.cons (rw'.mono (ext_upd hq)) .nil))⟩
        | _ => trivial
    · exact p1.elim
  · exact p1.elim
end
/-! ### while -/
def loopW (t : TM) (b : SM) : Nat → SM
  | 0, _, _ => .fail
  | n + 1, lo, s => match t lo s with
    | .fail => .fail
    | .exc e s' => .exc e lo s'
    | .ok false s' => .nx lo s'
    | .ok true s' => match b lo s' with
      | .nx lo2 s2 => loopW t b n lo2 s2
      | .ct lo2 s2 => loopW t b n lo2 s2
      | .bk lo2 s2 => .nx lo2 s2
      | .rt v2 s2 => .rt v2 s2
      | .exc e lo2 s2 => .exc e lo2 s2
      | .fail => .fail
section
variable {X : Cx} {T : Tb} {W : WX} {c : Expr} {body : List Stmt} {mt : TM} {b : SM} {pos : Pos}
theorem cs_while (n : Nat) (hp : PassesOwn (model X.prog X.w) X.A X.env X.xe) (hc : PT X c (tT T W mt)) (hb : PSs X body (tS T W b)) : PS X (.While c body [] pos) (tS T W (loopW mt b n)) :=
  ps_mono (ps_while hp hc hb) fun D σ H h => by
    obtain ⟨ρ, s, lo, r, rl, p⟩ := h
    refine ⟨fun k σ H => ∃ ρ s lo, Rel T ρ H s ∧ RL T ρ H lo σ ∧ PoS T W ρ H (loopW mt b k lo s) D, ⟨n, ρ, s, lo, r, rl, p⟩, ?_⟩
    rintro k σ1 H1 ⟨ρ, s, lo, r, rl, p⟩
    cases k with
    | zero => exact p.elim
    | succ k =>
      unfold loopW at p
      refine ⟨ρ, s, lo, r, rl, ?_⟩
      cases e : mt lo s with
      | fail => simp only [e] at p; exact p
      | exc z s' => simp only [e] at p; exact fun ρ' H' C x r' hC => p ρ' H' σ1 C x r' (rl.mono x) hC
      | ok c s' =>
        intro ρ2 H2 c' x2 r2 ec
        cases ec
        cases c with
        | false =>
          simp only [e] at p
          exact p ρ2 H2 σ1 x2 r2 (rl.mono x2)
        | true =>
          simp only [e] at p
          refine ⟨fun σ' H' => ∃ ρ s lo, Rel T ρ H' s ∧ RL T ρ H' lo σ' ∧ PoS T W ρ H' (loopW mt b k lo s) D, fun σ' H' h => ⟨k, Nat.lt_succ_self k, h⟩, ρ2, s', lo, r2, rl.mono x2, ?_⟩
          have p := p.mono x2
          cases e3 : b lo s' with
          | nx lo2 s2 => simp only [e3] at p; exact fun ρ4 H4 σ4 x4 r4 rl4 => ⟨ρ4, s2, lo2, r4, rl4, p.mono x4⟩
          | ct lo2 s2 => simp only [e3] at p; exact fun ρ4 H4 σ4 x4 r4 rl4 => ⟨ρ4, s2, lo2, r4, rl4, p.mono x4⟩
          | bk lo2 s2 => simp only [e3] at p; exact p
          | rt v2 s2 => simp only [e3] at p; exact p
          | exc z lo2 s2 => simp only [e3] at p; exact p
          | fail => simp only [e3] at p; exact p
end
/-! ### targets of several names -/
def gNs : List Nat → TGs
  | [] => gNil
  | j :: js => gCons (gName j) (gNs js)
section
variable {X : Cx} {T : Tb} {W : WX} {pos : Pos}
theorem gNs_ok {ρ : List Addr} {H : Hp} {Q : St → Hp → Prop} : ∀ {js : List Nat} {xs : List Vl} {vs : List V} {lo lo' : Lo} {σ : St}, RVs T ρ H xs vs → RL T ρ H lo σ → gNms js xs lo = some lo' → (∀ σ', RL T ρ H lo' σ' → Q σ' H) → gNs js vs σ H Q
  | [], [], _, _, _, _, .nil, rl, e, k => by
    cases e
    exact ⟨rfl, k _ rl⟩
  | [], _ :: _, _, _, _, _, _, _, e, _ => by cases e
  | _ :: _, [], _, _, _, _, _, _, e, _ => by cases e
  | j :: js, x :: xs, _, lo, lo', σ, .cons h hs, rl, e, k => ⟨_, _, rfl, gNs_ok hs (rl.set j h) (show gNms js xs (lo.set j (some x)) = some lo' from e) k⟩
theorem gNms_len : ∀ {js : List Nat} {xs : List Vl} {lo lo' : Lo}, gNms js xs lo = some lo' → xs.length = js.length
  | [], [], _, _, _ => rfl
  | [], _ :: _, _, _, e => by cases e
  | _ :: _, [], _, _, e => by cases e
  | j :: js, x :: xs, lo, lo', e => by
    rw [List.length_cons, List.length_cons, gNms_len (show gNms js xs (lo.set j (some x)) = some lo' from e)]
theorem cg_tup {es : List Expr} {k : Nat} {js : List Nat} (h : PG X (.Tuple es k pos) (gTup X.K js.length (gNs js))) (hK : X.K = T.K := by rfl) : PG X (.Tuple es k pos) (tGt T W (gTp js)) := pg_mono h fun z σ H Q h => by
  obtain ⟨ρ, s, lo, v, r, rl, hv, p⟩ := h
  unfold gTp at p
  split at p
  · rename_i xs
    split at p
    · rename_i lo' e
      obtain ⟨a, vs, rfl, h1, h2⟩ := hv.tupE
      exact ⟨a, vs, rfl, by rw [hK]; exact h1, by rw [← h2.length]; exact gNms_len e, gNs_ok h2 rl e fun σ' rl' => p ρ H σ' .refl r rl'⟩
    · exact p.elim
  · exact p.elim
end
/-! ### comprehensions -/
def wipeL (lo : Lo) : List Nat → Lo
  | [] => lo
  | v :: vs => (wipeL lo vs).set v none
abbrev GL := Vl → Lo → Option Lo
def glN (j : Nat) : GL := fun v lo => some (lo.set j (some v))
def glT (js : List Nat) : GL := fun v lo => match v with
  | .tup xs => gNms js xs lo
  | _ => none
def tTrue : TM := fun _ => ret true
/-- one turn: kept or not -/
def lcStep (t : TM) (e : EM) (d : Nat) (lo : Lo) (s : Sto) : Option Sto := match t lo s with
  | .ok false s1 => some s1
  | .ok true s1 => match e lo s1 with
    | .ok y s2 => match s2[d]? with
      | some (.lst acc) => if acc.length < LIM then some (s2.set d (.lst (acc ++ [y]))) else none
      | _ => none
    | _ => none
  | _ => none
def lcN (nx : NX) (g : GL) (t : TM) (e : EM) (d : Nat) (lo : Lo) : Nat → Nat → Sto → Option Sto
  | 0, _, _ => none
  | n + 1, i, s => match nx i s with
    | none => none
    | some none => some s
    | some (some v) => match g v lo with
      | none => none
      | some lo' => match lcStep t e d lo' s with
        | none => none
        | some s' => lcN nx g t e d lo n (i + 1) s'
def lcX (g : GL) (t : TM) (e : EM) (d : Nat) (lo : Lo) : List Vl → Sto → Option Sto
  | [], s => some s
  | v :: vs, s => match g v lo with
    | none => none
    | some lo' => match lcStep t e d lo' s with
      | none => none
      | some s' => lcX g t e d lo vs s'
def eLc (n : Nat) (m : IM) (g : GL) (t : TM) (e : EM) (vs : List Nat) : EM := fun lo => bnd (m lo) fun nx s => match lcN nx g t e s.length (wipeL lo vs) n 0 (s ++ [.lst []]) with
  | some s' => .ok (.ref s.length) s'
  | none => .fail
def eLcX (m : AM) (g : GL) (t : TM) (e : EM) (vs : List Nat) : EM := fun lo => bnd (m lo) fun xs s => match lcX g t e s.length (wipeL lo vs) xs (s ++ [.lst []]) with
  | some s' => .ok (.ref s.length) s'
  | none => .fail
theorem lcX_eq (g : GL) (t : TM) (e : EM) (d : Nat) (lo : Lo) (all : List Vl) : ∀ (n i : Nat) (s : Sto), all.length - i < n → lcN (nxFix all) g t e d lo n i s = lcX g t e d lo (all.drop i) s := by
  intro n
  induction n with
  | zero => intro i s h; omega
  | succ n ih =>
    intro i s h
    unfold lcN
    simp only [nxFix]
    cases h1 : all[i]? with
    | none =>
      have : all.length ≤ i := List.getElem?_eq_none_iff.mp h1
      rw [List.drop_eq_nil_of_le this]
      rfl
    | some v =>
      obtain ⟨hi, hv⟩ := List.getElem?_eq_some_iff.mp h1
      rw [List.drop_eq_getElem_cons hi, hv]
      simp only [lcX]
      cases g v lo with
      | none => rfl
      | some lo' =>
        simp only
        cases lcStep t e d lo' s with
        | none => rfl
        | some s' => exact ih (i + 1) s' (by omega)
theorem wipe_get (σ : St) (i : Nat) : ∀ vs : List Nat, (wipe σ vs)[i]? = if i ∈ vs ∧ i < σ.length then some none else σ[i]?
  | [] => by simp [wipe]
  | v :: vs => by
    unfold wipe
    rw [List.getElem?_set, wipe_get σ i vs, wipe_length]
    by_cases h : v = i
    · subst h
      by_cases h2 : v < σ.length
      · rw [if_pos rfl, if_pos h2, if_pos ⟨List.mem_cons_self .., h2⟩]
      · rw [if_pos rfl, if_neg h2, if_neg (fun z => h2 z.2)]
        rw [List.getElem?_eq_none (by omega)]
    · rw [if_neg h]
      by_cases h3 : i ∈ vs ∧ i < σ.length
      · rw [if_pos h3, if_pos ⟨List.mem_cons_of_mem _ h3.1, h3.2⟩]
      · rw [if_neg h3, if_neg]
        rintro ⟨a, b⟩
        rcases List.mem_cons.mp a with q | q
        · exact h q.symm
        · exact h3 ⟨q, b⟩
theorem wipe_set {σ : St} {vs : List Nat} {j : Nat} {x : Option V} (hj : j ∈ vs) : wipe (σ.set j x) vs = wipe σ vs := by
  apply List.ext_getElem?
  intro i
  rw [wipe_get, wipe_get, List.length_set]
  by_cases h : i ∈ vs ∧ i < σ.length
  · rw [if_pos h, if_pos h]
  · rw [if_neg h, if_neg h]
    by_cases e : j = i
    · subst e
      have : ¬ j < σ.length := fun z => h ⟨hj, z⟩
      rw [List.getElem?_eq_none (by rw [List.length_set]; omega), List.getElem?_eq_none (by omega)]
    · rw [List.getElem?_set_ne e]
theorem wipe_wipe (σ : St) (vs : List Nat) : wipe (wipe σ vs) vs = wipe σ vs := by
  apply List.ext_getElem?
  intro i
  rw [wipe_get, wipe_get, wipe_length]
  split <;> rfl
section
variable {X : Cx} {T : Tb} {W : WX} {pos : Pos}
abbrev WF : WX := fun _ _ _ _ => False
theorem RL.wipe {ρ : List Addr} {H : Hp} {lo : Lo} {σ : St} (rl : RL T ρ H lo σ) : ∀ vs : List Nat, RL T ρ H (wipeL lo vs) (wipe σ vs)
  | [] => rl
  | v :: vs => by
    have ih := RL.wipe rl vs
    unfold wipeL L2.wipe
    refine ⟨by rw [List.length_set, List.length_set]; exact ih.len, fun i x h => ?_⟩
    by_cases e : v = i
    · subst e
      by_cases hv : v < (wipeL lo vs).length
      · rw [List.getElem?_set_self hv] at h; cases h
      · rw [List.getElem?_eq_none (by rw [List.length_set]; omega)] at h; cases h
    · rw [List.getElem?_set_ne e] at h ⊢
      exact ih.at_ i x h
/-- how a comprehension's target stores: the reading gt and the pure gl agree, and stay within the own slots -/
def TgOk (T : Tb) (gt : TG) (gl : GL) (vs : List Nat) : Prop := ∀ (ρ : List Addr) (H : Hp) (lo lo' : Lo) (σ : St) (v : Vl) (z : V) (Q : St → Hp → Prop), RL T ρ H lo (wipe σ vs) → RV T ρ H v z → gl v lo = some lo' →
  (∀ σ', RL T ρ H lo' σ' → L2.wipe σ' vs = L2.wipe σ vs → Q σ' H) → gt z (L2.wipe σ vs) H Q
theorem tg_name {j : Nat} {vs : List Nat} (hj : j ∈ vs) : TgOk T (gName j) (glN j) vs := fun ρ H lo lo' σ v z Q rl hv e k => by
  cases e
  exact k _ (rl.set j hv) (by rw [wipe_set hj, wipe_wipe])
theorem gNs_w {ρ : List Addr} {H : Hp} {Q : St → Hp → Prop} {ws : List Nat} {σ0 : St} : ∀ {js : List Nat} {xs : List Vl} {vs : List V} {lo lo' : Lo} {σ : St}, (∀ j ∈ js, j ∈ ws) → RVs T ρ H xs vs → RL T ρ H lo σ → L2.wipe σ ws = σ0 → gNms js xs lo = some lo' → (∀ σ', RL T ρ H lo' σ' → L2.wipe σ' ws = σ0 → Q σ' H) → gNs js vs σ H Q
  | [], [], _, _, _, _, _, .nil, rl, hw, e, k => by
    cases e
    exact ⟨rfl, k _ rl hw⟩
  | [], _ :: _, _, _, _, _, _, _, _, _, e, _ => by cases e
  | _ :: _, [], _, _, _, _, _, _, _, _, e, _ => by cases e
  | j :: js, x :: xs, _, lo, lo', σ, hj, .cons h hs, rl, hw, e, k => ⟨_, _, rfl, gNs_w (fun i hi => hj i (List.mem_cons_of_mem _ hi)) hs (rl.set j h) (by rw [wipe_set (hj j (List.mem_cons_self ..))]; exact hw) (show gNms js xs (lo.set j (some x)) = some lo' from e) k⟩
theorem tg_tup {js vs : List Nat} {K : PySem.W.Frag} (hj : ∀ j ∈ js, j ∈ vs) (hK : K = T.K) : TgOk T (gTup K js.length (gNs js)) (glT js) vs := fun ρ H lo lo' σ v z Q rl hv e k => by
  unfold glT at e
  split at e
  · rename_i xs
    obtain ⟨a, us, rfl, h1, h2⟩ := hv.tupE
    exact ⟨a, us, rfl, by rw [hK]; exact h1, by rw [← h2.length]; exact gNms_len e, gNs_w hj h2 rl (wipe_wipe σ vs) e k⟩
  · cases e
theorem lc_le {n : Nat} {m : IM} {gl : GL} {gt : TG} {mt : TM} {me : EM} {vs : List Nat} {σ : St} {H : Hp} {Q : VK} (hg : TgOk T gt gl vs) (h : tE T W (eLc n m gl mt me vs) σ H Q) : tLc (tI T W m) gt (tT T WF mt) (tE T WF me) vs σ H Q :=
  tG_bnd (R := fun ρ H nx J => ItOk T J nx ρ H) h fun ρ0 s0 lo0 nx J H0 r0 rl0 ok0 p0 => by
    intro D hD
    have xD : Ext T ρ0 H0 (ρ0 ++ [D]) (upd H0 D (.lst [])) := r0.newExt hD
    have rD : Rel T (ρ0 ++ [D]) (upd H0 D (.lst [])) (s0 ++ [.lst []]) := r0.new hD ⟨[], upd_same, .nil⟩
    have aD : (ρ0 ++ [D])[s0.length]? = some D := by rw [← r0.len, List.getElem?_append_right (Nat.le_refl _)]; simp
    cases e0 : lcN nx gl mt me s0.length (wipeL lo0 vs) n 0 (s0 ++ [.lst []]) with
    | none => rw [e0] at p0; exact p0.elim
    | some s9 =>
      rw [e0] at p0
      refine ⟨fun i k H => ∃ ρ s, Ext T (ρ0 ++ [D]) (upd H0 D (.lst [])) ρ H ∧ Rel T ρ H s ∧ lcN nx gl mt me s0.length (wipeL lo0 vs) k i s = some s9, ⟨n, _, _, .refl, rD, e0⟩, ?_⟩
      rintro i k H1 ⟨ρ, s, x, r, e⟩
      have hd := x.pre _ _ aD
      cases k with
      | zero => cases e
      | succ k =>
        unfold lcN at e
        have q := ok0 ρ H1 s i (xD.trans x) r
        cases e1 : nx i s with
        | none => simp only [e1] at e; cases e
        | some o =>
          simp only [e1] at e q
          cases o with
          | none =>
            cases e
            exact .inl ⟨q, p0 ρ H1 (.ref D) (xD.trans x) r (.ref hd)⟩
          | some v =>
            obtain ⟨go, yl⟩ := q
            cases e2 : gl v (wipeL lo0 vs) with
            | none => simp only [e2] at e; cases e
            | some lo' =>
              simp only [e2] at e
              cases e3 : lcStep mt me s0.length lo' s with
              | none => simp only [e3] at e; cases e
              | some s' =>
                simp only [e3] at e
                refine .inr ⟨go, fun H => ∃ ρ, Ext T (ρ0 ++ [D]) (upd H0 D (.lst [])) ρ H ∧ Rel T ρ H s', fun H' ⟨ρ', x', r'⟩ => ⟨k, Nat.lt_succ_self k, ρ', s', x', r', e⟩, fun z H2 y => ?_⟩
                obtain ⟨x1, r2, hv⟩ := yl z H2 y
                have x2 := x.trans x1
                refine hg ρ H2 (wipeL lo0 vs) lo' σ v z _ ((rl0.mono (xD.trans x2)).wipe vs) hv e2 fun σ' rl' hw => ⟨hw, ?_⟩
                unfold lcStep at e3
                refine ⟨ρ, s, lo', r2, rl', ?_⟩
                cases e4 : mt lo' s with
                | fail => simp only [e4] at e3; cases e3
                | exc z s1 => simp only [e4] at e3; cases e3
                | ok c s1 =>
                  intro ρ3 H3 c' x3 r3 ec
                  cases ec
                  cases c with
                  | false =>
                    simp only [e4] at e3
                    cases e3
                    exact ⟨ρ3, x2.trans x3, r3⟩
                  | true =>
                    simp only [e4] at e3
                    refine ⟨ρ3, s1, lo', r3, rl'.mono x3, ?_⟩
                    cases e5 : me lo' s1 with
                    | fail => simp only [e5] at e3; cases e3
                    | exc z s2 => simp only [e5] at e3; cases e3
                    | ok w s2 =>
                      simp only [e5] at e3
                      intro ρ4 H4 zw x4 r4 hw4
                      split at e3
                      · rename_i acc hacc
                        split at e3
                        · rename_i hl
                          cases e3
                          have hd4 := (x1.trans (x3.trans x4)).pre _ _ hd
                          obtain ⟨us, g1, g2⟩ := r4.lst hacc hd4
                          refine ⟨us, g1, by rw [← g2.length, lim_eq]; exact hl, ρ4, (x2.trans (x3.trans x4)).trans (r4.setExt hd4 g1), r4.set hd4 ⟨_, upd_same, (g2.append (.cons hw4 .nil)).mono (r4.setExt hd4 g1)⟩⟩
                        · cases e3
                      · cases e3
/-- the tests of a comprehension -/
theorem cts_nil : PTs X [] (tT T WF tTrue) := ⟨fun pins s σ H Q I h => pts_nil.run pins s σ H Q I (by
  obtain ⟨ρ, st, lo, r, rl, p⟩ := h
  exact p ρ H true .refl r rfl)⟩
theorem cts_one {c : Expr} {mt : TM} (h : PT X c (tT T WF mt)) : PTs X [c] (tT T WF mt) := pts_one h
theorem lcx_le {ma : AM} {gl : GL} {gt : TG} {mt : TM} {me : EM} {vs : List Nat} {σ : St} {H : Hp} {Q : VK} (hg : TgOk T gt gl vs) (h : tE T W (eLcX ma gl mt me vs) σ H Q) : tLc (tI T W (iFix ma)) gt (tT T WF mt) (tE T WF me) vs σ H Q := by
  obtain ⟨ρ, s, lo, r, rl, p⟩ := h
  unfold eLcX bnd at p
  cases e : ma lo s with
  | ok xs s' =>
    refine lc_le (n := xs.length + 1) hg ⟨ρ, s, lo, r, rl, ?_⟩
    have : eLc (xs.length + 1) (iFix ma) gl mt me vs lo s = (match lcX gl mt me s'.length (wipeL lo vs) xs (s' ++ [.lst []]) with | some s2 => .ok (.ref s'.length) s2 | none => .fail) := by
      unfold eLc iFix bnd
      simp only [e, ret]
      rw [lcX_eq gl mt me s'.length (wipeL lo vs) xs (xs.length + 1) 0 _ (by omega), List.drop_zero]
    rw [this]
    simp only [e] at p
    exact p
  | exc z s' =>
    refine lc_le (n := 1) hg ⟨ρ, s, lo, r, rl, ?_⟩
    have : eLc 1 (iFix ma) gl mt me vs lo s = .exc z s' := by
      unfold eLc iFix bnd
      simp only [e]
    rw [this]
    simp only [e] at p
    exact p
  | fail => simp only [e] at p; exact p.elim
end
end Sm

/-! S8: comprehensions as expressions; defs and their calls; attributes -/
namespace Sm
open PySem PySem.Spec PyProof.Rows L2
section
variable {X : Cx} {T : Tb} {W : WX} {elt tg iter : Expr} {ifs : List Expr} {scope : Scope} {own : List (Str × Nat)} {pos spos py : Pos} {m : IM} {ma : AM} {gt : TG} {gl : GL} {mt : TM} {me : EM}
theorem ce_lc (n : Nat) (hc : X.calm = true) (hN : X.N.Nodup) (hi : PI X tg iter (tI T W m)) (ok : BlkOk X.N X.env.scope scope own) (ho : TgOk T gt gl (own.map (·.2)))
    (hg : ∀ s H C cl fp, PG (X.blk s H scope (compEnvC scope cl C X.env) fp) tg gt) (ht : ∀ s H C cl fp, PTs (X.blk s H scope (compEnvC scope cl C X.env) fp) ifs (tT T WF mt))
    (he : ∀ s H C cl fp, PE (X.blk s H scope (compEnvC scope cl C X.env) fp) elt (tE T WF me)) (hs : ∀ x, foldedSetIterable iter X.env x = pure x := by intro _; rfl) :
    PE X (.ListComp elt [⟨tg, iter, ifs, 0⟩] scope pos) (tE T W (eLc n m gl mt me (own.map (·.2)))) := pe_mono (pe_lc hc hN hi ok hg ht he hs) fun _ _ _ h => lc_le ho h
theorem ce_lcX (hc : X.calm = true) (hN : X.N.Nodup) (hi : PI X tg iter (tI T W (iFix ma))) (ok : BlkOk X.N X.env.scope scope own) (ho : TgOk T gt gl (own.map (·.2)))
    (hg : ∀ s H C cl fp, PG (X.blk s H scope (compEnvC scope cl C X.env) fp) tg gt) (ht : ∀ s H C cl fp, PTs (X.blk s H scope (compEnvC scope cl C X.env) fp) ifs (tT T WF mt))
    (he : ∀ s H C cl fp, PE (X.blk s H scope (compEnvC scope cl C X.env) fp) elt (tE T WF me)) (hs : ∀ x, foldedSetIterable iter X.env x = pure x := by intro _; rfl) :
    PE X (.ListComp elt [⟨tg, iter, ifs, 0⟩] scope pos) (tE T W (eLcX ma gl mt me (own.map (·.2)))) := pe_mono (pe_lc hc hN hi ok hg ht he hs) fun _ _ _ h => lcx_le ho h
/-- y = [..] on one line -/
theorem cs_setLc (n : Nat) {i : Nat} {y : Str} (hc : X.calm = true) (hN : X.N.Nodup) (hy : X.N[i]? = some y) (hyl : X.env.scope.names.lookup y = some .local)
    (hsw : swapsWith (.ListComp elt [⟨tg, iter, ifs, 0⟩] scope pos) (some (.Name y py)) spos.line X.env = pure true) (hi : PI X tg iter (tI T W m)) (ok : BlkOk X.N X.env.scope scope own) (ho : TgOk T gt gl (own.map (·.2)))
    (hg : ∀ s H C cl fp, PG (X.blk s H scope (compEnvC scope cl C X.env) fp) tg gt) (ht : ∀ s H C cl fp, PTs (X.blk s H scope (compEnvC scope cl C X.env) fp) ifs (tT T WF mt))
    (he : ∀ s H C cl fp, PE (X.blk s H scope (compEnvC scope cl C X.env) fp) elt (tE T WF me)) (hs : ∀ x, foldedSetIterable iter X.env x = pure x := by intro _; rfl) :
    PS X (.Assign [.Name y py] (.ListComp elt [⟨tg, iter, ifs, 0⟩] scope pos) spos) (tS T W (sSet i (eLc n m gl mt me (own.map (·.2))))) := ps_mono (ps_setLc hc hN hy hyl hsw hi ok hg ht he hs) fun _ _ _ h => lc_le ho (tasg_le h)
theorem cs_setLcX {i : Nat} {y : Str} (hc : X.calm = true) (hN : X.N.Nodup) (hy : X.N[i]? = some y) (hyl : X.env.scope.names.lookup y = some .local)
    (hsw : swapsWith (.ListComp elt [⟨tg, iter, ifs, 0⟩] scope pos) (some (.Name y py)) spos.line X.env = pure true) (hi : PI X tg iter (tI T W (iFix ma))) (ok : BlkOk X.N X.env.scope scope own) (ho : TgOk T gt gl (own.map (·.2)))
    (hg : ∀ s H C cl fp, PG (X.blk s H scope (compEnvC scope cl C X.env) fp) tg gt) (ht : ∀ s H C cl fp, PTs (X.blk s H scope (compEnvC scope cl C X.env) fp) ifs (tT T WF mt))
    (he : ∀ s H C cl fp, PE (X.blk s H scope (compEnvC scope cl C X.env) fp) elt (tE T WF me)) (hs : ∀ x, foldedSetIterable iter X.env x = pure x := by intro _; rfl) :
    PS X (.Assign [.Name y py] (.ListComp elt [⟨tg, iter, ifs, 0⟩] scope pos) spos) (tS T W (sSet i (eLcX ma gl mt me (own.map (·.2))))) := ps_mono (ps_setLc hc hN hy hyl hsw hi ok hg ht he hs) fun _ _ _ h => lcx_le ho (tasg_le h)
end

/-! ### defs -/
/-- a def's promise where no repr runs around -/
structure FnG (P : Program) (w : World) (K : PySem.W.Frag) (mg : Str → Option Value) (base : Heap) (k : Nat) (f : Addr) (fd : FuncData) (ps : List Str) (sp : Sp) : Prop where
  len : ∀ vs H Q E, sp vs H Q E → vs.length = ps.length
  run : ∀ (A : Around) (outer : List Env) (s : Shared) (H : Hp) (args : Args) (us : List Value) (vs : List V) (Q : VK) (E : XK), Room k A → A.guards = some [] → Env0 P w K mg base A outer s H → BindsTo s fd args (ps.zip us) → Vals vs us → sp vs H Q E →
    codeAny (model P w) A (.call (.ref f) args) (CR (L2.CX P w) outer P w H s Q E) s
theorem FnG.mono {P : Program} {w : World} {K : PySem.W.Frag} {mg : Str → Option Value} {base : Heap} {j k : Nat} {f : Addr} {fd : FuncData} {ps : List Str} {sp : Sp} (F : FnG P w K mg base j f fd ps sp) (h : j ≤ k) : FnG P w K mg base k f fd ps sp :=
  ⟨F.len, fun A outer s H args us vs Q E hr => F.run A outer s H args us vs Q E (hr.mono h)⟩
/-- a def by its body -/
theorem fnG_of {P : Program} {w : World} {K : PySem.W.Frag} {mg : Str → Option Value} {base : Heap} {k : Nat} {x qual : Str} {st : Stmt} {f : Addr} {fd : FuncData} {N ps : List Str} {sp : Sp} (F : Fun K x qual st f fd) (S : FnScope N ps (defScope st)) (len : ∀ vs H Q E, sp vs H Q E → vs.length = ps.length)
    (hbody : ∀ (cdv : Value) (A : Around) (outer : List Env) (s : Shared) (H : Hp) (vs : List V) (Q : VK) (E : XK), Room k (A.deeper (envOfC qual (defScope st) s.heap.objs.size f cdv)) → A.guards = some [] → sp vs H Q E →
      ∃ t, PSs (cxOf (L2.CX P w) P w K mg base N qual (defScope st) f cdv A outer s H E) (defBody st) t ∧ t { nx := fun _ H' => Q .non H', rt := Q } (L2.start N vs) H) : FnG P w K mg base (k + 1) f fd ps sp := by
  obtain ⟨oc, od, kV, doc, pm, an, cdv, ct, osl, rfl, lk, hcd⟩ := F.ex
  refine ⟨len, fun A outer s H args us vs Q E hr hg e0 hb r hsp => ?_⟩
  have inK : K.In s.heap := e0.mod.kin.keeps fun b o e => (e0.bs b o e).1
  have nl : s.heap.NoLimit := e0.mod.nolimit.keeps fun b o e => (e0.bs b o e).1
  have kinds : ∀ y ∈ ps.zip us, (defScope st).names.lookup y.1 = some .local ∨ ((defScope st).names.lookup y.1 = some .cell ∧ ((cellsFrom (s.heap.objs.size + 1) (defScope st).names []).lookup y.1).isSome = true) := by
    rintro ⟨n, v⟩ hy
    exact (S.par n (List.of_mem_zip hy).1).imp id fun q => ⟨q, PySem.W.cellsFrom_some _ _ _ (.inl q)⟩
  refine codeAny_call_function hr.depth (inK _ _ lk) rfl S.co S.gen rfl (PySem.W.codeRec_of inK hcd) (hb _ _ _ _ (wpAny_newFunctionEnv_cells S.kind kinds fun env he s1 y => ?_))
  subst he
  refine ⟨nl.keeps y.toInCall.keep, codeAny_func ?_⟩
  obtain ⟨t, ht, hq⟩ := hbody cdv A outer s H vs Q E (hr.deeper _) hg hsp
  refine wpAny_mono (ht.run [] s1 (L2.start N vs) H _ (inv_start S hr.hd e0 (len _ _ _ _ hsp) r y) hq) (fun fl s' hs => ?_) fun e s' hs => hs
  cases fl with
  | ret u => obtain ⟨v, σ', H', J, rv, q⟩ := hs; exact ⟨v, H', J.os, J.bare, J.base, J.hok, rv, q⟩
  | next => obtain ⟨σ', H', J, q⟩ := hs; exact ⟨V.non, H', J.os, J.bare, J.base, J.hok, rfl, q⟩
  | brk => obtain ⟨_, _, _, q⟩ := hs; exact q.elim
  | cont => obtain ⟨_, _, _, q⟩ := hs; exact q.elim
/-- the promise of a pure function -/
def SpM (T : Tb) (n : Nat) (m : List Vl → M Vl) : Sp := fun vs H Q E => ∃ (ρ : List Addr) (s : Sto) (as : List Vl), Rel T ρ H s ∧ RVs T ρ H as vs ∧ as.length = n ∧ Po (RV T) T E ρ H (m as s) Q
/-- a body as a function; n: how many names -/
def fnM (n : Nat) (b : SM) : List Vl → M Vl := fun as s => match b (as.map some ++ List.replicate (n - as.length) none) s with
  | .nx _ s' => .ok .non s'
  | .rt v s' => .ok v s'
  | .exc e _ s' => .exc e s'
  | _ => .fail
theorem rl_start {T : Tb} {ρ : List Addr} {H : Hp} {as : List Vl} {vs : List V} {N : List Str} (h : RVs T ρ H as vs) : RL T ρ H (as.map some ++ List.replicate (N.length - as.length) none) (L2.start N vs) := by
  refine ⟨?_, fun i x e => ?_⟩
  · unfold L2.start
    simp only [List.length_append, List.length_map, List.length_replicate, h.length]
  · by_cases hi : i < as.length
    · rw [List.getElem?_append_left (by simpa using hi), List.getElem?_map] at e
      cases q : as[i]? with
      | none => rw [q] at e; cases e
      | some y =>
        rw [q] at e
        cases e
        obtain ⟨z, h1, h2⟩ := h.get q
        refine ⟨z, ?_, h2⟩
        unfold L2.start
        rw [List.getElem?_append_left (by rw [List.length_map, ← h.length]; exact hi), List.getElem?_map, h1]; rfl
    · rw [List.getElem?_append_right (by simpa using hi), List.getElem?_replicate] at e
      split at e <;> cases e
theorem fn_body {T : Tb} {N : List Str} {n : Nat} {b : SM} {vs : List V} {H : Hp} {Q : VK} {E : XK} (h : SpM T n (fnM N.length b) vs H Q E) : tS T (fun c d _ H' => E c d H') b { nx := fun _ H' => Q .non H', rt := Q } (L2.start N vs) H := by
  obtain ⟨ρ, s, as, r, hv, hl, p⟩ := h
  refine ⟨ρ, s, _, r, rl_start hv, ?_⟩
  unfold fnM at p
  cases e : b (as.map some ++ List.replicate (N.length - as.length) none) s with
  | nx lo s' => rw [e] at p; exact fun ρ' H' σ' x r' _ => p ρ' H' .non x r' .non
  | rt v s' => rw [e] at p; exact p
  | exc z lo s' => rw [e] at p; exact fun ρ' H' σ' C x r' _ hC => p ρ' H' C x r' hC
  | bk lo s' => rw [e] at p; exact p.elim
  | ct lo s' => rw [e] at p; exact p.elim
  | fail => rw [e] at p; exact p.elim
/-- a def of the text computes the pure function of its body -/
theorem fn_sim {P : Program} {w : World} {K : PySem.W.Frag} {mg : Str → Option Value} {base : Heap} {k n : Nat} {x qual : Str} {st : Stmt} {f : Addr} {fd : FuncData} {N ps : List Str} {T : Tb} {b : SM} (F : Fun K x qual st f fd) (S : FnScope N ps (defScope st)) (hn : n = ps.length)
    (body : ∀ (cdv : Value) (A : Around) (outer : List Env) (s : Shared) (H : Hp) (E : XK), Room k (A.deeper (envOfC qual (defScope st) s.heap.objs.size f cdv)) → A.guards = some [] →
      PSs (cxOf (L2.CX P w) P w K mg base N qual (defScope st) f cdv A outer s H E) (defBody st) (tS T (fun c d _ H' => E c d H') b)) : FnG P w K mg base (k + 1) f fd ps (SpM T n (fnM N.length b)) :=
  fnG_of F S (fun vs H Q E ⟨ρ, s, as, r, hv, hl, p⟩ => by rw [← hv.length, hl, hn]) fun cdv A outer s H vs Q E hr hg h => ⟨_, body cdv A outer s H E hr hg, fn_body h⟩

/-! ### calls of defs -/
section
variable {X : Cx} {T : Tb} {W : WX} {k n : Nat} {f : Addr} {fd : FuncData} {ps : List Str} {mf : List Vl → M Vl} {x : Str} {p pos apos : Pos} {e o : Expr} {es : List Expr} {ma : AM} {mo : EM} {ds : List Value} {dvs : List V} {das : List Vl}
def eCall (mf : List Vl → M Vl) (a : AM) : EM := fun lo => bnd (a lo) mf
/-- with defaults das behind the arguments -/
def eCallD (mf : List Vl → M Vl) (das : List Vl) (a : AM) : EM := fun lo => bnd (a lo) fun as => mf (as ++ das)
theorem run_G {sp : Sp} {pins : List (Addr × Obj)} {σ : L2.St} {H : Hp} {s : Shared} {Q : VK} {us : List Value} {vs : List V} (F : FnG X.prog X.w X.K X.mg X.base k f fd ps sp) (hr : Room k X.A) (hg : X.A.guards = some []) (hb : Binds X.K fd ps ds) (hd : Vals dvs ds) (tk : Takes X W)
    (I : Inv X pins σ H s) (r : Vals vs us) (h : sp (vs ++ dvs) H Q fun c d H' => W c d σ H') : wpAny (model X.prog X.w) X.A (call (.ref f) us) (EP X pins σ Q) X.xe s := by
  have r2 : Vals (vs ++ dvs) (us ++ ds) := r.append hd
  refine wpAny_call (codeAny_mono (F.run X.A X.stack s H ⟨us, []⟩ (us ++ ds) (vs ++ dvs) Q _ hr hg I.env0 (hb s us I.kIn (by rw [← r2.length]; exact F.len _ _ _ _ h)) r2 h) fun z s' hq => ?_)
  cases z with
  | error y => exact tk y s' (XE.of_call I (fun _ _ _ q => q) hq)
  | ok fl =>
    cases fl with
    | ret u => exact I.after hq
    | next => exact hq.elim
    | brk => exact hq.elim
    | cont => exact hq.elim
theorem spM_of {ρ : List Addr} {s : Sto} {as : List Vl} {vs : List V} {H : Hp} {Q : VK} {E : XK} (r : Rel T ρ H s) (hv : RVs T ρ H as vs) (hl : as.length = n) (p : Po (RV T) T E ρ H (mf as s) Q) : SpM T n mf vs H Q E := ⟨ρ, s, as, r, hv, hl, p⟩
/-- the number of arguments is checked in the pure function -/
def arg (n : Nat) (mf : List Vl → M Vl) : List Vl → M Vl := fun as s => if as.length = n then mf as s else .fail
theorem ce_call (F : FnG X.prog X.w X.K X.mg X.base k f fd ps (SpM T n mf)) (hr : Room k X.A) (hgd : X.A.guards = some []) (hg : Gl X x) (hm : X.mg x = some (.ref f)) (hk : PySem.W.keepIn X.K (.ref f) = true) (hb : Binds X.K fd ps []) (tk : Takes X W) (ha : PA X (e :: es) (tA T W ma))
    (hdb : (x == ("__debug__" : Str)) = false := by decide) (he : starEach (e :: es) X.env = (false, eval e X.env) :: starEach es X.env := by rfl) (hpl : (backTo pos (starEach es X.env)).any (·.1) = false := by rfl) :
    PE X (.Call (.Name x p) (e :: es) [] pos) (tE T W (eCall (arg n mf) ma)) := by
  refine ⟨fun pins s σ H Q I h => wpAny_Call_Name_kw (ld_glob I hg hm ?_ hdb)⟩
  have h : tA T W ma σ H fun vs H1 => SpM T n mf (vs ++ []) H1 Q fun c d H' => W c d σ H' := tG_bnd (R := RVs T) h fun ρ s lo xs zs H1 r rl hx q => by
    unfold arg at q
    split at q
    · rename_i hl
      rw [List.append_nil]
      exact spM_of r hx hl q
    · exact q.elim
  refine PySem.W.callWith_K (h₀ := X.base) I.ok.mod.kin hk (thn (ha.run pos pins s σ H _ I h) fun us s1 ⟨vs, H1, I1, r, q⟩ => ⟨I1.kIn, ?_⟩) he hpl
  exact run_G F hr hgd hb .nil tk I1 r q
theorem ce_call0 (F : FnG X.prog X.w X.K X.mg X.base k f fd ps (SpM T 0 mf)) (hr : Room k X.A) (hgd : X.A.guards = some []) (hg : Gl X x) (hm : X.mg x = some (.ref f)) (hk : PySem.W.keepIn X.K (.ref f) = true) (hb : Binds X.K fd ps []) (tk : Takes X W)
    (hdb : (x == ("__debug__" : Str)) = false := by decide) : PE X (.Call (.Name x p) [] [] pos) (tE T W (eCall mf aNil)) := by
  refine ⟨fun pins s σ H Q I h => wpAny_Call_Name_kw (ld_glob I hg hm ?_ hdb)⟩
  obtain ⟨ρ, st, lo, r, rl, q⟩ := h
  exact PySem.W.callWith_K0 I.kIn hk (run_G (us := []) (vs := []) F hr hgd hb .nil tk I .nil (spM_of (as := []) r .nil rfl q))
end
end Sm

/-! S9: the end of a law: from the pure function of the law to the row -/
namespace Sm
open PySem PySem.Spec PyProof.Rows L2
/-- nothing is tracked but the script -/
def H0 (K : PySem.W.Frag) (a : Addr) (ob : Obj) (ns : List Int) : Hp := fun b => if b = a ∧ (K.lookup a).isNone = true then some (.frz ob (.lst (ns.map V.int))) else none
theorem H0_some {K : PySem.W.Frag} {a b : Addr} {ob : Obj} {ns : List Int} {u : HO} (h : H0 K a ob ns b = some u) : b = a ∧ K.lookup a = none ∧ u = .frz ob (.lst (ns.map V.int)) := by
  unfold H0 at h
  split at h
  · rename_i q
    cases h
    refine ⟨q.1, ?_, rfl⟩
    cases e : K.lookup a with
    | none => rfl
    | some o => rw [e] at q; exact absurd q.2 (by simp)
  · cases h
theorem law_G {P : Program} {w : World} {T : Tb} {mg mb : Str → Option Value} {k : Nat} {fa a : Addr} {fd : FuncData} {x : Str} {m : List Vl → M Vl} {s₁ : Shared} {vs : List Value} {ns : List Int} {st : Sto}
    (KX : T.K.In s₁.heap) (hns : s₁.heap.Ns mainGlobals mg) (hb : s₁.heap.Ns builtinsNs mb) (hbb : ∀ x : Str, x ≠ "__name__" → mb x = bootBuiltins x) (hlim : s₁.heap.NoLimit) (hg : s₁.gens = #[])
    (ha : s₁.heap.get? a = some { cls := .type "list", data := .seq vs.toArray }) (hi : IntsAre vs ns) (hl : ns.length ≤ sizeLine) (hr : Room k callerA)
    (F : ∀ base : Heap, T.K.In base → base.Ns mainGlobals mg → FnG P w T.K mg base k fa fd [x] (SpM T 1 m)) (hbind : ∀ (s : Shared) (u : Value), BindsTo s fd ⟨[u], []⟩ [(x, u)])
    (hm : m [.scr ns] [] = .ok (.bl true) st) :
    codeAny (model P w) callerA (.call (.ref fa) ⟨[.ref a], []⟩) (fun r s' => r = .ok (.ret (.bool true)) ∧ OldK s₁.heap s'.heap ∧ s'.os = s₁.os ∧ AllBare s'.gens) s₁ := by
  have rv := vals_ints hi
  let ob : Obj := { cls := .type "list", data := .seq vs.toArray }
  let H := H0 T.K a ob ns
  have out : ∀ {b : Addr} {o : Obj}, s₁.heap.get? b = some o → b ≠ a → (hidT s₁.heap H).get? b = some o := fun {b o} e n => hidT_get e (by
    cases q : H b with
    | none => rfl
    | some u => exact absurd (H0_some q).1 n)
  have nd : ∀ {b : Addr} {m : Str → Option Value}, s₁.heap.Ns b m → (hidT s₁.heap H).Ns b m := fun {b m} ⟨o, es, ep, e, d, r⟩ => ⟨o, es, ep, out e (fun z => by
    subst z
    rw [ha] at e
    cases e
    have d : Data.seq vs.toArray _ = Data.dict es ep := d
    cases d), d, r⟩
  have inB : T.K.In (hidT s₁.heap H) := fun b o e => hidT_get (KX b o e) (by
    cases q : H b with
    | none => rfl
    | some u =>
      obtain ⟨rfl, h2, _⟩ := H0_some q
      rw [h2] at e
      cases e)
  have md : Mod T.K mg (hidT s₁.heap H) := ⟨inB, nd hns, ⟨mb, nd hb, hbb⟩, let ⟨mc, h1, h2⟩ := hlim; ⟨mc, nd h1, h2⟩⟩
  have hok : HOk P w H s₁.heap := fun b u q => by
    obtain ⟨rfl, h2, rfl⟩ := H0_some q
    exact ⟨ha, by rw [List.length_map]; exact hl, vs, _, rv, ha⟩
  have e0 : Env0 P w T.K mg (hidT s₁.heap H) callerA [] s₁ H := ⟨rfl, md, fun b o e => of_hidT e, Nat.le_of_eq (hidT_size _ _), trivial, fun b hb => absurd hb (List.not_mem_nil), hok, .of_eq hg⟩
  have rs : RV T [] H (.scr ns) (.ref a) := by
    cases q : T.K.lookup a with
    | none => exact .scr (o := ob) (by show H0 T.K a ob ns a = _; unfold H0; rw [if_pos ⟨rfl, by rw [q]; rfl⟩])
    | some o =>
      have e := KX a o q
      rw [ha] at e
      cases e
      exact .scrK fun H' => .inr ⟨_, vs.toArray, _, q, rfl, rfl, rfl, by rw [List.size_toArray, ← rv.length, List.length_map]; exact hl, by simpa using rv⟩
  have sp : SpM T 1 m [.ref a] H (fun v _ => v = .bl true) fun _ _ _ => False := ⟨[], [], [.scr ns], ⟨rfl, List.nodup_nil, fun i a o h _ => by simp at h⟩, .cons rs .nil, rfl, by
    rw [hm]
    exact fun ρ' H' z _ _ hz => hz.blE⟩
  refine codeAny_mono ((F _ inB (nd hns)).run callerA [] s₁ H ⟨[.ref a], []⟩ [.ref a] [.ref a] _ _ hr rfl e0 (hbind s₁ (.ref a)) (.cons rfl .nil) sp) fun r s' h => ?_
  cases r with
  | error e =>
    obtain ⟨_, _, _, _, _, _, _, _, _, _, _, _, z⟩ := h
    exact z.elim
  | ok fl =>
    cases fl with
    | next => exact h.elim
    | brk => exact h.elim
    | cont => exact h.elim
    | ret u =>
      obtain ⟨v, H', os, bare, un, hok', r', q⟩ := h
      have q : v = .bl true := q
      subst q
      obtain rfl : u = Value.bool true := r'
      refine ⟨rfl, OldK.of_keep fun b o e => ?_, os, bare⟩
      cases q : H b with
      | none => exact un.keep b o e q (fun z => absurd z (List.not_mem_nil)) (List.not_mem_nil)
      | some u =>
        obtain ⟨rfl, h2, rfl⟩ := H0_some q
        have z2 := un.frzs b _ _ q
        obtain ⟨e2, _⟩ := hok' b _ z2
        rw [ha] at e
        cases e
        exact e2
/-- the goal that the head leaves, from the law's pure function -/
theorem walk_G {l : PySem.W.OpenLaw} {n k : Nat} {q : Program} {loose : List Str} {XP : (Str → Option Value) → Heap → Prop} {YP : World → Heap → Prop} {d : DefRec} {K : Params → PySem.W.Frag} {x : Str} {m : List Vl → M Vl}
    (hn : l.most = some n) (hn2 : n ≤ sizeLine) (hdf : d.params.defaults = []) (hr : Room k callerA) (hY : ∀ (w : World) (h : Heap), YP w h → (K w.params).In h)
    (F : ∀ (w : World) (mg : Str → Option Value) (fa : Addr) (h : Heap), (K w.params).In h → h.Ns mainGlobals mg → mg d.name = some (.ref fa) → ∃ (T : Tb) (fd : FuncData), T.K = K w.params ∧ (∀ (s : Shared) (u : Value), BindsTo s fd ⟨[u], []⟩ [(x, u)]) ∧
        ∀ base : Heap, T.K.In base → base.Ns mainGlobals mg → FnG l.prog w T.K mg base k fa fd [x] (SpM T 1 m))
    (hm : ∀ ns : List Int, ns.length ≤ n → ∃ st, m [.scr ns] [] = .ok (.bl true) st) :
    PySem.W.WalkO q loose XP YP l.row.toRowW d [] (fun f vs => PySem.call f vs) := by
  refine Att.attach_call hn hdf fun w s₀ s₁ mg mb fa o pm cd doc a vs ns G Y ho hd hcd hmg hobj hints hlen hg => ?_
  obtain ⟨T, fd, eT, hb, hF⟩ := F w mg fa _ (hY w _ Y) G.T.g hmg
  obtain ⟨st, e⟩ := hm ns hlen
  exact law_G (by rw [eT]; exact hY w _ Y) G.T.g G.T.b G.T.builtins G.T.nolimit hg hobj hints (Nat.le_trans hlen hn2) hr hF hb e
end Sm

/-! S10: objects: fields, methods, making -/
namespace Sm
open PySem PySem.Spec PyProof.Rows L2
def putS (f : Str) (v : Vl) : List (Str × Vl) → List (Str × Vl)
  | [] => [(f, v)]
  | (g, x) :: r => if g = f then (g, v) :: r else (g, x) :: putS f v r
def getS (fs : List (Str × Vl)) (f : Str) : Option Vl := match fs with
  | [] => none
  | (g, x) :: r => if g = f then some x else getS r f
section
variable {T : Tb} {ρ : List Addr} {H : Hp}
theorem lookup_step {α : Type} (f g : Str) (x : α) (r : List (Str × α)) : List.lookup f ((g, x) :: r) = if g = f then some x else List.lookup f r := by
  by_cases h : g = f
  · subst h
    rw [if_pos rfl]
    simp [List.lookup]
  · rw [if_neg h]
    have : (f == g) = false := by
      cases e : (f == g) with
      | false => rfl
      | true => exact absurd (eq_of_beq e).symm h
    simp [List.lookup, this]
theorem getS_ok {f : Str} : ∀ {fs : List (Str × Vl)} {vs : List (Str × V)}, vs.map (·.1) = fs.map (·.1) → RVs T ρ H (fs.map (·.2)) (vs.map (·.2)) →
    (getS fs f = none → vs.lookup f = none) ∧ ∀ v, getS fs f = some v → ∃ z, vs.lookup f = some z ∧ RV T ρ H v z
  | [], [], _, _ => ⟨fun _ => rfl, fun v e => by simp [getS] at e⟩
  | [], _ :: _, e, _ => by simp at e
  | _ :: _, [], e, _ => by simp at e
  | (g, x) :: r, (g', z) :: t, e, h => by
    simp only [List.map_cons, List.cons.injEq] at e
    rw [List.map_cons, List.map_cons] at h
    obtain ⟨e1, e2⟩ := e
    subst e1
    cases h with
    | cons h1 h2 =>
      have ih := getS_ok (f := f) e2 h2
      rw [lookup_step]
      unfold getS
      by_cases hk : g' = f
      · rw [if_pos hk, if_pos hk]
        refine ⟨(fun q => nomatch q), fun v q => ?_⟩
        cases q
        exact ⟨z, rfl, h1⟩
      · rw [if_neg hk, if_neg hk]
        exact ih
theorem putS_ok {f : Str} {v : Vl} {z : V} (hv : RV T ρ H v z) : ∀ {fs : List (Str × Vl)} {vs : List (Str × V)}, vs.map (·.1) = fs.map (·.1) → RVs T ρ H (fs.map (·.2)) (vs.map (·.2)) →
    (putF f z vs).map (·.1) = (putS f v fs).map (·.1) ∧ RVs T ρ H ((putS f v fs).map (·.2)) ((putF f z vs).map (·.2))
  | [], [], _, _ => ⟨rfl, .cons hv .nil⟩
  | [], _ :: _, e, _ => by simp at e
  | _ :: _, [], e, _ => by simp at e
  | (g, x) :: r, (g', y) :: t, e, h => by
    simp only [List.map_cons, List.cons.injEq] at e
    rw [List.map_cons, List.map_cons] at h
    obtain ⟨e1, e2⟩ := e
    subst e1
    cases h with
    | cons h1 h2 =>
      unfold putF putS
      by_cases hk : g' = f
      · rw [if_pos hk, if_pos hk]
        exact ⟨by simp [e2], .cons hv h2⟩
      · rw [if_neg hk, if_neg hk]
        obtain ⟨a, b⟩ := putS_ok hv e2 h2
        exact ⟨by simp [a], .cons h1 b⟩
theorem Rel.ins {s : Sto} {i c : Nat} {fs : List (Str × Vl)} {a : Addr} (r : Rel T ρ H s) (h : s[i]? = some (.ins c fs)) (ha : ρ[i]? = some a) :
    ∃ (C dx : Addr) (vs : List (Str × V)), T.cl[c]? = some C ∧ H a = some (.ins C dx vs) ∧ vs.map (·.1) = fs.map (·.1) ∧ RVs T ρ H (fs.map (·.2)) (vs.map (·.2)) := r.ob i a _ ha h
end
/-- e.f, of an object of one of the classes cs -/
def eFld (cs : List Nat) (f : Str) (o : EM) : EM := fun lo => bnd (o lo) fun x s => match x with
  | .ref j => match s[j]? with
    | some (.ins c fs) => if c ∈ cs then match getS fs f with
        | some v => .ok v s
        | none => .fail
      else .fail
    | _ => .fail
  | _ => .fail
/-- e.f = v -/
def setFld (cs : List Nat) (f : Str) (x v : Vl) (s : Sto) : Option Sto := match x with
  | .ref j => match s[j]? with
    | some (.ins c fs) => if c ∈ cs ∧ fs.length < 1000 then some (s.set j (.ins c (putS f v fs))) else none
    | _ => none
  | _ => none
def sFldM (cs : List Nat) (f : Str) (o e : EM) : SM := bndS e fun lo v s => bndS o (fun lo x s => match setFld cs f x v s with
  | some s' => .nx lo s'
  | none => .fail) lo s
/-- the classes cs have no attribute f of their own -/
def FldOk (T : Tb) (cs : List Nat) (f : Str) : Prop := ∀ c ∈ cs, ∀ C, T.cl[c]? = some C → Cls T.K C ∧ NoAttr T.K C f
/-- o.m(..): the method by the object's class -/
abbrev MTab := Nat → Option (List Vl → M Vl)
def eMeth (m : Str) (tab : MTab) (o : EM) (a : AM) : EM := fun lo => bnd (o lo) fun x s => match x with
  | .ref j => match s[j]? with
    | some (.ins c fs) => match tab c, getS fs m with
      | some mf, none => bnd (a lo) (fun as => mf (.ref j :: as)) s
      | _, _ => .fail
    | _ => .fail
  | _ => .fail
section
variable {X : Cx} {T : Tb} {W : WX} {o e value : Expr} {es : List Expr} {f : Str} {pos pos' apos : Pos} {mo me : EM} {ma : AM} {cs : List Nat}
theorem ce_fld (ok : FldOk T cs f) (he : PE X e (tE T W me)) (hb : attributeBase e f X.env (eval e X.env) = eval e X.env := by rfl) (hK : X.K = T.K := by rfl) : PE X (.Attribute e f pos) (tE T W (eFld cs f me)) :=
  pe_mono (pe_fld he hb) fun σ H Q h => tG_bnd (R := RV T) h fun ρ s lo x z H1 r rl hx p => by
    cases hx with
    | ref ha =>
      simp only at p
      split at p
      · rename_i c fs hj
        split at p
        · rename_i hc
          split at p
          · rename_i v hv
            obtain ⟨C, dx, vs, h1, h2, h3, h4⟩ := r.ins hj ha
            obtain ⟨w, h5, h6⟩ := (getS_ok (f := f) h3 h4).2 v hv
            obtain ⟨k1, k2⟩ := ok c hc C h1
            rw [hK]
            exact ⟨_, C, dx, vs, w, rfl, h2, k1, k2, h5, p ρ H1 w .refl r h6⟩
          · exact p.elim
        · exact p.elim
      · exact p.elim
    | _ => exact p.elim
theorem cs_fld (ok : FldOk T cs f) (ho : PE X o (tE T W mo)) (hv : PE X value (tE T W me)) (hs : swapsWith value (some (.Attribute o f pos')) pos.line X.env = pure false := by rfl) (hK : X.K = T.K := by rfl) :
    PS X (.Assign [.Attribute o f pos'] value pos) (tS T W (sFldM cs f mo me)) := ps_mono (ps_fld ho hv hs) fun D σ H h =>
  tS_bnd (R := RV T) h fun ρ s lo v z H1 r rl hv p => poS_bnd (R := RV T) r rl p fun ρ' s' x y H' ext r' rl' hx p' => by
    unfold setFld at p'
    cases hx with
    | ref ha =>
      simp only at p'
      split at p'
      · rename_i sf e
        split at e
        · rename_i c fs hj
          split at e
          · rename_i hc
            cases e
            obtain ⟨C, dx, vs, h1, h2, h3, h4⟩ := r'.ins hj ha
            obtain ⟨k1, k2⟩ := ok c hc.1 C h1
            obtain ⟨g1, g2⟩ := putS_ok (f := f) (hv.mono ext) h3 h4
            have hlen : vs.length = fs.length := by have := congrArg List.length h3; simpa using this
            rw [hK]
            refine ⟨_, C, dx, vs, rfl, h2, k1, k2, by rw [hlen]; exact hc.2, ?_⟩
            exact p' ρ' _ σ (r'.setExt ha h2) (r'.set ha ⟨C, dx, _, h1, upd_same, g1, g2.mono (r'.setExt ha h2)⟩) (rl'.mono (r'.setExt ha h2))
          · cases e
        · cases e
      · exact p'.elim
    | _ => exact p'.elim
/-- the methods m of the classes of tab -/
def MethOk (X : Cx) (T : Tb) (m : Str) (k n : Nat) (tab : MTab) : Prop := ∀ c mf, tab c = some mf → ∀ C, T.cl[c]? = some C → ∃ (f : Addr) (fd : FuncData) (ps : List Str), Cls T.K C ∧ Meth T.K C m f ∧ FnG X.prog X.w X.K X.mg X.base k f fd ps (SpM T (n + 1) mf) ∧ Binds X.K fd ps []
def tabA (n : Nat) (tab : MTab) : MTab := fun c => (tab c).map (arg (n + 1))
theorem ce_meth {m : Str} {k n : Nat} {tab : MTab} {pl : Sem Bool} (ok : MethOk X T m k n tab) (hr : Room k X.A) (hgd : X.A.guards = some []) (tk : Takes X W) (ho : PE X o (tE T W mo)) (ha : PA X (e :: es) (tA T W ma))
    (hst : starEach (e :: es) X.env = (false, eval e X.env) :: starEach es X.env := by rfl) (hpl : (backTo pos (starEach es X.env)).any (·.1) = false := by rfl)
    (ht : eval (.Call (.Attribute o m apos) (e :: es) [] pos) X.env = (do let ov ← eval o X.env; standAt apos.atName; let (f, first) ← holding [ov] (getMethod ov m pl); callWith pos f first (backTo pos (starEach (e :: es) X.env)) (backToKw pos (keywordEach [] X.env))) := by rfl)
    (hK : X.K = T.K := by rfl) : PE X (.Call (.Attribute o m apos) (e :: es) [] pos) (tE T W (eMeth m (tabA n tab) mo ma)) := by
  refine ⟨fun pins s σ H Q I h => ?_⟩
  have h : tE T W mo σ H fun x H1 => ∃ (a C dx f : Addr) (fs : List (Str × V)) (mf : List Vl → M Vl) (fd : FuncData) (ps : List Str), x = .ref a ∧ H1 a = some (.ins C dx fs) ∧ Cls T.K C ∧ Meth T.K C m f ∧ fs.lookup m = none ∧ FnG X.prog X.w X.K X.mg X.base k f fd ps (SpM T (n + 1) mf) ∧ Binds X.K fd ps [] ∧
      tA T W ma σ H1 fun vs H2 => SpM T (n + 1) mf (.ref a :: vs ++ []) H2 Q fun c d H' => W c d σ H' := tG_bnd (R := RV T) h fun ρ s lo x z H1 r rl hx p => by
    cases hx with
    | ref hρ =>
      rename_i j a
      simp only at p
      split at p
      · rename_i c fs hj
        split at p
        · rename_i mf hm hg
          unfold tabA at hm
          obtain ⟨mf0, hm0, rfl⟩ := Option.map_eq_some_iff.mp hm
          obtain ⟨C, dx, vs, h1, h2, h3, h4⟩ := r.ins hj hρ
          obtain ⟨f, fd, ps, k1, k2, k3, k4⟩ := ok c mf0 hm0 C h1
          refine ⟨a, C, dx, f, vs, mf0, fd, ps, rfl, h2, k1, k2, (getS_ok (f := m) h3 h4).1 hg, k3, k4, po_bnd (R := RVs T) (m := ma) r rl p fun ρ' s' as zs H' ext r' rl' has p' => ?_⟩
          unfold arg at p'
          split at p'
          · rename_i hl
            rw [List.append_nil]
            exact spM_of r' (.cons (.ref (ext.pre _ _ hρ)) has) hl p'
          · exact p'.elim
        · exact p.elim
      · exact p.elim
    | _ => exact p.elim
  refine PySem.W.methodCall_KW (pl := pl) (thn (ho.run pins s σ H _ I h) fun u s1 ⟨x, H1, I1, rx, a, C, dx, f, fs, mf, fd, ps, ex, ea, cl, mt, l, F, hb, q⟩ => ?_) ht
  subst ex
  obtain rfl : u = Value.ref a := rx
  rw [← hK] at cl mt
  refine getmeth_ok I1 ea cl mt l ?_
  refine PySem.W.callWith_K (first := [.ref a]) (h₀ := X.base) I.ok.mod.kin mt.kp (thn (ha.run pos pins s1 σ H1 _ I1 q) fun us s2 ⟨vs, H2, I2, r, q2⟩ => ⟨I2.kIn, ?_⟩) hst hpl
  exact run_G (us := .ref a :: us) (vs := .ref a :: vs) F hr hgd hb .nil tk I2 (.cons rfl r) q2
theorem ce_meth0 {m : Str} {k : Nat} {tab : MTab} {pl : Sem Bool} (ok : MethOk X T m k 0 tab) (hr : Room k X.A) (hgd : X.A.guards = some []) (tk : Takes X W) (ho : PE X o (tE T W mo))
    (ht : eval (.Call (.Attribute o m apos) [] [] pos) X.env = (do let ov ← eval o X.env; standAt apos.atName; let (f, first) ← holding [ov] (getMethod ov m pl); callWith pos f first (backTo pos (starEach [] X.env)) (backToKw pos (keywordEach [] X.env))) := by rfl)
    (hK : X.K = T.K := by rfl) : PE X (.Call (.Attribute o m apos) [] [] pos) (tE T W (eMeth m (tabA 0 tab) mo aNil)) := by
  refine ⟨fun pins s σ H Q I h => ?_⟩
  have h : tE T W mo σ H fun x H1 => ∃ (a C dx f : Addr) (fs : List (Str × V)) (mf : List Vl → M Vl) (fd : FuncData) (ps : List Str), x = .ref a ∧ H1 a = some (.ins C dx fs) ∧ Cls T.K C ∧ Meth T.K C m f ∧ fs.lookup m = none ∧ FnG X.prog X.w X.K X.mg X.base k f fd ps (SpM T (0 + 1) mf) ∧ Binds X.K fd ps [] ∧
      SpM T (0 + 1) mf [.ref a] H1 Q fun c d H' => W c d σ H' := tG_bnd (R := RV T) h fun ρ s lo x z H1 r rl hx p => by
    cases hx with
    | ref hρ =>
      rename_i j a
      simp only at p
      split at p
      · rename_i c fs hj
        split at p
        · rename_i mf hm hg
          unfold tabA at hm
          obtain ⟨mf0, hm0, rfl⟩ := Option.map_eq_some_iff.mp hm
          obtain ⟨C, dx, vs, h1, h2, h3, h4⟩ := r.ins hj hρ
          obtain ⟨f, fd, ps, k1, k2, k3, k4⟩ := ok c mf0 hm0 C h1
          exact ⟨a, C, dx, f, vs, mf0, fd, ps, rfl, h2, k1, k2, (getS_ok (f := m) h3 h4).1 hg, k3, k4, spM_of r (.cons (.ref hρ) .nil) rfl p⟩
        · exact p.elim
      · exact p.elim
    | _ => exact p.elim
  refine PySem.W.methodCall_KW (pl := pl) (thn (ho.run pins s σ H _ I h) fun u s1 ⟨x, H1, I1, rx, a, C, dx, f, fs, mf, fd, ps, ex, ea, cl, mt, l, F, hb, q⟩ => ?_) ht
  subst ex
  obtain rfl : u = Value.ref a := rx
  rw [← hK] at cl mt
  refine getmeth_ok I1 ea cl mt l ?_
  exact PySem.W.callWith_K0 (first := [.ref a]) I1.kIn mt.kp (run_G (us := [.ref a]) (vs := [.ref a]) F hr hgd hb .nil tk I1 (.cons rfl .nil) (by rw [List.append_nil]; exact q))
end
/-! ### making -/
/-- C(..): a new object of class c, then __init__ -/
def eMake (c : Nat) (mi : List Vl → M Vl) (a : AM) : EM := fun lo => bnd (a lo) fun as s => match mi (.ref s.length :: as) (s ++ [.ins c []]) with
  | .ok .non s' => .ok (.ref s.length) s'
  | .ok _ _ => .fail
  | .exc e s' => .exc e s'
  | .fail => .fail
theorem under_guards {A : Around} {C : Addr} {us : List Value} (h : A.guards = some []) : (A.under (.builtin "type.__call__" ⟨.ref C :: us, []⟩)).guards = some [] := by
  simp [Around.under, Code.guards, Code.isGuard, guardIds, pushGuards, h]
section
variable {X : Cx} {T : Tb} {W : WX} {e : Expr} {es : List Expr} {p pos : Pos} {ma : AM} {C f : Addr} {fd : FuncData} {ps : List Str} {k n c : Nat} {mi : List Vl → M Vl} {x : Str}
theorem run_mk {pins : List (Addr × Obj)} {σ : L2.St} {H : Hp} {s : Shared} {Q : VK} {us : List Value} {vs : List V} (M : Mk X.K C f) (F : FnG X.prog X.w X.K X.mg X.base k f fd ps (SpM T (n + 1) mi)) (hr : Room (k + 1) X.A) (hgd : X.A.guards = some []) (hb : Binds X.K fd ps []) (tk : Takes X W) (hc : T.cl[c]? = some C)
    (I : Inv X pins σ H s) (r : Vals vs us)
    (h : ∃ (ρ : List Addr) (st : Sto) (as : List Vl), Rel T ρ H st ∧ RVs T ρ H as vs ∧ as.length = n ∧ Po (RV T) T (fun c d H' => W c d σ H') ρ H (match mi (.ref st.length :: as) (st ++ [.ins c []]) with
      | .ok .non s' => .ok (.ref st.length) s'
      | .ok _ _ => .fail
      | .exc e s' => .exc e s'
      | .fail => (.fail : Res Vl)) Q) : wpAny (model X.prog X.w) X.A (call (.ref C) us) (EP X pins σ Q) X.xe s := by
  obtain ⟨ρ, st, as, rel, has, hl, p⟩ := h
  have f1 : H (s.heap.objs.size + 1) = none := I.hok.fresh (Nat.le_succ _)
  have f0 : H s.heap.objs.size = none := I.hok.fresh (Nat.le_refl _)
  have ne : s.heap.objs.size + 1 ≠ s.heap.objs.size := Nat.succ_ne_self _
  have I2 := Inv.made (C := C) I
  have r2 : Vals (V.ref (s.heap.objs.size + 1) :: vs) (Value.ref (s.heap.objs.size + 1) :: us) := .cons rfl r
  -- the new object in the pure store
  have relD : Rel T ρ (upd H s.heap.objs.size (.own (s.heap.objs.size + 1))) st := rel.laid f0
  have f1' : upd H s.heap.objs.size (.own (s.heap.objs.size + 1)) (s.heap.objs.size + 1) = none := by rw [upd_ne ne]; exact f1
  have ext : Ext T ρ H (ρ ++ [s.heap.objs.size + 1]) (upd (upd H s.heap.objs.size (.own (s.heap.objs.size + 1))) (s.heap.objs.size + 1) (.ins C s.heap.objs.size [])) := (ext_upd f0).trans (relD.newExt f1')
  have relN : Rel T (ρ ++ [s.heap.objs.size + 1]) (upd (upd H s.heap.objs.size (.own (s.heap.objs.size + 1))) (s.heap.objs.size + 1) (.ins C s.heap.objs.size [])) (st ++ [.ins c []]) := relD.new f1' ⟨C, _, [], hc, upd_same, rfl, .nil⟩
  have sp : SpM T (n + 1) mi (V.ref (s.heap.objs.size + 1) :: vs) (upd (upd H s.heap.objs.size (.own (s.heap.objs.size + 1))) (s.heap.objs.size + 1) (.ins C s.heap.objs.size [])) (fun v H2 => v = .non ∧ Q (.ref (s.heap.objs.size + 1)) H2) fun c d H' => W c d σ H' := by
    refine ⟨_, _, .ref st.length :: as, relN, .cons rel.newRef (has.mono ext), by rw [List.length_cons, hl], ?_⟩
    cases e : mi (.ref st.length :: as) (st ++ [.ins c []]) with
    | fail => rw [e] at p; exact p
    | exc z s' => rw [e] at p; exact fun ρ' H' D x' => p ρ' H' D (ext.trans x')
    | ok v s' =>
      rw [e] at p
      intro ρ' H' z x' r' hz
      cases v <;> try exact p.elim
      exact ⟨hz.nonE, p ρ' H' _ (ext.trans x') r' (.ref (x'.pre _ _ (by rw [← rel.len, List.getElem?_append_right (Nat.le_refl _)]; simp)))⟩
  refine wpAny_call (make_map (f := f) I.kIn M.makes M.init (beq_iff_eq.mp M.fn) (codeAny_mono (F.run _ X.stack _ _ ⟨Value.ref (s.heap.objs.size + 1) :: us, []⟩ _ _ _ _ (hr.make C us []) (under_guards hgd) (I2.env0.make C us []) (by
    have := hb _ (Value.ref (s.heap.objs.size + 1) :: us) I2.kIn (by rw [List.append_nil, ← r2.length]; exact F.len _ _ _ _ sp)
    rw [List.append_nil] at this
    exact this) r2 sp) fun z s' hq => ?_))
  cases z with
  | error y => exact tk y s' (XE.of_call I2 (fun _ _ _ q => q) hq)
  | ok fl =>
    cases fl with
    | ret u =>
      obtain ⟨v, H', I3, rv, ev, q3⟩ := I2.after hq
      subst ev
      exact ⟨rv, ⟨V.ref (s.heap.objs.size + 1), H', I3, rfl, q3⟩⟩
    | next => exact hq.elim
    | brk => exact hq.elim
    | cont => exact hq.elim
def argI (n : Nat) (mf : List Vl → M Vl) : List Vl → M Vl := fun as s => if as.length = n + 1 then mf as s else .fail
theorem ce_make (M : Mk X.K C f) (F : FnG X.prog X.w X.K X.mg X.base k f fd ps (SpM T (n + 1) mi)) (hr : Room (k + 1) X.A) (hgd : X.A.guards = some []) (hg : Gl X x) (hm : X.mg x = some (.ref C)) (hb : Binds X.K fd ps []) (tk : Takes X W) (hc : T.cl[c]? = some C) (ha : PA X (e :: es) (tA T W ma))
    (hdb : (x == ("__debug__" : Str)) = false := by decide) (he : starEach (e :: es) X.env = (false, eval e X.env) :: starEach es X.env := by rfl) (hpl : (backTo pos (starEach es X.env)).any (·.1) = false := by rfl) :
    PE X (.Call (.Name x p) (e :: es) [] pos) (tE T W (eMake c (argI n mi) ma)) := by
  refine ⟨fun pins s σ H Q I h => wpAny_Call_Name_kw (ld_glob I hg hm ?_ hdb)⟩
  have h : tA T W ma σ H fun vs H1 => ∃ (ρ : List Addr) (st : Sto) (as : List Vl), Rel T ρ H1 st ∧ RVs T ρ H1 as vs ∧ as.length = n ∧ Po (RV T) T (fun c d H' => W c d σ H') ρ H1 (match mi (.ref st.length :: as) (st ++ [.ins c []]) with
      | .ok .non s' => .ok (.ref st.length) s'
      | .ok _ _ => .fail
      | .exc e s' => .exc e s'
      | .fail => (.fail : Res Vl)) Q := tG_bnd (R := RVs T) h fun ρ s lo xs zs H1 r rl hx q => by
    unfold argI at q
    split at q
    · rename_i q1
      split at q1
      · rename_i hl
        refine ⟨ρ, s, xs, r, hx, by simpa using hl, ?_⟩
        rw [q1]
        exact q
      · cases q1
    · exact q.elim
    · rename_i q1
      split at q1
      · rename_i hl
        refine ⟨ρ, s, xs, r, hx, by simpa using hl, ?_⟩
        rw [q1]
        exact q
      · cases q1
    · exact q.elim
  refine PySem.W.callWith_K (h₀ := X.base) I.ok.mod.kin M.kp (thn (ha.run pos pins s σ H _ I h) fun us s1 ⟨vs, H1, I1, r, q⟩ => ⟨I1.kIn, ?_⟩) he hpl
  exact run_mk M F hr hgd hb tk hc I1 r q
theorem ce_make0 (M : Mk X.K C f) (F : FnG X.prog X.w X.K X.mg X.base k f fd ps (SpM T (0 + 1) mi)) (hr : Room (k + 1) X.A) (hgd : X.A.guards = some []) (hg : Gl X x) (hm : X.mg x = some (.ref C)) (hb : Binds X.K fd ps []) (tk : Takes X W) (hc : T.cl[c]? = some C)
    (hdb : (x == ("__debug__" : Str)) = false := by decide) : PE X (.Call (.Name x p) [] [] pos) (tE T W (eMake c mi aNil)) := by
  refine ⟨fun pins s σ H Q I h => wpAny_Call_Name_kw (ld_glob I hg hm ?_ hdb)⟩
  obtain ⟨ρ, st, lo, r, rl, q⟩ := h
  exact PySem.W.callWith_K0 I.kIn M.kp (run_mk (us := []) (vs := []) M F hr hgd hb tk hc I .nil ⟨ρ, st, [], r, .nil, rfl, q⟩)
end
end Sm

/-! S11: sets of ints: set(list), sorted(set) -/
namespace L2
open PySem PySem.Spec PyProof.Rows
abbrev set0 (w : World) : Obj := { cls := .type "set", dict := none, data := .set #[] 0 (.fresh 0 0 (!w.params.followText "set-order")) }
section
variable {P : Program} {w : World} {A : Around} {E : Value → Shared → Prop} {s : Shared}
/-- set(l), l a list of ints -/
theorem call_set_lst {l : Addr} {items : Array Value} (ns : List Int) {Q : Value → Shared → Prop} (hh : A.handled = none) (hl : s.heap.IsList l items) (hit : IntsAre items.toList ns) (hb : ns.length + 1 < scanBound)
    (h : ∀ (h' : Heap) (tk c : Nat), SetR w h' s.heap.objs.size (fun j => decide (j ∈ ns)) c → (∀ b o, s.heap.get? b = some o → h'.get? b = some o) → Q (.ref s.heap.objs.size) { s with heap := h', toks := tk }) :
    wpAny (model P w) A (call (.type "set") [.ref l]) Q E s := by
  have hz : items.size = ns.length := by rw [← Array.length_toList]; exact hit.length
  obtain ⟨c, tl, hmro⟩ := F.called_set.mro
  have hmade := F.called_set.made
  have hsub := F.called_set.sub
  have h1 := F.called_set.notType
  have h2 := F.called_set.canCreate
  have hct := F.typeCall_set_1 (.ref l)
  refine wpAny_call (codeAny_of_tree (show wpAny _ _ (callAny (.type "set") _) _ _ _ from wpAny_pure ⟨Code.quiet_builtin _ (by decide +kernel), codeAny_builtin F.entry_type_call ?_⟩))
  rw [Around.under_plain (weight_type_call_type "set" [.ref l] []) rfl]
  repeat (any_goals (first | assumption | wp_step))
  refine codeAny_mono (code_set_led1 (.ref l) (E := E) (Q₁ := fun obj s₁ => obj = .ref s.heap.objs.size ∧ s₁ = { s with heap := s.heap.push (set0 w) }) ⟨rfl, rfl⟩) fun r s₁ hr => ?_
  cases r with
  | error e => exact hr
  | ok fl =>
    cases fl with
    | ret obj =>
      obtain ⟨rfl, rfl⟩ := hr
      have hS : (s.heap.push (set0 w)).get? s.heap.objs.size = some (set0 w) := Heap.get?_push_size _ rfl
      have hT : Shared.TypeIs { s with heap := s.heap.push (set0 w) } (.ref s.heap.objs.size) "set" := ⟨_, hS, rfl⟩
      have hli := F.called_set.init.lookup
      have hbi := F.called_set.init.bind (.ref s.heap.objs.size)
      repeat (any_goals (first | assumption | wp_step))
      refine codeAny_mono (codeAny_call_builtin (R := wants (fun r s₂ => r = .none ∧ ∃ h' tk c, s₂ = { s with heap := h', toks := tk } ∧ SetR w h' s.heap.objs.size (fun j => decide (j ∈ ns)) c ∧ ∀ b o, s.heap.get? b = some o → h'.get? b = some o) E) F.called_set.init.plain F.entry_set_init (check_set_init_1 hT ?_)) fun r₂ s₂ hr₂ => ?_
      · obtain ⟨⟨oc, od, oda, osl⟩, ho, hc, nl, hd⟩ := hl
        obtain rfl : oc = _ := hc
        obtain rfl : oda = _ := hd
        have hS2 := F.sub_list_set
        have hF2 := F.sub_list_frozenset
        have hne : (Value.type "list" == Value.type "dict") = false := by decide
        have ho' := Heap.get?_push_of_some (set0 w) ho
        have hl1 : (s.heap.push (set0 w)).IsList l items := ⟨_, ho', rfl, nl, rfl⟩
        unfold Builtin.«set.__init__» noKeywords Builtin.Frozenset.updateFrom
        generalize hPI : pyIter = PI
        wp_walk
        subst hPI
        refine wpAny_pyIter_list hl1 (wpAny_bind (wpAny_runValue ?_))
        have lS : l < s.heap.objs.size := Heap.lt_size ho
        have eS : (s.heap.push (set0 w)).objs.size = s.heap.objs.size + 1 := Heap.size_push ..
        refine set_update_ints ((Walks.list (A := A.in1.in1.in1) (by simp [hh]) (s.heap.push (set0 w)).objs.size l (by rw [eS]; exact Nat.ne_of_lt (Nat.lt_succ_of_lt lS)) items).toS) s.heap.objs.size (by rw [eS]; simp only [List.mem_cons, List.not_mem_nil, or_false, not_or]; exact ⟨Nat.ne_of_lt (Nat.lt_succ_self _), Nat.ne_of_gt lS⟩) ns hz hb (fun i v hv => ?_) (items.size - 0) 0 _ (by omega) (Nat.zero_le _)
          ⟨⟨_, Heap.get?_push_size _ rfl, rfl, rfl⟩, (hl1.push _)⟩ ⟨0, Nat.le_refl 0, setR_new_at (Heap.get?_push_of_some _ hS)⟩ fun s' c' hm hc' hS' => ?_
        · have hi : i < ns.length := by rw [← hz]; exact (Array.getElem?_eq_some_iff.mp hv).1
          obtain ⟨t, e⟩ := PyProof.Rows.IntsAre.int_at hit i v (by rw [Array.getElem?_toList]; exact hv)
          exact ⟨ns[i], t, List.getElem?_eq_getElem hi, by rw [e, List.getD_eq_getElem?_getD, List.getElem?_eq_getElem hi] <;> rfl⟩
        · obtain ⟨h', g2, d', tk', os'⟩ := s'
          obtain rfl : g2 = s.gens := hm.gens
          obtain rfl : d' = s.drawn := hm.drawn
          obtain rfl : os' = s.os := hm.os
          refine wpAny_pure (show wpAny _ _ (ret Value.none) _ _ _ from wpAny_pure ⟨rfl, h', tk', c', rfl, hS', fun b o e => ?_⟩)
          have lb : b < s.heap.objs.size := Heap.lt_size e
          exact hm.heap b o (by rw [eS]; simp only [List.mem_cons, List.not_mem_nil, or_false, not_or]; exact ⟨Nat.ne_of_lt lb, Nat.ne_of_lt (Nat.lt_succ_of_lt lb)⟩) (Heap.get?_push_of_some _ (Heap.get?_push_of_some _ e))
      · cases r₂ with
        | error e => exact hr₂
        | ok fl₂ =>
          cases fl₂ with
          | ret r =>
            obtain ⟨rfl, h', tk, c', rfl, hS', hk'⟩ := hr₂
            repeat (any_goals (first | assumption | wp_step))
            exact h _ _ _ hS' hk'
          | _ => exact hr₂.elim
    | _ => exact hr.elim
end
theorem nodup_len {α : Type} [DecidableEq α] : ∀ (a b : List α), a.Nodup → b.Nodup → (∀ x, x ∈ a ↔ x ∈ b) → a.length = b.length := fun a b ha hb h => by
  exact ((List.perm_ext_iff_of_nodup ha hb).mpr h).length_eq
theorem SetR.size {w : World} {h : Heap} {a : Addr} {S : Int → Bool} {n : Nat} (R : SetR w h a S n) {xs : List Int} (nd : xs.Nodup) (hS : ∀ k, S k = true ↔ k ∈ xs) : n = xs.length := by
  obtain ⟨o, es, ep, t, h1, h2, h3, h4, h5, h6, h7, h8, h9, _⟩ := R
  rw [← h9, ← Array.length_toList, ← List.length_map (f := keyOf) (as := es.toList)]
  exact nodup_len _ _ h5 nd fun x => (h6 x).symm.trans (hS x)
end L2
namespace Sm
open PySem PySem.Spec PyProof.Rows L2
/-- the unlike ones of a list, each at its last place -/
def ddup : List Int → List Int
  | [] => []
  | x :: xs => if x ∈ xs then ddup xs else x :: ddup xs
theorem mem_ddup {x : Int} : ∀ {xs : List Int}, x ∈ ddup xs ↔ x ∈ xs
  | [] => Iff.rfl
  | y :: ys => by
    unfold ddup
    split
    · rename_i h
      rw [mem_ddup, List.mem_cons]
      exact ⟨.inr, fun q => q.elim (fun z => by rw [z]; exact h) id⟩
    · rw [List.mem_cons, List.mem_cons, mem_ddup]
theorem ddup_nodup : ∀ xs : List Int, (ddup xs).Nodup
  | [] => List.nodup_nil
  | y :: ys => by
    unfold ddup
    split
    · exact ddup_nodup ys
    · rename_i h
      exact List.nodup_cons.mpr ⟨fun z => h (mem_ddup.mp z), ddup_nodup ys⟩
def oSet : OC
  | [x], s => match lstOf x s with
    | some xs => match mapO asInt xs with
      | some ns => if ns.length < 4000 then some (.ref s.length, s ++ [.set (ddup ns)]) else none
      | none => none
    | none => none
  | _, _ => none
/-- sorted of a list or of a set of ints -/
def oSortS : OC
  | [.ref j], s => match s[j]? with
    | some (.lst xs) => (mapO asInt xs).map fun ns => (.ref s.length, s ++ [.lst ((srt ns).map Vl.int)])
    | some (.set xs) => if xs.length < 64 then some (.ref s.length, s ++ [.lst ((srt xs).map Vl.int)]) else none
    | _ => none
  | _, _ => none
section
variable {X : Cx} {T : Tb}
theorem c_set (hc : X.calm = true := by rfl) (hw : X.w = T.w := by rfl) : CallR X (.type "set") (rC T oSet) := fun pins s σ H xs us Q I rs q => by
  obtain ⟨ρ, st, as, v, s', r, ha, e, k⟩ := q
  unfold oSet at e
  split at e
  · split at e
    · rename_i x ys hx
      split at e
      · rename_i ns hn
        split at e
        · rename_i hl
          cases e
          obtain ⟨z, rfl, hz⟩ := ha.one
          obtain ⟨p, vs, rfl, h1, h2⟩ := lstOf_ok r hz hx
          have ev := asInts_ok h2 hn
          subst ev
          obtain ⟨its, rv, pl, hsz⟩ := I.list (SqL.of h1)
          cases rs with
          | cons r1 r2 =>
            cases r2
            obtain rfl := r1
            refine call_set_lst ns (I.ok.hd hc) pl.isList (by simpa using rv.ints) (by unfold scanBound; omega) fun h' tk c R hk => ?_
            have hp : H s.heap.objs.size = none := I.hok.fresh (Nat.le_refl _)
            have hsize : c = (ddup ns).length := R.size (ddup_nodup ns) fun j => by rw [mem_ddup]; exact decide_eq_true_iff
            subst hsize
            have I' := I.laid (a := s.heap.objs.size) (t' := tk) hk (Nat.le_refl _) (setO_new (P := X.prog) (H := upd H s.heap.objs.size (SetO X.w s.heap.objs.size (fun j => decide (j ∈ ns)) (ddup ns).length)) R)
            refine ⟨.ref s.heap.objs.size, _, I', rfl, ?_⟩
            rw [hw]
            exact k.new r hp ⟨ddup_nodup ns, _, fun j => by rw [mem_ddup]; exact decide_eq_true_iff, upd_same⟩
        · cases e
      · cases e
    · cases e
  · cases e
theorem lt_le {l : List Int} (h : l.Pairwise (· < ·)) : l.Pairwise (· ≤ ·) := h.imp fun q => Int.le_of_lt q
theorem lt_nodup {l : List Int} (h : l.Pairwise (· < ·)) : l.Nodup := h.imp fun q => Int.ne_of_lt q
theorem c_sortS (hc : X.calm = true := by rfl) (hw : X.w = T.w := by rfl) : CallR X (.builtin "sorted") (rC T oSortS) := fun pins s σ H xs us Q I rs q => by
  obtain ⟨ρ, st, as, v, s', r, ha, e, k⟩ := q
  unfold oSortS at e
  split at e
  · rename_i s0 j
    split at e
    · rename_i ys hy
      exact c_sorted pins s σ H xs us Q I rs ⟨ρ, _, [.ref j], v, s', r, ha, by simp only [oSorted, lstOf, hy]; exact e, k⟩
    · rename_i ys hy
      split at e
      · rename_i hl
        cases e
        obtain ⟨z, rfl, hz⟩ := ha.one
        obtain ⟨p, rfl, hp⟩ := hz.refE
        obtain ⟨nd, S, hS, hH⟩ := r.ob _ _ _ hp hy
        refine cr_sortedSet hc pins s σ H _ us Q I rs ⟨p, S, _, rfl, by rw [hw]; exact hH, hl, fun ns q h1 h2 h3 hq => ?_⟩
        have : ns = srt ys := srt_eq ((List.perm_ext_iff_of_nodup (lt_nodup h1) nd).mpr fun a => (h2 a).trans (hS a)) (lt_le h1)
        rw [this]
        exact k.lst r (RVs.ints _) hq
      · cases e
    · cases e
  · cases e
end
end Sm

/-! S12: dicts: displays, their values walked and listed -/
namespace Sm
open PySem PySem.Spec PyProof.Rows L2
def eDict0 : EM := fun _ s => .ok (.ref s.length) (s ++ [.dic []])
/-- the pairs of a display -/
def dpM : List (EM × EM) → Lo → M (List (Vl × Vl))
  | [], _ => ret []
  | (k, v) :: r, lo => bnd (k lo) fun x => bnd (v lo) fun y => bnd (dpM r lo) fun ps => ret ((x, y) :: ps)
def keyP (p : Vl × Vl) : Option (Key × Vl) := match keyOf p.1 with
  | some k => some (k, p.2)
  | none => none
def mergeP (kvs more : List (Key × Vl)) : List (Key × Vl) := more.foldl (fun acc kv => put acc kv.1 kv.2) kvs
def eDict (ps : List (EM × EM)) : EM := fun lo s => match dpM ps lo (s ++ [.dic []]) with
  | .ok prs s' => match s'[s.length]?, mapO keyP prs with
    | some (.dic []), some kvs => if kvs.length ≤ 15 then .ok (.ref s.length) (s'.set s.length (.dic (mergeP [] kvs))) else .fail
    | _, _ => .fail
  | .exc e s' => .exc e s'
  | .fail => .fail
def RP (T : Tb) : List Addr → Hp → List (Vl × Vl) → List (V × V) → Prop := fun ρ H ps qs => RVs T ρ H (ps.map (·.1)) (qs.map (·.1)) ∧ RVs T ρ H (ps.map (·.2)) (qs.map (·.2))
section
variable {X : Cx} {T : Tb} {W : WX} {pos : Pos}
theorem ce_dict0 : PE X (.Dict [] [] pos) (tE T W eDict0) := pe_mono pe_dnewK fun σ H Q h => by
  obtain ⟨ρ, s, lo, r, rl, p⟩ := h
  exact fun q hq => p (ρ ++ [q]) _ _ (r.newExt hq) (r.new (b := .dic []) hq ⟨[], upd_same, rfl, .nil⟩) r.newRef
theorem pairs_le {σ : L2.St} : ∀ {ps : List (EM × EM)} {H : Hp} {Q : List (V × V) → Hp → Prop}, tG (RP T) T W (dpM ps) σ H Q → tPairs (ps.map fun p => (tE T W p.1, tE T W p.2)) σ H Q
  | [], H, Q, h => by
    obtain ⟨ρ, s, lo, r, rl, p⟩ := h
    exact p ρ H [] .refl r ⟨.nil, .nil⟩
  | (k, v) :: ps, H, Q, h => tG_bnd (R := RV T) h fun ρ s lo x z H1 r rl hx p => po_bnd (R := RV T) (m := v) r rl p fun ρ1 s1 y z1 H2 e1 r1 rl1 hy p1 =>
      pairs_le (po_bnd (R := RP T) (m := dpM ps) r1 rl1 p1 fun ρ2 s2 prs qs H3 e2 r2 rl2 hp p2 => p2 ρ2 H3 _ .refl r2 ⟨.cons (hx.mono (e1.trans e2)) hp.1, .cons (hy.mono e2) hp.2⟩)
theorem keyP_ok {ρ : List Addr} {H : Hp} : ∀ {ps : List (Vl × Vl)} {qs : List (V × V)} {kvs : List (Key × Vl)}, RP T ρ H ps qs → mapO keyP ps = some kvs → ∃ vs : List (Key × V), qs = vs.map (fun kv => (kV kv.1, kv.2)) ∧ vs.map (·.1) = kvs.map (·.1) ∧ RVs T ρ H (kvs.map (·.2)) (vs.map (·.2))
  | [], [], _, _, e => by
    simp only [mapO] at e
    cases e
    exact ⟨[], rfl, rfl, .nil⟩
  | [], _ :: _, _, h, _ => by cases h.1
  | _ :: _, [], _, h, _ => by cases h.1
  | (a, b) :: ps, (x, y) :: qs, kvs, h, e => by
    obtain ⟨h1, h2⟩ := h
    rw [List.map_cons, List.map_cons] at h1 h2
    cases h1 with
    | cons a1 a2 =>
      cases h2 with
      | cons b1 b2 =>
        simp only [mapO] at e
        split at e
        · rename_i kv kvs' e1 e2
          cases e
          unfold keyP at e1
          split at e1
          · rename_i k hk
            cases e1
            obtain ⟨vs, rfl, g2, g3⟩ := keyP_ok ⟨a2, b2⟩ e2
            refine ⟨(k, y) :: vs, ?_, by simp [g2], .cons b1 g3⟩
            have := keyOf_ok a1 hk
            simp only at this
            rw [this]; rfl
          · cases e1
        · cases e
theorem putK_nodup {kvs : List (Key × V)} {k : Key} {v : V} (h : (kvs.map (·.1)).Nodup) : ((putK kvs k v).map (·.1)).Nodup := by
  unfold putK
  split
  · have : (kvs.map fun kv => if kv.1 = k then (kv.1, v) else kv).map (·.1) = kvs.map (·.1) := by
      rw [List.map_map]
      apply List.map_congr_left
      intro p _
      simp only [Function.comp]
      split <;> rfl
    rw [this]; exact h
  · rename_i hn
    rw [List.map_append, List.nodup_append]
    refine ⟨h, by simp, fun a ha b hb => ?_⟩
    simp at hb
    subst hb
    intro e
    subst e
    obtain ⟨p, hp, e⟩ := List.mem_map.mp ha
    exact hn (List.any_eq_true.mpr ⟨p, hp, by simp [e]⟩)
theorem merge_ok {ρ : List Addr} {H : Hp} : ∀ {more : List (Key × Vl)} {ms : List (Key × V)} {kvs : List (Key × Vl)} {vs : List (Key × V)}, ms.map (·.1) = more.map (·.1) → RVs T ρ H (more.map (·.2)) (ms.map (·.2)) → (vs.map (·.1)).Nodup → vs.map (·.1) = kvs.map (·.1) → RVs T ρ H (kvs.map (·.2)) (vs.map (·.2)) →
    (mergeK vs ms).map (·.1) = (mergeP kvs more).map (·.1) ∧ RVs T ρ H ((mergeP kvs more).map (·.2)) ((mergeK vs ms).map (·.2))
  | [], [], _, _, _, _, _, e, h => ⟨e, h⟩
  | [], _ :: _, _, _, e, _, _, _, _ => by simp at e
  | _ :: _, [], _, _, e, _, _, _, _ => by simp at e
  | (k, v) :: more, (k', z) :: ms, kvs, vs, e, h, nd, e2, h2 => by
    simp only [List.map_cons, List.cons.injEq] at e
    rw [List.map_cons, List.map_cons] at h
    obtain ⟨e1, e3⟩ := e
    subst e1
    cases h with
    | cons a b =>
      obtain ⟨g1, g2⟩ := put_ok (k := k') a nd e2 h2
      exact merge_ok (more := more) (ms := ms) (kvs := put kvs k' v) (vs := putK vs k' z) e3 b (putK_nodup nd) g1 g2
theorem ce_dict {keys : List (Option Expr)} {values : List Expr} {ps : List (EM × EM)} (h : PPs X pos keys values (ps.map fun p => (tE T W p.1, tE T W p.2))) (hall : keys.all (·.isSome) = true := by rfl) (hl : keys.length = values.length := by rfl) (h0 : keys ≠ [] := by exact fun z => nomatch z)
    (h15 : keys.length ≤ 15 := by decide) : PE X (.Dict keys values pos) (tE T W (eDict ps)) := pe_mono (pe_disp h hall hl h0 h15) fun σ H Q h => by
  obtain ⟨ρ, s, lo, r, rl, p⟩ := h
  intro q hq
  have xD : Ext T ρ H (ρ ++ [q]) (upd H q (.dK [])) := r.newExt hq
  have aD : (ρ ++ [q])[s.length]? = some q := by rw [← r.len, List.getElem?_append_right (Nat.le_refl _)]; simp
  refine pairs_le ⟨ρ ++ [q], s ++ [.dic []], lo, r.new (b := .dic []) hq ⟨[], upd_same, rfl, .nil⟩, rl.mono xD, ?_⟩
  unfold eDict at p
  cases e : dpM ps lo (s ++ [.dic []]) with
  | fail => rw [e] at p; exact p
  | exc z s' => rw [e] at p; exact fun ρ' H' C x => p ρ' H' C (xD.trans x)
  | ok prs s' =>
    rw [e] at p
    intro ρ' H' qs x r' hp
    simp only at p
    split at p
    · rename_i kvs hd hk
      split at p
      · rename_i hn
        have aD' := x.pre _ _ aD
        obtain ⟨vs0, g1, g2, _⟩ := r'.dic hd aD'
        have : vs0 = [] := by simpa using g2
        subst this
        obtain ⟨vs, rfl, k2, k3⟩ := keyP_ok hp hk
        refine ⟨g1, vs, rfl, ?_, ?_⟩
        · have : vs.length = kvs.length := by have := congrArg List.length k2; simpa using this
          rw [this]; exact hn
        · obtain ⟨m1, m2⟩ := merge_ok (kvs := []) (vs := []) k2 k3 (by simp) rfl .nil
          exact p ρ' _ _ ((xD.trans x).trans (r'.setExt aD' g1)) (r'.set aD' ⟨_, upd_same, m1, m2.mono (r'.setExt aD' g1)⟩) (.ref aD')
      · exact p.elim
    · exact p.elim
/-! ### the values of a dict, walked in a comprehension: it is locked meanwhile -/
def nxVals (j : Nat) : NX := fun i s => match s[j]? with
  | some (.fdic kvs) => match kvs[i]? with
    | some kv => some (some kv.2)
    | none => some none
  | _ => none
def iVal (e : EM) : IM := fun lo => bnd (e lo) fun x => match x with
  | .ref j => fun s => match s[j]? with
    | some (.fdic _) => .ok (nxVals j) s
    | _ => .fail
  | _ => failM
/-- c run while the dict of e is locked -/
def eLock (e c : EM) : EM := fun lo s => match e lo s with
  | .ok (.ref j) _ => match s[j]? with
    | some (.dic kvs) => match c lo (s.set j (.fdic kvs)) with
      | .ok v s' => match s'[j]? with
        | some (.fdic _) => .ok v (s'.set j (.dic kvs))
        | _ => .fail
      | _ => .fail
    | _ => .fail
  | _ => .fail
theorem RVs.vals_at {ρ : List Addr} {H : Hp} {kvs : List (Key × Vl)} {vs : List (Key × V)} {i : Nat} {kv : Key × Vl} (e : vs.map (·.1) = kvs.map (·.1)) (h : RVs T ρ H (kvs.map (·.2)) (vs.map (·.2))) (hi : kvs[i]? = some kv) : ∃ z, vs[i]? = some (kv.1, z) ∧ RV T ρ H kv.2 z := by
  obtain ⟨z, h1, h2⟩ := h.get (i := i) (x := kv.2) (by rw [List.getElem?_map, hi]; rfl)
  rw [List.getElem?_map] at h1
  cases q : vs[i]? with
  | none => rw [q] at h1; cases h1
  | some p =>
    rw [q] at h1
    have h1 : p.2 = z := Option.some.inj h1
    have e' : (vs.map (·.1))[i]? = (kvs.map (·.1))[i]? := by rw [e]
    rw [List.getElem?_map, List.getElem?_map, q, hi] at e'
    have e' : p.1 = kv.1 := Option.some.inj e'
    refine ⟨z, ?_, h2⟩
    rw [← h1, ← e']
theorem ci_vals {tg e : Expr} {me : EM} {apos cpos : Pos} (he : PE X e (tE T W me)) (hbase : attributeBase e "values" X.env (eval e X.env) = eval e X.env := by rfl) (hline : (apos.endLine == cpos.line) = true := by rfl) : PI X tg (.Call (.Attribute e "values" apos) [] [] cpos) (tI T W (iVal me)) :=
  pi_mono (pi_values he hbase hline) fun σ H R h => by
    obtain ⟨ρ, s, lo, r, rl, q⟩ := h
    refine po_bnd (R := RV T) (m := me) r rl q fun ρ1 s1 x z H1 ext1 r1 rl1 hx p1 => ?_
    cases hx with
    | ref ha =>
      rename_i j a
      simp only at p1
      split at p1
      · rename_i kvs hj
        obtain ⟨o, vs, h1, h2, h3⟩ := r1.ob _ _ _ ha hj
        refine ⟨a, o, vs, rfl, h1, p1 ρ1 H1 _ .refl r1 ?_⟩
        intro ρ2 H2 s2 i e2 r2
        have ha2 := e2.pre _ _ ha
        have hfz := e2.frd _ _ _ h1
        unfold nxVals
        cases e : s2[j]? with
        | none => trivial
        | some ob =>
          cases ob with
          | fdic kvs2 =>
            obtain ⟨o', vs', g1, g2, g3⟩ := r2.ob _ _ _ ha2 e
            rw [hfz] at g1
            cases g1
            simp only
            have hlen : vs.length = kvs2.length := by have := congrArg List.length g2; simpa using this
            cases e3 : kvs2[i]? with
            | none => exact ⟨hfz, by rw [hlen]; exact List.getElem?_eq_none_iff.mp e3⟩
            | some kv =>
              obtain ⟨w, hw, rw'⟩ := RVs.vals_at g2 g3 e3
              refine ⟨⟨hfz, by rw [hlen]; exact (List.getElem?_eq_some_iff.mp e3).1⟩, fun x H3 y => ?_⟩
              obtain ⟨rfl, k, y⟩ := y
              rw [hw] at y
              cases y
              exact ⟨.refl, r2, rw'⟩
          | _ => trivial
      · exact p1.elim
    | _ => exact p1.elim
theorem lock_le {e c : EM} {t : TE} {σ : L2.St} {H : Hp} {Q : VK} (hc : ∀ H Q, tE T W c σ H Q → t σ H Q) (h : tE T W (eLock e c) σ H Q) : tLockE t σ H Q := by
  obtain ⟨ρ, s, lo, r, rl, p⟩ := h
  unfold eLock at p
  split at p
  · rename_i j s1 e1
    split at p
    · rename_i kvs hj
      split at p
      · rename_i v s' e2
        split at p
        · rename_i kvs' hj'
          obtain ⟨a, ha, _⟩ := r.at hj
          obtain ⟨vs, h1, h2, h3⟩ := r.dic hj ha
          refine ⟨a, .dK vs, h1, trivial, fun od => hc _ _ ?_⟩
          have x1 : Ext T ρ H ρ (upd H a (.frz od (.dK vs))) := r.setExt ha h1
          refine ⟨ρ, s.set j (.fdic kvs), lo, r.set ha ⟨od, vs, upd_same, h2, h3.mono x1⟩, rl.mono x1, ?_⟩
          rw [e2]
          intro ρ' H' z x' r' hz
          have hfz : H' a = some (.frz od (.dK vs)) := x'.frd _ _ _ upd_same
          refine ⟨hfz, ?_⟩
          have ha' := x'.pre _ _ ha
          have e0 : Ext0 T ρ' H' ρ' (upd H' a (.dK vs)) := ext0_set hfz fun z => z
          have e1 : Ext0 T ρ H ρ' (upd H' a (.dK vs)) := ⟨fun i b q => x'.pre i b q, fun b us q => e0.tup _ _ (x'.tup _ _ (x1.tup _ _ q)), fun b o u q => e0.frz _ _ _ (x'.frz _ _ _ (x1.frz _ _ _ q))⟩
          refine p ρ' _ z ⟨e1, fun b o u q => ?_⟩ (r'.set ha' ⟨vs, upd_same, h2, h3.mono0 e1⟩) (hz.mono0 e0)
          have nb : b ≠ a := fun z => by subst z; rw [h1] at q; cases q
          rw [upd_ne nb]
          exact x'.frd _ _ _ (x1.frd _ _ _ q)
        · exact p.elim
      · exact p.elim
    · exact p.elim
  · exact p.elim
theorem ce_lock {e : EM} {c : EM} {ex : Expr} (h : PE X ex (tE T W c)) : PE X ex (tE T W (eLock e c)) := pe_mono (pe_lock h) fun σ H Q q => lock_le (fun _ _ z => z) q
/-- list(d.values()) -/
def eListVals (e : EM) : EM := fun lo => bnd (e lo) fun x s => match x with
  | .ref j => match s[j]? with
    | some (.dic kvs) => .ok (.ref s.length) (s ++ [.lst (kvs.map (·.2))])
    | _ => .fail
  | _ => .fail
theorem vals_kv {kvs : List (Key × V)} {us : List (Key × Value)} {acc : Array Value} (r : KV kvs us) (h : ItemsOf (fun i v => ∃ k, us[i]? = some (k, v)) acc us.length) : Vals (kvs.map (·.2)) acc.toList := by
  refine vals_of_at (by rw [List.length_map]; exact (Paired.length r).trans (h.1.symm.trans Array.length_toList.symm)) fun j x u h1 h2 => ?_
  obtain ⟨k, hk⟩ := h.2 j u (by rw [← Array.getElem?_toList]; exact h2)
  rw [List.getElem?_map] at h1
  cases q : kvs[j]? with
  | none => rw [q] at h1; cases h1
  | some p =>
    rw [q] at h1
    cases h1
    obtain ⟨u', e1, e2⟩ := kv_get r (k := p.1) (v := p.2) q
    rw [hk] at e1
    cases e1
    exact e2
theorem ce_listVals {e : Expr} {me : EM} {p pos apos cpos : Pos} (hc : X.calm = true) (hg : Gl X "list") (hm : X.mg "list" = none) (he : PE X e (tE T W me)) (hbase : attributeBase e "values" X.env (eval e X.env) = eval e X.env := by rfl) (hline : (apos.endLine == cpos.line) = true := by rfl)
    (hs : starEach [Expr.Call (.Attribute e "values" apos) [] [] cpos] X.env = (false, eval (Expr.Call (.Attribute e "values" apos) [] [] cpos) X.env) :: starEach [] X.env := by rfl) (hpl : (backTo pos (starEach [] X.env)).any (·.1) = false := by rfl) :
    PE X (.Call (.Name "list" p) [.Call (.Attribute e "values" apos) [] [] cpos] [] pos) (tE T W (eListVals me)) := by
  refine ⟨fun pins s σ H Q I h => wpAny_Call_Name_kw (ld_blt I hg hm (show bootBuiltins "list" = some (.type "list") by decide +kernel) (callWith_type1 ?_ hs hpl))⟩
  have h : tE T W me σ H fun x H1 => ∃ (d : Addr) (vs : List (Key × V)), x = .ref d ∧ H1 d = some (.dK vs) ∧ ∀ q, H1 q = none → Q (.ref q) (upd H1 q (.lst (vs.map (·.2)))) := tG_bnd (R := RV T) h fun ρ s lo x z H1 r rl hx p => by
    cases hx with
    | ref ha =>
      simp only at p
      split at p
      · rename_i kvs hj
        obtain ⟨vs, h1, h2, h3⟩ := r.dic hj ha
        exact ⟨_, vs, rfl, h1, fun q hq => Aft.lst p r h3 hq⟩
      · exact p.elim
    | _ => exact p.elim
  rw [hs]
  refine Calls.spliced_cons (wpAny_Call_method (T := "dict") (id := "dict.values") hbase rfl hline F.plainAttrs_dict F.slot_dict_values F.type_dict_values (thn (he.run pins s σ H _ I h) fun u s1 ⟨x, H1, I1, rx, d, vs, ex, hd, q⟩ => ?_))
  subst ex
  obtain rfl : u = Value.ref d := rx
  obtain ⟨z, lo, us, rk, hD⟩ := dk_of I1.hok hd
  obtain ⟨ep, hat⟩ := hD.dictAt
  refine ⟨hat.dictOf.typeIs, hat.dictOf.mapOf.noDict, ?_⟩
  show wpAny _ _ (callWith cpos (.builtin "dict.values") [.ref d] [] []) _ X.xe s1
  refine method_meetsIn F.slot_dict_values F.entry_dict_values rfl (PySem.evalArgs_none ⟨rfl, hat.dictOf.typeIs, F.args_dict_values_1 _, _, meets_dict_values (mixKind X.prog X.w) d lo, ⟨us, hat.dictOf⟩, Calls.spliced_nil ?_⟩)
  have I2 : Inv X pins σ H1 { s1 with heap := s1.heap.push { cls := .type "dict_values", data := .fields #[.ref d] } } := I1.kept (t' := s1.toks) fun b ob q => Heap.get?_push_of_some _ q
  refine PySem.W.kdl_call (PySem.W.kdl_values (knd := mixKind X.prog X.w) (r := s1.heap.objs.size) (d := d) (kvs := us) (ep := ep)) (I.ok.hd hc) ⟨⟨_, Heap.get?_push_size _ rfl, rfl, rfl⟩, hat.push _⟩ (by rw [← Paired.length rk]; exact z) fun h' tk acc c hk hS hacc => ?_
  have hf := I2.hok.fresh (Nat.le_refl _)
  refine ⟨.ref _, _, I2.laid (o := .lst (vs.map (·.2))) (t' := tk) hk (Nat.le_refl _) ⟨by rw [List.length_map]; exact z, acc.toList, c, vals_kv rk hacc, by rw [Array.toArray_toList]; exact hS⟩, rfl, q _ hf⟩
end
end Sm

/-! S18: walls (code that the pure program never reaches), recursion -/
namespace Sm
open PySem L2
section
variable {X : Cx} {T : Tb} {W : WX}
def eFail : EM := fun _ => failM
def sFail : SM := fun _ _ => .fail
theorem tG_fail {α β : Type} {R : List Addr → Hp → α → β → Prop} {σ : St} {H : Hp} {Q : β → Hp → Prop} (h : tG R T W (fun _ => failM) σ H Q) : False := by
  obtain ⟨ρ, s, lo, _, _, p⟩ := h
  exact p
theorem ce_fail {e : Expr} : PE X e (tE T W eFail) := ⟨fun pins s σ H Q I h => (tG_fail h).elim⟩
theorem cs_fail {st : Stmt} : PS X st (tS T W sFail) := ⟨fun pins s σ H D I h => by
  obtain ⟨ρ, s, lo, _, _, p⟩ := h
  exact p.elim⟩
end
def mFail : List Vl → M Vl := fun _ => failM
theorem fnG_fail {P : Program} {w : World} {K : PySem.W.Frag} {mg : Str → Option Value} {base : Heap} {k n : Nat} {f : Addr} {fd : FuncData} {ps : List Str} {T : Tb} : FnG P w K mg base k f fd ps (SpM T n mFail) :=
  ⟨fun vs H Q E ⟨_, _, _, _, _, _, p⟩ => p.elim, fun A outer s H args us vs Q E _ _ _ _ _ ⟨_, _, _, _, _, _, p⟩ => p.elim⟩
end Sm

/-! S19: making objects of classes without an __init__ -/
namespace Sm
open PySem L2 PySem.W
structure MkB (K : PySem.W.Frag) (C : Addr) : Prop where
  makes : PySem.W.makesIn K C = true
  init : PySem.W.findIn K (.ref C) "__init__" = some (some (.builtin "object.__init__"))
  top : PySem.W.mroIn K C (.type "object") = some true
  kp : PySem.W.keepIn K (.ref C) = true
/-- object.__init__ of a new object -/
theorem oiK {K : PySem.W.Frag} {P : Program} {w : World} {A : Around} {C y : Addr} {o : Obj} {R : Result → Shared → Prop} {s : Shared} (B : MkB K C) (X : K.In s.heap) (ho : s.heap.get? y = some o) (hc : o.cls = .ref C) (q : R (.ok (.ret (.ref y))) s) :
    codeAny (model P w) A (.call (.builtin "object.__init__") ⟨[.ref y], []⟩) (PySem.W.InitBack y R) s := by
  have t1 : Looks (model P w) s.heap (typeOf (.ref y)) (.ref C) := NwA.type_at ho hc
  have t2 : Looks (model P w) s.heap (isInstance (.ref y) (.type "object")) true := t1.andThen (looks_mroIn X B.top)
  refine codeAny_call_builtin oi_plain entry_oi (@check_slot (model P w) _ _ _ "object.__init__" "object" "__init__" (.ref y) [] [] _ oi_kind oi_split t2 (NwA.oi_args_any (.ref y) [] []) ?_)
  obtain ⟨hh, g, d, t, os⟩ := s
  rw [oi_run]
  exact wpAny_pure (And.intro rfl q)
def eMakeB (c : Nat) : EM := fun _ s => .ok (.ref s.length) (s ++ [.ins c []])
theorem ce_makeB {X : Cx} {T : Tb} {W : WX} {p pos : Pos} {C : Addr} {c : Nat} {x : Str} (B : MkB X.K C) (hg : Gl X x) (hm : X.mg x = some (.ref C)) (hc : T.cl[c]? = some C)
    (hdb : (x == ("__debug__" : Str)) = false := by decide) : PE X (.Call (.Name x p) [] [] pos) (tE T W (eMakeB c)) := by
  refine ⟨fun pins s σ H Q I h => wpAny_Call_Name_kw (ld_glob I hg hm ?_ hdb)⟩
  obtain ⟨ρ, st, lo, rel, rl, q⟩ := h
  refine PySem.W.callWith_K0 I.kIn B.kp ?_
  have f1 : H (s.heap.objs.size + 1) = none := I.hok.fresh (Nat.le_succ _)
  have f0 : H s.heap.objs.size = none := I.hok.fresh (Nat.le_refl _)
  have ne : s.heap.objs.size + 1 ≠ s.heap.objs.size := Nat.succ_ne_self _
  have I2 := Inv.made (C := C) I
  have relD : Rel T ρ (upd H s.heap.objs.size (.own (s.heap.objs.size + 1))) st := rel.laid f0
  have f1' : upd H s.heap.objs.size (.own (s.heap.objs.size + 1)) (s.heap.objs.size + 1) = none := by rw [upd_ne ne]; exact f1
  have ext : Ext T ρ H (ρ ++ [s.heap.objs.size + 1]) (upd (upd H s.heap.objs.size (.own (s.heap.objs.size + 1))) (s.heap.objs.size + 1) (.ins C s.heap.objs.size [])) := (ext_upd f0).trans (relD.newExt f1')
  have relN : Rel T (ρ ++ [s.heap.objs.size + 1]) (upd (upd H s.heap.objs.size (.own (s.heap.objs.size + 1))) (s.heap.objs.size + 1) (.ins C s.heap.objs.size [])) (st ++ [.ins c []]) := relD.new f1' ⟨C, _, [], hc, upd_same, rfl, .nil⟩
  have hQ := q _ _ (V.ref (s.heap.objs.size + 1)) ext relN rel.newRef
  refine wpAny_call (make_map0 I.kIn B.makes B.init (fun self => Looks.of_pure (oi_bind self)) (oiK (o := PySem.W.instObj C s.heap.objs.size) B I2.kIn ?_ rfl ?_))
  · exact Heap.get?_push_size (h := s.heap.push PySem.W.emptyDict) (o := PySem.W.instObj C s.heap.objs.size) rfl |> fun e => by
      have l : (s.heap.push PySem.W.emptyDict).objs.size = s.heap.objs.size + 1 := by simp [Heap.push]
      rw [l] at e
      exact e
  · exact ⟨V.ref (s.heap.objs.size + 1), _, I2, rfl, hQ⟩
end Sm

/-! S22: defs with a star parameter, objects made by such an __init__; objects that are called -/
namespace Sm
open PySem PySem.Spec PyProof.Rows L2
/-- a def's promise at any number of arguments -/
def FnV (P : Program) (w : World) (K : PySem.W.Frag) (mg : Str → Option Value) (base : Heap) (k : Nat) (f : Addr) (sp : Sp) : Prop :=
  ∀ (A : Around) (outer : List Env) (s : Shared) (H : Hp) (us : List Value) (vs : List V) (Q : VK) (E : XK), Room k A → A.guards = some [] → Env0 P w K mg base A outer s H → Vals vs us → sp vs H Q E →
    codeAny (model P w) A (.call (.ref f) ⟨us, []⟩) (CR (L2.CX P w) outer P w H s Q E) s
theorem FnV.mono {P : Program} {w : World} {K : PySem.W.Frag} {mg : Str → Option Value} {base : Heap} {j k : Nat} {f : Addr} {sp : Sp} (F : FnV P w K mg base j f sp) (h : j ≤ k) : FnV P w K mg base k f sp := fun A outer s H us vs Q E hr => F A outer s H us vs Q E (hr.mono h)
def SpV (T : Tb) (m : List Vl → M Vl) : Sp := fun vs H Q E => ∃ (ρ : List Addr) (s : Sto) (as : List Vl), Rel T ρ H s ∧ RVs T ρ H as vs ∧ Po (RV T) T E ρ H (m as s) Q
/-- n parameters, the rest a tuple -/
def starM (n : Nat) (mf : List Vl → M Vl) : List Vl → M Vl := fun as s => if n ≤ as.length ∧ as.length ≤ LIM then mf (as.take n ++ [.tup (as.drop n)]) s else .fail
/-- how a def with a star parameter binds -/
def BindV (fd : FuncData) (ps : List Str) (pv : Str) : Prop := ∀ us rest : List Value, us.length = ps.length → bindArgs fd ⟨us ++ rest, []⟩ = (newTuple rest >>= fun t => pure (ps.zip us ++ [(pv, t)]))
theorem Fun.bindV {K : PySem.W.Frag} {x qual : Str} {st : Stmt} {f : Addr} {fd : FuncData} {ps : List Str} {pv : Str} (F : Fun K x qual st f fd)
    (h : ∀ (kV doc pm : Value) (an : Option Addr) (cdv ct : Value) (us rest : List Value), us.length = ps.length → bindArgs (PySem.W.fnOf x qual (defArgs st) (defBody st) (defScope st) .none kV doc pm an cdv ct) ⟨us ++ rest, []⟩ = (newTuple rest >>= fun t => pure (ps.zip us ++ [(pv, t)]))) : BindV fd ps pv := by
  obtain ⟨oc, od, kV, doc, pm, an, cdv, ct, osl, rfl, lk, hcd⟩ := F.ex
  exact h kV doc pm an cdv ct
theorem fn_simV {P : Program} {w : World} {K : PySem.W.Frag} {mg : Str → Option Value} {base : Heap} {k n : Nat} {x qual : Str} {st : Stmt} {f : Addr} {fd : FuncData} {N ps : List Str} {pv : Str} {T : Tb} {b : SM} (F : Fun K x qual st f fd) (S : FnScope N (ps ++ [pv]) (defScope st)) (hn : n = ps.length) (hb : BindV fd ps pv)
    (body : ∀ (cdv : Value) (A : Around) (outer : List Env) (s : Shared) (H : Hp) (E : XK), Room k (A.deeper (envOfC qual (defScope st) s.heap.objs.size f cdv)) → A.guards = some [] →
      PSs (cxOf (L2.CX P w) P w K mg base N qual (defScope st) f cdv A outer s H E) (defBody st) (tS T (fun c d _ H' => E c d H') b)) : FnV P w K mg base (k + 1) f (SpV T (starM n (fnM N.length b))) := by
  obtain ⟨oc, od, kV, doc, pm, an, cdv, ct, osl, rfl, lk, hcd⟩ := F.ex
  intro A outer s H us vs Q E hr hg e0 r ⟨ρ, sto, as, rel, has, p⟩
  unfold starM at p
  split at p
  · rename_i hl
    have hvl : as.length = vs.length := has.length
    have hsp : vs.take n ++ vs.drop n = vs := List.take_append_drop n vs
    have r' : Vals (vs.take n ++ vs.drop n) us := by rw [hsp]; exact r
    obtain ⟨u1, u2, eu, r1, r2⟩ := StX.vals_split r'
    subst eu
    have hlw : (vs.take n).length = ps.length := by rw [List.length_take]; omega
    have hl1 : u1.length = ps.length := by rw [← r1.length]; exact hlw
    have hz : (vs.drop n).length ≤ sizeLine := by rw [List.length_drop, lim_eq]; omega
    have hl2 : u2.length ≤ sizeLine := by rw [← r2.length]; exact hz
    have hnn : H s.heap.objs.size = Option.none := e0.hok.fresh (Nat.le_refl _)
    refine StX.run_bnd lk hcd S hr e0 (G := fun xs H2 => ∃ p, H p = Option.none ∧ xs = vs.take n ++ [V.ref p] ∧ H2 = upd H p (.tup (vs.drop n))) (fun A' Ex Q' h => ?_) fun s2 H2 xs ⟨a, hp, ex, eH⟩ hr' => ?_
    · rw [hb u1 u2 hl1]
      refine wpAny_bind (wpAny_newTuple (wpAny_pure ?_) hl2)
      have new : ObjOk P w (upd H s.heap.objs.size (.tup (vs.drop n))) (s.heap.push ({ cls := .type "tuple", data := .seq u2.toArray } : Obj)) s.heap.objs.size (.tup (vs.drop n)) := ⟨hz, u2, r2, ⟨_, Heap.get?_push_size _ rfl, rfl, _, rfl⟩⟩
      have un := StX.un_laid (fs := frs outer) (s := s) (o := ({ cls := .type "tuple", data := .seq u2.toArray } : Obj)) (u := .tup (vs.drop n)) hnn
      have z := h _ _ (vs.take n ++ [V.ref s.heap.objs.size]) (u1 ++ [Value.ref s.heap.objs.size]) (StX.env0_laid e0 new) un rfl (fun e s' => StX.cxUp outer s H _ _ E e s' un (fun b o q => Heap.get?_push_of_some _ q) rfl) (r1.append (.cons rfl .nil))
        (by rw [List.length_append, List.length_append, hlw] <;> rfl) ⟨_, hnn, rfl, rfl⟩
      rw [List.zip_append hl1.symm] at z
      exact z
    · subst ex eH
      refine ⟨_, body cdv A outer s2 _ E hr' hg, fn_body (n := n + 1) ?_⟩
      have ext : Ext T ρ H ρ (upd H a (.tup (vs.drop n))) := ext_upd hp
      exact ⟨ρ, sto, as.take n ++ [.tup (as.drop n)], rel.laid hp, ((has.take n).mono ext).append (.cons (.tup (.inl (.inl upd_same)) ((has.drop n).mono ext)) .nil), by simp; omega, p.mono ext⟩
  · exact p.elim
section
variable {X : Cx} {T : Tb} {W : WX} {e : Expr} {es : List Expr} {p pos : Pos} {ma : AM} {C f : Addr} {k c : Nat} {mi : List Vl → M Vl} {x : Str}
theorem run_mkV {pins : List (Addr × Obj)} {σ : L2.St} {H : Hp} {s : Shared} {Q : VK} {us : List Value} {vs : List V} (M : Mk X.K C f) (F : FnV X.prog X.w X.K X.mg X.base k f (SpV T mi)) (hr : Room (k + 1) X.A) (hgd : X.A.guards = some []) (tk : Takes X W) (hc : T.cl[c]? = some C)
    (I : Inv X pins σ H s) (r : Vals vs us)
    (h : ∃ (ρ : List Addr) (st : Sto) (as : List Vl), Rel T ρ H st ∧ RVs T ρ H as vs ∧ Po (RV T) T (fun c d H' => W c d σ H') ρ H (match mi (.ref st.length :: as) (st ++ [.ins c []]) with
      | .ok .non s' => .ok (.ref st.length) s'
      | .ok _ _ => .fail
      | .exc e s' => .exc e s'
      | .fail => (.fail : Res Vl)) Q) : wpAny (model X.prog X.w) X.A (call (.ref C) us) (EP X pins σ Q) X.xe s := by
  obtain ⟨ρ, st, as, rel, has, p⟩ := h
  have f1 : H (s.heap.objs.size + 1) = none := I.hok.fresh (Nat.le_succ _)
  have f0 : H s.heap.objs.size = none := I.hok.fresh (Nat.le_refl _)
  have ne : s.heap.objs.size + 1 ≠ s.heap.objs.size := Nat.succ_ne_self _
  have I2 := Inv.made (C := C) I
  have r2 : Vals (V.ref (s.heap.objs.size + 1) :: vs) (Value.ref (s.heap.objs.size + 1) :: us) := .cons rfl r
  have relD : Rel T ρ (upd H s.heap.objs.size (.own (s.heap.objs.size + 1))) st := rel.laid f0
  have f1' : upd H s.heap.objs.size (.own (s.heap.objs.size + 1)) (s.heap.objs.size + 1) = none := by rw [upd_ne ne]; exact f1
  have ext : Ext T ρ H (ρ ++ [s.heap.objs.size + 1]) (upd (upd H s.heap.objs.size (.own (s.heap.objs.size + 1))) (s.heap.objs.size + 1) (.ins C s.heap.objs.size [])) := (ext_upd f0).trans (relD.newExt f1')
  have relN : Rel T (ρ ++ [s.heap.objs.size + 1]) (upd (upd H s.heap.objs.size (.own (s.heap.objs.size + 1))) (s.heap.objs.size + 1) (.ins C s.heap.objs.size [])) (st ++ [.ins c []]) := relD.new f1' ⟨C, _, [], hc, upd_same, rfl, .nil⟩
  have sp : SpV T mi (V.ref (s.heap.objs.size + 1) :: vs) (upd (upd H s.heap.objs.size (.own (s.heap.objs.size + 1))) (s.heap.objs.size + 1) (.ins C s.heap.objs.size [])) (fun v H2 => v = .non ∧ Q (.ref (s.heap.objs.size + 1)) H2) fun c d H' => W c d σ H' := by
    refine ⟨_, _, .ref st.length :: as, relN, .cons rel.newRef (has.mono ext), ?_⟩
    cases e : mi (.ref st.length :: as) (st ++ [.ins c []]) with
    | fail => rw [e] at p; exact p
    | exc z s' => rw [e] at p; exact fun ρ' H' D x' => p ρ' H' D (ext.trans x')
    | ok v s' =>
      rw [e] at p
      intro ρ' H' z x' r' hz
      cases v <;> try exact p.elim
      exact ⟨hz.nonE, p ρ' H' _ (ext.trans x') r' (.ref (x'.pre _ _ (by rw [← rel.len, List.getElem?_append_right (Nat.le_refl _)]; simp)))⟩
  refine wpAny_call (make_map (f := f) I.kIn M.makes M.init (beq_iff_eq.mp M.fn) (codeAny_mono (F _ X.stack _ _ (Value.ref (s.heap.objs.size + 1) :: us) _ _ _ (hr.make C us []) (under_guards hgd) (I2.env0.make C us []) r2 sp) fun z s' hq => ?_))
  cases z with
  | error y => exact tk y s' (XE.of_call I2 (fun _ _ _ q => q) hq)
  | ok fl =>
    cases fl with
    | ret u =>
      obtain ⟨v, H', I3, rv, ev, q3⟩ := I2.after hq
      subst ev
      exact ⟨rv, ⟨V.ref (s.heap.objs.size + 1), H', I3, rfl, q3⟩⟩
    | next => exact hq.elim
    | brk => exact hq.elim
    | cont => exact hq.elim
theorem ce_makeV (M : Mk X.K C f) (F : FnV X.prog X.w X.K X.mg X.base k f (SpV T mi)) (hr : Room (k + 1) X.A) (hgd : X.A.guards = some []) (hg : Gl X x) (hm : X.mg x = some (.ref C)) (tk : Takes X W) (hc : T.cl[c]? = some C) (ha : PA X (e :: es) (tA T W ma))
    (hdb : (x == ("__debug__" : Str)) = false := by decide) (he : starEach (e :: es) X.env = (false, eval e X.env) :: starEach es X.env := by rfl) (hpl : (backTo pos (starEach es X.env)).any (·.1) = false := by rfl) :
    PE X (.Call (.Name x p) (e :: es) [] pos) (tE T W (eMake c mi ma)) := by
  refine ⟨fun pins s σ H Q I h => wpAny_Call_Name_kw (ld_glob I hg hm ?_ hdb)⟩
  have h : tA T W ma σ H fun vs H1 => ∃ (ρ : List Addr) (st : Sto) (as : List Vl), Rel T ρ H1 st ∧ RVs T ρ H1 as vs ∧ Po (RV T) T (fun c d H' => W c d σ H') ρ H1 (match mi (.ref st.length :: as) (st ++ [.ins c []]) with
      | .ok .non s' => .ok (.ref st.length) s'
      | .ok _ _ => .fail
      | .exc e s' => .exc e s'
      | .fail => (.fail : Res Vl)) Q := tG_bnd (R := RVs T) h fun ρ s lo xs zs H1 r rl hx q => ⟨ρ, s, xs, r, hx, q⟩
  refine PySem.W.callWith_K (h₀ := X.base) I.ok.mod.kin M.kp (thn (ha.run pos pins s σ H _ I h) fun us s1 ⟨vs, H1, I1, r, q⟩ => ⟨I1.kIn, ?_⟩) he hpl
  exact run_mkV M F hr hgd tk hc I1 r q
theorem ce_makeV0 (M : Mk X.K C f) (F : FnV X.prog X.w X.K X.mg X.base k f (SpV T mi)) (hr : Room (k + 1) X.A) (hgd : X.A.guards = some []) (hg : Gl X x) (hm : X.mg x = some (.ref C)) (tk : Takes X W) (hc : T.cl[c]? = some C)
    (hdb : (x == ("__debug__" : Str)) = false := by decide) : PE X (.Call (.Name x p) [] [] pos) (tE T W (eMake c mi aNil)) := by
  refine ⟨fun pins s σ H Q I h => wpAny_Call_Name_kw (ld_glob I hg hm ?_ hdb)⟩
  obtain ⟨ρ, st, lo, r, rl, q⟩ := h
  exact PySem.W.callWith_K0 I.kIn M.kp (run_mkV (us := []) (vs := []) M F hr hgd tk hc I .nil ⟨ρ, st, [], r, .nil, q⟩)
end
/-! ### objects that are called -/
def eCallO (tab : MTab) (o : EM) (a : AM) : EM := fun lo => bnd (o lo) fun x s => match x with
  | .ref j => bnd (a lo) (fun as s => match s[j]? with
    | some (.ins c fs) => match tab c with
      | some mf => mf (.ref j :: as) s
      | none => .fail
    | _ => .fail) s
  | _ => .fail
def CallOk (X : Cx) (T : Tb) (k n : Nat) (tab : MTab) : Prop := ∀ c mf, tab c = some mf → ∀ C, T.cl[c]? = some C → ∃ (f : Addr) (fd : FuncData) (ps : List Str), StX.CallO T.K C f ∧ FnG X.prog X.w X.K X.mg X.base k f fd ps (SpM T (n + 1) mf) ∧ Binds X.K fd ps []
section
variable {X : Cx} {T : Tb} {W : WX} {k n : Nat} {f : Addr} {fd : FuncData} {ps : List Str} {mf : List Vl → M Vl} {pos : Pos} {e o : Expr} {es : List Expr} {ma : AM} {mo : EM} {ds : List Value} {dvs : List V}
theorem code_G {sp : Sp} {pins : List (Addr × Obj)} {σ : L2.St} {H : Hp} {s : Shared} {Q : VK} {us : List Value} {vs : List V} (F : FnG X.prog X.w X.K X.mg X.base k f fd ps sp) (hr : Room k X.A) (hg : X.A.guards = some []) (hb : Binds X.K fd ps ds) (hd : Vals dvs ds) (tk : Takes X W)
    (I : Inv X pins σ H s) (r : Vals vs us) (h : sp (vs ++ dvs) H Q fun c d H' => W c d σ H') :
    codeAny (model X.prog X.w) X.A (.call (.ref f) ⟨us, []⟩) (fun r s' => match r with | .ok (.ret v) => EP X pins σ Q v s' | .ok _ => False | .error e => X.xe e s') s := by
  have r2 : Vals (vs ++ dvs) (us ++ ds) := r.append hd
  refine codeAny_mono (F.run X.A X.stack s H ⟨us, []⟩ (us ++ ds) (vs ++ dvs) Q _ hr hg I.env0 (hb s us I.kIn (by rw [← r2.length]; exact F.len _ _ _ _ h)) r2 h) fun z s' hq => ?_
  cases z with
  | error y => exact tk y s' (XE.of_call I (fun _ _ _ q => q) hq)
  | ok fl =>
    cases fl with
    | ret u => exact I.after hq
    | next => exact hq.elim
    | brk => exact hq.elim
    | cont => exact hq.elim
theorem ce_callO {tab : MTab} (ok : CallOk X T k n tab) (hr : Room k X.A) (hgd : X.A.guards = some []) (tk : Takes X W) (ho : PE X o (tE T W mo)) (ha : PA X (e :: es) (tA T W ma))
    (ht : eval (.Call o (e :: es) [] pos) X.env = (do callWith pos (← eval o X.env) [] (backTo pos (starEach (e :: es) X.env)) (backToKw pos (keywordEach [] X.env))) := by rfl)
    (he : starEach (e :: es) X.env = (false, eval e X.env) :: starEach es X.env := by rfl) (hpl : (backTo pos (starEach es X.env)).any (·.1) = false := by rfl) (hK : X.K = T.K := by rfl) :
    PE X (.Call o (e :: es) [] pos) (tE T W (eCallO (tabA n tab) mo ma)) := by
  refine ⟨fun pins s σ H Q I h => ?_⟩
  have h : tE T W mo σ H fun x H1 => ∃ a, x = V.ref a ∧ tA T W ma σ H1 fun vs H2 => ∃ (C dx f : Addr) (fs : List (Str × V)) (mf : List Vl → M Vl) (fd : FuncData) (ps : List Str), H2 a = some (.ins C dx fs) ∧ StX.CallO T.K C f ∧ FnG X.prog X.w X.K X.mg X.base k f fd ps (SpM T (n + 1) mf) ∧ Binds X.K fd ps [] ∧
      SpM T (n + 1) mf (.ref a :: vs ++ []) H2 Q fun c d H' => W c d σ H' := tG_bnd (R := RV T) h fun ρ s lo x z H1 r rl hx p => by
    cases hx with
    | ref hρ =>
      rename_i j a
      refine ⟨a, rfl, po_bnd (R := RVs T) (m := ma) r rl p fun ρ' s' as zs H' ext r' rl' has p' => ?_⟩
      split at p'
      · rename_i c fs hj
        split at p'
        · rename_i mf hm
          unfold tabA at hm
          obtain ⟨mf0, hm0, rfl⟩ := Option.map_eq_some_iff.mp hm
          obtain ⟨C, dx, vs, h1, h2, h3, h4⟩ := r'.ins hj (ext.pre _ _ hρ)
          obtain ⟨f, fd, ps, k2, k3, k4⟩ := ok c mf0 hm0 C h1
          refine ⟨C, dx, f, vs, mf0, fd, ps, h2, k2, k3, k4, ?_⟩
          unfold arg at p'
          split at p'
          · rename_i hl
            rw [List.append_nil]
            exact spM_of r' (.cons (.ref (ext.pre _ _ hρ)) has) hl p'
          · exact p'.elim
        · exact p'.elim
      · exact p'.elim
    | _ => exact p.elim
  refine Call_ (thn (ho.run pins s σ H _ I h) fun u s1 ⟨y, H1, I1, ry, a, ey, q⟩ => ?_) ht
  subst ey
  obtain rfl : u = Value.ref a := ry
  refine StX.callO_with (thn (ha.run pos pins s1 σ H1 _ I1 q) fun us s2 ⟨vs, H2, I2, r, C, dx, f, fs, mf, fd, ps, hi, co, F, hb, q2⟩ => ?_) he hpl
  obtain ⟨ox, od, J, hd⟩ := StX.insC_at (C := C) I2 (.inr ⟨dx, fs, hi⟩)
  rw [← hK] at co
  exact ⟨⟨C, ox, od, J, hd⟩, wpAny_call (PySem.W.kco_code I2.kIn J hd co.at_ co.fn co.fi (code_G (us := .ref a :: us) (vs := .ref a :: vs) F hr hgd hb .nil tk I2 (.cons rfl r) q2))⟩
end
end Sm

/-! S20: str.join, dict(d), sorted(d) -/
namespace Sm
open PySem L2
section
variable {X : Cx} {T : Tb}
/-- x.join(list of strs) -/
def oJoin : OMt
  | .str a, [x], s => match lstOf x s with
    | some xs => match mapO asStr xs with
      | some ys => if (ys.map (·.length)).sum + ys.length * a.length ≤ LIM then some (.str (Txt.join a ys), s) else none
      | none => none
    | none => none
  | _, _, _ => none
theorem m_join : MtR X "str.join" (rMt T oJoin) := MtR.imp mt_join fun x xs H Q q => by
  obtain ⟨ρ, st, a, as, w, s', r, ha, hs, e, k⟩ := q
  unfold oJoin at e
  split at e
  · split at e
    · rename_i ys hx
      split at e
      · rename_i zs hz
        split at e
        · rename_i hl
          cases e
          obtain ⟨z, rfl, hz'⟩ := hs.one
          obtain ⟨p, vs, rfl, h1, h2⟩ := lstOf_ok r hz' hx
          have ev := asStrs_ok h2 hz
          subst ev
          cases ha
          exact ⟨_, p, zs, rfl, rfl, .inl (SqL.of h1), hl, k.here r (.str _)⟩
        · cases e
      · cases e
    · cases e
  · cases e
/-- dict(d) -/
def oDict : OC
  | [.ref j], s => match s[j]? with
    | some (.dic kvs) => some (.ref s.length, s ++ [.dic kvs])
    | _ => none
  | _, _ => none
theorem c_dict : CallR X (.type "dict") (rC T oDict) := CallR.imp call_dictD fun xs H Q q => by
  obtain ⟨ρ, st, as, w, s', r, ha, e, k⟩ := q
  unfold oDict at e
  split at e
  · split at e
    · rename_i kvs hx
      cases e
      obtain ⟨z, rfl, hz⟩ := ha.one
      obtain ⟨p, rfl, hp⟩ := hz.refE
      obtain ⟨vs, h1, h2, h3⟩ := r.dic hx hp
      exact ⟨p, vs, rfl, .inl h1, fun q hq => k.new r hq ⟨vs, upd_same, h2, h3.mono (r.newExt hq)⟩⟩
    · cases e
  · cases e
end
end Sm

/-! S21: texts in order; sorted of lists, sets and dicts -/
namespace Sm
open PySem L2 PySem.Spec
theorem lt_irr : ∀ a : List Nat, ltCps a a = false
  | [] => rfl
  | x :: a => by simp [ltCps, lt_irr a]
theorem lt_anti : ∀ a b : List Nat, ltCps a b = false → ltCps b a = false → a = b
  | [], [], _, _ => rfl
  | [], _ :: _, h, _ => by simp [ltCps] at h
  | _ :: _, [], _, h => by simp [ltCps] at h
  | x :: a, y :: b, h1, h2 => by
    simp [ltCps] at h1 h2
    have e : x = y := Nat.le_antisymm h2.1 h1.1
    subst e
    rw [lt_anti a b (h1.2 rfl) (h2.2 rfl)]
theorem lt_asym : ∀ a b : List Nat, ltCps a b = true → ltCps b a = false
  | [], [], h => by simp [ltCps] at h
  | [], _ :: _, _ => by simp [ltCps]
  | _ :: _, [], h => by simp [ltCps] at h
  | x :: a, y :: b, h => by
    simp [ltCps] at h ⊢
    rcases h with h | ⟨rfl, h⟩
    · exact ⟨by omega, fun e => by omega⟩
    · exact ⟨Nat.le_refl _, fun _ => lt_asym a b h⟩
/-- a ≤ b is: not b < a -/
theorem le_trans3 : ∀ a b c : List Nat, ltCps b a = false → ltCps c b = false → ltCps c a = false
  | [], _, [], _, _ => rfl
  | [], [], _ :: _, _, _ => by simp [ltCps]
  | [], _ :: _, _ :: _, _, _ => by simp [ltCps]
  | _ :: _, [], _, h, _ => by simp [ltCps] at h
  | _ :: _, _ :: _, [], _, h => by simp [ltCps] at h
  | x :: a, y :: b, z :: c, h1, h2 => by
    simp [ltCps] at h1 h2 ⊢
    refine ⟨by omega, fun e => ?_⟩
    have e1 : y = x := by omega
    have e2 : z = y := by omega
    exact le_trans3 a b c (h1.2 e1) (h2.2 e2)
abbrev leS (a b : Str) : Prop := ltCps b.cps.toList a.cps.toList = false
theorem leS_total (a b : Str) : leS a b ∨ leS b a := by
  cases h : ltCps b.cps.toList a.cps.toList with
  | false => exact .inl h
  | true => exact .inr (lt_asym _ _ h)
def insT (x : Str) : List Str → List Str
  | [] => [x]
  | y :: ys => if ltCps y.cps.toList x.cps.toList then y :: insT x ys else x :: y :: ys
def srtT : List Str → List Str
  | [] => []
  | x :: xs => insT x (srtT xs)
theorem insT_perm (x : Str) : ∀ ys : List Str, (insT x ys).Perm (x :: ys)
  | [] => .refl _
  | y :: ys => by
    unfold insT
    split
    · exact (List.Perm.cons y (insT_perm x ys)).trans (List.Perm.swap x y ys)
    · exact .refl _
theorem srtT_perm : ∀ xs : List Str, (srtT xs).Perm xs
  | [] => .refl _
  | x :: xs => (insT_perm x (srtT xs)).trans (List.Perm.cons x (srtT_perm xs))
theorem insT_sorted (x : Str) : ∀ ys : List Str, ys.Pairwise leS → (insT x ys).Pairwise leS
  | [], _ => List.pairwise_singleton _ _
  | y :: ys, h => by
    have h' := List.pairwise_cons.mp h
    unfold insT
    split
    · rename_i q
      refine List.pairwise_cons.mpr ⟨fun z hz => ?_, insT_sorted x ys h'.2⟩
      rcases List.mem_cons.mp ((insT_perm x ys).mem_iff.mp hz) with rfl | hz
      · exact lt_asym _ _ q
      · exact h'.1 z hz
    · rename_i q
      have q : leS x y := by simpa using q
      refine List.pairwise_cons.mpr ⟨fun z hz => ?_, h⟩
      rcases List.mem_cons.mp hz with rfl | hz
      · exact q
      · exact le_trans3 _ _ _ q (h'.1 z hz)
theorem srtT_sorted : ∀ xs : List Str, (srtT xs).Pairwise leS
  | [] => List.Pairwise.nil
  | x :: xs => insT_sorted x _ (srtT_sorted xs)
theorem rising_pw : ∀ (p : Str) (l : List Str), PyProof.Rows.risingS p l = true → (p :: l).Pairwise leS
  | p, [], _ => List.pairwise_singleton _ _
  | p, x :: r, h => by
    simp [PyProof.Rows.risingS] at h
    have ih := rising_pw x r h.2
    refine List.pairwise_cons.mpr ⟨fun z hz => ?_, ih⟩
    rcases List.mem_cons.mp hz with rfl | hz
    · exact h.1
    · exact le_trans3 _ _ _ h.1 ((List.pairwise_cons.mp ih).1 z hz)
theorem sortedS_pw : ∀ {l : List Str}, PyProof.Rows.sortedS l = true → l.Pairwise leS
  | [], _ => List.Pairwise.nil
  | x :: r, h => rising_pw x r h
theorem str_ext {a b : Str} (h : a.cps.toList = b.cps.toList) : a = b := by
  cases a; cases b
  simp at h
  rw [h]
theorem same_sorted : ∀ {a b : List Str}, a.Perm b → a.Pairwise leS → b.Pairwise leS → a = b
  | [], b, p, _, _ => by rw [List.nil_perm.mp p]
  | x :: a, [], p, _, _ => by have := p.length_eq; simp at this
  | x :: a, y :: b, p, ha, hb => by
    have ha' := List.pairwise_cons.mp ha
    have hb' := List.pairwise_cons.mp hb
    have e : x = y := by
      have h1 : leS x y := by
        rcases List.mem_cons.mp (p.mem_iff.mpr (List.mem_cons_self ..)) with q | q
        · rw [q]; exact lt_irr _
        · exact ha'.1 y q
      have h2 : leS y x := by
        rcases List.mem_cons.mp (p.mem_iff.mp (List.mem_cons_self ..)) with q | q
        · rw [q]; exact lt_irr _
        · exact hb'.1 x q
      exact str_ext (lt_anti _ _ h2 h1)
    subst e
    rw [same_sorted (List.Perm.cons_inv p) ha'.2 hb'.2]
theorem srtT_eq {xs ys : List Str} (p : ys.Perm xs) (h : PyProof.Rows.sortedS ys = true) : ys = srtT xs := same_sorted (p.trans (srtT_perm xs).symm) (sortedS_pw h) (srtT_sorted xs)
/-- all keys texts -/
def strKeys : List (Key × Vl) → Option (List Str)
  | [] => some []
  | (.inr x, _) :: r => (strKeys r).map (x :: ·)
  | _ => none
theorem strKeys_ok : ∀ {kvs : List (Key × Vl)} {ks : List Str}, strKeys kvs = some ks → kvs.map (·.1) = ks.map Sum.inr
  | [], ks, h => by cases h; rfl
  | (.inl _, _) :: _, ks, h => by cases h
  | (.inr x, _) :: r, ks, h => by
    unfold strKeys at h
    cases e : strKeys r with
    | none => rw [e] at h; cases h
    | some l =>
      rw [e] at h
      cases h
      simp [strKeys_ok e]
/-- sorted of ints (list, set), of texts (list, keys of a dict) -/
def oSort : OC
  | [.ref j], s => match s[j]? with
    | some (.lst xs) => match mapO asInt xs with
      | some ns => some (.ref s.length, s ++ [.lst ((srt ns).map Vl.int)])
      | none => match mapO asStr xs with
        | some zs => if zs.length < 64 then some (.ref s.length, s ++ [.lst ((srtT zs).map Vl.str)]) else none
        | none => none
    | some (.set xs) => if xs.length < 64 then some (.ref s.length, s ++ [.lst ((srt xs).map Vl.int)]) else none
    | some (.dic kvs) => match strKeys kvs with
      | some ks => if ks.length < 64 then some (.ref s.length, s ++ [.lst ((srtT ks).map Vl.str)]) else none
      | none => none
    | _ => none
  | _, _ => none
theorem RVs.strs {T : Tb} {ρ : List Addr} {H : Hp} : ∀ zs : List Str, RVs T ρ H (zs.map Vl.str) (zs.map V.str)
  | [] => .nil
  | z :: zs => .cons (.str z) (RVs.strs zs)
section
variable {X : Cx} {T : Tb}
theorem c_sort (hc : X.calm = true := by rfl) (hw : X.w = T.w := by rfl) : CallR X (.builtin "sorted") (rC T oSort) := fun pins s σ H xs us Q I rs q => by
  obtain ⟨ρ, st, as, v, s', r, ha, e, k⟩ := q
  have base : oSortS as st = some (v, s') → _ := fun e' => c_sortS (T := T) hc hw pins s σ H xs us Q I rs ⟨ρ, st, as, v, s', r, ha, e', k⟩
  unfold oSort at e
  split at e
  · rename_i j
    split at e
    · rename_i ys hx
      split at e
      · rename_i ns hn
        exact base (by simp only [oSortS, hx, hn, Option.map]; exact e)
      · split at e
        · rename_i zs hz
          split at e
          · rename_i hl
            cases e
            obtain ⟨z, rfl, hz'⟩ := ha.one
            obtain ⟨p, rfl, hp⟩ := hz'.refE
            obtain ⟨vs, h1, h2⟩ := r.lst hx hp
            have ev := asStrs_ok h2 hz
            subst ev
            exact cr_sortedS pins s σ H _ us Q I rs ⟨p, zs, rfl, SqL.of h1, hl, fun ys q hp' hs hq => by
              rw [srtT_eq hp' hs]
              exact k.lst r (RVs.strs _) hq⟩
          · cases e
        · cases e
    · rename_i ys hx
      split at e
      · rename_i hl
        exact base (by simp only [oSortS, hx, if_pos hl]; exact e)
      · cases e
    · rename_i kvs hx
      split at e
      · rename_i ks hk
        split at e
        · rename_i hl
          cases e
          obtain ⟨z, rfl, hz'⟩ := ha.one
          obtain ⟨p, rfl, hp⟩ := hz'.refE
          obtain ⟨vs, h1, h2, h3⟩ := r.dic hx hp
          exact call_sortedD hc pins s σ H _ us Q I rs ⟨p, vs, ks, rfl, .inl h1, h2.trans (strKeys_ok hk), hl, fun ys q hp' hs hq => by
            rw [srtT_eq hp' hs]
            exact k.lst r (RVs.strs _) hq⟩
        · cases e
      · cases e
    · cases e
  · cases e
end
end Sm

/-! S25: targets within targets, op=, chains of comparisons, isinstance, get, setdefault, dict(pairs), len of own objects -/
namespace Sm
open PySem L2
/-! ### targets -/
def gAll : List GM → List Vl → Lo → Sto → Option (Lo × Sto)
  | [], [], lo, s => some (lo, s)
  | g :: gs, v :: vs, lo, s => match g v lo s with
    | .ok lo' s' => gAll gs vs lo' s'
    | _ => none
  | _, _, _, _ => none
def gTs (gs : List GM) : GM := fun v lo s => match v with
  | .tup xs => match gAll gs xs lo s with
    | some (lo', s') => .ok lo' s'
    | none => .fail
  | _ => .fail
def tGts (T : Tb) (gs : List GM) : TGs := fun zs σ H Q => ∃ (ρ : List Addr) (s : Sto) (lo : Lo) (vs : List Vl) (lo' : Lo) (s' : Sto), Rel T ρ H s ∧ RL T ρ H lo σ ∧ RVs T ρ H vs zs ∧ gAll gs vs lo s = some (lo', s') ∧ PoN T ρ H lo' s' Q
theorem pgs_mono {X : Cx} {es : List Expr} {t t' : TGs} (h : PGs X es t) (k : ∀ v σ H Q, t' v σ H Q → t v σ H Q) : PGs X es t' := ⟨fun pins s σ H v u Q I r q => h.run pins s σ H v u Q I r (k v σ H Q q)⟩
theorem gAll_len : ∀ {gs : List GM} {vs : List Vl} {lo : Lo} {s : Sto} {r : Lo × Sto}, gAll gs vs lo s = some r → vs.length = gs.length
  | [], [], _, _, _, _ => rfl
  | [], _ :: _, _, _, _, h => by cases h
  | _ :: _, [], _, _, _, h => by cases h
  | g :: gs, v :: vs, lo, s, r, h => by
    unfold gAll at h
    split at h
    · rw [List.length_cons, List.length_cons, gAll_len h]
    · cases h
section
variable {X : Cx} {T : Tb} {W : WX} {e : Expr} {es : List Expr} {g : GM} {gs : List GM} {pos : Pos} {kk : Nat}
theorem cgs_nil : PGs X [] (tGts T []) := pgs_mono pgs_nil fun zs σ H Q h => by
  obtain ⟨ρ, s, lo, vs, lo', s', r, rl, hv, e, p⟩ := h
  cases vs with
  | cons => cases e
  | nil =>
    cases e
    cases hv
    exact ⟨rfl, p ρ H σ .refl r rl⟩
theorem cgs_cons (h1 : PG X e (tGt T W g)) (h2 : PGs X es (tGts T gs)) (hs : (assignEach (e :: es) X.env).map (·.2) = assign e X.env :: (assignEach es X.env).map (·.2) := by rfl) : PGs X (e :: es) (tGts T (g :: gs)) :=
  pgs_mono (pgs_cons h1 h2 hs) fun zs σ H Q h => by
    obtain ⟨ρ, s, lo, vs, lo', s', r, rl, hv, e, p⟩ := h
    cases hv with
    | nil => cases e
    | cons h1 h2 =>
      rename_i x z xs zs
      refine ⟨z, zs, rfl, ρ, s, lo, x, r, rl, h1, ?_⟩
      unfold gAll at e
      split at e
      · rename_i lo1 s1 hg
        rw [hg]
        exact fun ρ' H' σ' ext r' rl' => ⟨ρ', s1, lo1, xs, lo', s', r', rl', h2.mono ext, e, p.mono ext⟩
      · cases e
theorem cg_tups (h : PGs X es (tGts T gs)) (hc : X.calm = true := by rfl) (hn : (assignEach es X.env).length = gs.length := by rfl) (hst : (assignEach es X.env).findIdx? (·.1) = none := by rfl) (hK : X.K = T.K := by rfl) : PG X (.Tuple es kk pos) (tGt T W (gTs gs)) :=
  pg_mono (pg_tup hc h hn hst) fun z σ H Q h => by
    obtain ⟨ρ, s, lo, v, r, rl, hv, p⟩ := h
    unfold gTs at p
    cases v <;> try exact p.elim
    rename_i xs
    obtain ⟨a, vs, rfl, h1, h2⟩ := hv.tupE
    simp only at p
    split at p
    · rename_i lo' s' hg
      refine ⟨a, vs, rfl, by rw [hK]; exact h1, by rw [← h2.length]; exact gAll_len hg, ρ, s, lo, xs, lo', s', r, rl, h2, hg, ?_⟩
      exact fun ρ' H' σ' ext r' rl' => p ρ' H' σ' ext r' rl'
    · exact p.elim
end
/-! ### x op= e -/
def sAug (i : Nat) (f : O2) (e : EM) : SM := fun lo s => match lo[i]? with
  | some (some x) => bndS e (fun lo v s => match f x v s with
    | some (z, s') => .nx (lo.set i (some z)) s'
    | none => .fail) lo s
  | _ => .fail
def opIAdd : O2 := fun a b s => match a, b with
  | .int i, .int j => some (.int (i + j), s)
  | .str i, .str j => if i.length + j.length ≤ LIM then some (.str (i ++ j), s) else none
  | _, _ => none
def opISub : O2 := fun a b s => match a, b with
  | .int i, .int j => some (.int (i - j), s)
  | _, _ => none
section
variable {X : Cx} {T : Tb} {W : WX} {e : Expr} {me : EM} {f : O2} {op : Operator} {pos pos' : Pos}
theorem io_add : OpR X (inplaceOp .Add) (rO T opIAdd) := by
  intro pins s σ H x y v u Q I rx ry q
  obtain ⟨ρ, st, a, b, w, s', r, ha, hb, e, k⟩ := q
  unfold opIAdd at e
  split at e
  · cases e
    rw [ha.intE] at rx
    rw [hb.intE] at ry
    exact iop_add pins s σ H _ _ v u Q I rx ry ⟨_, _, rfl, rfl, k.here r (.int _)⟩
  · split at e
    · rename_i hl
      cases e
      rw [ha.strE] at rx
      rw [hb.strE] at ry
      exact iop_add_str pins s σ H _ _ v u Q I rx ry ⟨_, _, rfl, rfl, by rw [lim_eq]; exact hl, k.here r (.str _)⟩
    · cases e
  · cases e
theorem io_sub : OpR X (inplaceOp .Sub) (rO T opISub) := by
  intro pins s σ H x y v u Q I rx ry q
  obtain ⟨ρ, st, a, b, w, s', r, ha, hb, e, k⟩ := q
  unfold opISub at e
  split at e
  · cases e
    rw [ha.intE] at rx
    rw [hb.intE] at ry
    exact iop_sub pins s σ H _ _ v u Q I rx ry ⟨_, _, rfl, rfl, k.here r (.int _)⟩
  · cases e
theorem cs_aug {i : Nat} {x : Str} (hN : X.N.Nodup) (hi : X.N[i]? = some x) (hx : Loc X.env.scope x) (ho : OpR X (inplaceOp op) (rO T f)) (he : PE X e (tE T W me))
    (hf : X.fn x = true ∨ X.env.scope.names.lookup x = some .local := by first | exact .inl rfl | exact .inr rfl | assumption) : PS X (.AugAssign (.Name x pos') op e pos) (tS T W (sAug i f me)) :=
  ps_mono (ps_aug hN hi hx he ho hf) fun D σ H h => by
    obtain ⟨ρ, s, lo, r, rl, p⟩ := h
    unfold sAug at p
    split at p
    · rename_i x hx
      obtain ⟨z, hz, hv⟩ := rl.at_ i x hx
      refine ⟨z, hz, poS_bnd (R := RV T) r rl p fun ρ' s' a b H' ext r' rl' hb p' => ?_⟩
      split at p'
      · rename_i w s2 hw
        exact ⟨ρ', s', x, a, w, s2, r', hv.mono ext, hb, hw, fun ρ2 H2 u e2 r2 hu => p' ρ2 H2 _ e2 r2 ((rl'.mono e2).set i hu)⟩
      · exact p'.elim
    · exact p.elim
end
/-- o.f op= e -/
def sFldA (cs : List Nat) (f : Str) (op : O2) (o e : EM) : SM := bndS o fun lo x s => match x with
  | .ref j => match s[j]? with
    | some (.ins c fs) => if c ∈ cs then match getS fs f with
        | some v => bndS e (fun lo y s => match op v y s with
          | some (z, s') => match setFld cs f (.ref j) z s' with
            | some s2 => match s'[j]? with
              | some (.ins c' _) => if c' = c then .nx lo s2 else .fail
              | _ => .fail
            | none => .fail
          | none => .fail) lo s
        | none => .fail
      else .fail
    | _ => .fail
  | _ => .fail
section
variable {X : Cx} {T : Tb} {W : WX} {o value : Expr} {mo me : EM} {op : O2} {oper : Operator} {cs : List Nat} {f : Str} {pos tpos : Pos}
theorem cs_fldA (ok : FldOk T cs f) (hop : OpR X (inplaceOp oper) (rO T op)) (ho : PE X o (tE T W mo)) (hv : PE X value (tE T W me)) (hK : X.K = T.K := by rfl) :
    PS X (.AugAssign (.Attribute o f tpos) oper value pos) (tS T W (sFldA cs f op mo me)) := ps_mono (ps_fldaug ho hv hop) fun D σ H h =>
  tS_bnd (R := RV T) h fun ρ s lo x z H' r rl hx p => by
    cases x <;> try exact p.elim
    rename_i j
    simp only at p
    obtain ⟨a, rfl, ha⟩ := hx.refE
    split at p
    · rename_i c fs hj
      split at p
      · rename_i hc
        split at p
        · rename_i v hv
          obtain ⟨C, dx, vs, h1, h2, h3, h4⟩ := r.ins hj ha
          obtain ⟨w, hw, hvw⟩ := (getS_ok (f := f) h3 h4).2 v hv
          refine ⟨a, C, dx, vs, w, rfl, h2, by rw [hK]; exact (ok c hc C h1).1, by rw [hK]; exact (ok c hc C h1).2, hw, poS_bnd (R := RV T) r rl p fun ρ1 s1 y u H1 ext1 r1 rl1 hy p1 => ?_⟩
          split at p1
          · rename_i q s2 hq
            split at p1
            · rename_i s3 h3'
              split at p1
              · rename_i c' fs' hj'
                split at p1
                · rename_i ec
                  subst ec
                  refine ⟨ρ1, s1, v, y, q, s2, r1, hvw.mono ext1, hy, hq, fun ρ2 H2 t e2 r2 ht => ?_⟩
                  have ha2 := e2.pre _ _ (ext1.pre _ _ ha)
                  obtain ⟨C', dx', vs', k1, k2, k3, k4⟩ := r2.ins hj' ha2
                  obtain rfl : C' = C := Option.some.inj (k1.symm.trans h1)
                  unfold setFld at h3'
                  simp only [hj'] at h3'
                  split at h3'
                  · rename_i hcl
                    cases h3'
                    have hlen : vs'.length = fs'.length := by have := congrArg List.length k3; simpa using this
                    refine ⟨dx', vs', k2, by rw [hlen]; exact hcl.2, ?_⟩
                    obtain ⟨q1, q2⟩ := putS_ok (f := f) ht k3 k4
                    exact p1 ρ2 _ σ (e2.trans (r2.setExt ha2 k2)) (r2.set ha2 ⟨C', dx', _, k1, upd_same, q1, q2.mono (r2.setExt ha2 k2)⟩) ((rl1.mono e2).mono (r2.setExt ha2 k2))
                  · cases h3'
                · exact p1.elim
              · exact p1.elim
            · exact p1.elim
          · exact p1.elim
        · exact p.elim
      · exact p.elim
    · exact p.elim
end
/-! ### a op b op' c -/
def eChain (f f' : O2) (a b c : EM) : EM := fun lo => bnd (a lo) fun x => bnd (b lo) fun y => bnd (lift (f x y)) fun z => match z with
  | .bl true => bnd (c lo) fun w => lift (f' y w)
  | .bl false => ret (.bl false)
  | _ => failM
section
variable {X : Cx} {T : Tb} {W : WX} {a b c : Expr} {ma mb mc : EM} {f f' : O2} {op op' : CmpOp} {pos : Pos}
theorem chain_le {σ : L2.St} {H : Hp} {Q : VK} (h : tE T W (eChain f f' ma mb mc) σ H Q) : tChain (rO T f) (rO T f') (tE T W ma) (tE T W mb) (tE T W mc) σ H Q :=
  tG_bnd (f := fun lo x => bnd (mb lo) fun y => bnd (lift (f x y)) fun z => match z with | .bl true => bnd (mc lo) fun w => lift (f' y w) | .bl false => ret (.bl false) | _ => failM) h fun ρ s lo x z H1 r rl hx p =>
    po_bnd (m := mb) r rl p fun ρ1 s1 y z' H2 ext1 r1 rl1 hy p1 => by
      unfold bnd lift at p1
      cases e : f x y s1 with
      | none => rw [e] at p1; exact p1.elim
      | some q =>
        obtain ⟨v, s2⟩ := q
        rw [e] at p1
        refine ⟨ρ1, s1, x, y, v, s2, r1, hx.mono ext1, hy, e, fun ρ3 H3 t e3 r3 ht => ?_⟩
        cases v <;> try exact p1.elim
        rename_i k
        refine ⟨k, ht.blE, ?_⟩
        cases k with
        | false =>
          simp only [Bool.false_eq_true, if_false]
          exact p1 ρ3 H3 _ e3 r3 (.bl false)
        | true =>
          simp only [if_true]
          refine po_bnd (m := mc) r3 (rl1.mono e3) (p1.mono e3) fun ρ4 s4 u t' H4 ext4 r4 rl4 hu p4 => ?_
          obtain ⟨v', s5, e5, k5⟩ := po_lift p4
          exact ⟨ρ4, s4, y, u, v', s5, r4, (hy.mono e3).mono ext4, hu, e5, k5⟩
theorem ce_chain (ho : OpR X (compareOp op) (rO T f)) (ho' : OpR X (compareOp op') (rO T f')) (ha : PE X a (tE T W ma)) (hb : PE X b (tE T W mb)) (hc : PE X c (tE T W mc)) (hm : lastMarks [op, op'] [b, c] = false := by with_unfolding_all rfl) :
    PE X (.Compare a [op, op'] [b, c] pos) (tE T W (eChain f f' ma mb mc)) := pe_mono (pe_chain ho ho' ha hb hc hm) fun _ _ _ h => chain_le h
theorem ct_chain (ho : OpR X (compareOp op) (rO T f)) (ho' : OpR X (compareOp op') (rO T f')) (ha : PE X a (tE T W ma)) (hb : PE X b (tE T W mb)) (hc : PE X c (tE T W mc)) (hm : lastMarks [op, op'] [b, c] = false := by with_unfolding_all rfl) :
    PT X (.Compare a [op, op'] [b, c] pos) (tT T W (tVal (eChain f f' ma mb mc))) := pt_mono (pt_chain ho ho' ha hb hc hm) fun _ _ _ h => chain_le (tval_le h)
end
/-! ### isinstance(x, T) -/
def tyN (x : Vl) (s : Sto) : Option String := match x with
  | .non => some "NoneType"
  | .bl _ => some "bool"
  | .int _ => some "int"
  | .str _ => some "str"
  | .tup _ => some "tuple"
  | .ref j => match s[j]? with
    | some (.lst _) => some "list"
    | some (.dic _) => some "dict"
    | some (.dit _) => some "dict"
    | _ => none
  | _ => none
def isB (t n : String) : Option Bool :=
  if n = "int" then (if t = "int" ∨ t = "bool" then some true else some false)
  else if n = "bool" ∨ n = "str" ∨ n = "tuple" ∨ n = "list" ∨ n = "dict" then some (decide (t = n)) else none
def oIsi : OC
  | [x, .ty n], s => match tyN x s with
    | some t => match isB t n with
      | some b => some (.bl b, s)
      | none => none
    | none => none
  | _, _ => none
theorem isB_ok {t n : String} {b : Bool} (ht : t ∈ ["NoneType", "bool", "int", "str", "tuple", "list", "dict"]) (h : isB t n = some b) : kitB t n = some b := by
  have hn : n ∈ ["int", "bool", "str", "tuple", "list", "dict"] := by
    unfold isB at h
    split at h
    · rename_i q; subst q; simp
    · split at h
      · rename_i q; simp only [List.mem_cons, List.not_mem_nil, or_false]; exact .inr q
      · cases h
  have all : ∀ t ∈ ["NoneType", "bool", "int", "str", "tuple", "list", "dict"], ∀ n ∈ ["int", "bool", "str", "tuple", "list", "dict"], kitB t n = isB t n := by decide +kernel
  rw [all t ht n hn]; exact h
section
variable {X : Cx} {T : Tb} {W : WX}
theorem tyN_ok {ρ : List Addr} {H : Hp} {s : Sto} {x : Vl} {z : V} {t : String} (r : Rel T ρ H s) (hz : RV T ρ H x z) (h : tyN x s = some t) : TyX T.K H z (.type t) ∧ t ∈ ["NoneType", "bool", "int", "str", "tuple", "list", "dict"] := by
  unfold tyN at h
  cases x with
  | non => cases h; rw [hz.nonE]; exact ⟨.base .non, by simp⟩
  | bl b => cases h; rw [hz.blE]; exact ⟨.base (.bl b), by simp⟩
  | int i => cases h; rw [hz.intE]; exact ⟨.base (.int i), by simp⟩
  | str y => cases h; rw [hz.strE]; exact ⟨.base (.str y), by simp⟩
  | tup xs =>
    cases h
    obtain ⟨a, vs, rfl, h1, h2⟩ := hz.tupE
    refine ⟨?_, by simp⟩
    rcases h1 with (h1 | ⟨o, h1⟩) | h1
    · exact .base (.tup h1)
    · exact .fTuple h1
    · obtain ⟨o, items, n, k1, k2, k3⟩ := h1
      exact .kTuple k1 k2
  | ref j =>
    obtain ⟨a, rfl, ha⟩ := hz.refE
    simp only at h
    split at h
    · rename_i xs hj
      cases h
      obtain ⟨vs, h1, _⟩ := r.lst hj ha
      exact ⟨.base (.lst h1), by simp⟩
    · rename_i xs hj
      cases h
      obtain ⟨vs, h1, _⟩ := r.dic hj ha
      exact ⟨.base (.dK h1), by simp⟩
    · rename_i xs hj
      cases h
      obtain ⟨vs, h1, _⟩ := r.ob j a _ ha hj
      exact ⟨.base (.dT h1), by simp⟩
    · cases h
  | scr ns => cases h
  | ty n => cases h
  | fn i => cases h
theorem c_isi (hK : X.K = T.K := by rfl) : CallR X (.builtin "isinstance") (rC T oIsi) := CallR.imp call_isi fun xs H Q q => by
  obtain ⟨ρ, st, as, w, s', r, ha, e, k⟩ := q
  unfold oIsi at e
  split at e
  · split at e
    · rename_i x n _ t ht
      split at e
      · rename_i b hb
        cases e
        obtain ⟨z, y, rfl, hz, hy⟩ := ha.two
        cases hy
        obtain ⟨h1, h2⟩ := tyN_ok r hz ht
        exact ⟨z, _, _, _, b, rfl, .ty n, by rw [hK]; exact h1, kit_ty (isB_ok h2 hb), k.here r (.bl b)⟩
      · cases e
    · cases e
  · cases e
theorem ce_ty {x : Str} {n : String} {pos : Pos} (hg : Gl X x) (hm : X.mg x = none) (hv : bootBuiltins x = some (.type n)) (hn : x ≠ "__name__" := by decide) (hdb : (x == ("__debug__" : Str)) = false := by decide) : PE X (.Name x pos) (tE T W (eC (.ty n))) :=
  ce_of (z := .ty n) (pe_bltn hg hm hv rfl hn hdb) fun _ _ => .ty n
end
/-! ### d.get(k), d.get(k, x), d.setdefault(k, x) -/
def isDic (j : Nat) (s : Sto) : Bool := match s[j]? with
  | some (.dic _) => true
  | _ => false
def eDGet1 (d k : EM) : EM := fun lo => bnd (d lo) fun x s => match x with
  | .ref j => if isDic j s then bnd (k lo) (fun y s => match s[j]?, keyOf y with
    | some (.dic kvs), some key => .ok ((look kvs key).getD .non) s
    | _, _ => .fail) s else .fail
  | _ => .fail
def eDGet2 (d k v : EM) : EM := fun lo => bnd (d lo) fun x s => match x with
  | .ref j => if isDic j s then bnd (k lo) (fun y => bnd (v lo) fun z s => match s[j]?, keyOf y with
    | some (.dic kvs), some key => .ok ((look kvs key).getD z) s
    | _, _ => .fail) s else .fail
  | _ => .fail
def eDSet (d k v : EM) : EM := fun lo => bnd (d lo) fun x s => match x with
  | .ref j => if isDic j s then bnd (k lo) (fun y => bnd (v lo) fun z s => match s[j]?, keyOf y with
    | some (.dic kvs), some key => if kvs.length < LIM then (match look kvs key with
      | some w => .ok w s
      | none => .ok z (s.set j (.dic (put kvs key z)))) else .fail
    | _, _ => .fail) s else .fail
  | _ => .fail
theorem put_none {κ : Type} [DecidableEq κ] {k : κ} {v : Vl} : ∀ {kvs : List (κ × Vl)}, look kvs k = none → put kvs k v = kvs ++ [(k, v)]
  | [], _ => rfl
  | p :: r, h => by
    unfold look at h
    split at h
    · cases h
    · rename_i q
      unfold put
      rw [if_neg q, put_none h]
      rfl
theorem putK_none {κ : Type} [DecidableEq κ] {k : κ} {z : V} {vs : List (κ × V)} (h : valV vs k = none) : putK vs k z = vs ++ [(k, z)] := by
  unfold putK
  rw [if_neg]
  rw [valV_any, h]
  exact Bool.noConfusion
theorem RVs.snoc {T : Tb} {ρ : List Addr} {H : Hp} {xs : List Vl} {vs : List V} {x : Vl} {v : V} (h : RVs T ρ H xs vs) (hx : RV T ρ H x v) : RVs T ρ H (xs ++ [x]) (vs ++ [v]) := h.append (.cons hx .nil)
section
variable {X : Cx} {T : Tb} {W : WX} {o e f : Expr} {apos cpos : Pos} {md mk mv : EM}
theorem isDic_ok {ρ : List Addr} {H : Hp} {s : Sto} {j : Nat} {a : Addr} (r : Rel T ρ H s) (ha : ρ[j]? = some a) (h : isDic j s = true) : IsD H a := by
  unfold isDic at h
  split at h
  · rename_i kvs hj
    obtain ⟨vs, h1, _⟩ := r.dic hj ha
    exact .inl ⟨vs, .inl h1⟩
  · cases h
theorem ce_dget1 (hu : X.A.units + 1 < cLine) (ho : PE X o (tE T W md)) (he : PE X e (tE T W mk)) (m : M1 X o "get" apos e cpos) : PE X (.Call (.Attribute o "get" apos) [e] [] cpos) (tE T W (eDGet1 md mk)) :=
  pe_mono (pe_dget1 hu ho he m) fun σ H Q h => tG_bnd (R := RV T) h fun ρ s lo x z H1 r rl hx p => by
    cases x <;> try exact p.elim
    rename_i j
    obtain ⟨a, rfl, ha⟩ := hx.refE
    simp only at p
    split at p
    · rename_i hd
      refine ⟨a, rfl, isDic_ok r ha hd, po_bnd (R := RV T) (m := mk) r rl p fun ρ' s' y w H' ext r' rl' hy p' => ?_⟩
      split at p'
      · rename_i kvs key hj hk
        obtain ⟨vs, h1, h2, h3⟩ := r'.dic hj (ext.pre _ _ ha)
        have ey := keyOf_ok hy hk
        subst ey
        refine ⟨_, DGet.k h1, ?_⟩
        obtain ⟨q1, q2⟩ := look_ok (k := key) h2 h3
        cases q : look kvs key with
        | none => rw [q1 q]; rw [q] at p'; exact p' ρ' H' _ .refl r' .non
        | some v => obtain ⟨z, hz, hv⟩ := q2 v q; rw [hz]; rw [q] at p'; exact p' ρ' H' _ .refl r' hv
      · exact p'.elim
    · exact p.elim
theorem ce_dget2 (hu : X.A.units + 1 < cLine) (ho : PE X o (tE T W md)) (he : PE X e (tE T W mk)) (hf : PE X f (tE T W mv)) (m : M2 X o "get" apos e f cpos) : PE X (.Call (.Attribute o "get" apos) [e, f] [] cpos) (tE T W (eDGet2 md mk mv)) :=
  pe_mono (pe_dget2 hu ho he hf m) fun σ H Q h => tG_bnd (R := RV T) h fun ρ s lo x z H1 r rl hx p => by
    cases x <;> try exact p.elim
    rename_i j
    obtain ⟨a, rfl, ha⟩ := hx.refE
    simp only at p
    split at p
    · rename_i hd
      refine ⟨a, rfl, isDic_ok r ha hd, po_bnd (R := RV T) (m := mk) r rl p fun ρ' s' y w H' ext r' rl' hy p' => po_bnd (R := RV T) (m := mv) r' rl' p' fun ρ2 s2 dv w2 H2 ext2 r2 rl2 hd2 p2 => ?_⟩
      split at p2
      · rename_i kvs key hj hk
        obtain ⟨vs, h1, h2, h3⟩ := r2.dic hj (ext2.pre _ _ (ext.pre _ _ ha))
        have ey := keyOf_ok (hy.mono ext2) hk
        subst ey
        refine ⟨_, DGet.k h1, ?_⟩
        obtain ⟨q1, q2⟩ := look_ok (k := key) h2 h3
        cases q : look kvs key with
        | none => rw [q1 q]; rw [q] at p2; exact p2 ρ2 H2 _ .refl r2 hd2
        | some v => obtain ⟨z, hz, hv⟩ := q2 v q; rw [hz]; rw [q] at p2; exact p2 ρ2 H2 _ .refl r2 hv
      · exact p2.elim
    · exact p.elim
theorem ce_dsetd (ho : PE X o (tE T W md)) (he : PE X e (tE T W mk)) (hf : PE X f (tE T W mv)) (m : M2 X o "setdefault" apos e f cpos) : PE X (.Call (.Attribute o "setdefault" apos) [e, f] [] cpos) (tE T W (eDSet md mk mv)) :=
  ⟨fun pins s σ H Q I h => (pe_dsetd ho he hf m).run pins s σ H Q I (tG_bnd (R := RV T) h fun ρ s lo x z H1 r rl hx p => by
    cases x <;> try exact p.elim
    rename_i j
    obtain ⟨a, rfl, ha⟩ := hx.refE
    simp only at p
    split at p
    · rename_i hd
      refine ⟨a, rfl, isDic_ok r ha hd, po_bnd (R := RV T) (m := mk) r rl p fun ρ' s' y w H' ext r' rl' hy p' => po_bnd (R := RV T) (m := mv) r' rl' p' fun ρ2 s2 dv w2 H2 ext2 r2 rl2 hd2 p2 => ?_⟩
      split at p2
      · rename_i kvs key hj hk
        have ha2 := ext2.pre _ _ (ext.pre _ _ ha)
        obtain ⟨vs, h1, h2, h3⟩ := r2.dic hj ha2
        have ey := keyOf_ok (hy.mono ext2) hk
        obtain ⟨q1, q2⟩ := look_ok (k := key) h2 h3
        have hlen : vs.length = kvs.length := by have := congrArg List.length h2; simpa using this
        split at p2
        · rename_i hl
          refine ⟨vs, key, h1, ey, by rw [hlen, lim_eq]; exact hl, fun v' hv' => ?_, fun hn => ?_⟩
          · cases q : look kvs key with
            | none => rw [q1 q] at hv'; cases hv'
            | some v =>
              obtain ⟨z, hz, hv⟩ := q2 v q
              rw [hz] at hv'
              cases hv'
              rw [q] at p2
              exact p2 ρ2 H2 _ .refl r2 hv
          · cases q : look kvs key with
            | some v => obtain ⟨z, hz, hv⟩ := q2 v q; rw [hz] at hn; cases hn
            | none =>
              rw [q] at p2
              refine p2 ρ2 _ _ (r2.setExt ha2 h1) (r2.set ha2 ⟨putK vs key w2, upd_same, ?_, ?_⟩) (hd2.mono (r2.setExt ha2 h1))
              · rw [putK_none hn, put_none q]; simp [h2]
              · rw [putK_none hn, put_none q]
                simp only [List.map_append, List.map_cons, List.map_nil]
                exact (h3.snoc hd2).mono (r2.setExt ha2 h1)
        · exact p2.elim
      · exact p2.elim
    · exact p.elim)⟩
end
end Sm

/-! S26: len of own objects, dict(list of pairs), min and max of a list of ints -/
namespace Sm
open PySem L2 PySem.W
section
variable {prog : Program} {w : World} {A : Around} {E : Value → Shared → Prop} {s : Shared} {K : Frag} {x C f : Addr} {ox : Obj} {od : Option Obj}
theorem len_own {Q : Value → Shared → Prop} (X : K.In s.heap) (I : InstAt s.heap x ox C od) (hs : findIn K (.ref C) "__len__" = some (some (.ref f))) (hf : isFn K (.ref f) = true)
    (h : wpAny (model prog w) A.in1 (call (.ref f) [.ref x]) (fun v s' => ∃ n t, v = .int n t ∧ 0 ≤ n ∧ n < 2 ^ 62 ∧ ∀ t' k, Q (.int n t') { s' with toks := k }) E s) :
    wpAny (model prog w) A (call (.builtin "len") [.ref x]) Q E s := by
  refine Calls.call_function_entry kind_len plain_len entry_len (args_len1 _) ?_
  unfold Builtin.«len»
  refine wpAny_bind (m := oneArg "len" _) (wpAny_pure (wpAny_bind (m := callSpecial? (.ref x) (Str.ofString "__len__")) ?_))
  refine special_fn X I hs (beq_iff_eq.mp hf) (wpAny_mono h (fun r s' hr => ?_) fun _ _ y => y)
  obtain ⟨n, t, rfl, h0, h1, hq⟩ := hr
  refine wpAny_bind (wpAny_holding (wpAny_pure (wpAny_bind (wpAny_letGo ?_))))
  have a1 : ¬ n < 0 := by omega
  have a2 : ¬ n ≥ 2 ^ 63 := by omega
  simp only [a1, a2, if_false]
  exact wpAny_bind (wpAny_mkInt (wpAny_pure ⟨_, rfl, hq _ _⟩))
end
structure LenO (K : PySem.W.Frag) (C f : Addr) : Prop where
  at_ : PySem.W.findIn K (.ref C) "__len__" = some (some (.ref f))
  fn : PySem.W.isFn K (.ref f) = true
def eLenO (tab : MTab) (o : EM) : EM := fun lo => bnd (o lo) fun x s => match x with
  | .ref j => match s[j]? with
    | some (.ins c fs) => match tab c with
      | some mf => match mf [.ref j] s with
        | .ok (.int n) s' => if 0 ≤ n ∧ n < 2 ^ 62 then .ok (.int n) s' else .fail
        | .exc e s' => .exc e s'
        | _ => .fail
      | none => .fail
    | _ => .fail
  | _ => .fail
def LenOk (X : Cx) (T : Tb) (k : Nat) (tab : MTab) : Prop := ∀ c mf, tab c = some mf → ∀ C, T.cl[c]? = some C → ∃ (f : Addr) (fd : FuncData) (ps : List Str), LenO T.K C f ∧ FnG X.prog X.w X.K X.mg X.base k f fd ps (SpM T 1 mf) ∧ Binds X.K fd ps []
section
variable {X : Cx} {T : Tb} {W : WX} {k : Nat} {p pos : Pos} {o : Expr} {mo : EM}
theorem ce_lenO {tab : MTab} (ok : LenOk X T k tab) (hr : Room (k + 1) X.A) (hgd : X.A.guards = some []) (tk : Takes X W) (hg : Gl X "len") (hm : X.mg "len" = none) (ho : PE X o (tE T W mo))
    (he : starEach [o] X.env = (false, eval o X.env) :: starEach [] X.env := by rfl) (hpl : (backTo pos (starEach [] X.env)).any (·.1) = false := by rfl) (hK : X.K = T.K := by rfl) :
    PE X (.Call (.Name "len" p) [o] [] pos) (tE T W (eLenO tab mo)) := by
  have key : ∀ (pins : List (Addr × Obj)) (s : Shared) (σ : L2.St) (H : Hp) (xs : List V) (us : List Value) (Q : VK), Inv X pins σ H s → Vals xs us →
      (∃ (ρ : List Addr) (st : Sto) (x : Vl) (z : V), xs = [z] ∧ Rel T ρ H st ∧ RV T ρ H x z ∧ Po (RV T) T (fun c d H' => W c d σ H') ρ H ((match x with
        | .ref j => match st[j]? with
          | some (.ins c fs) => match tab c with
            | some mf => match mf [.ref j] st with
              | .ok (.int n) s' => if 0 ≤ n ∧ n < 2 ^ 62 then .ok (.int n) s' else .fail
              | .exc e s' => .exc e s'
              | _ => .fail
            | none => .fail
          | _ => .fail
        | _ => .fail : Res Vl)) Q) → wpAny (model X.prog X.w) X.A (call (.builtin "len") us) (EP X pins σ Q) X.xe s := by
    rintro pins s σ H xs us Q I rs ⟨ρ, st, x, z, rfl, r, hx, p⟩
    obtain ⟨u, rfl, ru⟩ := vals1 rs
    cases x <;> try exact p.elim
    rename_i j
    obtain ⟨a, rfl, ha⟩ := hx.refE
    obtain rfl : u = Value.ref a := ru
    simp only at p
    split at p
    · rename_i c fs hj
      split at p
      · rename_i mf hmf
        obtain ⟨C, dx, vs, h1, h2, h3, h4⟩ := r.ins hj ha
        obtain ⟨f, fd, ps, lo, F, hb⟩ := ok c mf hmf C h1
        obtain ⟨ox, od, J, hd⟩ := StX.insC_at (C := C) I (.inr ⟨dx, vs, h2⟩)
        rw [← hK] at lo
        have sp : SpM T 1 mf [V.ref a] H (fun v H' => ∃ n, v = .int n ∧ 0 ≤ n ∧ n < 2 ^ 62 ∧ Q (.int n) H') fun c d H' => W c d σ H' := by
          refine spM_of r (.cons hx .nil) rfl ?_
          cases e : mf [.ref j] st with
          | fail => rw [e] at p; exact p.elim
          | exc x s' => rw [e] at p; exact p
          | ok v s' =>
            rw [e] at p
            cases v <;> try exact p.elim
            rename_i n
            simp only at p
            split at p
            · rename_i hn
              intro ρ' H' z ext r' hz
              exact ⟨n, hz.intE, hn.1, hn.2, p ρ' H' _ ext r' (.int n)⟩
            · exact p.elim
        refine len_own I.kIn J lo.at_ lo.fn (wpAny_call (codeAny_mono (F.run X.A.in1 X.stack s H ⟨[.ref a], []⟩ [.ref a] [.ref a] _ _ hr.in1 hgd I.env0.in1 (hb s [.ref a] I.kIn (F.len _ _ _ _ sp)) (.cons rfl .nil) sp) fun z s' hq => ?_))
        cases z with
        | error y => exact tk y s' (XE.of_call I (fun _ _ _ q => q) hq)
        | ok fl =>
          cases fl with
          | ret u =>
            obtain ⟨v, H', I3, rv, n, rfl, h0, h1', q⟩ := I.after hq
            obtain ⟨t, rfl⟩ := rv
            exact ⟨n, t, rfl, h0, h1', fun t' k' => ⟨.int n, H', I3.tok k', ⟨t', rfl⟩, q⟩⟩
          | next => exact hq.elim
          | brk => exact hq.elim
          | cont => exact hq.elim
      · exact p.elim
    · exact p.elim
  have ha : PA X [o] (tA T W (aCons mo aNil)) := ca_cons ho ca_nil he
  refine ⟨fun pins s σ H Q I h => wpAny_Call_Name_kw (ld_blt (u := .builtin "len") I hg hm (by decide +kernel) ?_ (by decide) (by decide))⟩
  refine PyProof.Rows.callWith_builtin1 (thn (ha.run pos pins s σ H (fun vs H1 => ∃ (ρ : List Addr) (st : Sto) (x : Vl) (z : V), vs = [z] ∧ Rel T ρ H1 st ∧ RV T ρ H1 x z ∧ Po (RV T) T (fun c d H' => W c d σ H') ρ H1 ((match x with
        | .ref j => match st[j]? with
          | some (.ins c fs) => match tab c with
            | some mf => match mf [.ref j] st with
              | .ok (.int n) s' => if 0 ≤ n ∧ n < 2 ^ 62 then .ok (.int n) s' else .fail
              | .exc e s' => .exc e s'
              | _ => .fail
            | none => .fail
          | _ => .fail
        | _ => .fail : Res Vl)) Q) I ?_) fun us s1 ⟨vs, H1, I1, r1, q1⟩ => key pins s1 σ H1 vs us Q I1 r1 q1) he hpl
  obtain ⟨ρ, st, lo, r, rl, q⟩ := h
  refine ⟨ρ, st, lo, r, rl, ?_⟩
  have q : Po (RV T) T _ ρ H (bnd (mo lo) _ st) Q := q
  unfold aCons bnd
  unfold bnd at q
  cases e : mo lo st with
  | fail => rw [e] at q; exact q
  | exc x s' => rw [e] at q; exact q
  | ok v s' =>
    rw [e] at q
    intro ρ' H' zs ext r' hzs
    obtain ⟨z, rfl, hz⟩ := hzs.one
    exact ⟨ρ', s', v, z, rfl, r', hz, q.mono ext⟩
end
/-! ### dict(list of pairs), min, max -/
def asPr : Vl → Option (Key × Vl)
  | .tup [k, v] => match keyOf k with
    | some key => some (key, v)
    | none => none
  | _ => none
def oDictP : OC
  | [x], s => match lstOf x s with
    | some xs => match mapO asPr xs with
      | some kvs => some (.ref s.length, s ++ [.dic (mergeP [] kvs)])
      | none => none
    | none => none
  | _, _ => none
section
variable {X : Cx} {T : Tb}
theorem asPr_ok {ρ : List Addr} {H : Hp} : ∀ {xs : List Vl} {vs : List V} {kvs : List (Key × Vl)}, RVs T ρ H xs vs → mapO asPr xs = some kvs → ∃ (ps : List Addr) (ms : List (Key × V)), vs = ps.map V.ref ∧ Paired (fun p kv => SqT T.K H p [kV kv.1, kv.2]) ps ms ∧ ms.map (·.1) = kvs.map (·.1) ∧ RVs T ρ H (kvs.map (·.2)) (ms.map (·.2))
  | _, _, _, .nil, h => by
    cases h
    exact ⟨[], [], rfl, .nil, rfl, .nil⟩
  | _, _, kvs, .cons (x := x) (v := v) (xs := xs) (vs := vs) h1 h2, h => by
    unfold mapO at h
    cases e : asPr x with
    | none => simp only [e] at h; cases h
    | some kv =>
      simp only [e] at h
      cases e2 : mapO asPr xs with
      | none => simp only [e2] at h; cases h
      | some ks =>
        simp only [e2] at h
        cases h
        obtain ⟨ps, ms, rfl, q1, q2, q3⟩ := asPr_ok h2 e2
        unfold asPr at e
        split at e
        · rename_i a b
          split at e
          · rename_i key hk
            cases e
            obtain ⟨p, us, rfl, s1, s2⟩ := h1.tupE
            obtain ⟨u1, u2, rfl, r1, r2⟩ := s2.two
            have ek := keyOf_ok r1 hk
            subst ek
            exact ⟨p :: ps, (key, u2) :: ms, rfl, .cons s1 q1, by simp [q2], .cons r2 q3⟩
          · cases e
        · cases e
theorem c_dictP (hc : X.calm = true := by rfl) (hK : X.K = T.K := by rfl) : CallR X (.type "dict") (rC T oDictP) := CallR.imp (call_dictP hc) fun xs H Q q => by
  obtain ⟨ρ, st, as, w, s', r, ha, e, k⟩ := q
  unfold oDictP at e
  split at e
  · split at e
    · rename_i ys hx
      split at e
      · rename_i kvs hz
        cases e
        obtain ⟨z, rfl, hz'⟩ := ha.one
        obtain ⟨p, vs, rfl, h1, h2⟩ := lstOf_ok r hz' hx
        obtain ⟨ps, ms, rfl, q1, q2, q3⟩ := asPr_ok h2 hz
        refine ⟨p, ps, ms, rfl, SqL.of h1, by rw [hK]; exact q1, fun q hq => ?_⟩
        obtain ⟨m1, m2⟩ := merge_ok (kvs := []) (vs := []) q2 q3 (by simp) rfl .nil
        exact k.new r hq ⟨_, upd_same, m1, m2.mono (r.newExt hq)⟩
      · cases e
    · cases e
  · cases e
end
end Sm

/-! S27: enumerate(tuple); min and max of a list of ints -/
namespace Sm
open PySem L2 PyProof.Rows
open AutoSeq1 (wpAny_loadPart')
section
variable {prog : Program} {w : World} {A : Around} {E : Value → Shared → Prop} {s : Shared}
theorem meets_enumT (l : Addr) (its : Array Value) (n : Nat) (dct : Option Addr) (sl : Array (Option Value)) :
    Meets (Builtin.«enumerate.__new__» ⟨[.type "enumerate", .ref l], []⟩) (fun _ R s => s.heap.get? l = some { cls := .type "tuple", dict := dct, data := .seq its n, slots := sl } ∧
      R (.ok (.ret (.ref (s.heap.push { cls := .type "tuple_iterator", data := .fields #[.ref l, .int 0 0] }).objs.size)))
        { s with heap := (s.heap.push { cls := .type "tuple_iterator", data := .fields #[.ref l, .int 0 0] }).push { cls := .type "enumerate", data := .fields #[.none, .bool false, .ref s.heap.objs.size, rawInt 0, .none, .none] } }) :=
  .of_wp fun prog w A R s h => by
    obtain ⟨hp, g, d, tk, os⟩ := s
    obtain ⟨hl, hR⟩ := h
    have hsub := sub_enumerate
    have hT : Heap.IsTuple (Shared.heap ⟨hp, g, d, tk, os⟩) l its := ⟨_, hl, rfl, n, rfl⟩
    wp_walk using wpAny_loadPart' hl
    refine wpAny_stack_any fun st => wpAny_pure ?_
    split
    · rename_i c _ _ _ _ _
      cases (c == Value.type "enumerate") <;> (wp_walk using wpAny_loadPart' hl, wpAny_pyIter_tuple hT; exact ⟨_, rfl, hR⟩)
    · wp_walk using wpAny_loadPart' hl, wpAny_pyIter_tuple hT
      exact ⟨_, rfl, hR⟩
theorem call_enumT {l : Addr} {its : Array Value} {Q : Value → Shared → Prop} (hL : s.heap.IsTuple l its)
    (h : ∀ h', IsEnum h' (s.heap.objs.size + 1) s.heap.objs.size 0 .none → h'.IsTupleIter s.heap.objs.size l 0 → (∀ b o, s.heap.get? b = some o → h'.get? b = some o) → Q (.ref (s.heap.objs.size + 1)) { s with heap := h' }) :
    wpAny (model prog w) A (call (.type "enumerate") [.ref l]) Q E s := by
  obtain ⟨⟨c, dct, dt, sl⟩, hl, hc, n, hd⟩ := hL
  replace hc : c = .type "tuple" := hc
  replace hd : dt = .seq its n := hd
  subst hc hd
  refine callType_new F.called_enumerate (by decide) (F.typeCall_enumerate_1 _) (F.newCall_enumerate_1 _) (fun obj => F.args_object_init_2 obj _) F.entry_enumerate_new (meets_enumT l its n dct sl) ⟨hl, ?_⟩
  have hz : (s.heap.push { cls := .type "tuple_iterator", data := .fields #[.ref l, .int 0 0] }).objs.size = s.heap.objs.size + 1 := Heap.size_push ..
  show _ ∧ _
  rw [hz]
  have he : IsEnum ((s.heap.push { cls := .type "tuple_iterator", data := .fields #[.ref l, .int 0 0] }).push { cls := .type "enumerate", data := .fields #[.none, .bool false, .ref s.heap.objs.size, rawInt 0, .none, .none] }) (s.heap.objs.size + 1) s.heap.objs.size 0 .none := by
    have q := Heap.get?_push_size (s.heap.push { cls := .type "tuple_iterator", data := .fields #[.ref l, .int 0 0] }) (o := { cls := .type "enumerate", data := .fields #[.none, .bool false, .ref s.heap.objs.size, rawInt 0, .none, .none] }) rfl
    rw [hz] at q
    exact q
  exact ⟨⟨_, he, rfl⟩, h _ he ⟨_, Heap.get?_push_of_some _ (Heap.get?_push_size _ rfl), rfl, rfl⟩ fun b o x => Heap.get?_push_of_some _ (Heap.get?_push_of_some _ x)⟩
end
def IteT (K : PySem.W.Frag) (a : Addr) (n : Nat) : It where
  go := fun i H => ∃ (xs : List V) (x : V), SqT K H a xs ∧ xs[i]? = some x ∧ xs.length = n
  yld := fun i H v H' => ∃ T x, v = .ref T ∧ H T = none ∧ H' = upd H T (.tup [.int (i : Nat), x]) ∧ ∀ xs, SqT K H a xs → xs[i]? = some x
  stop := fun i H => ∃ xs : List V, SqT K H a xs ∧ xs.length = n ∧ n ≤ i
theorem IsTup.tuple {h : Heap} {a : Addr} {its : Array Value} (x : IsTup h a its) : h.IsTuple a its := x
theorem turn_enumT {P : Program} {w : World} {K : PySem.W.Frag} {elts : List Expr} {kk : Nat} {tpos : Pos} (a e it : Addr) (n : Nat) :
    Turn P w K (.Tuple elts kk tpos) (IteT K a n) [e, it] e (fun i h => (∃ old, IsEnum h e it ((i : Nat) : Int) old) ∧ h.IsTupleIter it a i ∧ e ≠ it ∧ i ≤ n) where
  mem := List.mem_cons_self ..
  obj := fun i h st b hb => by
    obtain ⟨⟨old, he⟩, ⟨o, ho, hc, hd⟩, _⟩ := st
    rcases List.mem_cons.mp hb with rfl | hb
    · exact ⟨_, he, fun v q => nomatch q⟩
    · obtain rfl : b = it := by simpa using hb
      exact ⟨o, ho, fun v q => by rw [hd] at q; cases q⟩
  keep := fun i h h' st k => by
    obtain ⟨⟨old, he⟩, hi, hne, hn⟩ := st
    exact ⟨⟨old, k e (List.mem_cons_self ..) _ he⟩, hi.at fun o q => k it (List.mem_cons_of_mem _ (List.mem_cons_self ..)) o q, hne, hn⟩
  item := by
    intro X hP hw hK hc i pins s σ H E I hf st hg
    subst hP hw hK
    obtain ⟨⟨old, he⟩, hit, hne, hn⟩ := st
    obtain ⟨xs, x, hq, hx, hxn⟩ := hg
    obtain ⟨its, rv, p, hz⟩ := I.tuple hq
    obtain ⟨u, hu, ru⟩ := rv.get hx
    have lte : e < s.heap.objs.size := Heap.lt_size he
    have lti : it < s.heap.objs.size := by obtain ⟨_, q, _⟩ := hit; exact Heap.lt_size q
    have hai : a ≠ it := by
      rintro rfl
      obtain ⟨o1, q1, c1, _⟩ := hit
      obtain ⟨o2, q2, c2, _⟩ := p
      rw [q1] at q2; cases q2; rw [c1] at c2; exact absurd c2 (by decide)
    have hae : e ≠ a := by
      rintro rfl
      obtain ⟨o2, q2, c2, _⟩ := p
      have q1 : s.heap.get? e = some _ := he
      rw [q1] at q2; cases q2; exact absurd (show Value.type "enumerate" = Value.type "tuple" from c2) (by decide)
    have iu : its.toArray[i]? = some u := by simpa using hu
    have ilt : i < its.toArray.size := (Array.getElem?_eq_some_iff.mp iu).1
    refine wpAny_pyNext_enum_itemD (Draws.tuple (A := X.A.in1) (I.ok.hd hc) it a hai its.toArray) he ⟨hit, p⟩ ilt hne (by simp [hne, hae]) fun y h' tk hy ho st' hT hsz hk => ?_
    have hy : its.toArray[i]? = some y := hy
    obtain rfl : u = y := Option.some.inj (iu.symm.trans hy)
    refine ⟨_, rfl, wpAny_letOwnedTupleGo_enum (s := { s with heap := h', toks := tk + 1 }) ho fun h2 he2 sb => ?_⟩
    have hT2 : h2.get? s.heap.objs.size = some { cls := .type "tuple", data := .seq #[.int i tk, u] } := (sb.2 _ (Nat.ne_of_gt lte)).trans hT
    have new : ObjOk X.prog X.w (upd H s.heap.objs.size (.tup [.int (i : Nat), x])) h2 s.heap.objs.size (.tup [.int (i : Nat), x]) :=
      ⟨Nat.le_trans (show 2 ≤ 16 by decide) (by rw [sizeLine_eq]; decide), [.int i tk, u], .cons ⟨_, rfl⟩ (.cons ru .nil), ⟨_, hT2, rfl, _, rfl⟩⟩
    have kp : ∀ b ob, b ∉ [e, it] → s.heap.get? b = some ob → h2.get? b = some ob := fun b ob hb q => by
      simp only [List.mem_cons, List.not_mem_nil, or_false, not_or] at hb
      exact (sb.2 b hb.1).trans (hk b ob hb.1 hb.2 q)
    have I1 := I.turnedNew (ch := [e, it]) (t' := tk + 1) kp hf (Nat.le_refl _) new
    have e1 : ((i + 1 : Nat) : Int) = (i : Int) + 1 := by omega
    refine ⟨.ref s.heap.objs.size, _, I1, rfl, ⟨_, x, rfl, I.hok.fresh (Nat.le_refl _), rfl, fun ys hy => by rw [I.tuple_inj hy hq]; exact hx⟩, ⟨⟨u, by rw [e1]; exact he2⟩, st'.1.at fun o q => (sb.2 it (Ne.symm hne)).trans q, hne, by have := (List.getElem?_eq_some_iff.mp hx).1; omega⟩, fun b hb => ?_⟩
    have hb' : b < s.heap.objs.size := by
      simp only [List.mem_cons, List.not_mem_nil, or_false] at hb
      rcases hb with rfl | rfl
      · exact lte
      · exact lti
    rw [upd_ne (Nat.ne_of_lt hb')]
    exact (hf b hb).1
  done := by
    intro X hP hw hK hc i pins s σ H E I hf st hg
    subst hP hw hK
    obtain ⟨⟨old, he⟩, hit, hne, hn⟩ := st
    obtain ⟨xs, hq, hxn, hx⟩ := hg
    obtain ⟨its, rv, p, hz⟩ := I.tuple hq
    have hai : a ≠ it := by
      rintro rfl
      obtain ⟨o1, q1, c1, _⟩ := hit
      obtain ⟨o2, q2, c2, _⟩ := p
      rw [q1] at q2; cases q2; rw [c1] at c2; exact absurd c2 (by decide)
    obtain ⟨f0, f1, f2, f3, f4, f5⟩ := hf it (List.mem_cons_of_mem _ (List.mem_cons_self ..))
    have hl := rv.length
    have ei : i = its.toArray.size := by simp; omega
    refine wpAny_pyNext_enum_endD (Draws.tuple (A := X.A.in1) (I.ok.hd hc) it a hai its.toArray) he ⟨ei ▸ hit, p⟩ fun h' eb => ⟨rfl, ?_⟩
    exact I.turned (t' := s.toks) (fun b o hb q => eb b o hb q) f0 f1 f3 f4 f5
  self := fun A i s Q E st h => by
    obtain ⟨⟨_, he⟩, _⟩ := st
    exact wpAny_pyIter_enum he h
def iEnumT (K : PySem.W.Frag) (ta : TA) : TI := fun σ H R => ta σ H fun vs H1 => ∃ a xs, vs = [.ref a] ∧ SqT K H1 a xs ∧ R (IteT K a xs.length) H1
theorem pi_enumT {X : Cx} {e : Expr} {ta : TA} {p pos tpos : Pos} {elts : List Expr} {kk : Nat} (hg : Gl X "enumerate") (hm : X.mg "enumerate" = none) (ha : PA X [e] ta) (hs : starEach [e] X.env = [(false, eval e X.env)] := by rfl) :
    PI X (.Tuple elts kk tpos) (.Call (.Name "enumerate" p) [e] [] pos) (iEnumT X.K ta) := by
  refine ⟨fun pins s σ H R I h => Call_ (ld_blt I hg hm boot_enumerate (PyProof.Rows.callWith_type1 (thn (ha.run pos pins s σ H _ I h) fun us s1 ⟨vs, H1, I1, r1, q1⟩ => ?_) hs rfl))⟩
  obtain ⟨a, xs, rfl, hq, q⟩ := q1
  cases r1 with
  | cons r rr =>
    cases rr
    cases r
    obtain ⟨its, rv, p', hz⟩ := I1.tuple hq
    refine call_enumT p' fun h' he hit hk => wpAny_pyIter_enum he ?_
    have I2 : Inv X pins σ H1 { s1 with heap := h' } := I1.kept (t' := s1.toks) hk
    refine ⟨s1.heap.objs.size + 1, _, _, _, H1, rfl, I2, turn_enumT a (s1.heap.objs.size + 1) s1.heap.objs.size xs.length, ⟨⟨.none, he⟩, hit, Nat.succ_ne_self _, Nat.zero_le _⟩, fun b hb => ?_, q⟩
    have hle : s1.heap.objs.size ≤ b := by
      simp only [List.mem_cons, List.not_mem_nil, or_false] at hb
      rcases hb with rfl | rfl
      · exact Nat.le_succ _
      · exact Nat.le_refl _
    exact I1.fpOk hle (I1.hok.fresh hle)
/-! ### its reading -/
def enmL (xs : List Vl) : List Vl := xs.zipIdx.map fun p => .tup [.int (p.2 : Nat), p.1]
theorem enmL_get {xs : List Vl} {i : Nat} : (enmL xs)[i]? = (xs[i]?).map fun v => .tup [.int (i : Nat), v] := by
  unfold enmL
  rw [List.getElem?_map, List.getElem?_zipIdx]
  cases xs[i]? <;> simp
def aEnm (e : AM) : AM := fun lo => bnd (e lo) fun as => match as with
  | [.tup xs] => ret (enmL xs)
  | _ => failM
section
variable {X : Cx} {T : Tb} {W : WX} {p pos : Pos}
theorem ci_enmT {e : Expr} {ma : AM} {elts : List Expr} {kk : Nat} {tpos : Pos} (hg : Gl X "enumerate") (hm : X.mg "enumerate" = none) (ha : PA X [e] (tA T W ma)) (hs : starEach [e] X.env = [(false, eval e X.env)] := by rfl) (hK : X.K = T.K := by rfl) :
    PI X (.Tuple elts kk tpos) (.Call (.Name "enumerate" p) [e] [] pos) (tI T W (iFix (aEnm ma))) := pi_mono (pi_enumT hg hm ha hs) fun σ H R h => by
  obtain ⟨ρ, s, lo, r, rl, q⟩ := h
  refine po_bnd (R := RVs T) (m := ma) (f := fun as => bnd (match as with | [.tup xs] => ret (enmL xs) | _ => failM) fun xs => ret (nxFix xs)) (R' := fun ρ H nx J => ItOk T J nx ρ H) (Q := R) r rl ?_ fun ρ1 s1 as zs H1 ext1 r1 rl1 hx p1 => ?_
  · unfold iFix aEnm at q
    unfold bnd at q ⊢
    cases e : ma lo s <;> rw [e] at q <;> exact q
  · split at p1
    · rename_i xs
      obtain ⟨z, rfl, hz⟩ := hx.one
      obtain ⟨a, vs, rfl, h1, h2⟩ := hz.tupE
      rw [← hK] at h1
      refine ⟨a, vs, rfl, h1, p1 ρ1 H1 _ .refl r1 ?_⟩
      intro ρ2 H2 s2 i e2 r2
      have h1' := e2.tup _ _ (hK ▸ h1)
      have h2' := h2.mono e2
      rw [← hK] at h1'
      simp only [nxFix, enmL_get]
      cases e : xs[i]? with
      | none =>
        have : xs.length ≤ i := List.getElem?_eq_none_iff.mp e
        exact ⟨vs, h1', rfl, by rw [← h2'.length]; exact this⟩
      | some v =>
        obtain ⟨u, hu, ru⟩ := h2'.get e
        refine ⟨⟨vs, u, h1', hu, rfl⟩, fun x H3 y => ?_⟩
        obtain ⟨t, w, rfl, ht, rfl, y⟩ := y
        have := y vs h1'
        rw [hu] at this
        cases this
        exact ⟨ext_upd ht, r2.laid ht, .tup (SqT.of upd_same) (.cons (.int _) (.cons (ru.mono (ext_upd ht)) .nil))⟩
    · exact p1.elim
end
/-! ### min, max of a list of ints -/
def maxL : List Int → Int
  | [] => 0
  | [x] => x
  | x :: xs => max x (maxL xs)
def minL : List Int → Int
  | [] => 0
  | [x] => x
  | x :: xs => min x (minL xs)
theorem maxL_ok : ∀ {xs : List Int}, 0 < xs.length → maxL xs ∈ xs ∧ ∀ y ∈ xs, y ≤ maxL xs
  | [x], _ => by simp [maxL]
  | x :: y :: xs, _ => by
    have ih := maxL_ok (xs := y :: xs) (by simp)
    have e : maxL (x :: y :: xs) = max x (maxL (y :: xs)) := rfl
    rw [e]
    refine ⟨?_, fun z hz => ?_⟩
    · rcases Int.le_total x (maxL (y :: xs)) with q | q
      · rw [Int.max_eq_right q]; exact List.mem_cons_of_mem _ ih.1
      · rw [Int.max_eq_left q]; exact List.mem_cons_self ..
    · rcases List.mem_cons.mp hz with rfl | hz
      · omega
      · have := ih.2 z hz; omega
theorem minL_ok : ∀ {xs : List Int}, 0 < xs.length → minL xs ∈ xs ∧ ∀ y ∈ xs, minL xs ≤ y
  | [x], _ => by simp [minL]
  | x :: y :: xs, _ => by
    have ih := minL_ok (xs := y :: xs) (by simp)
    have e : minL (x :: y :: xs) = min x (minL (y :: xs)) := rfl
    rw [e]
    refine ⟨?_, fun z hz => ?_⟩
    · rcases Int.le_total x (minL (y :: xs)) with q | q
      · rw [Int.min_eq_left q]; exact List.mem_cons_self ..
      · rw [Int.min_eq_right q]; exact List.mem_cons_of_mem _ ih.1
    · rcases List.mem_cons.mp hz with rfl | hz
      · omega
      · have := ih.2 z hz; omega
def oMaxL : OC
  | [x], s => match lstOf x s with
    | some xs => match mapO asInt xs with
      | some ns => if 0 < ns.length then some (.int (maxL ns), s) else none
      | none => none
    | none => none
  | _, _ => none
def oMinL : OC
  | [x], s => match lstOf x s with
    | some xs => match mapO asInt xs with
      | some ns => if 0 < ns.length then some (.int (minL ns), s) else none
      | none => none
    | none => none
  | _, _ => none
section
variable {X : Cx} {T : Tb}
theorem c_maxL (hc : X.calm = true := by rfl) : CallR X (.builtin "max") (rC T oMaxL) := CallR.imp (cr_max hc) fun xs H Q q => by
  obtain ⟨ρ, st, as, w, s', r, ha, e, k⟩ := q
  unfold oMaxL at e
  split at e
  · split at e
    · rename_i ys hx
      split at e
      · rename_i ns hz
        split at e
        · rename_i hl
          cases e
          obtain ⟨z, rfl, hz'⟩ := ha.one
          obtain ⟨p, vs, rfl, h1, h2⟩ := lstOf_ok r hz' hx
          have ev := asInts_ok h2 hz
          subst ev
          refine ⟨p, ns, rfl, SqL.of h1, hl, fun m hm hy => ?_⟩
          obtain ⟨m1, m2⟩ := maxL_ok hl
          have : m = maxL ns := Int.le_antisymm (m2 m hm) (hy _ m1)
          rw [this]
          exact k.here r (.int _)
        · cases e
      · cases e
    · cases e
  · cases e
theorem c_minL (hc : X.calm = true := by rfl) : CallR X (.builtin "min") (rC T oMinL) := CallR.imp (cr_min hc) fun xs H Q q => by
  obtain ⟨ρ, st, as, w, s', r, ha, e, k⟩ := q
  unfold oMinL at e
  split at e
  · split at e
    · rename_i ys hx
      split at e
      · rename_i ns hz
        split at e
        · rename_i hl
          cases e
          obtain ⟨z, rfl, hz'⟩ := ha.one
          obtain ⟨p, vs, rfl, h1, h2⟩ := lstOf_ok r hz' hx
          have ev := asInts_ok h2 hz
          subst ev
          refine ⟨p, ns, rfl, SqL.of h1, hl, fun m hm hy => ?_⟩
          obtain ⟨m1, m2⟩ := minL_ok hl
          have : m = minL ns := Int.le_antisymm (hy _ m1) (m2 m hm)
          rw [this]
          exact k.here r (.int _)
        · cases e
      · cases e
    · cases e
  · cases e
end
end Sm

/-! S28: defs with defaults -/
namespace Sm
open PySem PySem.Spec PyProof.Rows L2
/-- a def with defaults by its body -/
theorem fnG_ofD {P : Program} {w : World} {K : PySem.W.Frag} {mg : Str → Option Value} {base : Heap} {k : Nat} {x qual : Str} {st : Stmt} {f : Addr} {fd : FuncData} {N ps : List Str} {sp : Sp} {dvs : List V} {kws : List (Str × V)} (F : FunD K x qual (defArgs st) (defBody st) (defScope st) dvs kws f fd) (S : FnScope N ps (defScope st)) (len : ∀ vs H Q E, sp vs H Q E → vs.length = ps.length)
    (hbody : ∀ (cdv : Value) (A : Around) (outer : List Env) (s : Shared) (H : Hp) (vs : List V) (Q : VK) (E : XK), Room k (A.deeper (envOfC qual (defScope st) s.heap.objs.size f cdv)) → A.guards = some [] → sp vs H Q E →
      ∃ t, PSs (cxOf (L2.CX P w) P w K mg base N qual (defScope st) f cdv A outer s H E) (defBody st) t ∧ t { nx := fun _ H' => Q .non H', rt := Q } (L2.start N vs) H) : FnG P w K mg base (k + 1) f fd ps sp := by
  obtain ⟨oc, od, dV, kV, doc, pm, an, cdv, ct, osl, rfl, lk, hcd, _, _⟩ := F.ex
  refine ⟨len, fun A outer s H args us vs Q E hr hg e0 hb r hsp => ?_⟩
  have inK : K.In s.heap := e0.mod.kin.keeps fun b o e => (e0.bs b o e).1
  have nl : s.heap.NoLimit := e0.mod.nolimit.keeps fun b o e => (e0.bs b o e).1
  have kinds : ∀ y ∈ ps.zip us, (defScope st).names.lookup y.1 = some .local ∨ ((defScope st).names.lookup y.1 = some .cell ∧ ((cellsFrom (s.heap.objs.size + 1) (defScope st).names []).lookup y.1).isSome = true) := by
    rintro ⟨n, v⟩ hy
    exact (S.par n (List.of_mem_zip hy).1).imp id fun q => ⟨q, PySem.W.cellsFrom_some _ _ _ (.inl q)⟩
  refine codeAny_call_function hr.depth (inK _ _ lk) rfl S.co S.gen rfl (PySem.W.codeRec_of inK hcd) (hb _ _ _ _ (wpAny_newFunctionEnv_cells S.kind kinds fun env he s1 y => ?_))
  subst he
  refine ⟨nl.keeps y.toInCall.keep, codeAny_func ?_⟩
  obtain ⟨t, ht, hq⟩ := hbody cdv A outer s H vs Q E (hr.deeper _) hg hsp
  refine wpAny_mono (ht.run [] s1 (L2.start N vs) H _ (inv_start S hr.hd e0 (len _ _ _ _ hsp) r y) hq) (fun fl s' hs => ?_) fun e s' hs => hs
  cases fl with
  | ret u => obtain ⟨v, σ', H', J, rv, q⟩ := hs; exact ⟨v, H', J.os, J.bare, J.base, J.hok, rv, q⟩
  | next => obtain ⟨σ', H', J, q⟩ := hs; exact ⟨V.non, H', J.os, J.bare, J.base, J.hok, rfl, q⟩
  | brk => obtain ⟨_, _, _, q⟩ := hs; exact q.elim
  | cont => obtain ⟨_, _, _, q⟩ := hs; exact q.elim
theorem fn_simD {P : Program} {w : World} {K : PySem.W.Frag} {mg : Str → Option Value} {base : Heap} {k n : Nat} {x qual : Str} {st : Stmt} {f : Addr} {fd : FuncData} {N ps : List Str} {T : Tb} {b : SM} {dvs : List V} {kws : List (Str × V)} (F : FunD K x qual (defArgs st) (defBody st) (defScope st) dvs kws f fd) (S : FnScope N ps (defScope st)) (hn : n = ps.length)
    (body : ∀ (cdv : Value) (A : Around) (outer : List Env) (s : Shared) (H : Hp) (E : XK), Room k (A.deeper (envOfC qual (defScope st) s.heap.objs.size f cdv)) → A.guards = some [] →
      PSs (cxOf (L2.CX P w) P w K mg base N qual (defScope st) f cdv A outer s H E) (defBody st) (tS T (fun c d _ H' => E c d H') b)) : FnG P w K mg base (k + 1) f fd ps (SpM T n (fnM N.length b)) :=
  fnG_ofD F S (fun vs H Q E ⟨ρ, s, as, r, hv, hl, p⟩ => by rw [← hv.length, hl, hn]) fun cdv A outer s H vs Q E hr hg h => ⟨_, body cdv A outer s H E hr hg, fn_body h⟩
/-- how it binds where the last parameters are not given -/
structure BindD (K : PySem.W.Frag) (fd : FuncData) (ps : List Str) (das : List Vl) : Prop where
  ex : ∃ (ds : List Value) (dvs : List V), Vals dvs ds ∧ Binds K fd ps ds ∧ ∀ (T : Tb) (ρ : List Addr) (H : Hp), T.K = K → RVs T ρ H das dvs
theorem bindD_of {K : PySem.W.Frag} {fd : FuncData} {ps : List Str} {das : List Vl} {dvs : List V} (h : ∃ ds, Vals dvs ds ∧ Binds K fd ps ds) (hv : ∀ (T : Tb) (ρ : List Addr) (H : Hp), T.K = K → RVs T ρ H das dvs) : BindD K fd ps das := by
  obtain ⟨ds, h1, h2⟩ := h
  exact ⟨ds, dvs, h1, h2, hv⟩
def dflM (n : Nat) (das : List Vl) (mf : List Vl → M Vl) : List Vl → M Vl := fun as s => if as.length + das.length = n then mf (as ++ das) s else .fail
theorem fnV_dfl {P : Program} {w : World} {mg : Str → Option Value} {base : Heap} {k n : Nat} {f : Addr} {fd : FuncData} {ps : List Str} {T : Tb} {mf : List Vl → M Vl} {das : List Vl} (F : FnG P w T.K mg base k f fd ps (SpM T n mf)) (hb : BindD T.K fd ps das) : FnV P w T.K mg base k f (SpV T (dflM n das mf)) := by
  intro A outer s H us vs Q E hr hg e0 r ⟨ρ, sto, as, rel, has, p⟩
  unfold dflM at p
  split at p
  · rename_i hl
    obtain ⟨ds, dvs, rd, hb, hv⟩ := hb.ex
    have inK : T.K.In s.heap := e0.mod.kin.keeps fun b o e => (e0.bs b o e).1
    have hv := hv T ρ H rfl
    have sp : SpM T n mf (vs ++ dvs) H Q E := ⟨ρ, sto, as ++ das, rel, has.append hv, by rw [List.length_append]; exact hl, p⟩
    have r2 : Vals (vs ++ dvs) (us ++ ds) := r.append rd
    exact F.run A outer s H ⟨us, []⟩ (us ++ ds) (vs ++ dvs) Q E hr hg e0 (hb s us inK (by rw [← r2.length]; exact F.len _ _ _ _ sp)) r2 sp
  · exact p.elim
section
variable {X : Cx} {T : Tb} {W : WX} {k : Nat} {f : Addr} {mf : List Vl → M Vl} {x : Str} {p pos : Pos} {e : Expr} {es : List Expr} {ma : AM}
theorem run_V {pins : List (Addr × Obj)} {σ : L2.St} {H : Hp} {s : Shared} {Q : VK} {us : List Value} {vs : List V} {sp : Sp} (F : FnV X.prog X.w X.K X.mg X.base k f sp) (hr : Room k X.A) (hg : X.A.guards = some []) (tk : Takes X W)
    (I : Inv X pins σ H s) (r : Vals vs us) (h : sp vs H Q fun c d H' => W c d σ H') : wpAny (model X.prog X.w) X.A (call (.ref f) us) (EP X pins σ Q) X.xe s := by
  refine wpAny_call (codeAny_mono (F X.A X.stack s H us vs Q _ hr hg I.env0 r h) fun z s' hq => ?_)
  cases z with
  | error y => exact tk y s' (XE.of_call I (fun _ _ _ q => q) hq)
  | ok fl =>
    cases fl with
    | ret u => exact I.after hq
    | next => exact hq.elim
    | brk => exact hq.elim
    | cont => exact hq.elim
theorem ce_callV (F : FnV X.prog X.w X.K X.mg X.base k f (SpV T mf)) (hr : Room k X.A) (hgd : X.A.guards = some []) (hg : Gl X x) (hm : X.mg x = some (.ref f)) (hk : PySem.W.keepIn X.K (.ref f) = true) (tk : Takes X W) (ha : PA X (e :: es) (tA T W ma))
    (hdb : (x == ("__debug__" : Str)) = false := by decide) (he : starEach (e :: es) X.env = (false, eval e X.env) :: starEach es X.env := by rfl) (hpl : (backTo pos (starEach es X.env)).any (·.1) = false := by rfl) :
    PE X (.Call (.Name x p) (e :: es) [] pos) (tE T W (eCall mf ma)) := by
  refine ⟨fun pins s σ H Q I h => wpAny_Call_Name_kw (ld_glob I hg hm ?_ hdb)⟩
  have h : tA T W ma σ H fun vs H1 => SpV T mf vs H1 Q fun c d H' => W c d σ H' := tG_bnd (R := RVs T) h fun ρ s lo xs zs H1 r rl hx q => ⟨ρ, s, xs, r, hx, q⟩
  exact PySem.W.callWith_K (h₀ := X.base) I.ok.mod.kin hk (thn (ha.run pos pins s σ H _ I h) fun us s1 ⟨vs, H1, I1, r, q⟩ => ⟨I1.kIn, run_V F hr hgd tk I1 r q⟩) he hpl
end
/-- a written empty tuple -/
theorem empty_rv {T : Tb} {ρ : List Addr} {H : Hp} {a : Addr} {od : Option Addr} {n : Nat} {sl : Array (Option Value)} (h : T.K.lookup a = some ⟨.type "tuple", od, .seq #[] n, sl⟩) : RV T ρ H (.tup []) (.ref a) :=
  .tup (.inr ⟨_, _, _, h, rfl, rfl, Nat.zero_le _, .nil⟩) .nil
end Sm

/-! S31: a list unpacked into targets -/
namespace Sm
open PySem L2
def gUl (gs : List GM) : GM := fun v lo s => match v with
  | .ref j => match s[j]? with
    | some (.lst xs) => match gAll gs xs lo s with
      | some (lo', s') => .ok lo' s'
      | none => .fail
    | _ => .fail
  | _ => .fail
section
variable {X : Cx} {T : Tb} {W : WX} {es : List Expr} {gs : List GM} {pos : Pos} {kk : Nat}
theorem cg_unl (h : PGs X es (tGts T gs)) (hc : X.calm = true := by rfl) (hn : (assignEach es X.env).length = gs.length := by rfl) (hst : (assignEach es X.env).findIdx? (·.1) = none := by rfl) : PG X (.Tuple es kk pos) (tGt T W (gUl gs)) :=
  pg_mono (pg_unl hc h hn hst) fun z σ H Q h => by
    obtain ⟨ρ, s, lo, v, r, rl, hv, p⟩ := h
    unfold gUl at p
    cases v <;> try exact p.elim
    rename_i j
    obtain ⟨a, rfl, ha⟩ := hv.refE
    simp only at p
    split at p
    · rename_i xs hj
      obtain ⟨vs, h1, h2⟩ := r.lst hj ha
      split at p
      · rename_i lo' s' hg
        refine ⟨a, vs, rfl, SqL.of h1, by rw [← h2.length]; exact gAll_len hg, ρ, s, lo, xs, lo', s', r, rl, h2, hg, ?_⟩
        exact fun ρ' H' σ' ext r' rl' => p ρ' H' σ' ext r' rl'
      · exact p.elim
    · exact p.elim
end
end Sm

/-! S34: f-strings, x or y of lists, split() -/
namespace Sm
open PySem L2
/-- {x}: a text or an int -/
def fmtM (x : Vl) : M Vl := fun s => match x with
  | .str y => if y.length ≤ LIM then .ok (.str y) s else .fail
  | .int i => if i.natAbs.log2 < 1920 then .ok (.str (Str.ofString (toString i))) s else .fail
  | _ => .fail
def eFmt (m : EM) : EM := fun lo => bnd (m lo) fmtM
/-- the parts of a text one behind the other -/
def jnd : List EM → Str → EM
  | [], acc => fun _ => ret (.str acc)
  | m :: ms, acc => fun lo => bnd (m lo) fun x s => match x with
    | .str y => if (acc ++ y).length ≤ LIM then jnd ms (acc ++ y) lo s else .fail
    | _ => .fail
def eJnd (ms : List EM) : EM := jnd ms Str.empty
/-- x or y, x a list -/
def eOrL (a b : EM) : EM := fun lo => bnd (a lo) fun x s => match lstOf x s with
  | some xs => if xs.isEmpty = true then b lo s else .ok x s
  | none => .fail
/-- x.split() -/
def oSplit0 : OMt
  | .str a, [], s => if a.length + 2 ≤ LIM then some (.ref s.length, s ++ [.lst ((Txt.words a).map Vl.str)]) else none
  | _, _, _ => none
/-- str(x): texts, ints, tuples -/
def oStrD : OC
  | [.str y], s => some (.str y, s)
  | [.int i], s => if i.natAbs.log2 < 1920 then some (.str (Str.ofString (toString i)), s) else none
  | [.tup xs], s => match toD 40 s (.tup xs) with
    | some d => if d.showable && decide (d.shown.length ≤ LIM) then some (.str d.shown, s) else none
    | none => none
  | _, _ => none
section
variable {X : Cx} {T : Tb} {W : WX} {a b e : Expr} {ma mb m : EM} {pos : Pos} {rest es : List Expr} {ms : List EM}
theorem ce_fmt (h : PE X e (tE T W m)) : PE X (.FormattedValue e (-1) none pos) (tE T W (eFmt m)) :=
  pe_mono (pe_fmt h) fun σ H Q h => tG_bnd h fun ρ s lo x z H1 r rl hx p => by
    unfold fmtM at p
    cases hx with
    | str y =>
      by_cases q : y.length ≤ LIM
      · simp only [if_pos q] at p
        exact .inl ⟨y, rfl, by rw [lim_eq]; exact q, p ρ H1 _ .refl r (.str y)⟩
      · simp only [if_neg q] at p
        exact p.elim
    | int i =>
      by_cases q : i.natAbs.log2 < 1920
      · simp only [if_pos q] at p
        exact .inr ⟨i, rfl, q, p ρ H1 _ .refl r (.str _)⟩
      · simp only [if_neg q] at p
        exact p.elim
    | _ => exact p.elim
theorem cj_nil : PJ X [] (([] : List EM).map (tE T W)) := .nil
theorem cj_cons (h : PE X e (tE T W m)) (r : PJ X es (ms.map (tE T W))) : PJ X (e :: es) ((m :: ms).map (tE T W)) := .cons h r
theorem jnd_le : ∀ (ms : List EM) (acc : Str) (σ : L2.St) (H : Hp) (Q : VK), tE T W (jnd ms acc) σ H Q → tJs (ms.map (tE T W)) acc σ H fun out H1 => Q (.str out) H1
  | [], acc, σ, H, Q, h => by
    obtain ⟨ρ, s, lo, r, rl, p⟩ := h
    exact po_ret (R := RV T) p r (.str acc)
  | m :: ms, acc, σ, H, Q, h => tG_bnd (f := fun lo x s => match x with | .str y => if (acc ++ y).length ≤ LIM then jnd ms (acc ++ y) lo s else .fail | _ => .fail) h fun ρ s lo x z H1 r rl hx p => by
    cases hx with
    | str y =>
      by_cases q : (acc ++ y).length ≤ LIM
      · simp only [if_pos q] at p
        exact ⟨y, rfl, by rw [lim_eq]; exact q, jnd_le ms (acc ++ y) σ H1 Q ⟨ρ, s, lo, r, rl, p⟩⟩
      · simp only [if_neg q] at p
        exact p.elim
    | _ => exact p.elim
theorem ce_jnd {v1 v2 : Expr} (h : PJ X (v1 :: v2 :: rest) (ms.map (tE T W))) : PE X (.JoinedStr (v1 :: v2 :: rest) pos) (tE T W (eJnd ms)) :=
  pe_mono (pe_joined h) fun σ H Q h => jnd_le ms _ σ H Q h
theorem ce_jnd1 (h : PE X e (tE T W m)) : PE X (.JoinedStr [e] pos) (tE T W m) := pe_joined1 h
theorem ce_orL (ha : PE X a (tE T W ma)) (hb : PE X (.BoolOp .Or (b :: rest) pos) (tE T W mb)) (hK : X.K = T.K := by rfl) : PE X (.BoolOp .Or (a :: b :: rest) pos) (tE T W (eOrL ma mb)) :=
  pe_mono (pe_orT ha hb) fun _ _ _ h => tG_bnd (f := fun lo x s => match lstOf x s with | some xs => if xs.isEmpty = true then mb lo s else .ok x s | none => .fail) h fun ρ s lo x z H1 r rl hx p => by
    cases e : lstOf x s with
    | none => rw [e] at p; exact p.elim
    | some xs =>
      rw [e] at p
      obtain ⟨q, vs, rfl, h1, h2⟩ := lstOf_ok r hx e
      refine ⟨!vs.isEmpty, .inl ⟨vs, by rw [hK]; exact SqL.of h1, rfl⟩, ?_⟩
      have hl := h2.length
      cases xs with
      | nil =>
        cases vs with
        | nil => exact ⟨ρ, s, lo, r, rl, p⟩
        | cons => simp at hl
      | cons y ys =>
        cases vs with
        | nil => simp at hl
        | cons u us =>
          exact p ρ H1 _ .refl r hx
theorem m_split0 : MtR X "str.split" (rMt T oSplit0) := MtR.imp mt_words fun x xs H Q q => by
  obtain ⟨ρ, st, a, as, w, s', r, ha, hs, e, k⟩ := q
  unfold oSplit0 at e
  split at e
  · split at e
    · rename_i hl
      cases e
      cases ha
      cases hs
      refine ⟨_, rfl, rfl, by rw [lim_eq]; exact hl, fun p hp => ?_⟩
      exact k.lst r (RVs.strs _) hp
    · cases e
  · cases e
theorem c_strD (hg : X.A.guards = some []) (hu : X.A.units + 64 < cLine) (hK : X.K = T.K := by rfl) : CallR X (.type "str") (rC T oStrD) := fun pins s σ H xs us Q I rs q => by
  obtain ⟨ρ, st, as, w, s', r, ha, e, k⟩ := q
  unfold oStrD at e
  split at e
  · cases e
    obtain ⟨z, rfl, hz⟩ := ha.one
    cases hz
    exact SkE.call_str_str pins s σ H _ us Q I rs ⟨_, rfl, k.here r (.str _)⟩
  · split at e
    · rename_i hl
      cases e
      obtain ⟨z, rfl, hz⟩ := ha.one
      cases hz
      exact call_str_int pins s σ H _ us Q I rs ⟨_, rfl, hl, k.here r (.str _)⟩
    · cases e
  · rename_i xs0
    split at e
    · rename_i d hd
      split at e
      · rename_i hb
        cases e
        obtain ⟨hs, hl⟩ := Bool.and_eq_true_iff.mp hb
        have hl := of_decide_eq_true hl
        obtain ⟨z, rfl, hz⟩ := ha.one
        obtain ⟨p1, p2⟩ := toD_dp r 40 _ z d hz hd
        have nd := dp_noDict d z p1
        have fin := k.here r (.str d.shown)
        cases rs with
        | cons r1 r2 =>
          cases r2
          rename_i u
          rw [← hK] at p1
          obtain ⟨bs, rd⟩ := Dp.reads I d z u p1 r1
          cases hz with
          | tup g1 g2 =>
            obtain rfl := r1
            exact str_of_reads rd hs (fun z => by rw [nd] at z; cases z) hg (by omega) (fun _ _ e => e) (fun h' u tk hk => ⟨.str _, H, I.kept (t' := tk) hk, ⟨_, rfl⟩, fin⟩) (by rw [lim_eq]; exact hl)
      · cases e
    · cases e
  · cases e
end
end Sm

namespace K36
open PySem PySem.Spec PyProof.Rows L2 Sm
def top (i : Nat) : Stmt := PySem.Challenge.pw_maybegone_k36_long_stories.main.body.getD i (.Pass ⟨0, 0, 0, 0⟩)
abbrev st_HeapU_initU : Stmt := inClass (top 6) 0
abbrev st_Heap_apply : Stmt := inClass (top 6) 1
abbrev st_Heap_held_lists : Stmt := inClass (top 6) 2
abbrev st_Heap_reached_flags : Stmt := inClass (top 6) 3
abbrev st_holders_of : Stmt := top 7
abbrev st_moments_of : Stmt := top 8
abbrev st_questions_of : Stmt := top 9
abbrev st_BoundsU_initU : Stmt := inClass (top 10) 0
abbrev st_Bounds_copied : Stmt := inClass (top 10) 1
abbrev st_Bounds_keep_there : Stmt := inClass (top 10) 2
abbrev st_Bounds_keep_gone : Stmt := inClass (top 10) 3
abbrev st_Bounds_take_reached : Stmt := inClass (top 10) 4
abbrev st_numbered : Stmt := top 11
abbrev st_Bounds_chain : Stmt := inClass (top 10) 5
abbrev st_Bounds_clash : Stmt := inClass (top 10) 6
abbrev st_Facts_tell : Stmt := inClass (top 12) 2
abbrev st_FactsU_initU : Stmt := inClass (top 12) 0
abbrev st_FactsU_lenU : Stmt := inClass (top 12) 1
abbrev st_Facts_fate : Stmt := inClass (top 12) 4
abbrev st_Facts_window : Stmt := inClass (top 12) 6
abbrev st__law_deck : Stmt := top 14
abbrev st__law_draw : Stmt := top 15
abbrev st__law_built : Stmt := top 17
abbrev st__law_answer : Stmt := top 18
abbrev st__law_known : Stmt := top 19
abbrev st_law : Stmt := top 20
abbrev cs_asked_pairs : List Nat := [3, 4, 5]
abbrev cs_bounds : List Nat := [3, 4, 5]
abbrev cs_first_gone : List Nat := [3, 4, 5]
abbrev cs_holders : List Nat := [3, 4, 5]
abbrev cs_kept_cells : List Nat := [3, 4, 5]
abbrev cs_last_there : List Nat := [3, 4, 5]
abbrev cs_moments : List Nat := [3, 4, 5]
abbrev cs_standing : List Nat := [3, 4, 5]
abbrev cs_story : List Nat := [3, 4, 5]
abbrev cs_strong : List Nat := [3, 4, 5]
abbrev cs_told : List Nat := [3, 4, 5]
abbrev cs_why_gone : List Nat := [3, 4, 5]
abbrev cs_why_there : List Nat := [3, 4, 5]
/-! the pure functions -/
def b_HeapU_initU : SM := (sSeq (sFldM cs_standing "standing" (eVar 0) eDict0)
  (sSeq (sFldM cs_kept_cells "kept_cells" (eVar 0) eDict0)
  (sFldM cs_strong "strong" (eVar 0) (eCB oLst aNil))))
def m_HeapU_initU : List Vl → M Vl := fnM 1 b_HeapU_initU
def b_Heap_apply : SM := (sForX (aTup (eVar 1)) (gNm 2)
  (sIf (tVal (eOp opEq (eOp opIx (eVar 2) (eC (.int 0))) (eC (.str "make")))) (sExpr (eBm .list oAppend (eFld cs_strong "strong" (eVar 0)) (aCons eDict0 aNil))) (sIf (tVal (eOp opEq (eOp opIx (eVar 2) (eC (.int 0))) (eC (.str "stand")))) (sAsg (gSb opSet (eFld cs_standing "standing" (eVar 0)) (eOp opIx (eVar 2) (eC (.int 1)))) (eOp opIx (eVar 2) (eC (.int 2)))) (sIf (tVal (eOp opEq (eOp opIx (eVar 2) (eC (.int 0))) (eC (.str "hold")))) (sAsg (gSb opSet (eOp opIx (eFld cs_strong "strong" (eVar 0)) (eOp opIx (eVar 2) (eC (.int 1)))) (eOp opIx (eVar 2) (eC (.int 2)))) (eOp opIx (eVar 2) (eC (.int 3)))) (sIf (tVal (eOp opEq (eOp opIx (eVar 2) (eC (.int 0))) (eC (.str "keep")))) (sAsg (gSb opSet (eFld cs_kept_cells "kept_cells" (eVar 0)) (eOp opIx (eVar 2) (eC (.int 1)))) (eC (.bl true))) sNil)))))
def m_Heap_apply : List Vl → M Vl := fnM 3 b_Heap_apply
def tab_apply : MTab := fun c => match c with
  | 3 => some m_Heap_apply
  | _ => none
def b_Heap_held_lists : SM := (sRet (eLc 100000 (iLst (eFld cs_strong "strong" (eVar 0))) (glN 1) tTrue (eLock (eVar 1) (eLc 100000 (iVal (eVar 1)) (glN 2) (tVal (eOp opNotN (eVar 2) (eC .non))) (eVar 2) [2])) [1]))
def m_Heap_held_lists : List Vl → M Vl := fnM 3 b_Heap_held_lists
def tab_held_lists : MTab := fun c => match c with
  | 3 => some m_Heap_held_lists
  | _ => none
def b_Heap_reached_flags : SM := (sSeq (sSet 2 (eOp opMul (eCB oLst (aCons (eC (.bl false)) aNil)) (eCB oLen (aCons (eVar 1) aNil))))
  (sSeq (sSet 3 (eOp opAdd (eLock (eFld cs_standing "standing" (eVar 0)) (eLc 100000 (iVal (eFld cs_standing "standing" (eVar 0))) (glN 4) (tVal (eOp opNotN (eVar 4) (eC .non))) (eVar 4) [4])) (eCB oList (aCons (eFld cs_kept_cells "kept_cells" (eVar 0)) aNil))))
  (sSeq (loopW (tVal (eOp opNe (eVar 3) (eCB oLst aNil))) (sSeq (sSet 4 (eBm0 .list oPop (eVar 3)))
  (sIf (tNotM (tVal (eOp opIx (eVar 2) (eVar 4)))) (sSeq (sAsg (gSb opSet (eVar 2) (eVar 4)) (eC (.bl true)))
  (sExpr (eBm .list oExtend (eVar 3) (aCons (eOp opIx (eVar 1) (eVar 4)) aNil)))) sNil)) 100000)
  (sRet (eVar 2)))))
def m_Heap_reached_flags : List Vl → M Vl := fnM 5 b_Heap_reached_flags
def tab_reached_flags : MTab := fun c => match c with
  | 3 => some m_Heap_reached_flags
  | _ => none
def b_holders_of : SM := (sSeq (sSet 1 (eLc 100000 (iLst (eVar 0)) (glN 3) tTrue (eCB oLst aNil) [3]))
  (sSeq (sFor 100000 (iEnm (aCons (eVar 0) aNil)) (gTp [2, 3])
  (sFor 100000 (iLst (eVar 3)) (gNm 4)
  (sExpr (eBm .list oAppend (eOp opIx (eVar 1) (eVar 4)) (aCons (eVar 2) aNil)))))
  (sRet (eVar 1))))
def m_holders_of : List Vl → M Vl := fnM 5 b_holders_of
def b_moments_of : SM := (sSeq (sSet 1 (eMake 3 m_HeapU_initU aNil))
  (sSeq (sSet 2 (eCB oLst aNil))
  (sSeq (sForX (aTup (eVar 0)) (gNm 3)
  (sSeq (sSet 4 (eMeth "held_lists" (tabA 0 tab_held_lists) (eVar 1) aNil))
  (sSeq (sExpr (eBm .list oAppend (eVar 2) (aCons (eCB oTup (aCons (eVar 4) (aCons (eMeth "reached_flags" (tabA 1 tab_reached_flags) (eVar 1) (aCons (eVar 4) aNil)) aNil))) aNil)))
  (sExpr (eMeth "apply" (tabA 1 tab_apply) (eVar 1) (aCons (eVar 3) aNil))))))
  (sRet (eVar 2)))))
def m_moments_of : List Vl → M Vl := fnM 5 b_moments_of
def b_questions_of : SM := (sSeq (sSet 1 (eCB oLst aNil))
  (sSeq (sForX (aEnm (aCons (eVar 0) aNil)) (gTp [2, 3])
  (sExpr (eBm .list oExtend (eVar 1) (aCons (eLcX (aTup (eVar 3)) (glN 4) (tVal (eOp opEq (eOp opIx (eVar 4) (eC (.int 0))) (eC (.str "ask")))) (eCB oTup (aCons (eVar 2) (aCons (eOp opIx (eVar 4) (eC (.int 1))) aNil))) [4]) aNil))))
  (sRet (eVar 1))))
def m_questions_of : List Vl → M Vl := fnM 5 b_questions_of
def b_BoundsU_initU : SM := (sSeq (sFldM cs_moments "moments" (eVar 0) (eVar 1))
  (sSeq (sFldM cs_holders "holders" (eVar 0) (eVar 2))
  (sSeq (sSet 3 (eIfM (tVal (eOp opNe (eVar 1) (eCB oLst aNil))) (eCB oLen (aCons (eOp opIx (eOp opIx (eVar 1) (eOp1 opNeg (eC (.int 1)))) (eC (.int 0))) aNil)) (eC (.int 0))))
  (sSeq (sFldM cs_last_there "last_there" (eVar 0) (eOp opMul (eCB oLst (aCons (eOp1 opNeg (eC (.int 1))) aNil)) (eVar 3)))
  (sSeq (sFldM cs_first_gone "first_gone" (eVar 0) (eOp opMul (eCB oLst (aCons (eCB oLen (aCons (eVar 1) aNil)) aNil)) (eVar 3)))
  (sSeq (sFldM cs_why_there "why_there" (eVar 0) (eOp opMul (eCB oLst (aCons (eC .non) aNil)) (eVar 3)))
  (sFldM cs_why_gone "why_gone" (eVar 0) (eOp opMul (eCB oLst (aCons (eC .non) aNil)) (eVar 3)))))))))
def m_BoundsU_initU : List Vl → M Vl := fnM 4 b_BoundsU_initU
def b_Bounds_copied : SM := (sSeq (sSet 1 (eMake 4 (argI 2 m_BoundsU_initU) (aCons (eFld cs_moments "moments" (eVar 0)) (aCons (eFld cs_holders "holders" (eVar 0)) aNil))))
  (sSeq (sFldM cs_last_there "last_there" (eVar 1) (eCB oList (aCons (eFld cs_last_there "last_there" (eVar 0)) aNil)))
  (sSeq (sFldM cs_first_gone "first_gone" (eVar 1) (eCB oList (aCons (eFld cs_first_gone "first_gone" (eVar 0)) aNil)))
  (sSeq (sFldM cs_why_there "why_there" (eVar 1) (eCB oList (aCons (eFld cs_why_there "why_there" (eVar 0)) aNil)))
  (sSeq (sFldM cs_why_gone "why_gone" (eVar 1) (eCB oList (aCons (eFld cs_why_gone "why_gone" (eVar 0)) aNil)))
  (sRet (eVar 1)))))))
def m_Bounds_copied : List Vl → M Vl := fnM 2 b_Bounds_copied
def tab_copied : MTab := fun c => match c with
  | 4 => some m_Bounds_copied
  | _ => none
def b_Bounds_keep_there : SM := (sSeq (sSet 4 (eCB oLst (aCons (eCB oTup (aCons (eVar 1) (aCons (eVar 2) (aCons (eVar 3) aNil)))) aNil)))
  (loopW (tVal (eOp opNe (eVar 4) (eCB oLst aNil))) (sSeq (sAsg (gTp [6, 7, 8]) (eBm0 .list oPop (eVar 4)))
  (sSeq (sSet 5 (eOp opIx (eFld cs_last_there "last_there" (eVar 0)) (eVar 6)))
  (sIf (tVal (eOp opGt (eVar 7) (eVar 5))) (sSeq (sAsg (gSb opSet (eFld cs_last_there "last_there" (eVar 0)) (eVar 6)) (eVar 7))
  (sSeq (sAsg (gSb opSet (eFld cs_why_there "why_there" (eVar 0)) (eVar 6)) (eVar 8))
  (sForX (aRng2 (aCons (eOp opAdd (eVar 5) (eC (.int 1))) (aCons (eOp opAdd (eVar 7) (eC (.int 1))) aNil))) (gNm 9)
  (sIf (tVal (eOp opLt (eVar 6) (eCB oLen (aCons (eOp opIx (eOp opIx (eFld cs_moments "moments" (eVar 0)) (eVar 9)) (eC (.int 0))) aNil)))) (sExpr (eBm .list oExtend (eVar 4) (aCons (eLc 100000 (iLst (eOp opIx (eOp opIx (eOp opIx (eFld cs_moments "moments" (eVar 0)) (eVar 9)) (eC (.int 0))) (eVar 6))) (glN 10) tTrue (eCB oTup (aCons (eVar 10) (aCons (eVar 9) (aCons (eCB oTup (aCons (eC (.str "held")) (aCons (eVar 6) aNil))) aNil)))) [10]) aNil))) sNil)))) sNil))) 100000))
def m_Bounds_keep_there : List Vl → M Vl := fnM 11 b_Bounds_keep_there
def tab_keep_there : MTab := fun c => match c with
  | 4 => some m_Bounds_keep_there
  | _ => none
def b_Bounds_keep_gone : SM := (sSeq (sSet 4 (eCB oLst (aCons (eCB oTup (aCons (eVar 1) (aCons (eVar 2) (aCons (eVar 3) aNil)))) aNil)))
  (loopW (tVal (eOp opNe (eVar 4) (eCB oLst aNil))) (sSeq (sAsg (gTp [6, 7, 8]) (eBm0 .list oPop (eVar 4)))
  (sSeq (sSet 5 (eOp opIx (eFld cs_first_gone "first_gone" (eVar 0)) (eVar 6)))
  (sIf (tVal (eOp opLt (eVar 7) (eVar 5))) (sSeq (sAsg (gSb opSet (eFld cs_first_gone "first_gone" (eVar 0)) (eVar 6)) (eVar 7))
  (sSeq (sAsg (gSb opSet (eFld cs_why_gone "why_gone" (eVar 0)) (eVar 6)) (eVar 8))
  (sForX (aRng2 (aCons (eVar 7) (aCons (eVar 5) aNil))) (gNm 9)
  (sExpr (eBm .list oExtend (eVar 4) (aCons (eLc 100000 (iLst (eOp opIx (eOp opIx (eFld cs_holders "holders" (eVar 0)) (eVar 9)) (eVar 6))) (glN 10) tTrue (eCB oTup (aCons (eVar 10) (aCons (eVar 9) (aCons (eCB oTup (aCons (eC (.str "holder")) (aCons (eVar 6) aNil))) aNil)))) [10]) aNil)))))) sNil))) 100000))
def m_Bounds_keep_gone : List Vl → M Vl := fnM 11 b_Bounds_keep_gone
def tab_keep_gone : MTab := fun c => match c with
  | 4 => some m_Bounds_keep_gone
  | _ => none
def b_Bounds_take_reached : SM := (sFor 100000 (iEnm (aCons (eFld cs_moments "moments" (eVar 0)) aNil)) (gTs [(gNm 1), (gTp [2, 3])])
  (sFor 100000 (iEnm (aCons (eVar 3) aNil)) (gTp [4, 5])
  (sIf (tVal (eVar 5)) (sExpr (eMeth "keep_there" (tabA 3 tab_keep_there) (eVar 0) (aCons (eVar 4) (aCons (eVar 1) (aCons (eCB oTup (aCons (eC (.str "reached")) aNil)) aNil))))) sNil)))
def m_Bounds_take_reached : List Vl → M Vl := fnM 6 b_Bounds_take_reached
def tab_take_reached : MTab := fun c => match c with
  | 4 => some m_Bounds_take_reached
  | _ => none
def b_numbered : SM := (sSeq (sSet 2 (eCB oLst aNil))
  (sSeq (sFor 100000 (iEnm (aCons (eVar 0) aNil)) (gTs [(gNm 3), (gTp [4, 5, 6, 7])])
  (sExpr (eBm .list oAppend (eVar 2) (aCons (eCB oTup (aCons (eVar 4) (aCons (eVar 5) (aCons (eVar 6) (aCons (eIfM (tVal (eOp opEq (eVar 3) (eC (.int 0)))) (eVar 7) (eCB oTup (aCons (eVar 7) (aCons (eOp opSub (eOp opAdd (eVar 1) (eVar 3)) (eC (.int 1))) aNil)))) aNil))))) aNil))))
  (sRet (eCB oTuple (aCons (eVar 2) aNil)))))
def m_numbered : List Vl → M Vl := fnM 8 b_numbered
def b_Bounds_chain : SM := (sSeq (sSet 5 (eCB oLst aNil))
  (sSeq (sSet 6 (eC (.bl true)))
  (sSeq (loopW (tVal (eVar 6)) (sSeq (sSet 7 (eIfM (tVal (eOp opEq (eVar 3) (eC (.str "there")))) (eOp opIx (eFld cs_last_there "last_there" (eVar 0)) (eVar 1)) (eOp opIx (eFld cs_first_gone "first_gone" (eVar 0)) (eVar 1))))
  (sSeq (sSet 8 (eIfM (tVal (eOp opEq (eVar 3) (eC (.str "there")))) (eOp opIx (eFld cs_why_there "why_there" (eVar 0)) (eVar 1)) (eOp opIx (eFld cs_why_gone "why_gone" (eVar 0)) (eVar 1))))
  (sIf (tVal (eOp opNe (eVar 2) (eVar 7))) (sSeq (sExpr (eBm .list oAppend (eVar 5) (aCons (eCB oTup (aCons (eVar 1) (aCons (eVar 2) (aCons (eVar 3) (aCons (eIfM (tVal (eOp opEq (eVar 3) (eC (.str "there")))) (eC (.str "earlier")) (eC (.str "later"))) aNil))))) aNil)))
  (sSet 2 (eVar 7))) (sIf (tVal (eOp opIn (eOp opIx (eVar 8) (eC (.int 0))) (eCB oTup (aCons (eC (.str "held")) (aCons (eC (.str "holder")) aNil))))) (sSeq (sExpr (eBm .list oAppend (eVar 5) (aCons (eCB oTup (aCons (eVar 1) (aCons (eVar 2) (aCons (eVar 3) (aCons (eOp opIx (eVar 8) (eC (.int 0))) aNil))))) aNil)))
  (sSet 1 (eOp opIx (eVar 8) (eC (.int 1))))) (sSeq (sExpr (eBm .list oAppend (eVar 5) (aCons (eCB oTup (aCons (eVar 1) (aCons (eVar 2) (aCons (eVar 3) (aCons (eVar 8) aNil))))) aNil)))
  (sSet 6 (eC (.bl false)))))))) 100000)
  (sRet (eCall (arg 2 m_numbered) (aCons eFail (aCons (eVar 4) aNil)))))))
def m_Bounds_chain : List Vl → M Vl := fnM 9 b_Bounds_chain
def tab_chain : MTab := fun c => match c with
  | 4 => some m_Bounds_chain
  | _ => none
def b_Bounds_clash : SM := (sSeq (sFor 100000 (iEnm (aCons (eFld cs_first_gone "first_gone" (eVar 0)) aNil)) (gTp [1, 2])
  (sIf (tVal (eOp opLe (eVar 2) (eOp opIx (eFld cs_last_there "last_there" (eVar 0)) (eVar 1)))) (sSeq (sSet 3 (eMeth "chain" (tabA 4 tab_chain) (eVar 0) (aCons (eVar 1) (aCons (eVar 2) (aCons (eC (.str "gone")) (aCons (eC (.int 0)) aNil))))))
  (sRet (eOp opAdd (eVar 3) (eMeth "chain" (tabA 4 tab_chain) (eVar 0) (aCons (eVar 1) (aCons (eVar 2) (aCons (eC (.str "there")) (aCons (eCB oLen (aCons (eVar 3) aNil)) aNil)))))))) sNil))
  (sRet (eC .non)))
def m_Bounds_clash : List Vl → M Vl := fnM 4 b_Bounds_clash
def tab_clash : MTab := fun c => match c with
  | 4 => some m_Bounds_clash
  | _ => none
def b_Facts_tell : SM := (sSeq (sSet 2 (eCB oLen (aCons (eFld cs_told "told" (eVar 0)) aNil)))
  (sSeq (sIf (tVal (eOp opGe (eVar 2) (eCB oLen (aCons (eFld cs_asked_pairs "asked_pairs" (eVar 0)) aNil)))) sFail sNil)
  (sSeq (sAsg (gTp [5, 6]) (eOp opIx (eFld cs_asked_pairs "asked_pairs" (eVar 0)) (eVar 2)))
  (sSeq (sSet 3 (eMeth "copied" (tabA 0 tab_copied) (eFld cs_bounds "bounds" (eVar 0)) aNil))
  (sSeq (sIf (tVal (eOp opEq (eVar 1) (eC (.int 1)))) (sExpr (eMeth "keep_gone" (tabA 3 tab_keep_gone) (eVar 3) (aCons (eVar 6) (aCons (eVar 5) (aCons (eCB oTup (aCons (eC (.str "asked")) (aCons (eVar 2) aNil))) aNil))))) (sExpr (eMeth "keep_there" (tabA 3 tab_keep_there) (eVar 3) (aCons (eVar 6) (aCons (eVar 5) (aCons (eCB oTup (aCons (eC (.str "asked")) (aCons (eVar 2) aNil))) aNil))))))
  (sSeq (sSet 4 (eMeth "clash" (tabA 0 tab_clash) (eVar 3) aNil))
  (sSeq (sIf (tVal (eOp opNotN (eVar 4) (eC .non))) sFail sNil)
  (sSeq (sFldM cs_bounds "bounds" (eVar 0) (eVar 3))
  (sSeq (sFldM cs_told "told" (eVar 0) (eOp opAdd (eFld cs_told "told" (eVar 0)) (eCB oTup (aCons (eVar 1) aNil))))
  (sRet (eCB oLen (aCons (eFld cs_told "told" (eVar 0)) aNil))))))))))))
def m_Facts_tell : List Vl → M Vl := fnM 7 b_Facts_tell
def tab_tell : MTab := fun c => match c with
  | 5 => some m_Facts_tell
  | _ => none
def b_FactsU_initU : SM := (sSeq (sFldM cs_story "story" (eVar 0) (eVar 1))
  (sSeq (sFldM cs_told "told" (eVar 0) (eCB oTup aNil))
  (sSeq (sFldM cs_asked_pairs "asked_pairs" (eVar 0) (eCall (arg 1 m_questions_of) (aCons (eVar 1) aNil)))
  (sSeq (sSet 3 (eCall (arg 1 m_moments_of) (aCons (eVar 1) aNil)))
  (sSeq (sFldM cs_bounds "bounds" (eVar 0) (eMake 4 (argI 2 m_BoundsU_initU) (aCons (eVar 3) (aCons (eLc 100000 (iLst (eVar 3)) (glT [5, 6]) tTrue (eCall (arg 1 m_holders_of) (aCons (eVar 5) aNil)) [5, 6]) aNil))))
  (sSeq (sExpr (eMeth "take_reached" (tabA 0 tab_take_reached) (eFld cs_bounds "bounds" (eVar 0)) aNil))
  (sForX (aTup (eVar 2)) (gNm 4)
  (sExpr (eMeth "tell" (tabA 1 tab_tell) (eVar 0) (aCons (eVar 4) aNil))))))))))
def m_FactsU_initU : List Vl → M Vl := fnM 7 b_FactsU_initU
def b_FactsU_lenU : SM := (sRet (eCB oLen (aCons (eSl opSl (eFld cs_asked_pairs "asked_pairs" (eVar 0)) (some (eCB oLen (aCons (eFld cs_told "told" (eVar 0)) aNil))) none) aNil)))
def m_FactsU_lenU : List Vl → M Vl := fnM 1 b_FactsU_lenU
def tab_UlenU : MTab := fun c => match c with
  | 5 => some m_FactsU_lenU
  | _ => none
def b_Facts_fate : SM := (sSeq (sIf (tVal (eOp opLe (eVar 2) (eOp opIx (eFld cs_last_there "last_there" (eFld cs_bounds "bounds" (eVar 0))) (eVar 1)))) (sRet (eC (.str "there"))) sNil)
  (sRet (eIfM (tVal (eOp opGe (eVar 2) (eOp opIx (eFld cs_first_gone "first_gone" (eFld cs_bounds "bounds" (eVar 0))) (eVar 1)))) (eC (.str "gone")) (eC (.str "open")))))
def m_Facts_fate : List Vl → M Vl := fnM 3 b_Facts_fate
def tab_fate : MTab := fun c => match c with
  | 5 => some m_Facts_fate
  | _ => none
def b_Facts_window : SM := (sSeq (sSet 2 (eFld cs_moments "moments" (eFld cs_bounds "bounds" (eVar 0))))
  (sSeq (sIf (tOrM (tVal (eOp opEq (eVar 2) (eCB oLst aNil))) (tVal (eOp opGe (eVar 1) (eCB oLen (aCons (eOp opIx (eOp opIx (eVar 2) (eOp1 opNeg (eC (.int 1)))) (eC (.int 0))) aNil))))) (sRet (eCB oTup (aCons (eC .non) (aCons (eC .non) aNil)))) sNil)
  (sSeq (sSet 3 (eOp opAdd (eOp opIx (eFld cs_last_there "last_there" (eFld cs_bounds "bounds" (eVar 0))) (eVar 1)) (eC (.int 1))))
  (sSeq (loopW (tAndM (tVal (eOp opLt (eVar 3) (eCB oLen (aCons (eVar 2) aNil)))) (tVal (eOp opGe (eVar 1) (eCB oLen (aCons (eOp opIx (eOp opIx (eVar 2) (eVar 3)) (eC (.int 0))) aNil))))) (sAug 3 opIAdd (eC (.int 1))) 100000)
  (sSeq (sSet 4 (eOp opIx (eFld cs_first_gone "first_gone" (eFld cs_bounds "bounds" (eVar 0))) (eVar 1)))
  (sRet (eCB oTup (aCons (eIfM (tVal (eOp opLt (eVar 3) (eCB oLen (aCons (eVar 2) aNil)))) (eVar 3) (eC .non)) (aCons (eIfM (tVal (eOp opLt (eVar 4) (eCB oLen (aCons (eVar 2) aNil)))) (eVar 4) (eC .non)) aNil)))))))))
def m_Facts_window : List Vl → M Vl := fnM 5 b_Facts_window
def tab_window : MTab := fun c => match c with
  | 5 => some m_Facts_window
  | _ => none
def b__law_deck : SM := (sRet (eCB oLst (aCons (eLc 100000 (iLst (eSl opSl (eVar 0) none (some (eC (.int 63))))) (glN 1) tTrue (eCB oAbs (aCons (eVar 1) aNil)) [1]) (aCons (eC (.int 0)) aNil))))
def m__law_deck : List Vl → M Vl := fnM 2 b__law_deck
def b__law_draw : SM := (sSeq (sAsg (gSb opSet (eVar 0) (eC (.int 1))) (eOp opAdd (eOp opIx (eVar 0) (eC (.int 1))) (eC (.int 1))))
  (sSeq (sSet 2 (eOp opMod (eCB oInt (aCons (eOp opIx (eVar 0) (eC (.int 1))) aNil)) (eCB oMax (aCons (eC (.int 1)) (aCons (eCB oLen (aCons (eOp opIx (eVar 0) (eC (.int 0))) aNil)) aNil)))))
  (sSeq (sSet 3 (eOp opIx (eOp opAdd (eOp opIx (eVar 0) (eC (.int 0))) (eCB oLst (aCons (eC (.int 0)) aNil))) (eVar 2)))
  (sSeq (sIf (tVal (eOp opGe (eVar 3) (eOp opPow (eC (.int 10)) (eC (.int 18))))) (sSeq (sAsg (gSb opSet (eOp opIx (eVar 0) (eC (.int 0))) (eVar 2)) (eOp opFdiv (eVar 3) (eVar 1)))
  (sRet (eOp opMod (eCB oInt (aCons (eVar 3) aNil)) (eVar 1)))) sNil)
  (sSeq (sSet 4 (eOp opPow (eOp opAdd (eOp opAdd (eOp opMod (eCB oInt (aCons (eVar 3) aNil)) (eC (.int 2147483587))) (eOp opMul (eC (.int 7919)) (eOp opIx (eVar 0) (eC (.int 1))))) (eC (.int 1))) (eC (.int 5))))
  (sRet (eOp opMod (eCB oInt (aCons (eOp opMod (eCB oInt (aCons (eVar 4) aNil)) (eC (.int 2147483647))) aNil)) (eVar 1))))))))
def m__law_draw : List Vl → M Vl := fnM 5 b__law_draw
def b__law_built : SM := (sSeq (sAsg (gTp [4, 5, 6, 7]) (eCB oTup (aCons (eCB oLst (aCons (eCB oTuple (aCons (eLcX (aRng (aCons (eVar 1) aNil)) (glN 11) tTrue (eCB oTup (aCons (eC (.str "make")) (aCons (eVar 11) aNil))) [11]) aNil)) aNil)) (aCons (eOp opMul (eCB oLst (aCons (eC (.bl false)) aNil)) (eVar 1)) (aCons (eOp opMul (eCB oLst (aCons (eC (.int 0)) aNil)) (eVar 1)) (aCons (eC (.int 0)) aNil))))))
  (sSeq (sForX (aRng2 (aCons (eC (.int 1)) (aCons (eVar 2) aNil))) (gNm 3)
  (sSeq (sForX (aRng (aCons (eVar 1) aNil)) (gNm 8)
  (sAsg (gSb opSet (eVar 6) (eVar 8)) (eIfM (tVal (eOp opIx (eVar 5) (eVar 8))) (eVar 3) (eOp opIx (eVar 6) (eVar 8)))))
  (sSeq (sPar 8 10 (aCons (eCall (arg 2 m__law_draw) (aCons (eVar 0) (aCons (eVar 1) aNil))) (aCons (eCall (arg 2 m__law_draw) (aCons (eVar 0) (aCons (eC (.int 5)) aNil))) aNil)))
  (sSeq (sSet 9 (eCB oTup aNil))
  (sSeq (sIf (tVal (eOp opLt (eVar 10) (eC (.int 2)))) (sSeq (sAsg (gSb opSet (eVar 5) (eVar 8)) (eOp opLt (eCall (arg 2 m__law_draw) (aCons (eVar 0) (aCons (eOp opAdd (eC (.int 1)) (eOp opMul (eC (.int 2)) (eVar 3))) aNil))) (eOp opFdiv (eVar 2) (eC (.int 2)))))
  (sSet 9 (eCB oTup (aCons (eCB oTup (aCons (eC (.str "stand")) (aCons (eOp opAdd (eC (.str "n")) (eCB oStr (aCons (eVar 8) aNil))) (aCons (eIfM (tVal (eOp opIx (eVar 5) (eVar 8))) (eVar 8) (eC .non)) aNil)))) aNil)))) (sIf (tVal (eOp opLt (eVar 7) (eC (.int 200)))) (sSeq (sSet 7 (eOp opAdd (eVar 7) (eC (.int 1))))
  (sSet 9 (eCB oTup (aCons (eCB oTup (aCons (eC (.str "ask")) (aCons (eVar 8) aNil))) aNil)))) sNil))
  (sExpr (eBm .list oAppend (eVar 4) (aCons (eVar 9) aNil))))))))
  (sRet (eCB oTup (aCons (eCB oTuple (aCons (eVar 4) aNil)) (aCons (eVar 6) aNil))))))
def m__law_built : List Vl → M Vl := fnM 12 b__law_built
def b__law_answer : SM := (sSeq (sIf (tVal (eOp opLe (eVar 2) (eOp opIx (eVar 3) (eVar 1)))) (sRet (eC (.int 0))) sNil)
  (sRet (eIfM (tVal (eOp opGe (eVar 2) (eOp opIx (eVar 4) (eVar 1)))) (eC (.int 1)) (eCB oInt (aCons (eOp opEq (eCall (arg 2 m__law_draw) (aCons (eVar 0) (aCons (eC (.int 6)) aNil))) (eC (.int 0))) aNil)))))
def m__law_answer : List Vl → M Vl := fnM 5 b__law_answer
def b__law_known : SM := (sSeq (sSet 4 (eCB oLen (aCons (eFld cs_story "story" (eVar 1)) aNil)))
  (sSeq (sForX (aRng (aCons (eCB oLen (aCons (eVar 2) aNil)) aNil)) (gNm 5)
  (sSeq (sSet 6 (eCB oTup (aCons (eIfM (tVal (eOp opLt (eOp opAdd (eOp opIx (eVar 2) (eVar 5)) (eC (.int 1))) (eVar 4))) (eOp opAdd (eOp opIx (eVar 2) (eVar 5)) (eC (.int 1))) (eC .non)) (aCons (eIfM (tVal (eOp opLt (eOp opIx (eVar 3) (eVar 5)) (eVar 4))) (eOp opIx (eVar 3) (eVar 5)) (eC .non)) aNil))))
  (sSeq (sIf (tVal (eOp opNe (eCB oRepr (aCons (eMeth "window" (tabA 1 tab_window) (eVar 1) (aCons (eVar 5) aNil)) aNil)) (eCB oRepr (aCons (eVar 6) aNil)))) (sRet (eC (.bl false))) sNil)
  (sForX (aRng (aCons (eC (.int 6)) aNil)) (gNm 7)
  (sSeq (sSet 8 (eOp opAdd (eC (.int 1)) (eCall (arg 2 m__law_draw) (aCons (eVar 0) (aCons (eOp opSub (eVar 4) (eC (.int 1))) aNil)))))
  (sSeq (sSet 9 (eIfM (tVal (eOp opLe (eVar 8) (eOp opIx (eVar 2) (eVar 5)))) (eC (.str "there")) (eIfM (tVal (eOp opGe (eVar 8) (eOp opIx (eVar 3) (eVar 5)))) (eC (.str "gone")) (eC (.str "open")))))
  (sIf (tVal (eOp opNe (eCB oRepr (aCons (eMeth "fate" (tabA 2 tab_fate) (eVar 1) (aCons (eVar 5) (aCons (eVar 8) aNil))) aNil)) (eCB oRepr (aCons (eVar 9) aNil)))) (sRet (eC (.bl false))) sNil)))))))
  (sRet (eC (.bl true)))))
def m__law_known : List Vl → M Vl := fnM 10 b__law_known
def b_law : SM := (sSeq (sSet 1 (eCall (arg 1 m__law_deck) (aCons (eVar 0) aNil)))
  (sSeq (sPar 2 3 (aCons (eOp opAdd (eC (.int 1)) (eCall (arg 2 m__law_draw) (aCons (eVar 1) (aCons (eC (.int 8)) aNil)))) (aCons (eOp opAdd (eC (.int 200)) (eCall (arg 2 m__law_draw) (aCons (eVar 1) (aCons (eC (.int 501)) aNil)))) aNil)))
  (sSeq (sAsg (gTp [4, 5]) (eCall (arg 3 m__law_built) (aCons (eVar 1) (aCons (eVar 2) (aCons (eVar 3) aNil)))))
  (sSeq (sPar3 6 7 8 (aCons (eMake 5 (dflM 3 [(.tup [])] m_FactsU_initU) (aCons (eVar 4) aNil)) (aCons (eOp opMul (eCB oLst (aCons (eVar 3) aNil)) (eVar 2)) (aCons (eC (.int 0)) aNil))))
  (sSeq (sForX (aEnm (aCons (eVar 4) aNil)) (gTp [9, 10])
  (sForX (aTup (eVar 10)) (gNm 11)
  (sIf (tVal (eOp opEq (eOp opIx (eVar 11) (eC (.int 0))) (eC (.str "ask")))) (sSeq (sSet 12 (eOp opIx (eVar 11) (eC (.int 1))))
  (sSeq (sSet 13 (eCall (arg 5 m__law_answer) (aCons (eVar 1) (aCons (eVar 12) (aCons (eVar 9) (aCons (eVar 5) (aCons (eVar 7) aNil)))))))
  (sSeq (sExpr (eMeth "tell" (tabA 1 tab_tell) (eVar 6) (aCons (eVar 13) aNil)))
  (sSeq (sSet 8 (eOp opAdd (eVar 8) (eC (.int 1))))
  (sSeq (sIf (tVal (eOp opEq (eVar 13) (eC (.int 1)))) (sAsg (gSb opSet (eVar 7) (eVar 12)) (eCB oMin (aCons (eOp opIx (eVar 7) (eVar 12)) (aCons (eVar 9) aNil)))) (sAsg (gSb opSet (eVar 5) (eVar 12)) (eCB oMax (aCons (eOp opIx (eVar 5) (eVar 12)) (aCons (eVar 9) aNil)))))
  (sIf (tAndM (tVal (eOp opEq (eOp opMod (eVar 8) (eC (.int 20))) (eC (.int 0)))) (tNotM (tVal (eCall (arg 4 m__law_known) (aCons (eVar 1) (aCons (eVar 6) (aCons (eVar 5) (aCons (eVar 7) aNil)))))))) (sRet (eC (.bl false))) sNil)))))) sNil)))
  (sRet (eAndM (eCall (arg 4 m__law_known) (aCons (eVar 1) (aCons (eVar 6) (aCons (eVar 5) (aCons (eVar 7) aNil))))) (eOp opEq (eCB oRepr (aCons (eLenO tab_UlenU (eVar 6)) aNil)) (eC (.str "0"))))))))))
def m_law : List Vl → M Vl := fnM 14 b_law
/-! what the top has left -/
structure TX (K : PySem.W.Frag) (mg : Str → Option Value) where
  f_HeapU_initU : Addr
  d_HeapU_initU : FuncData
  F_HeapU_initU : Fun K "__init__" "Heap.__init__" st_HeapU_initU f_HeapU_initU d_HeapU_initU
  b_HeapU_initU : Binds K d_HeapU_initU ["self"] []
  f_Heap_apply : Addr
  d_Heap_apply : FuncData
  F_Heap_apply : Fun K "apply" "Heap.apply" st_Heap_apply f_Heap_apply d_Heap_apply
  b_Heap_apply : Binds K d_Heap_apply ["self", "item"] []
  f_Heap_held_lists : Addr
  d_Heap_held_lists : FuncData
  F_Heap_held_lists : Fun K "held_lists" "Heap.held_lists" st_Heap_held_lists f_Heap_held_lists d_Heap_held_lists
  b_Heap_held_lists : Binds K d_Heap_held_lists ["self"] []
  f_Heap_reached_flags : Addr
  d_Heap_reached_flags : FuncData
  F_Heap_reached_flags : Fun K "reached_flags" "Heap.reached_flags" st_Heap_reached_flags f_Heap_reached_flags d_Heap_reached_flags
  b_Heap_reached_flags : Binds K d_Heap_reached_flags ["self", "held"] []
  f_holders_of : Addr
  d_holders_of : FuncData
  F_holders_of : Fun K "holders_of" "holders_of" st_holders_of f_holders_of d_holders_of
  b_holders_of : Binds K d_holders_of ["held"] []
  g_holders_of : mg "holders_of" = some (.ref f_holders_of)
  f_moments_of : Addr
  d_moments_of : FuncData
  F_moments_of : Fun K "moments_of" "moments_of" st_moments_of f_moments_of d_moments_of
  b_moments_of : Binds K d_moments_of ["story"] []
  g_moments_of : mg "moments_of" = some (.ref f_moments_of)
  f_questions_of : Addr
  d_questions_of : FuncData
  F_questions_of : Fun K "questions_of" "questions_of" st_questions_of f_questions_of d_questions_of
  b_questions_of : Binds K d_questions_of ["story"] []
  g_questions_of : mg "questions_of" = some (.ref f_questions_of)
  f_BoundsU_initU : Addr
  d_BoundsU_initU : FuncData
  F_BoundsU_initU : Fun K "__init__" "Bounds.__init__" st_BoundsU_initU f_BoundsU_initU d_BoundsU_initU
  b_BoundsU_initU : Binds K d_BoundsU_initU ["self", "moments", "holders"] []
  f_Bounds_copied : Addr
  d_Bounds_copied : FuncData
  F_Bounds_copied : Fun K "copied" "Bounds.copied" st_Bounds_copied f_Bounds_copied d_Bounds_copied
  b_Bounds_copied : Binds K d_Bounds_copied ["self"] []
  f_Bounds_keep_there : Addr
  d_Bounds_keep_there : FuncData
  F_Bounds_keep_there : Fun K "keep_there" "Bounds.keep_there" st_Bounds_keep_there f_Bounds_keep_there d_Bounds_keep_there
  b_Bounds_keep_there : Binds K d_Bounds_keep_there ["self", "cell", "moment", "why"] []
  f_Bounds_keep_gone : Addr
  d_Bounds_keep_gone : FuncData
  F_Bounds_keep_gone : Fun K "keep_gone" "Bounds.keep_gone" st_Bounds_keep_gone f_Bounds_keep_gone d_Bounds_keep_gone
  b_Bounds_keep_gone : Binds K d_Bounds_keep_gone ["self", "cell", "moment", "why"] []
  f_Bounds_take_reached : Addr
  d_Bounds_take_reached : FuncData
  F_Bounds_take_reached : Fun K "take_reached" "Bounds.take_reached" st_Bounds_take_reached f_Bounds_take_reached d_Bounds_take_reached
  b_Bounds_take_reached : Binds K d_Bounds_take_reached ["self"] []
  f_numbered : Addr
  d_numbered : FuncData
  F_numbered : Fun K "numbered" "numbered" st_numbered f_numbered d_numbered
  b_numbered : Binds K d_numbered ["rows", "first"] []
  g_numbered : mg "numbered" = some (.ref f_numbered)
  f_Bounds_chain : Addr
  d_Bounds_chain : FuncData
  F_Bounds_chain : Fun K "chain" "Bounds.chain" st_Bounds_chain f_Bounds_chain d_Bounds_chain
  b_Bounds_chain : Binds K d_Bounds_chain ["self", "cell", "moment", "state", "first"] []
  f_Bounds_clash : Addr
  d_Bounds_clash : FuncData
  F_Bounds_clash : Fun K "clash" "Bounds.clash" st_Bounds_clash f_Bounds_clash d_Bounds_clash
  b_Bounds_clash : Binds K d_Bounds_clash ["self"] []
  f_Facts_tell : Addr
  d_Facts_tell : FuncData
  F_Facts_tell : Fun K "tell" "Facts.tell" st_Facts_tell f_Facts_tell d_Facts_tell
  b_Facts_tell : Binds K d_Facts_tell ["self", "answer"] []
  f_FactsU_initU : Addr
  d_FactsU_initU : FuncData
  e_FactsU_initU_0 : Addr
  F_FactsU_initU : FunD K "__init__" "Facts.__init__" (defArgs st_FactsU_initU) (defBody st_FactsU_initU) (defScope st_FactsU_initU) [V.ref e_FactsU_initU_0] [] f_FactsU_initU d_FactsU_initU
  b_FactsU_initU_0 : BindD K d_FactsU_initU ["self", "story", "answers"] [(.tup [])]
  b_FactsU_initU_1 : BindD K d_FactsU_initU ["self", "story", "answers"] []
  f_FactsU_lenU : Addr
  d_FactsU_lenU : FuncData
  F_FactsU_lenU : Fun K "__len__" "Facts.__len__" st_FactsU_lenU f_FactsU_lenU d_FactsU_lenU
  b_FactsU_lenU : Binds K d_FactsU_lenU ["self"] []
  f_Facts_fate : Addr
  d_Facts_fate : FuncData
  F_Facts_fate : Fun K "fate" "Facts.fate" st_Facts_fate f_Facts_fate d_Facts_fate
  b_Facts_fate : Binds K d_Facts_fate ["self", "cell", "moment"] []
  f_Facts_window : Addr
  d_Facts_window : FuncData
  F_Facts_window : Fun K "window" "Facts.window" st_Facts_window f_Facts_window d_Facts_window
  b_Facts_window : Binds K d_Facts_window ["self", "cell"] []
  f__law_deck : Addr
  d__law_deck : FuncData
  F__law_deck : Fun K "_law_deck" "_law_deck" st__law_deck f__law_deck d__law_deck
  b__law_deck : Binds K d__law_deck ["_law_script"] []
  g__law_deck : mg "_law_deck" = some (.ref f__law_deck)
  f__law_draw : Addr
  d__law_draw : FuncData
  F__law_draw : Fun K "_law_draw" "_law_draw" st__law_draw f__law_draw d__law_draw
  b__law_draw : Binds K d__law_draw ["_law_deck_here", "_law_many"] []
  g__law_draw : mg "_law_draw" = some (.ref f__law_draw)
  f__law_built : Addr
  d__law_built : FuncData
  F__law_built : Fun K "_law_built" "_law_built" st__law_built f__law_built d__law_built
  b__law_built : Binds K d__law_built ["_law_deck_here", "_law_many", "_law_items"] []
  g__law_built : mg "_law_built" = some (.ref f__law_built)
  f__law_answer : Addr
  d__law_answer : FuncData
  F__law_answer : Fun K "_law_answer" "_law_answer" st__law_answer f__law_answer d__law_answer
  b__law_answer : Binds K d__law_answer ["_law_deck_here", "_law_cell", "_law_moment", "_law_there", "_law_gone"] []
  g__law_answer : mg "_law_answer" = some (.ref f__law_answer)
  f__law_known : Addr
  d__law_known : FuncData
  F__law_known : Fun K "_law_known" "_law_known" st__law_known f__law_known d__law_known
  b__law_known : Binds K d__law_known ["_law_deck_here", "_law_facts", "_law_there", "_law_gone"] []
  g__law_known : mg "_law_known" = some (.ref f__law_known)
  f_law : Addr
  d_law : FuncData
  F_law : Fun K "law" "law" st_law f_law d_law
  b_law : Binds K d_law ["_law_script"] []
  g_law : mg "law" = some (.ref f_law)
  C_Heap : Addr
  cl_Heap : Cls K C_Heap
  gc_Heap : mg "Heap" = some (.ref C_Heap)
  mk_Heap : Mk K C_Heap f_HeapU_initU
  na_Heap_asked_pairs : NoAttr K C_Heap "asked_pairs"
  na_Heap_bounds : NoAttr K C_Heap "bounds"
  na_Heap_first_gone : NoAttr K C_Heap "first_gone"
  na_Heap_holders : NoAttr K C_Heap "holders"
  na_Heap_kept_cells : NoAttr K C_Heap "kept_cells"
  na_Heap_last_there : NoAttr K C_Heap "last_there"
  na_Heap_moments : NoAttr K C_Heap "moments"
  na_Heap_standing : NoAttr K C_Heap "standing"
  na_Heap_story : NoAttr K C_Heap "story"
  na_Heap_strong : NoAttr K C_Heap "strong"
  na_Heap_told : NoAttr K C_Heap "told"
  na_Heap_why_gone : NoAttr K C_Heap "why_gone"
  na_Heap_why_there : NoAttr K C_Heap "why_there"
  mt_Heap_apply : Meth K C_Heap "apply" f_Heap_apply
  mt_Heap_held_lists : Meth K C_Heap "held_lists" f_Heap_held_lists
  mt_Heap_reached_flags : Meth K C_Heap "reached_flags" f_Heap_reached_flags
  C_Bounds : Addr
  cl_Bounds : Cls K C_Bounds
  gc_Bounds : mg "Bounds" = some (.ref C_Bounds)
  mk_Bounds : Mk K C_Bounds f_BoundsU_initU
  na_Bounds_asked_pairs : NoAttr K C_Bounds "asked_pairs"
  na_Bounds_bounds : NoAttr K C_Bounds "bounds"
  na_Bounds_first_gone : NoAttr K C_Bounds "first_gone"
  na_Bounds_holders : NoAttr K C_Bounds "holders"
  na_Bounds_kept_cells : NoAttr K C_Bounds "kept_cells"
  na_Bounds_last_there : NoAttr K C_Bounds "last_there"
  na_Bounds_moments : NoAttr K C_Bounds "moments"
  na_Bounds_standing : NoAttr K C_Bounds "standing"
  na_Bounds_story : NoAttr K C_Bounds "story"
  na_Bounds_strong : NoAttr K C_Bounds "strong"
  na_Bounds_told : NoAttr K C_Bounds "told"
  na_Bounds_why_gone : NoAttr K C_Bounds "why_gone"
  na_Bounds_why_there : NoAttr K C_Bounds "why_there"
  mt_Bounds_chain : Meth K C_Bounds "chain" f_Bounds_chain
  mt_Bounds_clash : Meth K C_Bounds "clash" f_Bounds_clash
  mt_Bounds_copied : Meth K C_Bounds "copied" f_Bounds_copied
  mt_Bounds_keep_gone : Meth K C_Bounds "keep_gone" f_Bounds_keep_gone
  mt_Bounds_keep_there : Meth K C_Bounds "keep_there" f_Bounds_keep_there
  mt_Bounds_take_reached : Meth K C_Bounds "take_reached" f_Bounds_take_reached
  C_Facts : Addr
  cl_Facts : Cls K C_Facts
  gc_Facts : mg "Facts" = some (.ref C_Facts)
  mk_Facts : Mk K C_Facts f_FactsU_initU
  na_Facts_asked_pairs : NoAttr K C_Facts "asked_pairs"
  na_Facts_bounds : NoAttr K C_Facts "bounds"
  na_Facts_first_gone : NoAttr K C_Facts "first_gone"
  na_Facts_holders : NoAttr K C_Facts "holders"
  na_Facts_kept_cells : NoAttr K C_Facts "kept_cells"
  na_Facts_last_there : NoAttr K C_Facts "last_there"
  na_Facts_moments : NoAttr K C_Facts "moments"
  na_Facts_standing : NoAttr K C_Facts "standing"
  na_Facts_story : NoAttr K C_Facts "story"
  na_Facts_strong : NoAttr K C_Facts "strong"
  na_Facts_told : NoAttr K C_Facts "told"
  na_Facts_why_gone : NoAttr K C_Facts "why_gone"
  na_Facts_why_there : NoAttr K C_Facts "why_there"
  mt_Facts_UlenU : LenO K C_Facts f_FactsU_lenU
  mt_Facts_fate : Meth K C_Facts "fate" f_Facts_fate
  mt_Facts_tell : Meth K C_Facts "tell" f_Facts_tell
  mt_Facts_window : Meth K C_Facts "window" f_Facts_window
  n_abs : mg "abs" = none
  n_enumerate : mg "enumerate" = none
  n_int : mg "int" = none
  n_len : mg "len" = none
  n_list : mg "list" = none
  n_max : mg "max" = none
  n_min : mg "min" = none
  n_range : mg "range" = none
  n_repr : mg "repr" = none
  n_str : mg "str" = none
  n_tuple : mg "tuple" = none
def TX.T {K : PySem.W.Frag} {mg : Str → Option Value} (X : TX K mg) (w : World) : Tb := ⟨K, w, [0, 0, 0, X.C_Heap, X.C_Bounds, X.C_Facts], []⟩
theorem TX.fo_asked_pairs {K : PySem.W.Frag} {mg : Str → Option Value} (X : TX K mg) (w : World) : FldOk (X.T w) cs_asked_pairs "asked_pairs" := by
  intro c hc C h
  simp only [cs_asked_pairs, List.mem_cons, List.not_mem_nil, or_false] at hc
  rcases hc with rfl | rfl | rfl
  · cases h
    exact ⟨X.cl_Heap, X.na_Heap_asked_pairs⟩
  · cases h
    exact ⟨X.cl_Bounds, X.na_Bounds_asked_pairs⟩
  · cases h
    exact ⟨X.cl_Facts, X.na_Facts_asked_pairs⟩
theorem TX.fo_bounds {K : PySem.W.Frag} {mg : Str → Option Value} (X : TX K mg) (w : World) : FldOk (X.T w) cs_bounds "bounds" := by
  intro c hc C h
  simp only [cs_bounds, List.mem_cons, List.not_mem_nil, or_false] at hc
  rcases hc with rfl | rfl | rfl
  · cases h
    exact ⟨X.cl_Heap, X.na_Heap_bounds⟩
  · cases h
    exact ⟨X.cl_Bounds, X.na_Bounds_bounds⟩
  · cases h
    exact ⟨X.cl_Facts, X.na_Facts_bounds⟩
theorem TX.fo_first_gone {K : PySem.W.Frag} {mg : Str → Option Value} (X : TX K mg) (w : World) : FldOk (X.T w) cs_first_gone "first_gone" := by
  intro c hc C h
  simp only [cs_first_gone, List.mem_cons, List.not_mem_nil, or_false] at hc
  rcases hc with rfl | rfl | rfl
  · cases h
    exact ⟨X.cl_Heap, X.na_Heap_first_gone⟩
  · cases h
    exact ⟨X.cl_Bounds, X.na_Bounds_first_gone⟩
  · cases h
    exact ⟨X.cl_Facts, X.na_Facts_first_gone⟩
theorem TX.fo_holders {K : PySem.W.Frag} {mg : Str → Option Value} (X : TX K mg) (w : World) : FldOk (X.T w) cs_holders "holders" := by
  intro c hc C h
  simp only [cs_holders, List.mem_cons, List.not_mem_nil, or_false] at hc
  rcases hc with rfl | rfl | rfl
  · cases h
    exact ⟨X.cl_Heap, X.na_Heap_holders⟩
  · cases h
    exact ⟨X.cl_Bounds, X.na_Bounds_holders⟩
  · cases h
    exact ⟨X.cl_Facts, X.na_Facts_holders⟩
theorem TX.fo_kept_cells {K : PySem.W.Frag} {mg : Str → Option Value} (X : TX K mg) (w : World) : FldOk (X.T w) cs_kept_cells "kept_cells" := by
  intro c hc C h
  simp only [cs_kept_cells, List.mem_cons, List.not_mem_nil, or_false] at hc
  rcases hc with rfl | rfl | rfl
  · cases h
    exact ⟨X.cl_Heap, X.na_Heap_kept_cells⟩
  · cases h
    exact ⟨X.cl_Bounds, X.na_Bounds_kept_cells⟩
  · cases h
    exact ⟨X.cl_Facts, X.na_Facts_kept_cells⟩
theorem TX.fo_last_there {K : PySem.W.Frag} {mg : Str → Option Value} (X : TX K mg) (w : World) : FldOk (X.T w) cs_last_there "last_there" := by
  intro c hc C h
  simp only [cs_last_there, List.mem_cons, List.not_mem_nil, or_false] at hc
  rcases hc with rfl | rfl | rfl
  · cases h
    exact ⟨X.cl_Heap, X.na_Heap_last_there⟩
  · cases h
    exact ⟨X.cl_Bounds, X.na_Bounds_last_there⟩
  · cases h
    exact ⟨X.cl_Facts, X.na_Facts_last_there⟩
theorem TX.fo_moments {K : PySem.W.Frag} {mg : Str → Option Value} (X : TX K mg) (w : World) : FldOk (X.T w) cs_moments "moments" := by
  intro c hc C h
  simp only [cs_moments, List.mem_cons, List.not_mem_nil, or_false] at hc
  rcases hc with rfl | rfl | rfl
  · cases h
    exact ⟨X.cl_Heap, X.na_Heap_moments⟩
  · cases h
    exact ⟨X.cl_Bounds, X.na_Bounds_moments⟩
  · cases h
    exact ⟨X.cl_Facts, X.na_Facts_moments⟩
theorem TX.fo_standing {K : PySem.W.Frag} {mg : Str → Option Value} (X : TX K mg) (w : World) : FldOk (X.T w) cs_standing "standing" := by
  intro c hc C h
  simp only [cs_standing, List.mem_cons, List.not_mem_nil, or_false] at hc
  rcases hc with rfl | rfl | rfl
  · cases h
    exact ⟨X.cl_Heap, X.na_Heap_standing⟩
  · cases h
    exact ⟨X.cl_Bounds, X.na_Bounds_standing⟩
  · cases h
    exact ⟨X.cl_Facts, X.na_Facts_standing⟩
theorem TX.fo_story {K : PySem.W.Frag} {mg : Str → Option Value} (X : TX K mg) (w : World) : FldOk (X.T w) cs_story "story" := by
  intro c hc C h
  simp only [cs_story, List.mem_cons, List.not_mem_nil, or_false] at hc
  rcases hc with rfl | rfl | rfl
  · cases h
    exact ⟨X.cl_Heap, X.na_Heap_story⟩
  · cases h
    exact ⟨X.cl_Bounds, X.na_Bounds_story⟩
  · cases h
    exact ⟨X.cl_Facts, X.na_Facts_story⟩
theorem TX.fo_strong {K : PySem.W.Frag} {mg : Str → Option Value} (X : TX K mg) (w : World) : FldOk (X.T w) cs_strong "strong" := by
  intro c hc C h
  simp only [cs_strong, List.mem_cons, List.not_mem_nil, or_false] at hc
  rcases hc with rfl | rfl | rfl
  · cases h
    exact ⟨X.cl_Heap, X.na_Heap_strong⟩
  · cases h
    exact ⟨X.cl_Bounds, X.na_Bounds_strong⟩
  · cases h
    exact ⟨X.cl_Facts, X.na_Facts_strong⟩
theorem TX.fo_told {K : PySem.W.Frag} {mg : Str → Option Value} (X : TX K mg) (w : World) : FldOk (X.T w) cs_told "told" := by
  intro c hc C h
  simp only [cs_told, List.mem_cons, List.not_mem_nil, or_false] at hc
  rcases hc with rfl | rfl | rfl
  · cases h
    exact ⟨X.cl_Heap, X.na_Heap_told⟩
  · cases h
    exact ⟨X.cl_Bounds, X.na_Bounds_told⟩
  · cases h
    exact ⟨X.cl_Facts, X.na_Facts_told⟩
theorem TX.fo_why_gone {K : PySem.W.Frag} {mg : Str → Option Value} (X : TX K mg) (w : World) : FldOk (X.T w) cs_why_gone "why_gone" := by
  intro c hc C h
  simp only [cs_why_gone, List.mem_cons, List.not_mem_nil, or_false] at hc
  rcases hc with rfl | rfl | rfl
  · cases h
    exact ⟨X.cl_Heap, X.na_Heap_why_gone⟩
  · cases h
    exact ⟨X.cl_Bounds, X.na_Bounds_why_gone⟩
  · cases h
    exact ⟨X.cl_Facts, X.na_Facts_why_gone⟩
theorem TX.fo_why_there {K : PySem.W.Frag} {mg : Str → Option Value} (X : TX K mg) (w : World) : FldOk (X.T w) cs_why_there "why_there" := by
  intro c hc C h
  simp only [cs_why_there, List.mem_cons, List.not_mem_nil, or_false] at hc
  rcases hc with rfl | rfl | rfl
  · cases h
    exact ⟨X.cl_Heap, X.na_Heap_why_there⟩
  · cases h
    exact ⟨X.cl_Bounds, X.na_Bounds_why_there⟩
  · cases h
    exact ⟨X.cl_Facts, X.na_Facts_why_there⟩
/-! each def computes its pure function -/
theorem sc_HeapU_initU : FnScope ["self"] ["self"] (defScope st_HeapU_initU) := ⟨rfl, rfl, rfl, by decide +kernel, rfl, by decide +kernel, by decide +kernel⟩
theorem sim_HeapU_initU {P : Program} {w : World} {K : PySem.W.Frag} {mg : Str → Option Value} {base : Heap} (X : TX K mg) : FnG P w K mg base 1 X.f_HeapU_initU X.d_HeapU_initU ["self"] (SpM (X.T w) 1 m_HeapU_initU) := by
  refine fn_sim (k := 0) (N := ["self"]) (T := X.T w) (b := b_HeapU_initU) X.F_HeapU_initU sc_HeapU_initU rfl fun cdv A outer s H E hr hg => ?_
  have tk := takes_of (X := cxOf (L2.CX P w) P w K mg base ["self"] "Heap.__init__" (defScope st_HeapU_initU) X.f_HeapU_initU cdv A outer s H E) (E := E) rfl rfl rfl rfl
  unfold b_HeapU_initU
  exact (cs_cons (cs_fld (X.fo_standing w) (ce_var 0) ce_dict0)
  (cs_cons (cs_fld (X.fo_kept_cells w) (ce_var 0) ce_dict0)
  (cs_one (cs_fld (X.fo_strong w) (ce_var 0) (ce_lst ca_nil)))))
theorem sc_Heap_apply : FnScope ["self", "item", "event"] ["self", "item"] (defScope st_Heap_apply) := ⟨rfl, rfl, rfl, by decide +kernel, rfl, by decide +kernel, by decide +kernel⟩
theorem sim_Heap_apply {P : Program} {w : World} {K : PySem.W.Frag} {mg : Str → Option Value} {base : Heap} (X : TX K mg) : FnG P w K mg base 1 X.f_Heap_apply X.d_Heap_apply ["self", "item"] (SpM (X.T w) 2 m_Heap_apply) := by
  refine fn_sim (k := 0) (N := ["self", "item", "event"]) (T := X.T w) (b := b_Heap_apply) X.F_Heap_apply sc_Heap_apply rfl fun cdv A outer s H E hr hg => ?_
  have tk := takes_of (X := cxOf (L2.CX P w) P w K mg base ["self", "item", "event"] "Heap.apply" (defScope st_Heap_apply) X.f_Heap_apply cdv A outer s H E) (E := E) rfl rfl rfl rfl
  unfold b_Heap_apply
  exact (cs_one (cs_forX (passes_of rfl) rfl (ci_tup (ce_var 1)) (cg_name (n := 2) sc_Heap_apply.nd rfl (by first | exact Or.inl rfl | exact Or.inr rfl))
  (cs_one (cs_if (ct_cmp (o_eq hr.units) (ce_ix (o_ix (hu_of hr)) (ce_var 2) ce_int) ce_str) (cs_one (cs_expr (ce_bm (t := .list) PySem.F.plainAttrs_list PySem.F.slot_list_append PySem.F.type_list_append m_append (ce_fld (X.fo_strong w) (ce_var 0)) (ca_cons ce_dict0 ca_nil)))) (cs_one (cs_if (ct_cmp (o_eq hr.units) (ce_ix (o_ix (hu_of hr)) (ce_var 2) ce_int) ce_str) (cs_one (cs_asg (ce_ix (o_ix (hu_of hr)) (ce_var 2) ce_int) (cg_sub (ce_fld (X.fo_standing w) (ce_var 0)) (ce_ix (o_ix (hu_of hr)) (ce_var 2) ce_int) (p_set (hu_of hr)) (pg_sub (ce_fld (X.fo_standing w) (ce_var 0)) (ce_ix (o_ix (hu_of hr)) (ce_var 2) ce_int) (p_set (hu_of hr)))))) (cs_one (cs_if (ct_cmp (o_eq hr.units) (ce_ix (o_ix (hu_of hr)) (ce_var 2) ce_int) ce_str) (cs_one (cs_asg (ce_ix (o_ix (hu_of hr)) (ce_var 2) ce_int) (cg_sub (ce_ix (o_ix (hu_of hr)) (ce_fld (X.fo_strong w) (ce_var 0)) (ce_ix (o_ix (hu_of hr)) (ce_var 2) ce_int)) (ce_ix (o_ix (hu_of hr)) (ce_var 2) ce_int) (p_set (hu_of hr)) (pg_sub (ce_ix (o_ix (hu_of hr)) (ce_fld (X.fo_strong w) (ce_var 0)) (ce_ix (o_ix (hu_of hr)) (ce_var 2) ce_int)) (ce_ix (o_ix (hu_of hr)) (ce_var 2) ce_int) (p_set (hu_of hr)))))) (cs_one (cs_if (ct_cmp (o_eq hr.units) (ce_ix (o_ix (hu_of hr)) (ce_var 2) ce_int) ce_str) (cs_one (cs_asg ce_bl (cg_sub (ce_fld (X.fo_kept_cells w) (ce_var 0)) (ce_ix (o_ix (hu_of hr)) (ce_var 2) ce_int) (p_set (hu_of hr)) (pg_sub (ce_fld (X.fo_kept_cells w) (ce_var 0)) (ce_ix (o_ix (hu_of hr)) (ce_var 2) ce_int) (p_set (hu_of hr)))))) cs_nil))))))))))
theorem mo_apply {P : Program} {w : World} {K : PySem.W.Frag} {mg : Str → Option Value} {base : Heap} (X : TX K mg) : ∀ c mf, tab_apply c = some mf → ∀ C, (X.T w).cl[c]? = some C → ∃ (f : Addr) (fd : FuncData) (ps : List Str), Cls (X.T w).K C ∧ Meth (X.T w).K C "apply" f ∧ FnG P w K mg base 1 f fd ps (SpM (X.T w) (1 + 1) mf) ∧ Binds K fd ps [] := by
  intro c mf h C hC
  unfold tab_apply at h
  split at h
  · cases h
    cases hC
    exact ⟨_, _, _, X.cl_Heap, X.mt_Heap_apply, (sim_Heap_apply X).mono (by decide), X.b_Heap_apply⟩
  · cases h
theorem sc_Heap_held_lists : FnScope ["self", "row", "cell"] ["self"] (defScope st_Heap_held_lists) := ⟨rfl, rfl, rfl, by decide +kernel, rfl, by decide +kernel, by decide +kernel⟩
theorem sim_Heap_held_lists {P : Program} {w : World} {K : PySem.W.Frag} {mg : Str → Option Value} {base : Heap} (X : TX K mg) : FnG P w K mg base 1 X.f_Heap_held_lists X.d_Heap_held_lists ["self"] (SpM (X.T w) 1 m_Heap_held_lists) := by
  refine fn_sim (k := 0) (N := ["self", "row", "cell"]) (T := X.T w) (b := b_Heap_held_lists) X.F_Heap_held_lists sc_Heap_held_lists rfl fun cdv A outer s H E hr hg => ?_
  have tk := takes_of (X := cxOf (L2.CX P w) P w K mg base ["self", "row", "cell"] "Heap.held_lists" (defScope st_Heap_held_lists) X.f_Heap_held_lists cdv A outer s H E) (E := E) rfl rfl rfl rfl
  unfold b_Heap_held_lists
  exact (cs_one (cs_ret (ce_lc (own := [("row", 1)]) 100000 rfl sc_Heap_held_lists.nd (ci_lst (ce_fld (X.fo_strong w) (ce_var 0))) (blkOk_by (by kernel_rfl)) (tg_name (List.mem_cons_self ..)) (fun _ _ _ _ _ => pg_name (i := 1) sc_Heap_held_lists.nd rfl (Or.inl rfl)) (fun _ _ _ _ _ => cts_nil) (fun _ _ _ _ _ => (ce_lock (ce_lc (own := [("cell", 2)]) 100000 rfl sc_Heap_held_lists.nd (ci_vals (ce_var 1)) (blkOk_by (by kernel_rfl)) (tg_name (List.mem_cons_self ..)) (fun _ _ _ _ _ => pg_name (i := 2) sc_Heap_held_lists.nd rfl (Or.inl rfl)) (fun _ _ _ _ _ => (cts_one (ct_cmp o_notN (ce_var 2) ce_non))) (fun _ _ _ _ _ => (ce_var 2))))))))
theorem mo_held_lists {P : Program} {w : World} {K : PySem.W.Frag} {mg : Str → Option Value} {base : Heap} (X : TX K mg) : ∀ c mf, tab_held_lists c = some mf → ∀ C, (X.T w).cl[c]? = some C → ∃ (f : Addr) (fd : FuncData) (ps : List Str), Cls (X.T w).K C ∧ Meth (X.T w).K C "held_lists" f ∧ FnG P w K mg base 1 f fd ps (SpM (X.T w) (0 + 1) mf) ∧ Binds K fd ps [] := by
  intro c mf h C hC
  unfold tab_held_lists at h
  split at h
  · cases h
    cases hC
    exact ⟨_, _, _, X.cl_Heap, X.mt_Heap_held_lists, (sim_Heap_held_lists X).mono (by decide), X.b_Heap_held_lists⟩
  · cases h
theorem sc_Heap_reached_flags : FnScope ["self", "held", "found", "waiting", "cell"] ["self", "held"] (defScope st_Heap_reached_flags) := ⟨rfl, rfl, rfl, by decide +kernel, rfl, by decide +kernel, by decide +kernel⟩
theorem sim_Heap_reached_flags {P : Program} {w : World} {K : PySem.W.Frag} {mg : Str → Option Value} {base : Heap} (X : TX K mg) : FnG P w K mg base 1 X.f_Heap_reached_flags X.d_Heap_reached_flags ["self", "held"] (SpM (X.T w) 2 m_Heap_reached_flags) := by
  refine fn_sim (k := 0) (N := ["self", "held", "found", "waiting", "cell"]) (T := X.T w) (b := b_Heap_reached_flags) X.F_Heap_reached_flags sc_Heap_reached_flags rfl fun cdv A outer s H E hr hg => ?_
  have tk := takes_of (X := cxOf (L2.CX P w) P w K mg base ["self", "held", "found", "waiting", "cell"] "Heap.reached_flags" (defScope st_Heap_reached_flags) X.f_Heap_reached_flags cdv A outer s H E) (E := E) rfl rfl rfl rfl
  unfold b_Heap_reached_flags
  exact (cs_cons (cs_set (i := 2) sc_Heap_reached_flags.nd rfl (by first | exact Or.inl rfl | exact Or.inr rfl) (ce_op o_mul (ce_lst (ca_cons ce_bl ca_nil)) (ce_callB (c_len) rfl X.n_len (by decide +kernel) (ca_cons (ce_var 1) ca_nil))))
  (cs_cons (cs_set (i := 3) sc_Heap_reached_flags.nd rfl (by first | exact Or.inl rfl | exact Or.inr rfl) (ce_op o_add (ce_lock (ce_lc (own := [("cell", 4)]) 100000 rfl sc_Heap_reached_flags.nd (ci_vals (ce_fld (X.fo_standing w) (ce_var 0))) (blkOk_by (by kernel_rfl)) (tg_name (List.mem_cons_self ..)) (fun _ _ _ _ _ => pg_name (i := 4) sc_Heap_reached_flags.nd rfl (Or.inl rfl)) (fun _ _ _ _ _ => (cts_one (ct_cmp o_notN (ce_var 4) ce_non))) (fun _ _ _ _ _ => (ce_var 4)))) (ce_callTy (c_list) rfl X.n_list (by decide +kernel) (ca_cons (ce_fld (X.fo_kept_cells w) (ce_var 0)) ca_nil))))
  (cs_cons (cs_while 100000 (passes_of rfl) (ct_cmp (o_ne hr.units) (ce_var 3) (ce_lst ca_nil)) (cs_cons (cs_set (i := 4) sc_Heap_reached_flags.nd rfl (by first | exact Or.inl rfl | exact Or.inr rfl) (ce_bm0 (t := .list) PySem.F.plainAttrs_list PySem.F.slot_list_pop PySem.F.type_list_pop m_pop (ce_var 3)))
  (cs_one (cs_if (ct_not (ct_val (ce_ix (o_ix (hu_of hr)) (ce_var 2) (ce_var 4)))) (cs_cons (cs_asg ce_bl (cg_sub (ce_var 2) (ce_var 4) (p_set (hu_of hr)) (pg_sub (ce_var 2) (ce_var 4) (p_set (hu_of hr)))))
  (cs_one (cs_expr (ce_bm (t := .list) PySem.F.plainAttrs_list PySem.F.slot_list_extend PySem.F.type_list_extend m_extend (ce_var 3) (ca_cons (ce_ix (o_ix (hu_of hr)) (ce_var 1) (ce_var 4)) ca_nil))))) cs_nil))))
  (cs_one (cs_ret (ce_var 2))))))
theorem mo_reached_flags {P : Program} {w : World} {K : PySem.W.Frag} {mg : Str → Option Value} {base : Heap} (X : TX K mg) : ∀ c mf, tab_reached_flags c = some mf → ∀ C, (X.T w).cl[c]? = some C → ∃ (f : Addr) (fd : FuncData) (ps : List Str), Cls (X.T w).K C ∧ Meth (X.T w).K C "reached_flags" f ∧ FnG P w K mg base 1 f fd ps (SpM (X.T w) (1 + 1) mf) ∧ Binds K fd ps [] := by
  intro c mf h C hC
  unfold tab_reached_flags at h
  split at h
  · cases h
    cases hC
    exact ⟨_, _, _, X.cl_Heap, X.mt_Heap_reached_flags, (sim_Heap_reached_flags X).mono (by decide), X.b_Heap_reached_flags⟩
  · cases h
theorem sc_holders_of : FnScope ["held", "found", "holder", "row", "cell"] ["held"] (defScope st_holders_of) := ⟨rfl, rfl, rfl, by decide +kernel, rfl, by decide +kernel, by decide +kernel⟩
theorem sim_holders_of {P : Program} {w : World} {K : PySem.W.Frag} {mg : Str → Option Value} {base : Heap} (X : TX K mg) : FnG P w K mg base 1 X.f_holders_of X.d_holders_of ["held"] (SpM (X.T w) 1 m_holders_of) := by
  refine fn_sim (k := 0) (N := ["held", "found", "holder", "row", "cell"]) (T := X.T w) (b := b_holders_of) X.F_holders_of sc_holders_of rfl fun cdv A outer s H E hr hg => ?_
  have tk := takes_of (X := cxOf (L2.CX P w) P w K mg base ["held", "found", "holder", "row", "cell"] "holders_of" (defScope st_holders_of) X.f_holders_of cdv A outer s H E) (E := E) rfl rfl rfl rfl
  unfold b_holders_of
  exact (cs_cons (cs_setLc (i := 1) (own := [("row", 3)]) 100000 rfl sc_holders_of.nd rfl rfl (sw_true rfl rfl rfl (by kernel_rfl)) (ci_lst (ce_var 0)) (blkOk_by (by kernel_rfl)) (tg_name (List.mem_cons_self ..)) (fun _ _ _ _ _ => pg_name (i := 3) sc_holders_of.nd rfl (Or.inl rfl)) (fun _ _ _ _ _ => cts_nil) (fun _ _ _ _ _ => (ce_lst ca_nil)))
  (cs_cons (cs_for 100000 (passes_of rfl) rfl (ci_enm rfl X.n_enumerate (ca_cons (ce_var 0) ca_nil)) (cg_tup (js := [2, 3]) (pg_tup rfl (pgs_cons (pg_name (i := 2) sc_holders_of.nd rfl (by first | exact Or.inl rfl | exact Or.inr rfl)) (pgs_cons (pg_name (i := 3) sc_holders_of.nd rfl (by first | exact Or.inl rfl | exact Or.inr rfl)) pgs_nil))))
  (cs_one (cs_for 100000 (passes_of rfl) rfl (ci_lst (ce_var 3)) (cg_name (n := 4) sc_holders_of.nd rfl (by first | exact Or.inl rfl | exact Or.inr rfl))
  (cs_one (cs_expr (ce_bm (t := .list) PySem.F.plainAttrs_list PySem.F.slot_list_append PySem.F.type_list_append m_append (ce_ix (o_ix (hu_of hr)) (ce_var 1) (ce_var 4)) (ca_cons (ce_var 2) ca_nil)))))))
  (cs_one (cs_ret (ce_var 1)))))
theorem sc_moments_of : FnScope ["story", "heap", "found", "item", "held"] ["story"] (defScope st_moments_of) := ⟨rfl, rfl, rfl, by decide +kernel, rfl, by decide +kernel, by decide +kernel⟩
theorem sim_moments_of {P : Program} {w : World} {K : PySem.W.Frag} {mg : Str → Option Value} {base : Heap} (X : TX K mg) : FnG P w K mg base 3 X.f_moments_of X.d_moments_of ["story"] (SpM (X.T w) 1 m_moments_of) := by
  refine fn_sim (k := 2) (N := ["story", "heap", "found", "item", "held"]) (T := X.T w) (b := b_moments_of) X.F_moments_of sc_moments_of rfl fun cdv A outer s H E hr hg => ?_
  have tk := takes_of (X := cxOf (L2.CX P w) P w K mg base ["story", "heap", "found", "item", "held"] "moments_of" (defScope st_moments_of) X.f_moments_of cdv A outer s H E) (E := E) rfl rfl rfl rfl
  unfold b_moments_of
  exact (cs_cons (cs_set (i := 1) sc_moments_of.nd rfl (by first | exact Or.inl rfl | exact Or.inr rfl) (ce_make0 X.mk_Heap (sim_HeapU_initU X) (hr.mono (by decide)) hg rfl X.gc_Heap X.b_HeapU_initU tk rfl))
  (cs_cons (cs_set (i := 2) sc_moments_of.nd rfl (by first | exact Or.inl rfl | exact Or.inr rfl) (ce_lst ca_nil))
  (cs_cons (cs_forX (passes_of rfl) rfl (ci_tup (ce_var 0)) (cg_name (n := 3) sc_moments_of.nd rfl (by first | exact Or.inl rfl | exact Or.inr rfl))
  (cs_cons (cs_set (i := 4) sc_moments_of.nd rfl (by first | exact Or.inl rfl | exact Or.inr rfl) (ce_meth0 (mo_held_lists X) (hr.mono (by decide)) hg tk (ce_var 1)))
  (cs_cons (cs_expr (ce_bm (t := .list) PySem.F.plainAttrs_list PySem.F.slot_list_append PySem.F.type_list_append m_append (ce_var 2) (ca_cons (ce_tup (ca_cons (ce_var 4) (ca_cons (ce_meth (mo_reached_flags X) (hr.mono (by decide)) hg tk (ce_var 1) (ca_cons (ce_var 4) ca_nil)) ca_nil))) ca_nil)))
  (cs_one (cs_expr (ce_meth (mo_apply X) (hr.mono (by decide)) hg tk (ce_var 1) (ca_cons (ce_var 3) ca_nil)))))))
  (cs_one (cs_ret (ce_var 2))))))
theorem sc_questions_of : FnScope ["story", "found", "moment", "item", "event"] ["story"] (defScope st_questions_of) := ⟨rfl, rfl, rfl, by decide +kernel, rfl, by decide +kernel, by decide +kernel⟩
theorem sim_questions_of {P : Program} {w : World} {K : PySem.W.Frag} {mg : Str → Option Value} {base : Heap} (X : TX K mg) : FnG P w K mg base 1 X.f_questions_of X.d_questions_of ["story"] (SpM (X.T w) 1 m_questions_of) := by
  refine fn_sim (k := 0) (N := ["story", "found", "moment", "item", "event"]) (T := X.T w) (b := b_questions_of) X.F_questions_of sc_questions_of rfl fun cdv A outer s H E hr hg => ?_
  have tk := takes_of (X := cxOf (L2.CX P w) P w K mg base ["story", "found", "moment", "item", "event"] "questions_of" (defScope st_questions_of) X.f_questions_of cdv A outer s H E) (E := E) rfl rfl rfl rfl
  unfold b_questions_of
  exact (cs_cons (cs_set (i := 1) sc_questions_of.nd rfl (by first | exact Or.inl rfl | exact Or.inr rfl) (ce_lst ca_nil))
  (cs_cons (cs_forX (passes_of rfl) rfl (ci_enmT rfl X.n_enumerate (ca_cons (ce_var 0) ca_nil)) (cg_tup (js := [2, 3]) (pg_tup rfl (pgs_cons (pg_name (i := 2) sc_questions_of.nd rfl (by first | exact Or.inl rfl | exact Or.inr rfl)) (pgs_cons (pg_name (i := 3) sc_questions_of.nd rfl (by first | exact Or.inl rfl | exact Or.inr rfl)) pgs_nil))))
  (cs_one (cs_expr (ce_bm (t := .list) PySem.F.plainAttrs_list PySem.F.slot_list_extend PySem.F.type_list_extend m_extend (ce_var 1) (ca_cons (ce_lcX (own := [("event", 4)]) rfl sc_questions_of.nd (ci_tup (ce_var 3)) (blkOk_by (by kernel_rfl)) (tg_name (List.mem_cons_self ..)) (fun _ _ _ _ _ => pg_name (i := 4) sc_questions_of.nd rfl (Or.inl rfl)) (fun _ _ _ _ _ => (cts_one (ct_cmp (o_eq hr.units) (ce_ix (o_ix (hu_of hr)) (ce_var 4) ce_int) ce_str))) (fun _ _ _ _ _ => (ce_tup (ca_cons (ce_var 2) (ca_cons (ce_ix (o_ix (hu_of hr)) (ce_var 4) ce_int) ca_nil))))) ca_nil)))))
  (cs_one (cs_ret (ce_var 1)))))
theorem sc_BoundsU_initU : FnScope ["self", "moments", "holders", "many"] ["self", "moments", "holders"] (defScope st_BoundsU_initU) := ⟨rfl, rfl, rfl, by decide +kernel, rfl, by decide +kernel, by decide +kernel⟩
theorem sim_BoundsU_initU {P : Program} {w : World} {K : PySem.W.Frag} {mg : Str → Option Value} {base : Heap} (X : TX K mg) : FnG P w K mg base 1 X.f_BoundsU_initU X.d_BoundsU_initU ["self", "moments", "holders"] (SpM (X.T w) 3 m_BoundsU_initU) := by
  refine fn_sim (k := 0) (N := ["self", "moments", "holders", "many"]) (T := X.T w) (b := b_BoundsU_initU) X.F_BoundsU_initU sc_BoundsU_initU rfl fun cdv A outer s H E hr hg => ?_
  have tk := takes_of (X := cxOf (L2.CX P w) P w K mg base ["self", "moments", "holders", "many"] "Bounds.__init__" (defScope st_BoundsU_initU) X.f_BoundsU_initU cdv A outer s H E) (E := E) rfl rfl rfl rfl
  unfold b_BoundsU_initU
  exact (cs_cons (cs_fld (X.fo_moments w) (ce_var 0) (ce_var 1))
  (cs_cons (cs_fld (X.fo_holders w) (ce_var 0) (ce_var 2))
  (cs_cons (cs_set (i := 3) sc_BoundsU_initU.nd rfl (by first | exact Or.inl rfl | exact Or.inr rfl) (ce_if (ct_cmp (o_ne hr.units) (ce_var 1) (ce_lst ca_nil)) (ce_callB (c_len) rfl X.n_len (by decide +kernel) (ca_cons (ce_ix (o_ix (hu_of hr)) (ce_ix (o_ix (hu_of hr)) (ce_var 1) (ce_un o_neg ce_int)) ce_int) ca_nil)) ce_int))
  (cs_cons (cs_fld (X.fo_last_there w) (ce_var 0) (ce_op o_mul (ce_lst (ca_cons (ce_un o_neg ce_int) ca_nil)) (ce_var 3)))
  (cs_cons (cs_fld (X.fo_first_gone w) (ce_var 0) (ce_op o_mul (ce_lst (ca_cons (ce_callB (c_len) rfl X.n_len (by decide +kernel) (ca_cons (ce_var 1) ca_nil)) ca_nil)) (ce_var 3)))
  (cs_cons (cs_fld (X.fo_why_there w) (ce_var 0) (ce_op o_mul (ce_lst (ca_cons ce_non ca_nil)) (ce_var 3)))
  (cs_one (cs_fld (X.fo_why_gone w) (ce_var 0) (ce_op o_mul (ce_lst (ca_cons ce_non ca_nil)) (ce_var 3))))))))))
theorem sc_Bounds_copied : FnScope ["self", "found"] ["self"] (defScope st_Bounds_copied) := ⟨rfl, rfl, rfl, by decide +kernel, rfl, by decide +kernel, by decide +kernel⟩
theorem sim_Bounds_copied {P : Program} {w : World} {K : PySem.W.Frag} {mg : Str → Option Value} {base : Heap} (X : TX K mg) : FnG P w K mg base 3 X.f_Bounds_copied X.d_Bounds_copied ["self"] (SpM (X.T w) 1 m_Bounds_copied) := by
  refine fn_sim (k := 2) (N := ["self", "found"]) (T := X.T w) (b := b_Bounds_copied) X.F_Bounds_copied sc_Bounds_copied rfl fun cdv A outer s H E hr hg => ?_
  have tk := takes_of (X := cxOf (L2.CX P w) P w K mg base ["self", "found"] "Bounds.copied" (defScope st_Bounds_copied) X.f_Bounds_copied cdv A outer s H E) (E := E) rfl rfl rfl rfl
  unfold b_Bounds_copied
  exact (cs_cons (cs_set (i := 1) sc_Bounds_copied.nd rfl (by first | exact Or.inl rfl | exact Or.inr rfl) (ce_make X.mk_Bounds (sim_BoundsU_initU X) (hr.mono (by decide)) hg rfl X.gc_Bounds X.b_BoundsU_initU tk rfl (ca_cons (ce_fld (X.fo_moments w) (ce_var 0)) (ca_cons (ce_fld (X.fo_holders w) (ce_var 0)) ca_nil))))
  (cs_cons (cs_fld (X.fo_last_there w) (ce_var 1) (ce_callTy (c_list) rfl X.n_list (by decide +kernel) (ca_cons (ce_fld (X.fo_last_there w) (ce_var 0)) ca_nil)))
  (cs_cons (cs_fld (X.fo_first_gone w) (ce_var 1) (ce_callTy (c_list) rfl X.n_list (by decide +kernel) (ca_cons (ce_fld (X.fo_first_gone w) (ce_var 0)) ca_nil)))
  (cs_cons (cs_fld (X.fo_why_there w) (ce_var 1) (ce_callTy (c_list) rfl X.n_list (by decide +kernel) (ca_cons (ce_fld (X.fo_why_there w) (ce_var 0)) ca_nil)))
  (cs_cons (cs_fld (X.fo_why_gone w) (ce_var 1) (ce_callTy (c_list) rfl X.n_list (by decide +kernel) (ca_cons (ce_fld (X.fo_why_gone w) (ce_var 0)) ca_nil)))
  (cs_one (cs_ret (ce_var 1))))))))
theorem mo_copied {P : Program} {w : World} {K : PySem.W.Frag} {mg : Str → Option Value} {base : Heap} (X : TX K mg) : ∀ c mf, tab_copied c = some mf → ∀ C, (X.T w).cl[c]? = some C → ∃ (f : Addr) (fd : FuncData) (ps : List Str), Cls (X.T w).K C ∧ Meth (X.T w).K C "copied" f ∧ FnG P w K mg base 3 f fd ps (SpM (X.T w) (0 + 1) mf) ∧ Binds K fd ps [] := by
  intro c mf h C hC
  unfold tab_copied at h
  split at h
  · cases h
    cases hC
    exact ⟨_, _, _, X.cl_Bounds, X.mt_Bounds_copied, (sim_Bounds_copied X).mono (by decide), X.b_Bounds_copied⟩
  · cases h
theorem sc_Bounds_keep_there : FnScope ["self", "cell", "moment", "why", "waiting", "before", "here", "when", "reason", "other", "one"] ["self", "cell", "moment", "why"] (defScope st_Bounds_keep_there) := ⟨rfl, rfl, rfl, by decide +kernel, rfl, by decide +kernel, by decide +kernel⟩
theorem sim_Bounds_keep_there {P : Program} {w : World} {K : PySem.W.Frag} {mg : Str → Option Value} {base : Heap} (X : TX K mg) : FnG P w K mg base 1 X.f_Bounds_keep_there X.d_Bounds_keep_there ["self", "cell", "moment", "why"] (SpM (X.T w) 4 m_Bounds_keep_there) := by
  refine fn_sim (k := 0) (N := ["self", "cell", "moment", "why", "waiting", "before", "here", "when", "reason", "other", "one"]) (T := X.T w) (b := b_Bounds_keep_there) X.F_Bounds_keep_there sc_Bounds_keep_there rfl fun cdv A outer s H E hr hg => ?_
  have tk := takes_of (X := cxOf (L2.CX P w) P w K mg base ["self", "cell", "moment", "why", "waiting", "before", "here", "when", "reason", "other", "one"] "Bounds.keep_there" (defScope st_Bounds_keep_there) X.f_Bounds_keep_there cdv A outer s H E) (E := E) rfl rfl rfl rfl
  unfold b_Bounds_keep_there
  exact (cs_cons (cs_set (i := 4) sc_Bounds_keep_there.nd rfl (by first | exact Or.inl rfl | exact Or.inr rfl) (ce_lst (ca_cons (ce_tup (ca_cons (ce_var 1) (ca_cons (ce_var 2) (ca_cons (ce_var 3) ca_nil)))) ca_nil)))
  (cs_one (cs_while 100000 (passes_of rfl) (ct_cmp (o_ne hr.units) (ce_var 4) (ce_lst ca_nil)) (cs_cons (cs_asg (ce_bm0 (t := .list) PySem.F.plainAttrs_list PySem.F.slot_list_pop PySem.F.type_list_pop m_pop (ce_var 4)) (cg_tup (js := [6, 7, 8]) (pg_tup rfl (pgs_cons (pg_name (i := 6) sc_Bounds_keep_there.nd rfl (by first | exact Or.inl rfl | exact Or.inr rfl)) (pgs_cons (pg_name (i := 7) sc_Bounds_keep_there.nd rfl (by first | exact Or.inl rfl | exact Or.inr rfl)) (pgs_cons (pg_name (i := 8) sc_Bounds_keep_there.nd rfl (by first | exact Or.inl rfl | exact Or.inr rfl)) pgs_nil))))))
  (cs_cons (cs_set (i := 5) sc_Bounds_keep_there.nd rfl (by first | exact Or.inl rfl | exact Or.inr rfl) (ce_ix (o_ix (hu_of hr)) (ce_fld (X.fo_last_there w) (ce_var 0)) (ce_var 6)))
  (cs_one (cs_if (ct_cmp o_gt (ce_var 7) (ce_var 5)) (cs_cons (cs_asg (ce_var 7) (cg_sub (ce_fld (X.fo_last_there w) (ce_var 0)) (ce_var 6) (p_set (hu_of hr)) (pg_sub (ce_fld (X.fo_last_there w) (ce_var 0)) (ce_var 6) (p_set (hu_of hr)))))
  (cs_cons (cs_asg (ce_var 8) (cg_sub (ce_fld (X.fo_why_there w) (ce_var 0)) (ce_var 6) (p_set (hu_of hr)) (pg_sub (ce_fld (X.fo_why_there w) (ce_var 0)) (ce_var 6) (p_set (hu_of hr)))))
  (cs_one (cs_forX (passes_of rfl) rfl (ci_rng2 rfl X.n_range (ca_cons (ce_op o_add (ce_var 5) ce_int) (ca_cons (ce_op o_add (ce_var 7) ce_int) ca_nil))) (cg_name (n := 9) sc_Bounds_keep_there.nd rfl (by first | exact Or.inl rfl | exact Or.inr rfl))
  (cs_one (cs_if (ct_cmp o_lt (ce_var 6) (ce_callB (c_len) rfl X.n_len (by decide +kernel) (ca_cons (ce_ix (o_ix (hu_of hr)) (ce_ix (o_ix (hu_of hr)) (ce_fld (X.fo_moments w) (ce_var 0)) (ce_var 9)) ce_int) ca_nil))) (cs_one (cs_expr (ce_bm (t := .list) PySem.F.plainAttrs_list PySem.F.slot_list_extend PySem.F.type_list_extend m_extend (ce_var 4) (ca_cons (ce_lc (own := [("one", 10)]) 100000 rfl sc_Bounds_keep_there.nd (ci_lst (ce_ix (o_ix (hu_of hr)) (ce_ix (o_ix (hu_of hr)) (ce_ix (o_ix (hu_of hr)) (ce_fld (X.fo_moments w) (ce_var 0)) (ce_var 9)) ce_int) (ce_var 6))) (blkOk_by (by kernel_rfl)) (tg_name (List.mem_cons_self ..)) (fun _ _ _ _ _ => pg_name (i := 10) sc_Bounds_keep_there.nd rfl (Or.inl rfl)) (fun _ _ _ _ _ => cts_nil) (fun _ _ _ _ _ => (ce_tup (ca_cons (ce_var 10) (ca_cons (ce_var 9) (ca_cons (ce_tup (ca_cons ce_str (ca_cons (ce_var 6) ca_nil))) ca_nil)))))) ca_nil)))) cs_nil)))))) cs_nil)))))))
theorem mo_keep_there {P : Program} {w : World} {K : PySem.W.Frag} {mg : Str → Option Value} {base : Heap} (X : TX K mg) : ∀ c mf, tab_keep_there c = some mf → ∀ C, (X.T w).cl[c]? = some C → ∃ (f : Addr) (fd : FuncData) (ps : List Str), Cls (X.T w).K C ∧ Meth (X.T w).K C "keep_there" f ∧ FnG P w K mg base 1 f fd ps (SpM (X.T w) (3 + 1) mf) ∧ Binds K fd ps [] := by
  intro c mf h C hC
  unfold tab_keep_there at h
  split at h
  · cases h
    cases hC
    exact ⟨_, _, _, X.cl_Bounds, X.mt_Bounds_keep_there, (sim_Bounds_keep_there X).mono (by decide), X.b_Bounds_keep_there⟩
  · cases h
theorem sc_Bounds_keep_gone : FnScope ["self", "cell", "moment", "why", "waiting", "before", "here", "when", "reason", "other", "holder"] ["self", "cell", "moment", "why"] (defScope st_Bounds_keep_gone) := ⟨rfl, rfl, rfl, by decide +kernel, rfl, by decide +kernel, by decide +kernel⟩
theorem sim_Bounds_keep_gone {P : Program} {w : World} {K : PySem.W.Frag} {mg : Str → Option Value} {base : Heap} (X : TX K mg) : FnG P w K mg base 1 X.f_Bounds_keep_gone X.d_Bounds_keep_gone ["self", "cell", "moment", "why"] (SpM (X.T w) 4 m_Bounds_keep_gone) := by
  refine fn_sim (k := 0) (N := ["self", "cell", "moment", "why", "waiting", "before", "here", "when", "reason", "other", "holder"]) (T := X.T w) (b := b_Bounds_keep_gone) X.F_Bounds_keep_gone sc_Bounds_keep_gone rfl fun cdv A outer s H E hr hg => ?_
  have tk := takes_of (X := cxOf (L2.CX P w) P w K mg base ["self", "cell", "moment", "why", "waiting", "before", "here", "when", "reason", "other", "holder"] "Bounds.keep_gone" (defScope st_Bounds_keep_gone) X.f_Bounds_keep_gone cdv A outer s H E) (E := E) rfl rfl rfl rfl
  unfold b_Bounds_keep_gone
  exact (cs_cons (cs_set (i := 4) sc_Bounds_keep_gone.nd rfl (by first | exact Or.inl rfl | exact Or.inr rfl) (ce_lst (ca_cons (ce_tup (ca_cons (ce_var 1) (ca_cons (ce_var 2) (ca_cons (ce_var 3) ca_nil)))) ca_nil)))
  (cs_one (cs_while 100000 (passes_of rfl) (ct_cmp (o_ne hr.units) (ce_var 4) (ce_lst ca_nil)) (cs_cons (cs_asg (ce_bm0 (t := .list) PySem.F.plainAttrs_list PySem.F.slot_list_pop PySem.F.type_list_pop m_pop (ce_var 4)) (cg_tup (js := [6, 7, 8]) (pg_tup rfl (pgs_cons (pg_name (i := 6) sc_Bounds_keep_gone.nd rfl (by first | exact Or.inl rfl | exact Or.inr rfl)) (pgs_cons (pg_name (i := 7) sc_Bounds_keep_gone.nd rfl (by first | exact Or.inl rfl | exact Or.inr rfl)) (pgs_cons (pg_name (i := 8) sc_Bounds_keep_gone.nd rfl (by first | exact Or.inl rfl | exact Or.inr rfl)) pgs_nil))))))
  (cs_cons (cs_set (i := 5) sc_Bounds_keep_gone.nd rfl (by first | exact Or.inl rfl | exact Or.inr rfl) (ce_ix (o_ix (hu_of hr)) (ce_fld (X.fo_first_gone w) (ce_var 0)) (ce_var 6)))
  (cs_one (cs_if (ct_cmp o_lt (ce_var 7) (ce_var 5)) (cs_cons (cs_asg (ce_var 7) (cg_sub (ce_fld (X.fo_first_gone w) (ce_var 0)) (ce_var 6) (p_set (hu_of hr)) (pg_sub (ce_fld (X.fo_first_gone w) (ce_var 0)) (ce_var 6) (p_set (hu_of hr)))))
  (cs_cons (cs_asg (ce_var 8) (cg_sub (ce_fld (X.fo_why_gone w) (ce_var 0)) (ce_var 6) (p_set (hu_of hr)) (pg_sub (ce_fld (X.fo_why_gone w) (ce_var 0)) (ce_var 6) (p_set (hu_of hr)))))
  (cs_one (cs_forX (passes_of rfl) rfl (ci_rng2 rfl X.n_range (ca_cons (ce_var 7) (ca_cons (ce_var 5) ca_nil))) (cg_name (n := 9) sc_Bounds_keep_gone.nd rfl (by first | exact Or.inl rfl | exact Or.inr rfl))
  (cs_one (cs_expr (ce_bm (t := .list) PySem.F.plainAttrs_list PySem.F.slot_list_extend PySem.F.type_list_extend m_extend (ce_var 4) (ca_cons (ce_lc (own := [("holder", 10)]) 100000 rfl sc_Bounds_keep_gone.nd (ci_lst (ce_ix (o_ix (hu_of hr)) (ce_ix (o_ix (hu_of hr)) (ce_fld (X.fo_holders w) (ce_var 0)) (ce_var 9)) (ce_var 6))) (blkOk_by (by kernel_rfl)) (tg_name (List.mem_cons_self ..)) (fun _ _ _ _ _ => pg_name (i := 10) sc_Bounds_keep_gone.nd rfl (Or.inl rfl)) (fun _ _ _ _ _ => cts_nil) (fun _ _ _ _ _ => (ce_tup (ca_cons (ce_var 10) (ca_cons (ce_var 9) (ca_cons (ce_tup (ca_cons ce_str (ca_cons (ce_var 6) ca_nil))) ca_nil)))))) ca_nil)))))))) cs_nil)))))))
theorem mo_keep_gone {P : Program} {w : World} {K : PySem.W.Frag} {mg : Str → Option Value} {base : Heap} (X : TX K mg) : ∀ c mf, tab_keep_gone c = some mf → ∀ C, (X.T w).cl[c]? = some C → ∃ (f : Addr) (fd : FuncData) (ps : List Str), Cls (X.T w).K C ∧ Meth (X.T w).K C "keep_gone" f ∧ FnG P w K mg base 1 f fd ps (SpM (X.T w) (3 + 1) mf) ∧ Binds K fd ps [] := by
  intro c mf h C hC
  unfold tab_keep_gone at h
  split at h
  · cases h
    cases hC
    exact ⟨_, _, _, X.cl_Bounds, X.mt_Bounds_keep_gone, (sim_Bounds_keep_gone X).mono (by decide), X.b_Bounds_keep_gone⟩
  · cases h
theorem sc_Bounds_take_reached : FnScope ["self", "moment", "held", "flags", "cell", "truth"] ["self"] (defScope st_Bounds_take_reached) := ⟨rfl, rfl, rfl, by decide +kernel, rfl, by decide +kernel, by decide +kernel⟩
theorem sim_Bounds_take_reached {P : Program} {w : World} {K : PySem.W.Frag} {mg : Str → Option Value} {base : Heap} (X : TX K mg) : FnG P w K mg base 2 X.f_Bounds_take_reached X.d_Bounds_take_reached ["self"] (SpM (X.T w) 1 m_Bounds_take_reached) := by
  refine fn_sim (k := 1) (N := ["self", "moment", "held", "flags", "cell", "truth"]) (T := X.T w) (b := b_Bounds_take_reached) X.F_Bounds_take_reached sc_Bounds_take_reached rfl fun cdv A outer s H E hr hg => ?_
  have tk := takes_of (X := cxOf (L2.CX P w) P w K mg base ["self", "moment", "held", "flags", "cell", "truth"] "Bounds.take_reached" (defScope st_Bounds_take_reached) X.f_Bounds_take_reached cdv A outer s H E) (E := E) rfl rfl rfl rfl
  unfold b_Bounds_take_reached
  exact (cs_one (cs_for 100000 (passes_of rfl) rfl (ci_enm rfl X.n_enumerate (ca_cons (ce_fld (X.fo_moments w) (ce_var 0)) ca_nil)) (cg_tups (cgs_cons (W := WF) (cg_name (n := 1) sc_Bounds_take_reached.nd rfl (by first | exact Or.inl rfl | exact Or.inr rfl)) (cgs_cons (W := WF) (cg_tup (js := [2, 3]) (pg_tup rfl (pgs_cons (pg_name (i := 2) sc_Bounds_take_reached.nd rfl (by first | exact Or.inl rfl | exact Or.inr rfl)) (pgs_cons (pg_name (i := 3) sc_Bounds_take_reached.nd rfl (by first | exact Or.inl rfl | exact Or.inr rfl)) pgs_nil)))) cgs_nil)))
  (cs_one (cs_for 100000 (passes_of rfl) rfl (ci_enm rfl X.n_enumerate (ca_cons (ce_var 3) ca_nil)) (cg_tup (js := [4, 5]) (pg_tup rfl (pgs_cons (pg_name (i := 4) sc_Bounds_take_reached.nd rfl (by first | exact Or.inl rfl | exact Or.inr rfl)) (pgs_cons (pg_name (i := 5) sc_Bounds_take_reached.nd rfl (by first | exact Or.inl rfl | exact Or.inr rfl)) pgs_nil))))
  (cs_one (cs_if (ct_val (ce_var 5)) (cs_one (cs_expr (ce_meth (mo_keep_there X) (hr.mono (by decide)) hg tk (ce_var 0) (ca_cons (ce_var 4) (ca_cons (ce_var 1) (ca_cons (ce_tup (ca_cons ce_str ca_nil)) ca_nil)))))) cs_nil))))))
theorem mo_take_reached {P : Program} {w : World} {K : PySem.W.Frag} {mg : Str → Option Value} {base : Heap} (X : TX K mg) : ∀ c mf, tab_take_reached c = some mf → ∀ C, (X.T w).cl[c]? = some C → ∃ (f : Addr) (fd : FuncData) (ps : List Str), Cls (X.T w).K C ∧ Meth (X.T w).K C "take_reached" f ∧ FnG P w K mg base 2 f fd ps (SpM (X.T w) (0 + 1) mf) ∧ Binds K fd ps [] := by
  intro c mf h C hC
  unfold tab_take_reached at h
  split at h
  · cases h
    cases hC
    exact ⟨_, _, _, X.cl_Bounds, X.mt_Bounds_take_reached, (sim_Bounds_take_reached X).mono (by decide), X.b_Bounds_take_reached⟩
  · cases h
theorem sc_numbered : FnScope ["rows", "first", "found", "at", "cell", "moment", "state", "why"] ["rows", "first"] (defScope st_numbered) := ⟨rfl, rfl, rfl, by decide +kernel, rfl, by decide +kernel, by decide +kernel⟩
theorem sim_numbered {P : Program} {w : World} {K : PySem.W.Frag} {mg : Str → Option Value} {base : Heap} (X : TX K mg) : FnG P w K mg base 1 X.f_numbered X.d_numbered ["rows", "first"] (SpM (X.T w) 2 m_numbered) := by
  refine fn_sim (k := 0) (N := ["rows", "first", "found", "at", "cell", "moment", "state", "why"]) (T := X.T w) (b := b_numbered) X.F_numbered sc_numbered rfl fun cdv A outer s H E hr hg => ?_
  have tk := takes_of (X := cxOf (L2.CX P w) P w K mg base ["rows", "first", "found", "at", "cell", "moment", "state", "why"] "numbered" (defScope st_numbered) X.f_numbered cdv A outer s H E) (E := E) rfl rfl rfl rfl
  unfold b_numbered
  exact (cs_cons (cs_set (i := 2) sc_numbered.nd rfl (by first | exact Or.inl rfl | exact Or.inr rfl) (ce_lst ca_nil))
  (cs_cons (cs_for 100000 (passes_of rfl) rfl (ci_enm rfl X.n_enumerate (ca_cons (ce_var 0) ca_nil)) (cg_tups (cgs_cons (W := WF) (cg_name (n := 3) sc_numbered.nd rfl (by first | exact Or.inl rfl | exact Or.inr rfl)) (cgs_cons (W := WF) (cg_tup (js := [4, 5, 6, 7]) (pg_tup rfl (pgs_cons (pg_name (i := 4) sc_numbered.nd rfl (by first | exact Or.inl rfl | exact Or.inr rfl)) (pgs_cons (pg_name (i := 5) sc_numbered.nd rfl (by first | exact Or.inl rfl | exact Or.inr rfl)) (pgs_cons (pg_name (i := 6) sc_numbered.nd rfl (by first | exact Or.inl rfl | exact Or.inr rfl)) (pgs_cons (pg_name (i := 7) sc_numbered.nd rfl (by first | exact Or.inl rfl | exact Or.inr rfl)) pgs_nil)))))) cgs_nil)))
  (cs_one (cs_expr (ce_bm (t := .list) PySem.F.plainAttrs_list PySem.F.slot_list_append PySem.F.type_list_append m_append (ce_var 2) (ca_cons (ce_tup (ca_cons (ce_var 4) (ca_cons (ce_var 5) (ca_cons (ce_var 6) (ca_cons (ce_if (ct_cmp (o_eq hr.units) (ce_var 3) ce_int) (ce_var 7) (ce_tup (ca_cons (ce_var 7) (ca_cons (ce_op o_sub (ce_op o_add (ce_var 1) (ce_var 3)) ce_int) ca_nil)))) ca_nil))))) ca_nil)))))
  (cs_one (cs_ret (ce_callTy (c_tuple) rfl X.n_tuple (by decide +kernel) (ca_cons (ce_var 2) ca_nil))))))
theorem sc_Bounds_chain : FnScope ["self", "cell", "moment", "state", "first", "found", "is_open", "edge", "why"] ["self", "cell", "moment", "state", "first"] (defScope st_Bounds_chain) := ⟨rfl, rfl, rfl, by decide +kernel, rfl, by decide +kernel, by decide +kernel⟩
theorem sim_Bounds_chain {P : Program} {w : World} {K : PySem.W.Frag} {mg : Str → Option Value} {base : Heap} (X : TX K mg) : FnG P w K mg base 2 X.f_Bounds_chain X.d_Bounds_chain ["self", "cell", "moment", "state", "first"] (SpM (X.T w) 5 m_Bounds_chain) := by
  refine fn_sim (k := 1) (N := ["self", "cell", "moment", "state", "first", "found", "is_open", "edge", "why"]) (T := X.T w) (b := b_Bounds_chain) X.F_Bounds_chain sc_Bounds_chain rfl fun cdv A outer s H E hr hg => ?_
  have tk := takes_of (X := cxOf (L2.CX P w) P w K mg base ["self", "cell", "moment", "state", "first", "found", "is_open", "edge", "why"] "Bounds.chain" (defScope st_Bounds_chain) X.f_Bounds_chain cdv A outer s H E) (E := E) rfl rfl rfl rfl
  unfold b_Bounds_chain
  exact (cs_cons (cs_set (i := 5) sc_Bounds_chain.nd rfl (by first | exact Or.inl rfl | exact Or.inr rfl) (ce_lst ca_nil))
  (cs_cons (cs_set (i := 6) sc_Bounds_chain.nd rfl (by first | exact Or.inl rfl | exact Or.inr rfl) ce_bl)
  (cs_cons (cs_while 100000 (passes_of rfl) (ct_val (ce_var 6)) (cs_cons (cs_set (i := 7) sc_Bounds_chain.nd rfl (by first | exact Or.inl rfl | exact Or.inr rfl) (ce_if (ct_cmp (o_eq hr.units) (ce_var 3) ce_str) (ce_ix (o_ix (hu_of hr)) (ce_fld (X.fo_last_there w) (ce_var 0)) (ce_var 1)) (ce_ix (o_ix (hu_of hr)) (ce_fld (X.fo_first_gone w) (ce_var 0)) (ce_var 1))))
  (cs_cons (cs_set (i := 8) sc_Bounds_chain.nd rfl (by first | exact Or.inl rfl | exact Or.inr rfl) (ce_if (ct_cmp (o_eq hr.units) (ce_var 3) ce_str) (ce_ix (o_ix (hu_of hr)) (ce_fld (X.fo_why_there w) (ce_var 0)) (ce_var 1)) (ce_ix (o_ix (hu_of hr)) (ce_fld (X.fo_why_gone w) (ce_var 0)) (ce_var 1))))
  (cs_one (cs_if (ct_cmp (o_ne hr.units) (ce_var 2) (ce_var 7)) (cs_cons (cs_expr (ce_bm (t := .list) PySem.F.plainAttrs_list PySem.F.slot_list_append PySem.F.type_list_append m_append (ce_var 5) (ca_cons (ce_tup (ca_cons (ce_var 1) (ca_cons (ce_var 2) (ca_cons (ce_var 3) (ca_cons (ce_if (ct_cmp (o_eq hr.units) (ce_var 3) ce_str) ce_str ce_str) ca_nil))))) ca_nil)))
  (cs_one (cs_set (i := 2) sc_Bounds_chain.nd rfl (by first | exact Or.inl rfl | exact Or.inr rfl) (ce_var 7)))) (cs_one (cs_if (ct_cmp (o_in (hu_of hr)) (ce_ix (o_ix (hu_of hr)) (ce_var 8) ce_int) (ce_tup (ca_cons ce_str (ca_cons ce_str ca_nil)))) (cs_cons (cs_expr (ce_bm (t := .list) PySem.F.plainAttrs_list PySem.F.slot_list_append PySem.F.type_list_append m_append (ce_var 5) (ca_cons (ce_tup (ca_cons (ce_var 1) (ca_cons (ce_var 2) (ca_cons (ce_var 3) (ca_cons (ce_ix (o_ix (hu_of hr)) (ce_var 8) ce_int) ca_nil))))) ca_nil)))
  (cs_one (cs_set (i := 1) sc_Bounds_chain.nd rfl (by first | exact Or.inl rfl | exact Or.inr rfl) (ce_ix (o_ix (hu_of hr)) (ce_var 8) ce_int)))) (cs_cons (cs_expr (ce_bm (t := .list) PySem.F.plainAttrs_list PySem.F.slot_list_append PySem.F.type_list_append m_append (ce_var 5) (ca_cons (ce_tup (ca_cons (ce_var 1) (ca_cons (ce_var 2) (ca_cons (ce_var 3) (ca_cons (ce_var 8) ca_nil))))) ca_nil)))
  (cs_one (cs_set (i := 6) sc_Bounds_chain.nd rfl (by first | exact Or.inl rfl | exact Or.inr rfl) ce_bl))))))))))
  (cs_one (cs_ret (ce_call (sim_numbered X) (hr.mono (by decide)) hg rfl X.g_numbered X.F_numbered.kp X.b_numbered tk (ca_cons ce_fail (ca_cons (ce_var 4) ca_nil))))))))
theorem mo_chain {P : Program} {w : World} {K : PySem.W.Frag} {mg : Str → Option Value} {base : Heap} (X : TX K mg) : ∀ c mf, tab_chain c = some mf → ∀ C, (X.T w).cl[c]? = some C → ∃ (f : Addr) (fd : FuncData) (ps : List Str), Cls (X.T w).K C ∧ Meth (X.T w).K C "chain" f ∧ FnG P w K mg base 2 f fd ps (SpM (X.T w) (4 + 1) mf) ∧ Binds K fd ps [] := by
  intro c mf h C hC
  unfold tab_chain at h
  split at h
  · cases h
    cases hC
    exact ⟨_, _, _, X.cl_Bounds, X.mt_Bounds_chain, (sim_Bounds_chain X).mono (by decide), X.b_Bounds_chain⟩
  · cases h
theorem sc_Bounds_clash : FnScope ["self", "cell", "moment", "rows"] ["self"] (defScope st_Bounds_clash) := ⟨rfl, rfl, rfl, by decide +kernel, rfl, by decide +kernel, by decide +kernel⟩
theorem sim_Bounds_clash {P : Program} {w : World} {K : PySem.W.Frag} {mg : Str → Option Value} {base : Heap} (X : TX K mg) : FnG P w K mg base 3 X.f_Bounds_clash X.d_Bounds_clash ["self"] (SpM (X.T w) 1 m_Bounds_clash) := by
  refine fn_sim (k := 2) (N := ["self", "cell", "moment", "rows"]) (T := X.T w) (b := b_Bounds_clash) X.F_Bounds_clash sc_Bounds_clash rfl fun cdv A outer s H E hr hg => ?_
  have tk := takes_of (X := cxOf (L2.CX P w) P w K mg base ["self", "cell", "moment", "rows"] "Bounds.clash" (defScope st_Bounds_clash) X.f_Bounds_clash cdv A outer s H E) (E := E) rfl rfl rfl rfl
  unfold b_Bounds_clash
  exact (cs_cons (cs_for 100000 (passes_of rfl) rfl (ci_enm rfl X.n_enumerate (ca_cons (ce_fld (X.fo_first_gone w) (ce_var 0)) ca_nil)) (cg_tup (js := [1, 2]) (pg_tup rfl (pgs_cons (pg_name (i := 1) sc_Bounds_clash.nd rfl (by first | exact Or.inl rfl | exact Or.inr rfl)) (pgs_cons (pg_name (i := 2) sc_Bounds_clash.nd rfl (by first | exact Or.inl rfl | exact Or.inr rfl)) pgs_nil))))
  (cs_one (cs_if (ct_cmp o_le (ce_var 2) (ce_ix (o_ix (hu_of hr)) (ce_fld (X.fo_last_there w) (ce_var 0)) (ce_var 1))) (cs_cons (cs_set (i := 3) sc_Bounds_clash.nd rfl (by first | exact Or.inl rfl | exact Or.inr rfl) (ce_meth (mo_chain X) (hr.mono (by decide)) hg tk (ce_var 0) (ca_cons (ce_var 1) (ca_cons (ce_var 2) (ca_cons ce_str (ca_cons ce_int ca_nil))))))
  (cs_one (cs_ret (ce_op o_add (ce_var 3) (ce_meth (mo_chain X) (hr.mono (by decide)) hg tk (ce_var 0) (ca_cons (ce_var 1) (ca_cons (ce_var 2) (ca_cons ce_str (ca_cons (ce_callB (c_len) rfl X.n_len (by decide +kernel) (ca_cons (ce_var 3) ca_nil)) ca_nil))))))))) cs_nil)))
  (cs_one (cs_ret ce_non)))
theorem mo_clash {P : Program} {w : World} {K : PySem.W.Frag} {mg : Str → Option Value} {base : Heap} (X : TX K mg) : ∀ c mf, tab_clash c = some mf → ∀ C, (X.T w).cl[c]? = some C → ∃ (f : Addr) (fd : FuncData) (ps : List Str), Cls (X.T w).K C ∧ Meth (X.T w).K C "clash" f ∧ FnG P w K mg base 3 f fd ps (SpM (X.T w) (0 + 1) mf) ∧ Binds K fd ps [] := by
  intro c mf h C hC
  unfold tab_clash at h
  split at h
  · cases h
    cases hC
    exact ⟨_, _, _, X.cl_Bounds, X.mt_Bounds_clash, (sim_Bounds_clash X).mono (by decide), X.b_Bounds_clash⟩
  · cases h
theorem sc_Facts_tell : FnScope ["self", "answer", "number", "bounds", "steps", "moment", "cell"] ["self", "answer"] (defScope st_Facts_tell) := ⟨rfl, rfl, rfl, by decide +kernel, rfl, by decide +kernel, by decide +kernel⟩
theorem sim_Facts_tell {P : Program} {w : World} {K : PySem.W.Frag} {mg : Str → Option Value} {base : Heap} (X : TX K mg) : FnG P w K mg base 4 X.f_Facts_tell X.d_Facts_tell ["self", "answer"] (SpM (X.T w) 2 m_Facts_tell) := by
  refine fn_sim (k := 3) (N := ["self", "answer", "number", "bounds", "steps", "moment", "cell"]) (T := X.T w) (b := b_Facts_tell) X.F_Facts_tell sc_Facts_tell rfl fun cdv A outer s H E hr hg => ?_
  have tk := takes_of (X := cxOf (L2.CX P w) P w K mg base ["self", "answer", "number", "bounds", "steps", "moment", "cell"] "Facts.tell" (defScope st_Facts_tell) X.f_Facts_tell cdv A outer s H E) (E := E) rfl rfl rfl rfl
  unfold b_Facts_tell
  exact (cs_cons (cs_set (i := 2) sc_Facts_tell.nd rfl (by first | exact Or.inl rfl | exact Or.inr rfl) (ce_callB (c_len) rfl X.n_len (by decide +kernel) (ca_cons (ce_fld (X.fo_told w) (ce_var 0)) ca_nil)))
  (cs_cons (cs_if (ct_cmp o_ge (ce_var 2) (ce_callB (c_len) rfl X.n_len (by decide +kernel) (ca_cons (ce_fld (X.fo_asked_pairs w) (ce_var 0)) ca_nil))) (cs_one cs_fail) cs_nil)
  (cs_cons (cs_asg (ce_ix (o_ix (hu_of hr)) (ce_fld (X.fo_asked_pairs w) (ce_var 0)) (ce_var 2)) (cg_tup (js := [5, 6]) (pg_tup rfl (pgs_cons (pg_name (i := 5) sc_Facts_tell.nd rfl (by first | exact Or.inl rfl | exact Or.inr rfl)) (pgs_cons (pg_name (i := 6) sc_Facts_tell.nd rfl (by first | exact Or.inl rfl | exact Or.inr rfl)) pgs_nil)))))
  (cs_cons (cs_set (i := 3) sc_Facts_tell.nd rfl (by first | exact Or.inl rfl | exact Or.inr rfl) (ce_meth0 (mo_copied X) (hr.mono (by decide)) hg tk (ce_fld (X.fo_bounds w) (ce_var 0))))
  (cs_cons (cs_if (ct_cmp (o_eq hr.units) (ce_var 1) ce_int) (cs_one (cs_expr (ce_meth (mo_keep_gone X) (hr.mono (by decide)) hg tk (ce_var 3) (ca_cons (ce_var 6) (ca_cons (ce_var 5) (ca_cons (ce_tup (ca_cons ce_str (ca_cons (ce_var 2) ca_nil))) ca_nil)))))) (cs_one (cs_expr (ce_meth (mo_keep_there X) (hr.mono (by decide)) hg tk (ce_var 3) (ca_cons (ce_var 6) (ca_cons (ce_var 5) (ca_cons (ce_tup (ca_cons ce_str (ca_cons (ce_var 2) ca_nil))) ca_nil)))))))
  (cs_cons (cs_set (i := 4) sc_Facts_tell.nd rfl (by first | exact Or.inl rfl | exact Or.inr rfl) (ce_meth0 (mo_clash X) (hr.mono (by decide)) hg tk (ce_var 3)))
  (cs_cons (cs_if (ct_cmp o_notN (ce_var 4) ce_non) (cs_one cs_fail) cs_nil)
  (cs_cons (cs_fld (X.fo_bounds w) (ce_var 0) (ce_var 3))
  (cs_cons (cs_fld (X.fo_told w) (ce_var 0) (ce_op o_add (ce_fld (X.fo_told w) (ce_var 0)) (ce_tup (ca_cons (ce_var 1) ca_nil))))
  (cs_one (cs_ret (ce_callB (c_len) rfl X.n_len (by decide +kernel) (ca_cons (ce_fld (X.fo_told w) (ce_var 0)) ca_nil)))))))))))))
theorem mo_tell {P : Program} {w : World} {K : PySem.W.Frag} {mg : Str → Option Value} {base : Heap} (X : TX K mg) : ∀ c mf, tab_tell c = some mf → ∀ C, (X.T w).cl[c]? = some C → ∃ (f : Addr) (fd : FuncData) (ps : List Str), Cls (X.T w).K C ∧ Meth (X.T w).K C "tell" f ∧ FnG P w K mg base 4 f fd ps (SpM (X.T w) (1 + 1) mf) ∧ Binds K fd ps [] := by
  intro c mf h C hC
  unfold tab_tell at h
  split at h
  · cases h
    cases hC
    exact ⟨_, _, _, X.cl_Facts, X.mt_Facts_tell, (sim_Facts_tell X).mono (by decide), X.b_Facts_tell⟩
  · cases h
theorem sc_FactsU_initU : FnScope ["self", "story", "answers", "moments", "answer", "held", "flags"] ["self", "story", "answers"] (defScope st_FactsU_initU) := ⟨rfl, rfl, rfl, by decide +kernel, rfl, by decide +kernel, by decide +kernel⟩
theorem sim_FactsU_initU {P : Program} {w : World} {K : PySem.W.Frag} {mg : Str → Option Value} {base : Heap} (X : TX K mg) : FnG P w K mg base 5 X.f_FactsU_initU X.d_FactsU_initU ["self", "story", "answers"] (SpM (X.T w) 3 m_FactsU_initU) := by
  refine fn_simD (k := 4) (N := ["self", "story", "answers", "moments", "answer", "held", "flags"]) (T := X.T w) (b := b_FactsU_initU) X.F_FactsU_initU sc_FactsU_initU rfl fun cdv A outer s H E hr hg => ?_
  have tk := takes_of (X := cxOf (L2.CX P w) P w K mg base ["self", "story", "answers", "moments", "answer", "held", "flags"] "Facts.__init__" (defScope st_FactsU_initU) X.f_FactsU_initU cdv A outer s H E) (E := E) rfl rfl rfl rfl
  unfold b_FactsU_initU
  exact (cs_cons (cs_fld (X.fo_story w) (ce_var 0) (ce_var 1))
  (cs_cons (cs_fld (X.fo_told w) (ce_var 0) (ce_tup ca_nil))
  (cs_cons (cs_fld (X.fo_asked_pairs w) (ce_var 0) (ce_call (sim_questions_of X) (hr.mono (by decide)) hg rfl X.g_questions_of X.F_questions_of.kp X.b_questions_of tk (ca_cons (ce_var 1) ca_nil)))
  (cs_cons (cs_set (i := 3) sc_FactsU_initU.nd rfl (by first | exact Or.inl rfl | exact Or.inr rfl) (ce_call (sim_moments_of X) (hr.mono (by decide)) hg rfl X.g_moments_of X.F_moments_of.kp X.b_moments_of tk (ca_cons (ce_var 1) ca_nil)))
  (cs_cons (cs_fld (X.fo_bounds w) (ce_var 0) (ce_make X.mk_Bounds (sim_BoundsU_initU X) (hr.mono (by decide)) hg rfl X.gc_Bounds X.b_BoundsU_initU tk rfl (ca_cons (ce_var 3) (ca_cons (ce_lc (own := [("held", 5), ("flags", 6)]) 100000 rfl sc_FactsU_initU.nd (ci_lst (ce_var 3)) (blkOk_by (by kernel_rfl)) (tg_tup (js := [5, 6]) (by decide) rfl) (fun _ _ _ _ _ => pg_tup rfl (pgs_cons (pg_name (i := 5) sc_FactsU_initU.nd rfl (Or.inl rfl)) (pgs_cons (pg_name (i := 6) sc_FactsU_initU.nd rfl (Or.inl rfl)) pgs_nil))) (fun _ _ _ _ _ => cts_nil) (fun _ _ _ _ _ => (ce_call (sim_holders_of X) (hr.mono (by decide)) hg rfl X.g_holders_of X.F_holders_of.kp X.b_holders_of takes0 (ca_cons (ce_var 5) ca_nil)))) ca_nil))))
  (cs_cons (cs_expr (ce_meth0 (mo_take_reached X) (hr.mono (by decide)) hg tk (ce_fld (X.fo_bounds w) (ce_var 0))))
  (cs_one (cs_forX (passes_of rfl) rfl (ci_tup (ce_var 2)) (cg_name (n := 4) sc_FactsU_initU.nd rfl (by first | exact Or.inl rfl | exact Or.inr rfl))
  (cs_one (cs_expr (ce_meth (mo_tell X) (hr.mono (by decide)) hg tk (ce_var 0) (ca_cons (ce_var 4) ca_nil))))))))))))
theorem sc_FactsU_lenU : FnScope ["self"] ["self"] (defScope st_FactsU_lenU) := ⟨rfl, rfl, rfl, by decide +kernel, rfl, by decide +kernel, by decide +kernel⟩
theorem sim_FactsU_lenU {P : Program} {w : World} {K : PySem.W.Frag} {mg : Str → Option Value} {base : Heap} (X : TX K mg) : FnG P w K mg base 1 X.f_FactsU_lenU X.d_FactsU_lenU ["self"] (SpM (X.T w) 1 m_FactsU_lenU) := by
  refine fn_sim (k := 0) (N := ["self"]) (T := X.T w) (b := b_FactsU_lenU) X.F_FactsU_lenU sc_FactsU_lenU rfl fun cdv A outer s H E hr hg => ?_
  have tk := takes_of (X := cxOf (L2.CX P w) P w K mg base ["self"] "Facts.__len__" (defScope st_FactsU_lenU) X.f_FactsU_lenU cdv A outer s H E) (E := E) rfl rfl rfl rfl
  unfold b_FactsU_lenU
  exact (cs_one (cs_ret (ce_callB (c_len) rfl X.n_len (by decide +kernel) (ca_cons (ce_slice o_sl (ce_fld (X.fo_asked_pairs w) (ce_var 0)) (co_some (ce_callB (c_len) rfl X.n_len (by decide +kernel) (ca_cons (ce_fld (X.fo_told w) (ce_var 0)) ca_nil))) co_none) ca_nil))))
theorem mo_UlenU {P : Program} {w : World} {K : PySem.W.Frag} {mg : Str → Option Value} {base : Heap} (X : TX K mg) : ∀ c mf, tab_UlenU c = some mf → ∀ C, (X.T w).cl[c]? = some C → ∃ (f : Addr) (fd : FuncData) (ps : List Str), LenO (X.T w).K C f ∧ FnG P w K mg base 1 f fd ps (SpM (X.T w) 1 mf) ∧ Binds K fd ps [] := by
  intro c mf h C hC
  unfold tab_UlenU at h
  split at h
  · cases h
    cases hC
    exact ⟨_, _, _, X.mt_Facts_UlenU, (sim_FactsU_lenU X).mono (by decide), X.b_FactsU_lenU⟩
  · cases h
theorem sc_Facts_fate : FnScope ["self", "cell", "moment"] ["self", "cell", "moment"] (defScope st_Facts_fate) := ⟨rfl, rfl, rfl, by decide +kernel, rfl, by decide +kernel, by decide +kernel⟩
theorem sim_Facts_fate {P : Program} {w : World} {K : PySem.W.Frag} {mg : Str → Option Value} {base : Heap} (X : TX K mg) : FnG P w K mg base 1 X.f_Facts_fate X.d_Facts_fate ["self", "cell", "moment"] (SpM (X.T w) 3 m_Facts_fate) := by
  refine fn_sim (k := 0) (N := ["self", "cell", "moment"]) (T := X.T w) (b := b_Facts_fate) X.F_Facts_fate sc_Facts_fate rfl fun cdv A outer s H E hr hg => ?_
  have tk := takes_of (X := cxOf (L2.CX P w) P w K mg base ["self", "cell", "moment"] "Facts.fate" (defScope st_Facts_fate) X.f_Facts_fate cdv A outer s H E) (E := E) rfl rfl rfl rfl
  unfold b_Facts_fate
  exact (cs_cons (cs_if (ct_cmp o_le (ce_var 2) (ce_ix (o_ix (hu_of hr)) (ce_fld (X.fo_last_there w) (ce_fld (X.fo_bounds w) (ce_var 0))) (ce_var 1))) (cs_one (cs_ret ce_str)) cs_nil)
  (cs_one (cs_ret (ce_if (ct_cmp o_ge (ce_var 2) (ce_ix (o_ix (hu_of hr)) (ce_fld (X.fo_first_gone w) (ce_fld (X.fo_bounds w) (ce_var 0))) (ce_var 1))) ce_str ce_str))))
theorem mo_fate {P : Program} {w : World} {K : PySem.W.Frag} {mg : Str → Option Value} {base : Heap} (X : TX K mg) : ∀ c mf, tab_fate c = some mf → ∀ C, (X.T w).cl[c]? = some C → ∃ (f : Addr) (fd : FuncData) (ps : List Str), Cls (X.T w).K C ∧ Meth (X.T w).K C "fate" f ∧ FnG P w K mg base 1 f fd ps (SpM (X.T w) (2 + 1) mf) ∧ Binds K fd ps [] := by
  intro c mf h C hC
  unfold tab_fate at h
  split at h
  · cases h
    cases hC
    exact ⟨_, _, _, X.cl_Facts, X.mt_Facts_fate, (sim_Facts_fate X).mono (by decide), X.b_Facts_fate⟩
  · cases h
theorem sc_Facts_window : FnScope ["self", "cell", "moments", "first", "last"] ["self", "cell"] (defScope st_Facts_window) := ⟨rfl, rfl, rfl, by decide +kernel, rfl, by decide +kernel, by decide +kernel⟩
theorem sim_Facts_window {P : Program} {w : World} {K : PySem.W.Frag} {mg : Str → Option Value} {base : Heap} (X : TX K mg) : FnG P w K mg base 1 X.f_Facts_window X.d_Facts_window ["self", "cell"] (SpM (X.T w) 2 m_Facts_window) := by
  refine fn_sim (k := 0) (N := ["self", "cell", "moments", "first", "last"]) (T := X.T w) (b := b_Facts_window) X.F_Facts_window sc_Facts_window rfl fun cdv A outer s H E hr hg => ?_
  have tk := takes_of (X := cxOf (L2.CX P w) P w K mg base ["self", "cell", "moments", "first", "last"] "Facts.window" (defScope st_Facts_window) X.f_Facts_window cdv A outer s H E) (E := E) rfl rfl rfl rfl
  unfold b_Facts_window
  exact (cs_cons (cs_set (i := 2) sc_Facts_window.nd rfl (by first | exact Or.inl rfl | exact Or.inr rfl) (ce_fld (X.fo_moments w) (ce_fld (X.fo_bounds w) (ce_var 0))))
  (cs_cons (cs_if (PW.pt (cw_or (ct_cmp (o_eq hr.units) (ce_var 2) (ce_lst ca_nil)) (cw_or1 (ct_cmp o_ge (ce_var 1) (ce_callB (c_len) rfl X.n_len (by decide +kernel) (ca_cons (ce_ix (o_ix (hu_of hr)) (ce_ix (o_ix (hu_of hr)) (ce_var 2) (ce_un o_neg ce_int)) ce_int) ca_nil)))))) (cs_one (cs_ret (ce_tup (ca_cons ce_non (ca_cons ce_non ca_nil))))) cs_nil)
  (cs_cons (cs_set (i := 3) sc_Facts_window.nd rfl (by first | exact Or.inl rfl | exact Or.inr rfl) (ce_op o_add (ce_ix (o_ix (hu_of hr)) (ce_fld (X.fo_last_there w) (ce_fld (X.fo_bounds w) (ce_var 0))) (ce_var 1)) ce_int))
  (cs_cons (cs_while 100000 (passes_of rfl) (PW.pt (cw_and (ct_cmp o_lt (ce_var 3) (ce_callB (c_len) rfl X.n_len (by decide +kernel) (ca_cons (ce_var 2) ca_nil))) (cw_and1 (ct_cmp o_ge (ce_var 1) (ce_callB (c_len) rfl X.n_len (by decide +kernel) (ca_cons (ce_ix (o_ix (hu_of hr)) (ce_ix (o_ix (hu_of hr)) (ce_var 2) (ce_var 3)) ce_int) ca_nil)))))) (cs_one (cs_aug (i := 3) sc_Facts_window.nd rfl (by first | exact Or.inl rfl | exact Or.inr rfl) io_add ce_int)))
  (cs_cons (cs_set (i := 4) sc_Facts_window.nd rfl (by first | exact Or.inl rfl | exact Or.inr rfl) (ce_ix (o_ix (hu_of hr)) (ce_fld (X.fo_first_gone w) (ce_fld (X.fo_bounds w) (ce_var 0))) (ce_var 1)))
  (cs_one (cs_ret (ce_tup (ca_cons (ce_if (ct_cmp o_lt (ce_var 3) (ce_callB (c_len) rfl X.n_len (by decide +kernel) (ca_cons (ce_var 2) ca_nil))) (ce_var 3) ce_non) (ca_cons (ce_if (ct_cmp o_lt (ce_var 4) (ce_callB (c_len) rfl X.n_len (by decide +kernel) (ca_cons (ce_var 2) ca_nil))) (ce_var 4) ce_non) ca_nil))))))))))
theorem mo_window {P : Program} {w : World} {K : PySem.W.Frag} {mg : Str → Option Value} {base : Heap} (X : TX K mg) : ∀ c mf, tab_window c = some mf → ∀ C, (X.T w).cl[c]? = some C → ∃ (f : Addr) (fd : FuncData) (ps : List Str), Cls (X.T w).K C ∧ Meth (X.T w).K C "window" f ∧ FnG P w K mg base 1 f fd ps (SpM (X.T w) (1 + 1) mf) ∧ Binds K fd ps [] := by
  intro c mf h C hC
  unfold tab_window at h
  split at h
  · cases h
    cases hC
    exact ⟨_, _, _, X.cl_Facts, X.mt_Facts_window, (sim_Facts_window X).mono (by decide), X.b_Facts_window⟩
  · cases h
theorem sc__law_deck : FnScope ["_law_script", "_law_cell"] ["_law_script"] (defScope st__law_deck) := ⟨rfl, rfl, rfl, by decide +kernel, rfl, by decide +kernel, by decide +kernel⟩
theorem sim__law_deck {P : Program} {w : World} {K : PySem.W.Frag} {mg : Str → Option Value} {base : Heap} (X : TX K mg) : FnG P w K mg base 1 X.f__law_deck X.d__law_deck ["_law_script"] (SpM (X.T w) 1 m__law_deck) := by
  refine fn_sim (k := 0) (N := ["_law_script", "_law_cell"]) (T := X.T w) (b := b__law_deck) X.F__law_deck sc__law_deck rfl fun cdv A outer s H E hr hg => ?_
  have tk := takes_of (X := cxOf (L2.CX P w) P w K mg base ["_law_script", "_law_cell"] "_law_deck" (defScope st__law_deck) X.f__law_deck cdv A outer s H E) (E := E) rfl rfl rfl rfl
  unfold b__law_deck
  exact (cs_one (cs_ret (ce_lst (ca_cons (ce_lc (own := [("_law_cell", 1)]) 100000 rfl sc__law_deck.nd (ci_lst (ce_slice o_sl (ce_var 0) co_none (co_some ce_int))) (blkOk_by (by kernel_rfl)) (tg_name (List.mem_cons_self ..)) (fun _ _ _ _ _ => pg_name (i := 1) sc__law_deck.nd rfl (Or.inl rfl)) (fun _ _ _ _ _ => cts_nil) (fun _ _ _ _ _ => (ce_callB (c_abs) rfl X.n_abs (by decide +kernel) (ca_cons (ce_var 1) ca_nil)))) (ca_cons ce_int ca_nil)))))
theorem sc__law_draw : FnScope ["_law_deck_here", "_law_many", "_law_place", "_law_cell", "_law_mixed"] ["_law_deck_here", "_law_many"] (defScope st__law_draw) := ⟨rfl, rfl, rfl, by decide +kernel, rfl, by decide +kernel, by decide +kernel⟩
theorem sim__law_draw {P : Program} {w : World} {K : PySem.W.Frag} {mg : Str → Option Value} {base : Heap} (X : TX K mg) : FnG P w K mg base 1 X.f__law_draw X.d__law_draw ["_law_deck_here", "_law_many"] (SpM (X.T w) 2 m__law_draw) := by
  refine fn_sim (k := 0) (N := ["_law_deck_here", "_law_many", "_law_place", "_law_cell", "_law_mixed"]) (T := X.T w) (b := b__law_draw) X.F__law_draw sc__law_draw rfl fun cdv A outer s H E hr hg => ?_
  have tk := takes_of (X := cxOf (L2.CX P w) P w K mg base ["_law_deck_here", "_law_many", "_law_place", "_law_cell", "_law_mixed"] "_law_draw" (defScope st__law_draw) X.f__law_draw cdv A outer s H E) (E := E) rfl rfl rfl rfl
  unfold b__law_draw
  exact (cs_cons (cs_asg (ce_op o_add (ce_ix (o_ix (hu_of hr)) (ce_var 0) ce_int) ce_int) (cg_sub (ce_var 0) ce_int (p_set (hu_of hr)) (pg_sub (ce_var 0) ce_int (p_set (hu_of hr)))))
  (cs_cons (cs_set (i := 2) sc__law_draw.nd rfl (by first | exact Or.inl rfl | exact Or.inr rfl) (ce_op o_mod (ce_callTy (c_int) rfl X.n_int (by decide +kernel) (ca_cons (ce_ix (o_ix (hu_of hr)) (ce_var 0) ce_int) ca_nil)) (ce_callB (c_max) rfl X.n_max (by decide +kernel) (ca_cons ce_int (ca_cons (ce_callB (c_len) rfl X.n_len (by decide +kernel) (ca_cons (ce_ix (o_ix (hu_of hr)) (ce_var 0) ce_int) ca_nil)) ca_nil)))))
  (cs_cons (cs_set (i := 3) sc__law_draw.nd rfl (by first | exact Or.inl rfl | exact Or.inr rfl) (ce_ix (o_ix (hu_of hr)) (ce_op o_add (ce_ix (o_ix (hu_of hr)) (ce_var 0) ce_int) (ce_lst (ca_cons ce_int ca_nil))) (ce_var 2)))
  (cs_cons (cs_if (ct_cmp o_ge (ce_var 3) (ce_op o_pow ce_int ce_int)) (cs_cons (cs_asg (ce_op o_fdiv (ce_var 3) (ce_var 1)) (cg_sub (ce_ix (o_ix (hu_of hr)) (ce_var 0) ce_int) (ce_var 2) (p_set (hu_of hr)) (pg_sub (ce_ix (o_ix (hu_of hr)) (ce_var 0) ce_int) (ce_var 2) (p_set (hu_of hr)))))
  (cs_one (cs_ret (ce_op o_mod (ce_callTy (c_int) rfl X.n_int (by decide +kernel) (ca_cons (ce_var 3) ca_nil)) (ce_var 1))))) cs_nil)
  (cs_cons (cs_set (i := 4) sc__law_draw.nd rfl (by first | exact Or.inl rfl | exact Or.inr rfl) (ce_op o_pow (ce_op o_add (ce_op o_add (ce_op o_mod (ce_callTy (c_int) rfl X.n_int (by decide +kernel) (ca_cons (ce_var 3) ca_nil)) ce_int) (ce_op o_mul ce_int (ce_ix (o_ix (hu_of hr)) (ce_var 0) ce_int))) ce_int) ce_int))
  (cs_one (cs_ret (ce_op o_mod (ce_callTy (c_int) rfl X.n_int (by decide +kernel) (ca_cons (ce_op o_mod (ce_callTy (c_int) rfl X.n_int (by decide +kernel) (ca_cons (ce_var 4) ca_nil)) ce_int) ca_nil)) (ce_var 1)))))))))
theorem sc__law_built : FnScope ["_law_deck_here", "_law_many", "_law_items", "_law_moment", "_law_story", "_law_standing", "_law_last", "_law_asked", "_law_cell", "_law_item", "_law_way", "_law_k"] ["_law_deck_here", "_law_many", "_law_items"] (defScope st__law_built) := ⟨rfl, rfl, rfl, by decide +kernel, rfl, by decide +kernel, by decide +kernel⟩
theorem sim__law_built {P : Program} {w : World} {K : PySem.W.Frag} {mg : Str → Option Value} {base : Heap} (X : TX K mg) : FnG P w K mg base 2 X.f__law_built X.d__law_built ["_law_deck_here", "_law_many", "_law_items"] (SpM (X.T w) 3 m__law_built) := by
  refine fn_sim (k := 1) (N := ["_law_deck_here", "_law_many", "_law_items", "_law_moment", "_law_story", "_law_standing", "_law_last", "_law_asked", "_law_cell", "_law_item", "_law_way", "_law_k"]) (T := X.T w) (b := b__law_built) X.F__law_built sc__law_built rfl fun cdv A outer s H E hr hg => ?_
  have tk := takes_of (X := cxOf (L2.CX P w) P w K mg base ["_law_deck_here", "_law_many", "_law_items", "_law_moment", "_law_story", "_law_standing", "_law_last", "_law_asked", "_law_cell", "_law_item", "_law_way", "_law_k"] "_law_built" (defScope st__law_built) X.f__law_built cdv A outer s H E) (E := E) rfl rfl rfl rfl
  unfold b__law_built
  exact (cs_cons (cs_asg (ce_tup (ca_cons (ce_lst (ca_cons (ce_callTy (c_tuple) rfl X.n_tuple (by decide +kernel) (ca_cons (ce_lcX (own := [("_law_k", 11)]) rfl sc__law_built.nd (ci_rng1 rfl X.n_range (ca_cons (ce_var 1) ca_nil)) (blkOk_by (by kernel_rfl)) (tg_name (List.mem_cons_self ..)) (fun _ _ _ _ _ => pg_name (i := 11) sc__law_built.nd rfl (Or.inl rfl)) (fun _ _ _ _ _ => cts_nil) (fun _ _ _ _ _ => (ce_tup (ca_cons ce_str (ca_cons (ce_var 11) ca_nil))))) ca_nil)) ca_nil)) (ca_cons (ce_op o_mul (ce_lst (ca_cons ce_bl ca_nil)) (ce_var 1)) (ca_cons (ce_op o_mul (ce_lst (ca_cons ce_int ca_nil)) (ce_var 1)) (ca_cons ce_int ca_nil))))) (cg_tup (js := [4, 5, 6, 7]) (pg_tup rfl (pgs_cons (pg_name (i := 4) sc__law_built.nd rfl (by first | exact Or.inl rfl | exact Or.inr rfl)) (pgs_cons (pg_name (i := 5) sc__law_built.nd rfl (by first | exact Or.inl rfl | exact Or.inr rfl)) (pgs_cons (pg_name (i := 6) sc__law_built.nd rfl (by first | exact Or.inl rfl | exact Or.inr rfl)) (pgs_cons (pg_name (i := 7) sc__law_built.nd rfl (by first | exact Or.inl rfl | exact Or.inr rfl)) pgs_nil)))))))
  (cs_cons (cs_forX (passes_of rfl) rfl (ci_rng2 rfl X.n_range (ca_cons ce_int (ca_cons (ce_var 2) ca_nil))) (cg_name (n := 3) sc__law_built.nd rfl (by first | exact Or.inl rfl | exact Or.inr rfl))
  (cs_cons (cs_forX (passes_of rfl) rfl (ci_rng1 rfl X.n_range (ca_cons (ce_var 1) ca_nil)) (cg_name (n := 8) sc__law_built.nd rfl (by first | exact Or.inl rfl | exact Or.inr rfl))
  (cs_one (cs_asg (ce_if (ct_val (ce_ix (o_ix (hu_of hr)) (ce_var 5) (ce_var 8))) (ce_var 3) (ce_ix (o_ix (hu_of hr)) (ce_var 6) (ce_var 8))) (cg_sub (ce_var 6) (ce_var 8) (p_set (hu_of hr)) (pg_sub (ce_var 6) (ce_var 8) (p_set (hu_of hr)))))))
  (cs_cons (cs_par (i := 8) (j := 10) rfl sc__law_built.nd rfl rfl (by decide) rfl rfl (ca_cons (ce_call (sim__law_draw X) (hr.mono (by decide)) hg rfl X.g__law_draw X.F__law_draw.kp X.b__law_draw tk (ca_cons (ce_var 0) (ca_cons (ce_var 1) ca_nil))) (ca_cons (ce_call (sim__law_draw X) (hr.mono (by decide)) hg rfl X.g__law_draw X.F__law_draw.kp X.b__law_draw tk (ca_cons (ce_var 0) (ca_cons ce_int ca_nil))) ca_nil)) (by rfl))
  (cs_cons (cs_set (i := 9) sc__law_built.nd rfl (by first | exact Or.inl rfl | exact Or.inr rfl) (ce_tup ca_nil))
  (cs_cons (cs_if (ct_cmp o_lt (ce_var 10) ce_int) (cs_cons (cs_asg (ce_cmp o_lt (ce_call (sim__law_draw X) (hr.mono (by decide)) hg rfl X.g__law_draw X.F__law_draw.kp X.b__law_draw tk (ca_cons (ce_var 0) (ca_cons (ce_op o_add ce_int (ce_op o_mul ce_int (ce_var 3))) ca_nil))) (ce_op o_fdiv (ce_var 2) ce_int)) (cg_sub (ce_var 5) (ce_var 8) (p_set (hu_of hr)) (pg_sub (ce_var 5) (ce_var 8) (p_set (hu_of hr)))))
  (cs_one (cs_set (i := 9) sc__law_built.nd rfl (by first | exact Or.inl rfl | exact Or.inr rfl) (ce_tup (ca_cons (ce_tup (ca_cons ce_str (ca_cons (ce_op o_add ce_str (ce_callTy (c_str) rfl X.n_str (by decide +kernel) (ca_cons (ce_var 8) ca_nil))) (ca_cons (ce_if (ct_val (ce_ix (o_ix (hu_of hr)) (ce_var 5) (ce_var 8))) (ce_var 8) ce_non) ca_nil)))) ca_nil))))) (cs_one (cs_if (ct_cmp o_lt (ce_var 7) ce_int) (cs_cons (cs_set (i := 7) sc__law_built.nd rfl (by first | exact Or.inl rfl | exact Or.inr rfl) (ce_op o_add (ce_var 7) ce_int))
  (cs_one (cs_set (i := 9) sc__law_built.nd rfl (by first | exact Or.inl rfl | exact Or.inr rfl) (ce_tup (ca_cons (ce_tup (ca_cons ce_str (ca_cons (ce_var 8) ca_nil))) ca_nil))))) cs_nil)))
  (cs_one (cs_expr (ce_bm (t := .list) PySem.F.plainAttrs_list PySem.F.slot_list_append PySem.F.type_list_append m_append (ce_var 4) (ca_cons (ce_var 9) ca_nil)))))))))
  (cs_one (cs_ret (ce_tup (ca_cons (ce_callTy (c_tuple) rfl X.n_tuple (by decide +kernel) (ca_cons (ce_var 4) ca_nil)) (ca_cons (ce_var 6) ca_nil)))))))
theorem sc__law_answer : FnScope ["_law_deck_here", "_law_cell", "_law_moment", "_law_there", "_law_gone"] ["_law_deck_here", "_law_cell", "_law_moment", "_law_there", "_law_gone"] (defScope st__law_answer) := ⟨rfl, rfl, rfl, by decide +kernel, rfl, by decide +kernel, by decide +kernel⟩
theorem sim__law_answer {P : Program} {w : World} {K : PySem.W.Frag} {mg : Str → Option Value} {base : Heap} (X : TX K mg) : FnG P w K mg base 2 X.f__law_answer X.d__law_answer ["_law_deck_here", "_law_cell", "_law_moment", "_law_there", "_law_gone"] (SpM (X.T w) 5 m__law_answer) := by
  refine fn_sim (k := 1) (N := ["_law_deck_here", "_law_cell", "_law_moment", "_law_there", "_law_gone"]) (T := X.T w) (b := b__law_answer) X.F__law_answer sc__law_answer rfl fun cdv A outer s H E hr hg => ?_
  have tk := takes_of (X := cxOf (L2.CX P w) P w K mg base ["_law_deck_here", "_law_cell", "_law_moment", "_law_there", "_law_gone"] "_law_answer" (defScope st__law_answer) X.f__law_answer cdv A outer s H E) (E := E) rfl rfl rfl rfl
  unfold b__law_answer
  exact (cs_cons (cs_if (ct_cmp o_le (ce_var 2) (ce_ix (o_ix (hu_of hr)) (ce_var 3) (ce_var 1))) (cs_one (cs_ret ce_int)) cs_nil)
  (cs_one (cs_ret (ce_if (ct_cmp o_ge (ce_var 2) (ce_ix (o_ix (hu_of hr)) (ce_var 4) (ce_var 1))) ce_int (ce_callTy (c_int) rfl X.n_int (by decide +kernel) (ca_cons (ce_cmp (o_eq hr.units) (ce_call (sim__law_draw X) (hr.mono (by decide)) hg rfl X.g__law_draw X.F__law_draw.kp X.b__law_draw tk (ca_cons (ce_var 0) (ca_cons ce_int ca_nil))) ce_int) ca_nil))))))
theorem sc__law_known : FnScope ["_law_deck_here", "_law_facts", "_law_there", "_law_gone", "_law_items", "_law_cell", "_law_due", "_law_turn", "_law_moment", "_law_state"] ["_law_deck_here", "_law_facts", "_law_there", "_law_gone"] (defScope st__law_known) := ⟨rfl, rfl, rfl, by decide +kernel, rfl, by decide +kernel, by decide +kernel⟩
theorem sim__law_known {P : Program} {w : World} {K : PySem.W.Frag} {mg : Str → Option Value} {base : Heap} (X : TX K mg) : FnG P w K mg base 2 X.f__law_known X.d__law_known ["_law_deck_here", "_law_facts", "_law_there", "_law_gone"] (SpM (X.T w) 4 m__law_known) := by
  refine fn_sim (k := 1) (N := ["_law_deck_here", "_law_facts", "_law_there", "_law_gone", "_law_items", "_law_cell", "_law_due", "_law_turn", "_law_moment", "_law_state"]) (T := X.T w) (b := b__law_known) X.F__law_known sc__law_known rfl fun cdv A outer s H E hr hg => ?_
  have tk := takes_of (X := cxOf (L2.CX P w) P w K mg base ["_law_deck_here", "_law_facts", "_law_there", "_law_gone", "_law_items", "_law_cell", "_law_due", "_law_turn", "_law_moment", "_law_state"] "_law_known" (defScope st__law_known) X.f__law_known cdv A outer s H E) (E := E) rfl rfl rfl rfl
  unfold b__law_known
  exact (cs_cons (cs_set (i := 4) sc__law_known.nd rfl (by first | exact Or.inl rfl | exact Or.inr rfl) (ce_callB (c_len) rfl X.n_len (by decide +kernel) (ca_cons (ce_fld (X.fo_story w) (ce_var 1)) ca_nil)))
  (cs_cons (cs_forX (passes_of rfl) rfl (ci_rng1 rfl X.n_range (ca_cons (ce_callB (c_len) rfl X.n_len (by decide +kernel) (ca_cons (ce_var 2) ca_nil)) ca_nil)) (cg_name (n := 5) sc__law_known.nd rfl (by first | exact Or.inl rfl | exact Or.inr rfl))
  (cs_cons (cs_set (i := 6) sc__law_known.nd rfl (by first | exact Or.inl rfl | exact Or.inr rfl) (ce_tup (ca_cons (ce_if (ct_cmp o_lt (ce_op o_add (ce_ix (o_ix (hu_of hr)) (ce_var 2) (ce_var 5)) ce_int) (ce_var 4)) (ce_op o_add (ce_ix (o_ix (hu_of hr)) (ce_var 2) (ce_var 5)) ce_int) ce_non) (ca_cons (ce_if (ct_cmp o_lt (ce_ix (o_ix (hu_of hr)) (ce_var 3) (ce_var 5)) (ce_var 4)) (ce_ix (o_ix (hu_of hr)) (ce_var 3) (ce_var 5)) ce_non) ca_nil))))
  (cs_cons (cs_if (ct_cmp (o_ne hr.units) (ce_callB (c_repr hg hr.units) rfl X.n_repr (by decide +kernel) (ca_cons (ce_meth (mo_window X) (hr.mono (by decide)) hg tk (ce_var 1) (ca_cons (ce_var 5) ca_nil)) ca_nil)) (ce_callB (c_repr hg hr.units) rfl X.n_repr (by decide +kernel) (ca_cons (ce_var 6) ca_nil))) (cs_one (cs_ret ce_bl)) cs_nil)
  (cs_one (cs_forX (passes_of rfl) rfl (ci_rng1 rfl X.n_range (ca_cons ce_int ca_nil)) (cg_name (n := 7) sc__law_known.nd rfl (by first | exact Or.inl rfl | exact Or.inr rfl))
  (cs_cons (cs_set (i := 8) sc__law_known.nd rfl (by first | exact Or.inl rfl | exact Or.inr rfl) (ce_op o_add ce_int (ce_call (sim__law_draw X) (hr.mono (by decide)) hg rfl X.g__law_draw X.F__law_draw.kp X.b__law_draw tk (ca_cons (ce_var 0) (ca_cons (ce_op o_sub (ce_var 4) ce_int) ca_nil)))))
  (cs_cons (cs_set (i := 9) sc__law_known.nd rfl (by first | exact Or.inl rfl | exact Or.inr rfl) (ce_if (ct_cmp o_le (ce_var 8) (ce_ix (o_ix (hu_of hr)) (ce_var 2) (ce_var 5))) ce_str (ce_if (ct_cmp o_ge (ce_var 8) (ce_ix (o_ix (hu_of hr)) (ce_var 3) (ce_var 5))) ce_str ce_str)))
  (cs_one (cs_if (ct_cmp (o_ne hr.units) (ce_callB (c_repr hg hr.units) rfl X.n_repr (by decide +kernel) (ca_cons (ce_meth (mo_fate X) (hr.mono (by decide)) hg tk (ce_var 1) (ca_cons (ce_var 5) (ca_cons (ce_var 8) ca_nil))) ca_nil)) (ce_callB (c_repr hg hr.units) rfl X.n_repr (by decide +kernel) (ca_cons (ce_var 9) ca_nil))) (cs_one (cs_ret ce_bl)) cs_nil)))))))))
  (cs_one (cs_ret ce_bl))))
theorem sc_law : FnScope ["_law_script", "_law_deck_here", "_law_many", "_law_items", "_law_story", "_law_there", "_law_facts", "_law_gone", "_law_number", "_law_moment", "_law_item", "_law_event", "_law_cell", "_law_answer_here"] ["_law_script"] (defScope st_law) := ⟨rfl, rfl, rfl, by decide +kernel, rfl, by decide +kernel, by decide +kernel⟩
theorem sim_law {P : Program} {w : World} {K : PySem.W.Frag} {mg : Str → Option Value} {base : Heap} (X : TX K mg) : FnG P w K mg base 7 X.f_law X.d_law ["_law_script"] (SpM (X.T w) 1 m_law) := by
  refine fn_sim (k := 6) (N := ["_law_script", "_law_deck_here", "_law_many", "_law_items", "_law_story", "_law_there", "_law_facts", "_law_gone", "_law_number", "_law_moment", "_law_item", "_law_event", "_law_cell", "_law_answer_here"]) (T := X.T w) (b := b_law) X.F_law sc_law rfl fun cdv A outer s H E hr hg => ?_
  have tk := takes_of (X := cxOf (L2.CX P w) P w K mg base ["_law_script", "_law_deck_here", "_law_many", "_law_items", "_law_story", "_law_there", "_law_facts", "_law_gone", "_law_number", "_law_moment", "_law_item", "_law_event", "_law_cell", "_law_answer_here"] "law" (defScope st_law) X.f_law cdv A outer s H E) (E := E) rfl rfl rfl rfl
  unfold b_law
  exact (cs_cons (cs_set (i := 1) sc_law.nd rfl (by first | exact Or.inl rfl | exact Or.inr rfl) (ce_call (sim__law_deck X) (hr.mono (by decide)) hg rfl X.g__law_deck X.F__law_deck.kp X.b__law_deck tk (ca_cons (ce_var 0) ca_nil)))
  (cs_cons (cs_par (i := 2) (j := 3) rfl sc_law.nd rfl rfl (by decide) rfl rfl (ca_cons (ce_op o_add ce_int (ce_call (sim__law_draw X) (hr.mono (by decide)) hg rfl X.g__law_draw X.F__law_draw.kp X.b__law_draw tk (ca_cons (ce_var 1) (ca_cons ce_int ca_nil)))) (ca_cons (ce_op o_add ce_int (ce_call (sim__law_draw X) (hr.mono (by decide)) hg rfl X.g__law_draw X.F__law_draw.kp X.b__law_draw tk (ca_cons (ce_var 1) (ca_cons ce_int ca_nil)))) ca_nil)) (by rfl))
  (cs_cons (cs_asg (ce_call (sim__law_built X) (hr.mono (by decide)) hg rfl X.g__law_built X.F__law_built.kp X.b__law_built tk (ca_cons (ce_var 1) (ca_cons (ce_var 2) (ca_cons (ce_var 3) ca_nil)))) (cg_tup (js := [4, 5]) (pg_tup rfl (pgs_cons (pg_name (i := 4) sc_law.nd rfl (by first | exact Or.inl rfl | exact Or.inr rfl)) (pgs_cons (pg_name (i := 5) sc_law.nd rfl (by first | exact Or.inl rfl | exact Or.inr rfl)) pgs_nil)))))
  (cs_cons (cs_par3 (i := 6) (j := 7) (l := 8) rfl sc_law.nd rfl rfl rfl (by decide) (by decide) (by decide) rfl rfl rfl (ca_cons (ce_makeV X.mk_Facts (fnV_dfl (T := X.T w) (das := [(.tup [])]) (sim_FactsU_initU X) X.b_FactsU_initU_0) (hr.mono (by decide)) hg rfl X.gc_Facts tk rfl (ca_cons (ce_var 4) ca_nil)) (ca_cons (ce_op o_mul (ce_lst (ca_cons (ce_var 3) ca_nil)) (ce_var 2)) (ca_cons ce_int ca_nil))) (by rfl))
  (cs_cons (cs_forX (passes_of rfl) rfl (ci_enmT rfl X.n_enumerate (ca_cons (ce_var 4) ca_nil)) (cg_tup (js := [9, 10]) (pg_tup rfl (pgs_cons (pg_name (i := 9) sc_law.nd rfl (by first | exact Or.inl rfl | exact Or.inr rfl)) (pgs_cons (pg_name (i := 10) sc_law.nd rfl (by first | exact Or.inl rfl | exact Or.inr rfl)) pgs_nil))))
  (cs_one (cs_forX (passes_of rfl) rfl (ci_tup (ce_var 10)) (cg_name (n := 11) sc_law.nd rfl (by first | exact Or.inl rfl | exact Or.inr rfl))
  (cs_one (cs_if (ct_cmp (o_eq hr.units) (ce_ix (o_ix (hu_of hr)) (ce_var 11) ce_int) ce_str) (cs_cons (cs_set (i := 12) sc_law.nd rfl (by first | exact Or.inl rfl | exact Or.inr rfl) (ce_ix (o_ix (hu_of hr)) (ce_var 11) ce_int))
  (cs_cons (cs_set (i := 13) sc_law.nd rfl (by first | exact Or.inl rfl | exact Or.inr rfl) (ce_call (sim__law_answer X) (hr.mono (by decide)) hg rfl X.g__law_answer X.F__law_answer.kp X.b__law_answer tk (ca_cons (ce_var 1) (ca_cons (ce_var 12) (ca_cons (ce_var 9) (ca_cons (ce_var 5) (ca_cons (ce_var 7) ca_nil)))))))
  (cs_cons (cs_expr (ce_meth (mo_tell X) (hr.mono (by decide)) hg tk (ce_var 6) (ca_cons (ce_var 13) ca_nil)))
  (cs_cons (cs_set (i := 8) sc_law.nd rfl (by first | exact Or.inl rfl | exact Or.inr rfl) (ce_op o_add (ce_var 8) ce_int))
  (cs_cons (cs_if (ct_cmp (o_eq hr.units) (ce_var 13) ce_int) (cs_one (cs_asg (ce_callB (c_min) rfl X.n_min (by decide +kernel) (ca_cons (ce_ix (o_ix (hu_of hr)) (ce_var 7) (ce_var 12)) (ca_cons (ce_var 9) ca_nil))) (cg_sub (ce_var 7) (ce_var 12) (p_set (hu_of hr)) (pg_sub (ce_var 7) (ce_var 12) (p_set (hu_of hr)))))) (cs_one (cs_asg (ce_callB (c_max) rfl X.n_max (by decide +kernel) (ca_cons (ce_ix (o_ix (hu_of hr)) (ce_var 5) (ce_var 12)) (ca_cons (ce_var 9) ca_nil))) (cg_sub (ce_var 5) (ce_var 12) (p_set (hu_of hr)) (pg_sub (ce_var 5) (ce_var 12) (p_set (hu_of hr)))))))
  (cs_one (cs_if (PW.pt (cw_and (ct_cmp (o_eq hr.units) (ce_op o_mod (ce_var 8) ce_int) ce_int) (cw_and1 (ct_not (ct_val (ce_call (sim__law_known X) (hr.mono (by decide)) hg rfl X.g__law_known X.F__law_known.kp X.b__law_known tk (ca_cons (ce_var 1) (ca_cons (ce_var 6) (ca_cons (ce_var 5) (ca_cons (ce_var 7) ca_nil)))))))))) (cs_one (cs_ret ce_bl)) cs_nil))))))) cs_nil)))))
  (cs_one (cs_ret (ce_and (ce_call (sim__law_known X) (hr.mono (by decide)) hg rfl X.g__law_known X.F__law_known.kp X.b__law_known tk (ca_cons (ce_var 1) (ca_cons (ce_var 6) (ca_cons (ce_var 5) (ca_cons (ce_var 7) ca_nil))))) (ce_one (ce_cmp (o_eq hr.units) (ce_callB (c_repr hg hr.units) rfl X.n_repr (by decide +kernel) (ca_cons (ce_lenO (mo_UlenU X) (hr.mono (by decide)) hg tk rfl X.n_len (ce_var 6)) ca_nil)) ce_str))))))))))
end K36

namespace K36
open PySem PySem.Spec PyProof.Rows L2 Sm
theorem all_mk {l : PySem.W.OpenLaw} {w : World} {K : PySem.W.Frag} {h : Heap} {mg : Str → Option Value} {fa f_HeapU_initU f_Heap_apply f_Heap_held_lists f_Heap_reached_flags f_holders_of f_moments_of f_questions_of f_BoundsU_initU f_Bounds_copied f_Bounds_keep_there f_Bounds_keep_gone f_Bounds_take_reached f_numbered f_Bounds_chain f_Bounds_clash f_Facts_tell f_FactsU_initU f_FactsU_lenU f_Facts_fate f_Facts_window f__law_deck f__law_draw f__law_built f__law_answer f__law_known f_law C_Heap C_Bounds C_Facts dT_FactsU_initU e_FactsU_initU_0 : Addr} (X : K.In h) (G : h.Ns mainGlobals mg) (hfa : mg "law" = some (.ref fa))
    {od_HeapU_initU an_HeapU_initU od_Heap_apply an_Heap_apply od_Heap_held_lists an_Heap_held_lists od_Heap_reached_flags an_Heap_reached_flags od_holders_of an_holders_of od_moments_of an_moments_of od_questions_of an_questions_of od_BoundsU_initU an_BoundsU_initU od_Bounds_copied an_Bounds_copied od_Bounds_keep_there an_Bounds_keep_there od_Bounds_keep_gone an_Bounds_keep_gone od_Bounds_take_reached an_Bounds_take_reached od_numbered an_numbered od_Bounds_chain an_Bounds_chain od_Bounds_clash an_Bounds_clash od_Facts_tell an_Facts_tell od_FactsU_initU an_FactsU_initU odT_FactsU_initU odE_FactsU_initU_0 od_FactsU_lenU an_FactsU_lenU od_Facts_fate an_Facts_fate od_Facts_window an_Facts_window od__law_deck an__law_deck od__law_draw an__law_draw od__law_built an__law_built od__law_answer an__law_answer od__law_known an__law_known od_law an_law : Option Addr} {sl_HeapU_initU sl_Heap_apply sl_Heap_held_lists sl_Heap_reached_flags sl_holders_of sl_moments_of sl_questions_of sl_BoundsU_initU sl_Bounds_copied sl_Bounds_keep_there sl_Bounds_keep_gone sl_Bounds_take_reached sl_numbered sl_Bounds_chain sl_Bounds_clash sl_Facts_tell sl_FactsU_initU slT_FactsU_initU slE_FactsU_initU_0 sl_FactsU_lenU sl_Facts_fate sl_Facts_window sl__law_deck sl__law_draw sl__law_built sl__law_answer sl__law_known sl_law : Array (Option Value)} {oc_HeapU_initU kV_HeapU_initU dc_HeapU_initU pm_HeapU_initU cd_HeapU_initU ct_HeapU_initU oc_Heap_apply kV_Heap_apply dc_Heap_apply pm_Heap_apply cd_Heap_apply ct_Heap_apply oc_Heap_held_lists kV_Heap_held_lists dc_Heap_held_lists pm_Heap_held_lists cd_Heap_held_lists ct_Heap_held_lists oc_Heap_reached_flags kV_Heap_reached_flags dc_Heap_reached_flags pm_Heap_reached_flags cd_Heap_reached_flags ct_Heap_reached_flags oc_holders_of kV_holders_of dc_holders_of pm_holders_of cd_holders_of ct_holders_of oc_moments_of kV_moments_of dc_moments_of pm_moments_of cd_moments_of ct_moments_of oc_questions_of kV_questions_of dc_questions_of pm_questions_of cd_questions_of ct_questions_of oc_BoundsU_initU kV_BoundsU_initU dc_BoundsU_initU pm_BoundsU_initU cd_BoundsU_initU ct_BoundsU_initU oc_Bounds_copied kV_Bounds_copied dc_Bounds_copied pm_Bounds_copied cd_Bounds_copied ct_Bounds_copied oc_Bounds_keep_there kV_Bounds_keep_there dc_Bounds_keep_there pm_Bounds_keep_there cd_Bounds_keep_there ct_Bounds_keep_there oc_Bounds_keep_gone kV_Bounds_keep_gone dc_Bounds_keep_gone pm_Bounds_keep_gone cd_Bounds_keep_gone ct_Bounds_keep_gone oc_Bounds_take_reached kV_Bounds_take_reached dc_Bounds_take_reached pm_Bounds_take_reached cd_Bounds_take_reached ct_Bounds_take_reached oc_numbered kV_numbered dc_numbered pm_numbered cd_numbered ct_numbered oc_Bounds_chain kV_Bounds_chain dc_Bounds_chain pm_Bounds_chain cd_Bounds_chain ct_Bounds_chain oc_Bounds_clash kV_Bounds_clash dc_Bounds_clash pm_Bounds_clash cd_Bounds_clash ct_Bounds_clash oc_Facts_tell kV_Facts_tell dc_Facts_tell pm_Facts_tell cd_Facts_tell ct_Facts_tell oc_FactsU_initU kV_FactsU_initU dc_FactsU_initU pm_FactsU_initU cd_FactsU_initU ct_FactsU_initU ocT_FactsU_initU oc_FactsU_lenU kV_FactsU_lenU dc_FactsU_lenU pm_FactsU_lenU cd_FactsU_lenU ct_FactsU_lenU oc_Facts_fate kV_Facts_fate dc_Facts_fate pm_Facts_fate cd_Facts_fate ct_Facts_fate oc_Facts_window kV_Facts_window dc_Facts_window pm_Facts_window cd_Facts_window ct_Facts_window oc__law_deck kV__law_deck dc__law_deck pm__law_deck cd__law_deck ct__law_deck oc__law_draw kV__law_draw dc__law_draw pm__law_draw cd__law_draw ct__law_draw oc__law_built kV__law_built dc__law_built pm__law_built cd__law_built ct__law_built oc__law_answer kV__law_answer dc__law_answer pm__law_answer cd__law_answer ct__law_answer oc__law_known kV__law_known dc__law_known pm__law_known cd__law_known ct__law_known oc_law kV_law dc_law pm_law cd_law ct_law : Value} {nT_FactsU_initU nE_FactsU_initU_0 : Nat}
    (aC_Heap : PySem.W.nsIn K mainGlobals "Heap" = some (some (.ref C_Heap)))
    (aC_Bounds : PySem.W.nsIn K mainGlobals "Bounds" = some (some (.ref C_Bounds)))
    (aC_Facts : PySem.W.nsIn K mainGlobals "Facts" = some (some (.ref C_Facts)))
    (a_holders_of : PySem.W.nsIn K mainGlobals "holders_of" = some (some (.ref f_holders_of)))
    (a_moments_of : PySem.W.nsIn K mainGlobals "moments_of" = some (some (.ref f_moments_of)))
    (a_questions_of : PySem.W.nsIn K mainGlobals "questions_of" = some (some (.ref f_questions_of)))
    (a_numbered : PySem.W.nsIn K mainGlobals "numbered" = some (some (.ref f_numbered)))
    (a__law_deck : PySem.W.nsIn K mainGlobals "_law_deck" = some (some (.ref f__law_deck)))
    (a__law_draw : PySem.W.nsIn K mainGlobals "_law_draw" = some (some (.ref f__law_draw)))
    (a__law_built : PySem.W.nsIn K mainGlobals "_law_built" = some (some (.ref f__law_built)))
    (a__law_answer : PySem.W.nsIn K mainGlobals "_law_answer" = some (some (.ref f__law_answer)))
    (a__law_known : PySem.W.nsIn K mainGlobals "_law_known" = some (some (.ref f__law_known)))
    (a_law : PySem.W.nsIn K mainGlobals "law" = some (some (.ref f_law)))
    (in_Heap : PySem.W.findIn K (.ref C_Heap) "__init__" = some (some (.ref f_HeapU_initU)))
    (ma_Heap_apply : PySem.W.findIn K (.ref C_Heap) "apply" = some (some (.ref f_Heap_apply)))
    (ma_Heap_held_lists : PySem.W.findIn K (.ref C_Heap) "held_lists" = some (some (.ref f_Heap_held_lists)))
    (ma_Heap_reached_flags : PySem.W.findIn K (.ref C_Heap) "reached_flags" = some (some (.ref f_Heap_reached_flags)))
    (in_Bounds : PySem.W.findIn K (.ref C_Bounds) "__init__" = some (some (.ref f_BoundsU_initU)))
    (ma_Bounds_chain : PySem.W.findIn K (.ref C_Bounds) "chain" = some (some (.ref f_Bounds_chain)))
    (ma_Bounds_clash : PySem.W.findIn K (.ref C_Bounds) "clash" = some (some (.ref f_Bounds_clash)))
    (ma_Bounds_copied : PySem.W.findIn K (.ref C_Bounds) "copied" = some (some (.ref f_Bounds_copied)))
    (ma_Bounds_keep_gone : PySem.W.findIn K (.ref C_Bounds) "keep_gone" = some (some (.ref f_Bounds_keep_gone)))
    (ma_Bounds_keep_there : PySem.W.findIn K (.ref C_Bounds) "keep_there" = some (some (.ref f_Bounds_keep_there)))
    (ma_Bounds_take_reached : PySem.W.findIn K (.ref C_Bounds) "take_reached" = some (some (.ref f_Bounds_take_reached)))
    (in_Facts : PySem.W.findIn K (.ref C_Facts) "__init__" = some (some (.ref f_FactsU_initU)))
    (ma_Facts_UlenU : PySem.W.findIn K (.ref C_Facts) "__len__" = some (some (.ref f_FactsU_lenU)))
    (ma_Facts_fate : PySem.W.findIn K (.ref C_Facts) "fate" = some (some (.ref f_Facts_fate)))
    (ma_Facts_tell : PySem.W.findIn K (.ref C_Facts) "tell" = some (some (.ref f_Facts_tell)))
    (ma_Facts_window : PySem.W.findIn K (.ref C_Facts) "window" = some (some (.ref f_Facts_window)))
    (l_HeapU_initU : K.lookup f_HeapU_initU = some ⟨oc_HeapU_initU, od_HeapU_initU, .func (PySem.W.fnOf "__init__" "Heap.__init__" (defArgs st_HeapU_initU) (defBody st_HeapU_initU) (defScope st_HeapU_initU) .none kV_HeapU_initU dc_HeapU_initU pm_HeapU_initU an_HeapU_initU cd_HeapU_initU ct_HeapU_initU), sl_HeapU_initU⟩)
    (c_HeapU_initU : PySem.W.codeIn K cd_HeapU_initU "Heap.__init__" = true)
    (k_HeapU_initU : PySem.W.keepIn K (.ref f_HeapU_initU) = true)
    (l_Heap_apply : K.lookup f_Heap_apply = some ⟨oc_Heap_apply, od_Heap_apply, .func (PySem.W.fnOf "apply" "Heap.apply" (defArgs st_Heap_apply) (defBody st_Heap_apply) (defScope st_Heap_apply) .none kV_Heap_apply dc_Heap_apply pm_Heap_apply an_Heap_apply cd_Heap_apply ct_Heap_apply), sl_Heap_apply⟩)
    (c_Heap_apply : PySem.W.codeIn K cd_Heap_apply "Heap.apply" = true)
    (k_Heap_apply : PySem.W.keepIn K (.ref f_Heap_apply) = true)
    (l_Heap_held_lists : K.lookup f_Heap_held_lists = some ⟨oc_Heap_held_lists, od_Heap_held_lists, .func (PySem.W.fnOf "held_lists" "Heap.held_lists" (defArgs st_Heap_held_lists) (defBody st_Heap_held_lists) (defScope st_Heap_held_lists) .none kV_Heap_held_lists dc_Heap_held_lists pm_Heap_held_lists an_Heap_held_lists cd_Heap_held_lists ct_Heap_held_lists), sl_Heap_held_lists⟩)
    (c_Heap_held_lists : PySem.W.codeIn K cd_Heap_held_lists "Heap.held_lists" = true)
    (k_Heap_held_lists : PySem.W.keepIn K (.ref f_Heap_held_lists) = true)
    (l_Heap_reached_flags : K.lookup f_Heap_reached_flags = some ⟨oc_Heap_reached_flags, od_Heap_reached_flags, .func (PySem.W.fnOf "reached_flags" "Heap.reached_flags" (defArgs st_Heap_reached_flags) (defBody st_Heap_reached_flags) (defScope st_Heap_reached_flags) .none kV_Heap_reached_flags dc_Heap_reached_flags pm_Heap_reached_flags an_Heap_reached_flags cd_Heap_reached_flags ct_Heap_reached_flags), sl_Heap_reached_flags⟩)
    (c_Heap_reached_flags : PySem.W.codeIn K cd_Heap_reached_flags "Heap.reached_flags" = true)
    (k_Heap_reached_flags : PySem.W.keepIn K (.ref f_Heap_reached_flags) = true)
    (l_holders_of : K.lookup f_holders_of = some ⟨oc_holders_of, od_holders_of, .func (PySem.W.fnOf "holders_of" "holders_of" (defArgs st_holders_of) (defBody st_holders_of) (defScope st_holders_of) .none kV_holders_of dc_holders_of pm_holders_of an_holders_of cd_holders_of ct_holders_of), sl_holders_of⟩)
    (c_holders_of : PySem.W.codeIn K cd_holders_of "holders_of" = true)
    (k_holders_of : PySem.W.keepIn K (.ref f_holders_of) = true)
    (l_moments_of : K.lookup f_moments_of = some ⟨oc_moments_of, od_moments_of, .func (PySem.W.fnOf "moments_of" "moments_of" (defArgs st_moments_of) (defBody st_moments_of) (defScope st_moments_of) .none kV_moments_of dc_moments_of pm_moments_of an_moments_of cd_moments_of ct_moments_of), sl_moments_of⟩)
    (c_moments_of : PySem.W.codeIn K cd_moments_of "moments_of" = true)
    (k_moments_of : PySem.W.keepIn K (.ref f_moments_of) = true)
    (l_questions_of : K.lookup f_questions_of = some ⟨oc_questions_of, od_questions_of, .func (PySem.W.fnOf "questions_of" "questions_of" (defArgs st_questions_of) (defBody st_questions_of) (defScope st_questions_of) .none kV_questions_of dc_questions_of pm_questions_of an_questions_of cd_questions_of ct_questions_of), sl_questions_of⟩)
    (c_questions_of : PySem.W.codeIn K cd_questions_of "questions_of" = true)
    (k_questions_of : PySem.W.keepIn K (.ref f_questions_of) = true)
    (l_BoundsU_initU : K.lookup f_BoundsU_initU = some ⟨oc_BoundsU_initU, od_BoundsU_initU, .func (PySem.W.fnOf "__init__" "Bounds.__init__" (defArgs st_BoundsU_initU) (defBody st_BoundsU_initU) (defScope st_BoundsU_initU) .none kV_BoundsU_initU dc_BoundsU_initU pm_BoundsU_initU an_BoundsU_initU cd_BoundsU_initU ct_BoundsU_initU), sl_BoundsU_initU⟩)
    (c_BoundsU_initU : PySem.W.codeIn K cd_BoundsU_initU "Bounds.__init__" = true)
    (k_BoundsU_initU : PySem.W.keepIn K (.ref f_BoundsU_initU) = true)
    (l_Bounds_copied : K.lookup f_Bounds_copied = some ⟨oc_Bounds_copied, od_Bounds_copied, .func (PySem.W.fnOf "copied" "Bounds.copied" (defArgs st_Bounds_copied) (defBody st_Bounds_copied) (defScope st_Bounds_copied) .none kV_Bounds_copied dc_Bounds_copied pm_Bounds_copied an_Bounds_copied cd_Bounds_copied ct_Bounds_copied), sl_Bounds_copied⟩)
    (c_Bounds_copied : PySem.W.codeIn K cd_Bounds_copied "Bounds.copied" = true)
    (k_Bounds_copied : PySem.W.keepIn K (.ref f_Bounds_copied) = true)
    (l_Bounds_keep_there : K.lookup f_Bounds_keep_there = some ⟨oc_Bounds_keep_there, od_Bounds_keep_there, .func (PySem.W.fnOf "keep_there" "Bounds.keep_there" (defArgs st_Bounds_keep_there) (defBody st_Bounds_keep_there) (defScope st_Bounds_keep_there) .none kV_Bounds_keep_there dc_Bounds_keep_there pm_Bounds_keep_there an_Bounds_keep_there cd_Bounds_keep_there ct_Bounds_keep_there), sl_Bounds_keep_there⟩)
    (c_Bounds_keep_there : PySem.W.codeIn K cd_Bounds_keep_there "Bounds.keep_there" = true)
    (k_Bounds_keep_there : PySem.W.keepIn K (.ref f_Bounds_keep_there) = true)
    (l_Bounds_keep_gone : K.lookup f_Bounds_keep_gone = some ⟨oc_Bounds_keep_gone, od_Bounds_keep_gone, .func (PySem.W.fnOf "keep_gone" "Bounds.keep_gone" (defArgs st_Bounds_keep_gone) (defBody st_Bounds_keep_gone) (defScope st_Bounds_keep_gone) .none kV_Bounds_keep_gone dc_Bounds_keep_gone pm_Bounds_keep_gone an_Bounds_keep_gone cd_Bounds_keep_gone ct_Bounds_keep_gone), sl_Bounds_keep_gone⟩)
    (c_Bounds_keep_gone : PySem.W.codeIn K cd_Bounds_keep_gone "Bounds.keep_gone" = true)
    (k_Bounds_keep_gone : PySem.W.keepIn K (.ref f_Bounds_keep_gone) = true)
    (l_Bounds_take_reached : K.lookup f_Bounds_take_reached = some ⟨oc_Bounds_take_reached, od_Bounds_take_reached, .func (PySem.W.fnOf "take_reached" "Bounds.take_reached" (defArgs st_Bounds_take_reached) (defBody st_Bounds_take_reached) (defScope st_Bounds_take_reached) .none kV_Bounds_take_reached dc_Bounds_take_reached pm_Bounds_take_reached an_Bounds_take_reached cd_Bounds_take_reached ct_Bounds_take_reached), sl_Bounds_take_reached⟩)
    (c_Bounds_take_reached : PySem.W.codeIn K cd_Bounds_take_reached "Bounds.take_reached" = true)
    (k_Bounds_take_reached : PySem.W.keepIn K (.ref f_Bounds_take_reached) = true)
    (l_numbered : K.lookup f_numbered = some ⟨oc_numbered, od_numbered, .func (PySem.W.fnOf "numbered" "numbered" (defArgs st_numbered) (defBody st_numbered) (defScope st_numbered) .none kV_numbered dc_numbered pm_numbered an_numbered cd_numbered ct_numbered), sl_numbered⟩)
    (c_numbered : PySem.W.codeIn K cd_numbered "numbered" = true)
    (k_numbered : PySem.W.keepIn K (.ref f_numbered) = true)
    (l_Bounds_chain : K.lookup f_Bounds_chain = some ⟨oc_Bounds_chain, od_Bounds_chain, .func (PySem.W.fnOf "chain" "Bounds.chain" (defArgs st_Bounds_chain) (defBody st_Bounds_chain) (defScope st_Bounds_chain) .none kV_Bounds_chain dc_Bounds_chain pm_Bounds_chain an_Bounds_chain cd_Bounds_chain ct_Bounds_chain), sl_Bounds_chain⟩)
    (c_Bounds_chain : PySem.W.codeIn K cd_Bounds_chain "Bounds.chain" = true)
    (k_Bounds_chain : PySem.W.keepIn K (.ref f_Bounds_chain) = true)
    (l_Bounds_clash : K.lookup f_Bounds_clash = some ⟨oc_Bounds_clash, od_Bounds_clash, .func (PySem.W.fnOf "clash" "Bounds.clash" (defArgs st_Bounds_clash) (defBody st_Bounds_clash) (defScope st_Bounds_clash) .none kV_Bounds_clash dc_Bounds_clash pm_Bounds_clash an_Bounds_clash cd_Bounds_clash ct_Bounds_clash), sl_Bounds_clash⟩)
    (c_Bounds_clash : PySem.W.codeIn K cd_Bounds_clash "Bounds.clash" = true)
    (k_Bounds_clash : PySem.W.keepIn K (.ref f_Bounds_clash) = true)
    (l_Facts_tell : K.lookup f_Facts_tell = some ⟨oc_Facts_tell, od_Facts_tell, .func (PySem.W.fnOf "tell" "Facts.tell" (defArgs st_Facts_tell) (defBody st_Facts_tell) (defScope st_Facts_tell) .none kV_Facts_tell dc_Facts_tell pm_Facts_tell an_Facts_tell cd_Facts_tell ct_Facts_tell), sl_Facts_tell⟩)
    (c_Facts_tell : PySem.W.codeIn K cd_Facts_tell "Facts.tell" = true)
    (k_Facts_tell : PySem.W.keepIn K (.ref f_Facts_tell) = true)
    (l_FactsU_initU : K.lookup f_FactsU_initU = some ⟨oc_FactsU_initU, od_FactsU_initU, .func (PySem.W.fnOf "__init__" "Facts.__init__" (defArgs st_FactsU_initU) (defBody st_FactsU_initU) (defScope st_FactsU_initU) (.ref dT_FactsU_initU) kV_FactsU_initU dc_FactsU_initU pm_FactsU_initU an_FactsU_initU cd_FactsU_initU ct_FactsU_initU), sl_FactsU_initU⟩)
    (lT_FactsU_initU : K.lookup dT_FactsU_initU = some ⟨ocT_FactsU_initU, odT_FactsU_initU, .seq #[.ref e_FactsU_initU_0] nT_FactsU_initU, slT_FactsU_initU⟩)
    (lE_FactsU_initU_0 : K.lookup e_FactsU_initU_0 = some ⟨.type "tuple", odE_FactsU_initU_0, .seq #[] nE_FactsU_initU_0, slE_FactsU_initU_0⟩)
    (c_FactsU_initU : PySem.W.codeIn K cd_FactsU_initU "Facts.__init__" = true)
    (k_FactsU_initU : PySem.W.keepIn K (.ref f_FactsU_initU) = true)
    (l_FactsU_lenU : K.lookup f_FactsU_lenU = some ⟨oc_FactsU_lenU, od_FactsU_lenU, .func (PySem.W.fnOf "__len__" "Facts.__len__" (defArgs st_FactsU_lenU) (defBody st_FactsU_lenU) (defScope st_FactsU_lenU) .none kV_FactsU_lenU dc_FactsU_lenU pm_FactsU_lenU an_FactsU_lenU cd_FactsU_lenU ct_FactsU_lenU), sl_FactsU_lenU⟩)
    (c_FactsU_lenU : PySem.W.codeIn K cd_FactsU_lenU "Facts.__len__" = true)
    (k_FactsU_lenU : PySem.W.keepIn K (.ref f_FactsU_lenU) = true)
    (l_Facts_fate : K.lookup f_Facts_fate = some ⟨oc_Facts_fate, od_Facts_fate, .func (PySem.W.fnOf "fate" "Facts.fate" (defArgs st_Facts_fate) (defBody st_Facts_fate) (defScope st_Facts_fate) .none kV_Facts_fate dc_Facts_fate pm_Facts_fate an_Facts_fate cd_Facts_fate ct_Facts_fate), sl_Facts_fate⟩)
    (c_Facts_fate : PySem.W.codeIn K cd_Facts_fate "Facts.fate" = true)
    (k_Facts_fate : PySem.W.keepIn K (.ref f_Facts_fate) = true)
    (l_Facts_window : K.lookup f_Facts_window = some ⟨oc_Facts_window, od_Facts_window, .func (PySem.W.fnOf "window" "Facts.window" (defArgs st_Facts_window) (defBody st_Facts_window) (defScope st_Facts_window) .none kV_Facts_window dc_Facts_window pm_Facts_window an_Facts_window cd_Facts_window ct_Facts_window), sl_Facts_window⟩)
    (c_Facts_window : PySem.W.codeIn K cd_Facts_window "Facts.window" = true)
    (k_Facts_window : PySem.W.keepIn K (.ref f_Facts_window) = true)
    (l__law_deck : K.lookup f__law_deck = some ⟨oc__law_deck, od__law_deck, .func (PySem.W.fnOf "_law_deck" "_law_deck" (defArgs st__law_deck) (defBody st__law_deck) (defScope st__law_deck) .none kV__law_deck dc__law_deck pm__law_deck an__law_deck cd__law_deck ct__law_deck), sl__law_deck⟩)
    (c__law_deck : PySem.W.codeIn K cd__law_deck "_law_deck" = true)
    (k__law_deck : PySem.W.keepIn K (.ref f__law_deck) = true)
    (l__law_draw : K.lookup f__law_draw = some ⟨oc__law_draw, od__law_draw, .func (PySem.W.fnOf "_law_draw" "_law_draw" (defArgs st__law_draw) (defBody st__law_draw) (defScope st__law_draw) .none kV__law_draw dc__law_draw pm__law_draw an__law_draw cd__law_draw ct__law_draw), sl__law_draw⟩)
    (c__law_draw : PySem.W.codeIn K cd__law_draw "_law_draw" = true)
    (k__law_draw : PySem.W.keepIn K (.ref f__law_draw) = true)
    (l__law_built : K.lookup f__law_built = some ⟨oc__law_built, od__law_built, .func (PySem.W.fnOf "_law_built" "_law_built" (defArgs st__law_built) (defBody st__law_built) (defScope st__law_built) .none kV__law_built dc__law_built pm__law_built an__law_built cd__law_built ct__law_built), sl__law_built⟩)
    (c__law_built : PySem.W.codeIn K cd__law_built "_law_built" = true)
    (k__law_built : PySem.W.keepIn K (.ref f__law_built) = true)
    (l__law_answer : K.lookup f__law_answer = some ⟨oc__law_answer, od__law_answer, .func (PySem.W.fnOf "_law_answer" "_law_answer" (defArgs st__law_answer) (defBody st__law_answer) (defScope st__law_answer) .none kV__law_answer dc__law_answer pm__law_answer an__law_answer cd__law_answer ct__law_answer), sl__law_answer⟩)
    (c__law_answer : PySem.W.codeIn K cd__law_answer "_law_answer" = true)
    (k__law_answer : PySem.W.keepIn K (.ref f__law_answer) = true)
    (l__law_known : K.lookup f__law_known = some ⟨oc__law_known, od__law_known, .func (PySem.W.fnOf "_law_known" "_law_known" (defArgs st__law_known) (defBody st__law_known) (defScope st__law_known) .none kV__law_known dc__law_known pm__law_known an__law_known cd__law_known ct__law_known), sl__law_known⟩)
    (c__law_known : PySem.W.codeIn K cd__law_known "_law_known" = true)
    (k__law_known : PySem.W.keepIn K (.ref f__law_known) = true)
    (l_law : K.lookup f_law = some ⟨oc_law, od_law, .func (PySem.W.fnOf "law" "law" (defArgs st_law) (defBody st_law) (defScope st_law) .none kV_law dc_law pm_law an_law cd_law ct_law), sl_law⟩)
    (c_law : PySem.W.codeIn K cd_law "law" = true)
    (k_law : PySem.W.keepIn K (.ref f_law) = true)
    (pg_Heap : PySem.W.plainGet K C_Heap Str.empty = true)
    (hd_Heap : PySem.W.hasDictIn K C_Heap = true)
    (po_Heap : PySem.W.plainOver K C_Heap = true)
    (sa_Heap : PySem.W.findIn K (.ref C_Heap) "__setattr__" = some (some (.builtin "object.__setattr__")))
    (mm_Heap : PySem.W.makesIn K C_Heap = true)
    (kc_Heap : PySem.W.keepIn K (.ref C_Heap) = true)
    (ii_Heap : PySem.W.isFn K (.ref f_HeapU_initU) = true)
    (na_Heap_asked_pairs : PySem.W.findIn K (.ref C_Heap) "asked_pairs" = some none)
    (na_Heap_bounds : PySem.W.findIn K (.ref C_Heap) "bounds" = some none)
    (na_Heap_first_gone : PySem.W.findIn K (.ref C_Heap) "first_gone" = some none)
    (na_Heap_holders : PySem.W.findIn K (.ref C_Heap) "holders" = some none)
    (na_Heap_kept_cells : PySem.W.findIn K (.ref C_Heap) "kept_cells" = some none)
    (na_Heap_last_there : PySem.W.findIn K (.ref C_Heap) "last_there" = some none)
    (na_Heap_moments : PySem.W.findIn K (.ref C_Heap) "moments" = some none)
    (na_Heap_standing : PySem.W.findIn K (.ref C_Heap) "standing" = some none)
    (na_Heap_story : PySem.W.findIn K (.ref C_Heap) "story" = some none)
    (na_Heap_strong : PySem.W.findIn K (.ref C_Heap) "strong" = some none)
    (na_Heap_told : PySem.W.findIn K (.ref C_Heap) "told" = some none)
    (na_Heap_why_gone : PySem.W.findIn K (.ref C_Heap) "why_gone" = some none)
    (na_Heap_why_there : PySem.W.findIn K (.ref C_Heap) "why_there" = some none)
    (mi_Heap_apply : PySem.W.isFn K (.ref f_Heap_apply) = true)
    (mi_Heap_held_lists : PySem.W.isFn K (.ref f_Heap_held_lists) = true)
    (mi_Heap_reached_flags : PySem.W.isFn K (.ref f_Heap_reached_flags) = true)
    (pg_Bounds : PySem.W.plainGet K C_Bounds Str.empty = true)
    (hd_Bounds : PySem.W.hasDictIn K C_Bounds = true)
    (po_Bounds : PySem.W.plainOver K C_Bounds = true)
    (sa_Bounds : PySem.W.findIn K (.ref C_Bounds) "__setattr__" = some (some (.builtin "object.__setattr__")))
    (mm_Bounds : PySem.W.makesIn K C_Bounds = true)
    (kc_Bounds : PySem.W.keepIn K (.ref C_Bounds) = true)
    (ii_Bounds : PySem.W.isFn K (.ref f_BoundsU_initU) = true)
    (na_Bounds_asked_pairs : PySem.W.findIn K (.ref C_Bounds) "asked_pairs" = some none)
    (na_Bounds_bounds : PySem.W.findIn K (.ref C_Bounds) "bounds" = some none)
    (na_Bounds_first_gone : PySem.W.findIn K (.ref C_Bounds) "first_gone" = some none)
    (na_Bounds_holders : PySem.W.findIn K (.ref C_Bounds) "holders" = some none)
    (na_Bounds_kept_cells : PySem.W.findIn K (.ref C_Bounds) "kept_cells" = some none)
    (na_Bounds_last_there : PySem.W.findIn K (.ref C_Bounds) "last_there" = some none)
    (na_Bounds_moments : PySem.W.findIn K (.ref C_Bounds) "moments" = some none)
    (na_Bounds_standing : PySem.W.findIn K (.ref C_Bounds) "standing" = some none)
    (na_Bounds_story : PySem.W.findIn K (.ref C_Bounds) "story" = some none)
    (na_Bounds_strong : PySem.W.findIn K (.ref C_Bounds) "strong" = some none)
    (na_Bounds_told : PySem.W.findIn K (.ref C_Bounds) "told" = some none)
    (na_Bounds_why_gone : PySem.W.findIn K (.ref C_Bounds) "why_gone" = some none)
    (na_Bounds_why_there : PySem.W.findIn K (.ref C_Bounds) "why_there" = some none)
    (mi_Bounds_chain : PySem.W.isFn K (.ref f_Bounds_chain) = true)
    (mi_Bounds_clash : PySem.W.isFn K (.ref f_Bounds_clash) = true)
    (mi_Bounds_copied : PySem.W.isFn K (.ref f_Bounds_copied) = true)
    (mi_Bounds_keep_gone : PySem.W.isFn K (.ref f_Bounds_keep_gone) = true)
    (mi_Bounds_keep_there : PySem.W.isFn K (.ref f_Bounds_keep_there) = true)
    (mi_Bounds_take_reached : PySem.W.isFn K (.ref f_Bounds_take_reached) = true)
    (pg_Facts : PySem.W.plainGet K C_Facts Str.empty = true)
    (hd_Facts : PySem.W.hasDictIn K C_Facts = true)
    (po_Facts : PySem.W.plainOver K C_Facts = true)
    (sa_Facts : PySem.W.findIn K (.ref C_Facts) "__setattr__" = some (some (.builtin "object.__setattr__")))
    (mm_Facts : PySem.W.makesIn K C_Facts = true)
    (kc_Facts : PySem.W.keepIn K (.ref C_Facts) = true)
    (ii_Facts : PySem.W.isFn K (.ref f_FactsU_initU) = true)
    (na_Facts_asked_pairs : PySem.W.findIn K (.ref C_Facts) "asked_pairs" = some none)
    (na_Facts_bounds : PySem.W.findIn K (.ref C_Facts) "bounds" = some none)
    (na_Facts_first_gone : PySem.W.findIn K (.ref C_Facts) "first_gone" = some none)
    (na_Facts_holders : PySem.W.findIn K (.ref C_Facts) "holders" = some none)
    (na_Facts_kept_cells : PySem.W.findIn K (.ref C_Facts) "kept_cells" = some none)
    (na_Facts_last_there : PySem.W.findIn K (.ref C_Facts) "last_there" = some none)
    (na_Facts_moments : PySem.W.findIn K (.ref C_Facts) "moments" = some none)
    (na_Facts_standing : PySem.W.findIn K (.ref C_Facts) "standing" = some none)
    (na_Facts_story : PySem.W.findIn K (.ref C_Facts) "story" = some none)
    (na_Facts_strong : PySem.W.findIn K (.ref C_Facts) "strong" = some none)
    (na_Facts_told : PySem.W.findIn K (.ref C_Facts) "told" = some none)
    (na_Facts_why_gone : PySem.W.findIn K (.ref C_Facts) "why_gone" = some none)
    (na_Facts_why_there : PySem.W.findIn K (.ref C_Facts) "why_there" = some none)
    (mi_Facts_UlenU : PySem.W.isFn K (.ref f_FactsU_lenU) = true)
    (mi_Facts_fate : PySem.W.isFn K (.ref f_Facts_fate) = true)
    (mi_Facts_tell : PySem.W.isFn K (.ref f_Facts_tell) = true)
    (mi_Facts_window : PySem.W.isFn K (.ref f_Facts_window) = true)
    (z_abs : PySem.W.nsIn K mainGlobals "abs" = some none)
    (z_enumerate : PySem.W.nsIn K mainGlobals "enumerate" = some none)
    (z_int : PySem.W.nsIn K mainGlobals "int" = some none)
    (z_len : PySem.W.nsIn K mainGlobals "len" = some none)
    (z_list : PySem.W.nsIn K mainGlobals "list" = some none)
    (z_max : PySem.W.nsIn K mainGlobals "max" = some none)
    (z_min : PySem.W.nsIn K mainGlobals "min" = some none)
    (z_range : PySem.W.nsIn K mainGlobals "range" = some none)
    (z_repr : PySem.W.nsIn K mainGlobals "repr" = some none)
    (z_str : PySem.W.nsIn K mainGlobals "str" = some none)
    (z_tuple : PySem.W.nsIn K mainGlobals "tuple" = some none) :
    ∃ (T : Tb) (fd : FuncData), T.K = K ∧ (∀ (s : Shared) (u : Value), BindsTo s fd ⟨[u], []⟩ [("_law_script", u)]) ∧ ∀ base : Heap, T.K.In base → base.Ns mainGlobals mg → FnG l.prog w T.K mg base 7 fa fd ["_law_script"] (SpM T 1 m_law) := by
  have e := hfa.symm.trans (PySem.W.mg_of X G a_law)
  cases e
  have F_HeapU_initU := fun_mk (st := st_HeapU_initU) l_HeapU_initU c_HeapU_initU k_HeapU_initU
  have b_HeapU_initU := F_HeapU_initU.binds (ps := ["self"]) fun _ _ _ _ _ _ us hl => match us, hl with | [_], _ => rfl
  have F_Heap_apply := fun_mk (st := st_Heap_apply) l_Heap_apply c_Heap_apply k_Heap_apply
  have b_Heap_apply := F_Heap_apply.binds (ps := ["self", "item"]) fun _ _ _ _ _ _ us hl => match us, hl with | [_, _], _ => rfl
  have F_Heap_held_lists := fun_mk (st := st_Heap_held_lists) l_Heap_held_lists c_Heap_held_lists k_Heap_held_lists
  have b_Heap_held_lists := F_Heap_held_lists.binds (ps := ["self"]) fun _ _ _ _ _ _ us hl => match us, hl with | [_], _ => rfl
  have F_Heap_reached_flags := fun_mk (st := st_Heap_reached_flags) l_Heap_reached_flags c_Heap_reached_flags k_Heap_reached_flags
  have b_Heap_reached_flags := F_Heap_reached_flags.binds (ps := ["self", "held"]) fun _ _ _ _ _ _ us hl => match us, hl with | [_, _], _ => rfl
  have F_holders_of := fun_mk (st := st_holders_of) l_holders_of c_holders_of k_holders_of
  have b_holders_of := F_holders_of.binds (ps := ["held"]) fun _ _ _ _ _ _ us hl => match us, hl with | [_], _ => rfl
  have F_moments_of := fun_mk (st := st_moments_of) l_moments_of c_moments_of k_moments_of
  have b_moments_of := F_moments_of.binds (ps := ["story"]) fun _ _ _ _ _ _ us hl => match us, hl with | [_], _ => rfl
  have F_questions_of := fun_mk (st := st_questions_of) l_questions_of c_questions_of k_questions_of
  have b_questions_of := F_questions_of.binds (ps := ["story"]) fun _ _ _ _ _ _ us hl => match us, hl with | [_], _ => rfl
  have F_BoundsU_initU := fun_mk (st := st_BoundsU_initU) l_BoundsU_initU c_BoundsU_initU k_BoundsU_initU
  have b_BoundsU_initU := F_BoundsU_initU.binds (ps := ["self", "moments", "holders"]) fun _ _ _ _ _ _ us hl => match us, hl with | [_, _, _], _ => rfl
  have F_Bounds_copied := fun_mk (st := st_Bounds_copied) l_Bounds_copied c_Bounds_copied k_Bounds_copied
  have b_Bounds_copied := F_Bounds_copied.binds (ps := ["self"]) fun _ _ _ _ _ _ us hl => match us, hl with | [_], _ => rfl
  have F_Bounds_keep_there := fun_mk (st := st_Bounds_keep_there) l_Bounds_keep_there c_Bounds_keep_there k_Bounds_keep_there
  have b_Bounds_keep_there := F_Bounds_keep_there.binds (ps := ["self", "cell", "moment", "why"]) fun _ _ _ _ _ _ us hl => match us, hl with | [_, _, _, _], _ => rfl
  have F_Bounds_keep_gone := fun_mk (st := st_Bounds_keep_gone) l_Bounds_keep_gone c_Bounds_keep_gone k_Bounds_keep_gone
  have b_Bounds_keep_gone := F_Bounds_keep_gone.binds (ps := ["self", "cell", "moment", "why"]) fun _ _ _ _ _ _ us hl => match us, hl with | [_, _, _, _], _ => rfl
  have F_Bounds_take_reached := fun_mk (st := st_Bounds_take_reached) l_Bounds_take_reached c_Bounds_take_reached k_Bounds_take_reached
  have b_Bounds_take_reached := F_Bounds_take_reached.binds (ps := ["self"]) fun _ _ _ _ _ _ us hl => match us, hl with | [_], _ => rfl
  have F_numbered := fun_mk (st := st_numbered) l_numbered c_numbered k_numbered
  have b_numbered := F_numbered.binds (ps := ["rows", "first"]) fun _ _ _ _ _ _ us hl => match us, hl with | [_, _], _ => rfl
  have F_Bounds_chain := fun_mk (st := st_Bounds_chain) l_Bounds_chain c_Bounds_chain k_Bounds_chain
  have b_Bounds_chain := F_Bounds_chain.binds (ps := ["self", "cell", "moment", "state", "first"]) fun _ _ _ _ _ _ us hl => match us, hl with | [_, _, _, _, _], _ => rfl
  have F_Bounds_clash := fun_mk (st := st_Bounds_clash) l_Bounds_clash c_Bounds_clash k_Bounds_clash
  have b_Bounds_clash := F_Bounds_clash.binds (ps := ["self"]) fun _ _ _ _ _ _ us hl => match us, hl with | [_], _ => rfl
  have F_Facts_tell := fun_mk (st := st_Facts_tell) l_Facts_tell c_Facts_tell k_Facts_tell
  have b_Facts_tell := F_Facts_tell.binds (ps := ["self", "answer"]) fun _ _ _ _ _ _ us hl => match us, hl with | [_, _], _ => rfl
  have F_FactsU_initU : FunD K "__init__" "Facts.__init__" (defArgs st_FactsU_initU) (defBody st_FactsU_initU) (defScope st_FactsU_initU) [V.ref e_FactsU_initU_0] [] f_FactsU_initU _ := ⟨⟨_, _, _, _, _, _, _, _, _, _, rfl, l_FactsU_initU, c_FactsU_initU, .inr ⟨by simp, _, _, [.ref e_FactsU_initU_0], _, rfl, lT_FactsU_initU, rfl, (.cons rfl .nil)⟩, .inl rfl⟩, k_FactsU_initU⟩
  have b_FactsU_initU_0 := bindD_of (das := [(.tup [])]) (F_FactsU_initU.binds1 (ps := ["self", "story", "answers"]) 2 0 (by simp) (by rfl) fun _ _ _ _ _ _ _ us its hl hi => match us, its, hl, hi with | [_, _], [_], _, _ => ⟨_, rfl, rfl⟩) fun T ρ H e => (.cons (empty_rv (by rw [e]; exact lE_FactsU_initU_0)) .nil)
  have b_FactsU_initU_1 := bindD_of (das := []) (F_FactsU_initU.binds1 (ps := ["self", "story", "answers"]) 3 1 (by simp) (by rfl) fun _ _ _ _ _ _ _ us its hl hi => match us, its, hl, hi with | [_, _, _], [_], _, _ => ⟨_, rfl, rfl⟩) fun T ρ H e => .nil
  have F_FactsU_lenU := fun_mk (st := st_FactsU_lenU) l_FactsU_lenU c_FactsU_lenU k_FactsU_lenU
  have b_FactsU_lenU := F_FactsU_lenU.binds (ps := ["self"]) fun _ _ _ _ _ _ us hl => match us, hl with | [_], _ => rfl
  have F_Facts_fate := fun_mk (st := st_Facts_fate) l_Facts_fate c_Facts_fate k_Facts_fate
  have b_Facts_fate := F_Facts_fate.binds (ps := ["self", "cell", "moment"]) fun _ _ _ _ _ _ us hl => match us, hl with | [_, _, _], _ => rfl
  have F_Facts_window := fun_mk (st := st_Facts_window) l_Facts_window c_Facts_window k_Facts_window
  have b_Facts_window := F_Facts_window.binds (ps := ["self", "cell"]) fun _ _ _ _ _ _ us hl => match us, hl with | [_, _], _ => rfl
  have F__law_deck := fun_mk (st := st__law_deck) l__law_deck c__law_deck k__law_deck
  have b__law_deck := F__law_deck.binds (ps := ["_law_script"]) fun _ _ _ _ _ _ us hl => match us, hl with | [_], _ => rfl
  have F__law_draw := fun_mk (st := st__law_draw) l__law_draw c__law_draw k__law_draw
  have b__law_draw := F__law_draw.binds (ps := ["_law_deck_here", "_law_many"]) fun _ _ _ _ _ _ us hl => match us, hl with | [_, _], _ => rfl
  have F__law_built := fun_mk (st := st__law_built) l__law_built c__law_built k__law_built
  have b__law_built := F__law_built.binds (ps := ["_law_deck_here", "_law_many", "_law_items"]) fun _ _ _ _ _ _ us hl => match us, hl with | [_, _, _], _ => rfl
  have F__law_answer := fun_mk (st := st__law_answer) l__law_answer c__law_answer k__law_answer
  have b__law_answer := F__law_answer.binds (ps := ["_law_deck_here", "_law_cell", "_law_moment", "_law_there", "_law_gone"]) fun _ _ _ _ _ _ us hl => match us, hl with | [_, _, _, _, _], _ => rfl
  have F__law_known := fun_mk (st := st__law_known) l__law_known c__law_known k__law_known
  have b__law_known := F__law_known.binds (ps := ["_law_deck_here", "_law_facts", "_law_there", "_law_gone"]) fun _ _ _ _ _ _ us hl => match us, hl with | [_, _, _, _], _ => rfl
  have F_law := fun_mk (st := st_law) l_law c_law k_law
  have b_law := F_law.binds (ps := ["_law_script"]) fun _ _ _ _ _ _ us hl => match us, hl with | [_], _ => rfl
  let Z : TX K mg := { f_HeapU_initU := _, d_HeapU_initU := _, F_HeapU_initU := F_HeapU_initU, b_HeapU_initU := b_HeapU_initU, f_Heap_apply := _, d_Heap_apply := _, F_Heap_apply := F_Heap_apply, b_Heap_apply := b_Heap_apply, f_Heap_held_lists := _, d_Heap_held_lists := _, F_Heap_held_lists := F_Heap_held_lists, b_Heap_held_lists := b_Heap_held_lists, f_Heap_reached_flags := _, d_Heap_reached_flags := _, F_Heap_reached_flags := F_Heap_reached_flags, b_Heap_reached_flags := b_Heap_reached_flags, f_holders_of := _, d_holders_of := _, F_holders_of := F_holders_of, b_holders_of := b_holders_of, g_holders_of := PySem.W.mg_of X G a_holders_of, f_moments_of := _, d_moments_of := _, F_moments_of := F_moments_of, b_moments_of := b_moments_of, g_moments_of := PySem.W.mg_of X G a_moments_of, f_questions_of := _, d_questions_of := _, F_questions_of := F_questions_of, b_questions_of := b_questions_of, g_questions_of := PySem.W.mg_of X G a_questions_of, f_BoundsU_initU := _, d_BoundsU_initU := _, F_BoundsU_initU := F_BoundsU_initU, b_BoundsU_initU := b_BoundsU_initU, f_Bounds_copied := _, d_Bounds_copied := _, F_Bounds_copied := F_Bounds_copied, b_Bounds_copied := b_Bounds_copied, f_Bounds_keep_there := _, d_Bounds_keep_there := _, F_Bounds_keep_there := F_Bounds_keep_there, b_Bounds_keep_there := b_Bounds_keep_there, f_Bounds_keep_gone := _, d_Bounds_keep_gone := _, F_Bounds_keep_gone := F_Bounds_keep_gone, b_Bounds_keep_gone := b_Bounds_keep_gone, f_Bounds_take_reached := _, d_Bounds_take_reached := _, F_Bounds_take_reached := F_Bounds_take_reached, b_Bounds_take_reached := b_Bounds_take_reached, f_numbered := _, d_numbered := _, F_numbered := F_numbered, b_numbered := b_numbered, g_numbered := PySem.W.mg_of X G a_numbered, f_Bounds_chain := _, d_Bounds_chain := _, F_Bounds_chain := F_Bounds_chain, b_Bounds_chain := b_Bounds_chain, f_Bounds_clash := _, d_Bounds_clash := _, F_Bounds_clash := F_Bounds_clash, b_Bounds_clash := b_Bounds_clash, f_Facts_tell := _, d_Facts_tell := _, F_Facts_tell := F_Facts_tell, b_Facts_tell := b_Facts_tell, f_FactsU_initU := _, d_FactsU_initU := _, F_FactsU_initU := F_FactsU_initU, e_FactsU_initU_0 := _, b_FactsU_initU_0 := b_FactsU_initU_0, b_FactsU_initU_1 := b_FactsU_initU_1, f_FactsU_lenU := _, d_FactsU_lenU := _, F_FactsU_lenU := F_FactsU_lenU, b_FactsU_lenU := b_FactsU_lenU, f_Facts_fate := _, d_Facts_fate := _, F_Facts_fate := F_Facts_fate, b_Facts_fate := b_Facts_fate, f_Facts_window := _, d_Facts_window := _, F_Facts_window := F_Facts_window, b_Facts_window := b_Facts_window, f__law_deck := _, d__law_deck := _, F__law_deck := F__law_deck, b__law_deck := b__law_deck, g__law_deck := PySem.W.mg_of X G a__law_deck, f__law_draw := _, d__law_draw := _, F__law_draw := F__law_draw, b__law_draw := b__law_draw, g__law_draw := PySem.W.mg_of X G a__law_draw, f__law_built := _, d__law_built := _, F__law_built := F__law_built, b__law_built := b__law_built, g__law_built := PySem.W.mg_of X G a__law_built, f__law_answer := _, d__law_answer := _, F__law_answer := F__law_answer, b__law_answer := b__law_answer, g__law_answer := PySem.W.mg_of X G a__law_answer, f__law_known := _, d__law_known := _, F__law_known := F__law_known, b__law_known := b__law_known, g__law_known := PySem.W.mg_of X G a__law_known, f_law := _, d_law := _, F_law := F_law, b_law := b_law, g_law := PySem.W.mg_of X G a_law, C_Heap := C_Heap, cl_Heap := ⟨pg_Heap, hd_Heap, po_Heap, sa_Heap⟩, gc_Heap := PySem.W.mg_of X G aC_Heap, mk_Heap := ⟨mm_Heap, in_Heap, ii_Heap, kc_Heap⟩, na_Heap_asked_pairs := na_Heap_asked_pairs, na_Heap_bounds := na_Heap_bounds, na_Heap_first_gone := na_Heap_first_gone, na_Heap_holders := na_Heap_holders, na_Heap_kept_cells := na_Heap_kept_cells, na_Heap_last_there := na_Heap_last_there, na_Heap_moments := na_Heap_moments, na_Heap_standing := na_Heap_standing, na_Heap_story := na_Heap_story, na_Heap_strong := na_Heap_strong, na_Heap_told := na_Heap_told, na_Heap_why_gone := na_Heap_why_gone, na_Heap_why_there := na_Heap_why_there, mt_Heap_apply := ⟨ma_Heap_apply, mi_Heap_apply, k_Heap_apply⟩, mt_Heap_held_lists := ⟨ma_Heap_held_lists, mi_Heap_held_lists, k_Heap_held_lists⟩, mt_Heap_reached_flags := ⟨ma_Heap_reached_flags, mi_Heap_reached_flags, k_Heap_reached_flags⟩, C_Bounds := C_Bounds, cl_Bounds := ⟨pg_Bounds, hd_Bounds, po_Bounds, sa_Bounds⟩, gc_Bounds := PySem.W.mg_of X G aC_Bounds, mk_Bounds := ⟨mm_Bounds, in_Bounds, ii_Bounds, kc_Bounds⟩, na_Bounds_asked_pairs := na_Bounds_asked_pairs, na_Bounds_bounds := na_Bounds_bounds, na_Bounds_first_gone := na_Bounds_first_gone, na_Bounds_holders := na_Bounds_holders, na_Bounds_kept_cells := na_Bounds_kept_cells, na_Bounds_last_there := na_Bounds_last_there, na_Bounds_moments := na_Bounds_moments, na_Bounds_standing := na_Bounds_standing, na_Bounds_story := na_Bounds_story, na_Bounds_strong := na_Bounds_strong, na_Bounds_told := na_Bounds_told, na_Bounds_why_gone := na_Bounds_why_gone, na_Bounds_why_there := na_Bounds_why_there, mt_Bounds_chain := ⟨ma_Bounds_chain, mi_Bounds_chain, k_Bounds_chain⟩, mt_Bounds_clash := ⟨ma_Bounds_clash, mi_Bounds_clash, k_Bounds_clash⟩, mt_Bounds_copied := ⟨ma_Bounds_copied, mi_Bounds_copied, k_Bounds_copied⟩, mt_Bounds_keep_gone := ⟨ma_Bounds_keep_gone, mi_Bounds_keep_gone, k_Bounds_keep_gone⟩, mt_Bounds_keep_there := ⟨ma_Bounds_keep_there, mi_Bounds_keep_there, k_Bounds_keep_there⟩, mt_Bounds_take_reached := ⟨ma_Bounds_take_reached, mi_Bounds_take_reached, k_Bounds_take_reached⟩, C_Facts := C_Facts, cl_Facts := ⟨pg_Facts, hd_Facts, po_Facts, sa_Facts⟩, gc_Facts := PySem.W.mg_of X G aC_Facts, mk_Facts := ⟨mm_Facts, in_Facts, ii_Facts, kc_Facts⟩, na_Facts_asked_pairs := na_Facts_asked_pairs, na_Facts_bounds := na_Facts_bounds, na_Facts_first_gone := na_Facts_first_gone, na_Facts_holders := na_Facts_holders, na_Facts_kept_cells := na_Facts_kept_cells, na_Facts_last_there := na_Facts_last_there, na_Facts_moments := na_Facts_moments, na_Facts_standing := na_Facts_standing, na_Facts_story := na_Facts_story, na_Facts_strong := na_Facts_strong, na_Facts_told := na_Facts_told, na_Facts_why_gone := na_Facts_why_gone, na_Facts_why_there := na_Facts_why_there, mt_Facts_UlenU := ⟨ma_Facts_UlenU, mi_Facts_UlenU⟩, mt_Facts_fate := ⟨ma_Facts_fate, mi_Facts_fate, k_Facts_fate⟩, mt_Facts_tell := ⟨ma_Facts_tell, mi_Facts_tell, k_Facts_tell⟩, mt_Facts_window := ⟨ma_Facts_window, mi_Facts_window, k_Facts_window⟩, n_abs := PySem.W.mg_none_of X G z_abs, n_enumerate := PySem.W.mg_none_of X G z_enumerate, n_int := PySem.W.mg_none_of X G z_int, n_len := PySem.W.mg_none_of X G z_len, n_list := PySem.W.mg_none_of X G z_list, n_max := PySem.W.mg_none_of X G z_max, n_min := PySem.W.mg_none_of X G z_min, n_range := PySem.W.mg_none_of X G z_range, n_repr := PySem.W.mg_none_of X G z_repr, n_str := PySem.W.mg_none_of X G z_str, n_tuple := PySem.W.mg_none_of X G z_tuple }
  exact ⟨Z.T w, Z.d_law, rfl, fun s u => .of_eq rfl, fun base _ _ => sim_law Z⟩
end K36

/-! S13: how pure programs are computed: weakest preconditions -/
namespace Sm
open PySem L2
/-- a mark that keeps simp from what it speaks of -/
inductive Tg {α : Type} (x : α) : Type where
  | a | b
/-- behind an expression: the value and the store (Q), or an exception (E) -/
def WE0 {α : Type} (m : M α) (s : Sto) (Q : α → Sto → Prop) (E : Ex → Sto → Prop) : Prop := match m s with
  | .ok a s' => Q a s'
  | .exc e s' => E e s'
  | .fail => False
structure WE {α : Type} (m : M α) (s : Sto) (Q : α → Sto → Prop) (E : Ex → Sto → Prop) (_ : Tg (Q, E) := .a) : Prop where
  h : WE0 m s Q E
theorem WE_eq {α : Type} {m : M α} {s : Sto} {Q : α → Sto → Prop} {E : Ex → Sto → Prop} : WE m s Q E = WE0 m s Q E := propext ⟨fun x => x.h, fun x => ⟨x⟩⟩
/-- behind a statement -/
structure RK where
  nx : Lo → Sto → Prop
  rt : Vl → Sto → Prop
  bk : Lo → Sto → Prop
  ct : Lo → Sto → Prop
  ex : Ex → Lo → Sto → Prop
def WS0 (b : SM) (lo : Lo) (s : Sto) (K : RK) : Prop := match b lo s with
  | .nx lo s => K.nx lo s
  | .rt v s => K.rt v s
  | .bk lo s => K.bk lo s
  | .ct lo s => K.ct lo s
  | .exc e lo s => K.ex e lo s
  | .fail => False
structure WS (b : SM) (lo : Lo) (s : Sto) (K : RK) (_ : Tg K := .a) : Prop where
  h : WS0 b lo s K
theorem WS_eq {b : SM} {lo : Lo} {s : Sto} {K : RK} : WS b lo s K = WS0 b lo s K := propext ⟨fun x => x.h, fun x => ⟨x⟩⟩
def WO0 {α : Type} (o : Option (α × Sto)) (Q : α → Sto → Prop) : Prop := match o with
  | some (a, s) => Q a s
  | none => False
structure WO {α : Type} (o : Option (α × Sto)) (Q : α → Sto → Prop) (_ : Tg Q := .a) : Prop where
  h : WO0 o Q
theorem WO_eq {α : Type} {o : Option (α × Sto)} {Q : α → Sto → Prop} : WO o Q = WO0 o Q := propext ⟨fun x => x.h, fun x => ⟨x⟩⟩
theorem WE_ext {α : Type} {m : M α} {s : Sto} {Q Q' : α → Sto → Prop} {E : Ex → Sto → Prop} (h : ∀ a s, Q a s = Q' a s) : WE m s Q E = WE m s Q' E := by
  have : Q = Q' := funext fun a => funext fun s => h a s
  subst this
  rfl
abbrev NoX : Ex → Sto → Prop := fun _ _ => False
theorem WE.mono {α : Type} {m : M α} {s : Sto} {Q Q' : α → Sto → Prop} {E E' : Ex → Sto → Prop} (h : WE m s Q E) (k : ∀ a s', Q a s' → Q' a s') (kx : ∀ e s', E e s' → E' e s') : WE m s Q' E' := by
  simp only [WE_eq] at h ⊢
  unfold WE0 at h ⊢
  cases e : m s with
  | ok a s' => rw [e] at h; exact k a s' h
  | exc x s' => rw [e] at h; exact kx x s' h
  | fail => rw [e] at h; exact h
/-- what is known of a call, used -/
theorem WE.use {α : Type} {m : M α} {s : Sto} {Q Q' : α → Sto → Prop} {E' : Ex → Sto → Prop} (h : WE m s Q NoX) (k : ∀ a s', Q a s' → Q' a s') : WE m s Q' E' := h.mono k fun _ _ z => z.elim
theorem WE.ok {α : Type} {m : M α} {s s' : Sto} {a : α} {Q : α → Sto → Prop} {E : Ex → Sto → Prop} (h : m s = .ok a s') (k : Q a s') : WE m s Q E := by
  simp only [WE_eq]
  unfold WE0; rw [h]; exact k
theorem WE.get {α : Type} {m : M α} {s : Sto} {Q : α → Sto → Prop} (h : WE m s Q NoX) : ∃ a s', m s = .ok a s' ∧ Q a s' := by
  simp only [WE_eq] at h
  unfold WE0 at h
  cases e : m s with
  | ok a s' => rw [e] at h; exact ⟨a, s', rfl, h⟩
  | exc x s' => rw [e] at h; exact h.elim
  | fail => rw [e] at h; exact h.elim
theorem WS.mono {b : SM} {lo : Lo} {s : Sto} {K K' : RK} (h : WS b lo s K) (k1 : ∀ lo s, K.nx lo s → K'.nx lo s) (k2 : ∀ v s, K.rt v s → K'.rt v s) (k3 : ∀ lo s, K.bk lo s → K'.bk lo s) (k4 : ∀ lo s, K.ct lo s → K'.ct lo s) (k5 : ∀ e lo s, K.ex e lo s → K'.ex e lo s) : WS b lo s K' := by
  simp only [WS_eq] at h ⊢
  unfold WS0 at h ⊢
  cases e : b lo s with
  | nx lo s => rw [e] at h; exact k1 lo s h
  | rt v s => rw [e] at h; exact k2 v s h
  | bk lo s => rw [e] at h; exact k3 lo s h
  | ct lo s => rw [e] at h; exact k4 lo s h
  | exc x lo s => rw [e] at h; exact k5 x lo s h
  | fail => rw [e] at h; exact h
section
variable {α β : Type} {m : M α} {s : Sto} {lo : Lo} {Q : α → Sto → Prop} {QV : Vl → Sto → Prop} {QB : Bool → Sto → Prop} {QA : List Vl → Sto → Prop} {Q' : β → Sto → Prop} {E : Ex → Sto → Prop} {K : RK}
@[simp ↓] theorem WO_some {a : α} : WO (some (a, s)) Q = Q a s := by simp only [WO_eq]; rfl
@[simp ↓] theorem WO_none : WO (none : Option (α × Sto)) Q = False := by simp only [WO_eq]; rfl
@[simp ↓] theorem WE_bnd {f : α → M β} : WE (bnd m f) s Q' E = WE m s (fun a s => WE (f a) s Q' E) E := by
  simp only [WE_eq]
  unfold WE0 bnd
  cases m s <;> rfl
@[simp ↓] theorem WE_ret {a : α} : WE (ret a) s Q E = Q a s := by simp only [WE_eq]; rfl
@[simp ↓] theorem WE_fail : WE (failM : M α) s Q E = False := by simp only [WE_eq]; rfl
@[simp ↓] theorem WE_lift {f : Sto → Option (α × Sto)} : WE (lift f) s Q E = WO (f s) Q := by
  simp only [WE_eq, WO_eq]
  unfold WE0 lift WO0
  cases f s with
  | none => rfl
  | some p => obtain ⟨a, s'⟩ := p; rfl
theorem WE_eVar {i : Nat} {v : Vl} (h : lo[i]? = some (some v)) : WE (eVar i lo) s QV E = QV v s := by
  simp only [WE_eq]
  unfold WE0 eVar; rw [h]
@[simp ↓] theorem WE_eVar' {i : Nat} : WE (eVar i lo) s QV E = (match lo[i]? with | some (some v) => QV v s | _ => False) := by
  simp only [WE_eq]
  unfold WE0 eVar
  cases lo[i]? with
  | none => rfl
  | some o => cases o <;> rfl
@[simp ↓] theorem WE_eC {v : Vl} : WE (eC v lo) s QV E = QV v s := by simp only [WE_eq]; rfl
@[simp ↓] theorem WE_eOp1 {f : O1} {a : EM} : WE (eOp1 f a lo) s QV E = WE (a lo) s (fun x s => WO (f x s) QV) E := by
  unfold eOp1
  rw [WE_bnd]
  exact WE_ext fun x s => WE_lift
@[simp ↓] theorem WE_eOp {f : O2} {a b : EM} : WE (eOp f a b lo) s QV E = WE (a lo) s (fun x s => WE (b lo) s (fun y s => WO (f x y s) QV) E) E := by
  unfold eOp
  rw [WE_bnd]
  refine WE_ext fun x s => ?_
  rw [WE_bnd]
  exact WE_ext fun y s => WE_lift
@[simp ↓] theorem WE_aNil : WE (aNil lo) s QA E = QA [] s := by simp only [WE_eq]; rfl
@[simp ↓] theorem WE_aCons {a : EM} {r : AM} : WE (aCons a r lo) s QA E = WE (a lo) s (fun x s => WE (r lo) s (fun xs s => QA (x :: xs) s) E) E := by
  unfold aCons
  rw [WE_bnd]
  refine WE_ext fun x s => ?_
  rw [WE_bnd]
  exact WE_ext fun xs s => WE_ret
@[simp ↓] theorem WE_eCB {f : OC} {a : AM} : WE (eCB f a lo) s QV E = WE (a lo) s (fun xs s => WO (f xs s) QV) E := by
  unfold eCB
  rw [WE_bnd]
  exact WE_ext fun x s => WE_lift
@[simp ↓] theorem WE_eCall {mf : List Vl → M Vl} {a : AM} : WE (eCall mf a lo) s QV E = WE (a lo) s (fun as s => WE (mf as) s QV E) E := by unfold eCall; rw [WE_bnd]
@[simp ↓] theorem WE_arg {n : Nat} {mf : List Vl → M Vl} {as : List Vl} : WE (arg n mf as) s QV E = (if as.length = n then WE (mf as) s QV E else False) := by
  by_cases h : as.length = n <;> simp [WE_eq, WE0, arg, h]
@[simp ↓] theorem WE_argI {n : Nat} {mf : List Vl → M Vl} {as : List Vl} : WE (argI n mf as) s QV E = (if as.length = n + 1 then WE (mf as) s QV E else False) := by
  by_cases h : as.length = n + 1 <;> simp [WE_eq, WE0, argI, h]
@[simp ↓] theorem WE_tVal {a : EM} : WE (tVal a lo) s QB E = WE (a lo) s (fun x s => match x with | .bl b => QB b s | _ => False) E := by
  unfold tVal
  rw [WE_bnd]
  refine WE_ext fun x s => ?_
  cases x <;> (simp only [WE_eq]; rfl)
@[simp ↓] theorem WE_tAndM {a b : TM} : WE (tAndM a b lo) s QB E = WE (a lo) s (fun x s => if x = true then WE (b lo) s QB E else QB false s) E := by
  unfold tAndM
  rw [WE_bnd]
  refine WE_ext fun x s => ?_
  cases x <;> simp
@[simp ↓] theorem WE_tOrM {a b : TM} : WE (tOrM a b lo) s QB E = WE (a lo) s (fun x s => if x = true then QB true s else WE (b lo) s QB E) E := by
  unfold tOrM
  rw [WE_bnd]
  refine WE_ext fun x s => ?_
  cases x <;> simp
@[simp ↓] theorem WE_tNotM {a : TM} : WE (tNotM a lo) s QB E = WE (a lo) s (fun x s => QB (!x) s) E := by unfold tNotM; rw [WE_bnd]; exact WE_ext fun x s => WE_ret
@[simp ↓] theorem WE_eAndM {a b : EM} : WE (eAndM a b lo) s QV E = WE (a lo) s (fun x s => match x with | .bl true => WE (b lo) s QV E | .bl false => QV (.bl false) s | _ => False) E := by
  unfold eAndM
  rw [WE_bnd]
  refine WE_ext fun x s => ?_
  cases x <;> try (simp only [WE_eq]; rfl)
  rename_i k
  cases k <;> simp only [WE_eq] <;> rfl
@[simp ↓] theorem WE_eOrM {a b : EM} : WE (eOrM a b lo) s QV E = WE (a lo) s (fun x s => match x with | .bl false => WE (b lo) s QV E | .bl true => QV (.bl true) s | _ => False) E := by
  unfold eOrM
  rw [WE_bnd]
  refine WE_ext fun x s => ?_
  cases x <;> try (simp only [WE_eq]; rfl)
  rename_i k
  cases k <;> simp only [WE_eq] <;> rfl
@[simp ↓] theorem WE_eNotM {a : EM} : WE (eNotM a lo) s QV E = WE (a lo) s (fun x s => match x with | .bl b => QV (.bl (!b)) s | _ => False) E := by
  unfold eNotM
  rw [WE_bnd]
  refine WE_ext fun x s => ?_
  cases x <;> (simp only [WE_eq]; rfl)
@[simp ↓] theorem WE_eIfM {t : TM} {a b : EM} : WE (eIfM t a b lo) s QV E = WE (t lo) s (fun x s => if x = true then WE (a lo) s QV E else WE (b lo) s QV E) E := by
  unfold eIfM
  rw [WE_bnd]
  refine WE_ext fun x s => ?_
  cases x <;> simp
@[simp ↓] theorem WE_eBm {t : Kd} {f : OMt} {o : EM} {a : AM} : WE (eBm t f o a lo) s QV E = WE (o lo) s (fun x s => if kd t x s = true then WE (a lo) s (fun xs s => WO (f x xs s) QV) E else False) E := by
  unfold eBm
  rw [WE_bnd]
  refine WE_ext fun x s => ?_
  show WE (fun s => match kd t x s with | true => bnd (a lo) (fun xs => lift (f x xs)) s | false => .fail) s QV E = _
  cases h : kd t x s with
  | true =>
    rw [if_pos rfl]
    have : WE (bnd (a lo) (fun xs => lift (f x xs))) s QV E = WE (a lo) s (fun xs s => WO (f x xs s) QV) E := by
      rw [WE_bnd]
      exact WE_ext fun xs s => WE_lift
    rw [← this]
    simp only [WE_eq]
    unfold WE0
    simp only [h]
  | false =>
    rw [if_neg (by decide)]
    simp only [WE_eq]
    unfold WE0
    simp only [h]
@[simp ↓] theorem WE_eBm0 {t : Kd} {f : OMt} {o : EM} : WE (eBm0 t f o lo) s QV E = WE (o lo) s (fun x s => if kd t x s = true then WO (f x [] s) QV else False) E := by
  unfold eBm0
  rw [WE_bnd]
  refine WE_ext fun x s => ?_
  show WE (fun s => match kd t x s with | true => lift (f x []) s | false => .fail) s QV E = _
  cases h : kd t x s with
  | true =>
    rw [if_pos rfl, ← WE_lift (E := E)]
    simp only [WE_eq]
    unfold WE0
    simp only [h]
  | false =>
    rw [if_neg (by decide)]
    simp only [WE_eq]
    unfold WE0
    simp only [h]
def fldW (cs : List Nat) (f : Str) (x : Vl) (s : Sto) (QV : Vl → Sto → Prop) : Prop := match x with
  | .ref j => match s[j]? with
    | some (.ins c fs) => c ∈ cs ∧ match getS fs f with
        | some v => QV v s
        | none => False
    | _ => False
  | _ => False
@[simp ↓] theorem WE_eFld {cs : List Nat} {f : Str} {o : EM} : WE (eFld cs f o lo) s QV E = WE (o lo) s (fun x s => fldW cs f x s QV) E := by
  unfold eFld
  rw [WE_bnd]
  refine WE_ext fun x s => ?_
  simp only [WE_eq]
  unfold WE0 fldW
  cases x <;> try rfl
  rename_i j
  simp only
  cases h : s[j]? with
  | none => simp only [h]
  | some o =>
    cases o <;> simp only [h]
    rename_i c fs
    by_cases hc : c ∈ cs
    · simp only [hc, if_true, true_and]
      cases getS fs f <;> rfl
    · simp [hc]
@[simp ↓] theorem WE_fnM {n : Nat} {b : SM} {as : List Vl} : WE (fnM n b as) s QV E = WS b (as.map some ++ List.replicate (n - as.length) none) s ⟨fun _ s => QV .non s, QV, fun _ _ => False, fun _ _ => False, fun e _ s => E e s⟩ := by
  simp only [WE_eq, WS_eq]
  unfold WE0 WS0 fnM
  cases b (as.map some ++ List.replicate (n - as.length) none) s <;> rfl
@[simp ↓] theorem WE_eSl {f : OSl} {a : EM} {l h : Option EM} : WE (eSl f a l h lo) s QV E = WE (a lo) s (fun x s => WE (oPart l lo) s (fun i s => WE (oPart h lo) s (fun j s => WO (f x i j s) QV) E) E) E := by
  unfold eSl
  rw [WE_bnd]
  refine WE_ext fun x s => ?_
  rw [WE_bnd]
  refine WE_ext fun i s => ?_
  rw [WE_bnd]
  exact WE_ext fun j s => WE_lift
@[simp ↓] theorem WE_oPartN {QO : Option Int → Sto → Prop} : WE (oPart none lo) s QO E = QO none s := by simp only [WE_eq]; rfl
@[simp ↓] theorem WE_oPartS {QO : Option Int → Sto → Prop} {a : EM} : WE (oPart (some a) lo) s QO E = WE (a lo) s (fun x s => match x with | .int i => QO (some i) s | _ => False) E := by
  show WE (bnd (a lo) _) s QO E = _
  rw [WE_bnd]
  refine WE_ext fun x s => ?_
  cases x <;> (simp only [WE_eq]; rfl)
@[simp ↓] theorem WE_eDict0 : WE (eDict0 lo) s QV E = QV (.ref s.length) (s ++ [.dic []]) := by simp only [WE_eq]; rfl
/-! statements -/
@[simp ↓] theorem WS_sNil : WS sNil lo s K = K.nx lo s := by simp only [WS_eq]; rfl
@[simp ↓] theorem WS_sBreak : WS sBreak lo s K = K.bk lo s := by simp only [WS_eq]; rfl
@[simp ↓] theorem WS_sCont : WS sCont lo s K = K.ct lo s := by simp only [WS_eq]; rfl
@[simp ↓] theorem WS_sRetN : WS sRetN lo s K = K.rt .non s := by simp only [WS_eq]; rfl
@[simp ↓] theorem WS_sSeq {a b : SM} : WS (sSeq a b) lo s K = WS a lo s ⟨fun lo s => WS b lo s K, K.rt, K.bk, K.ct, K.ex⟩ := by
  simp only [WS_eq]
  unfold WS0 sSeq
  cases a lo s <;> rfl
theorem WS_bndS {m : Lo → M α} {f : Lo → α → Sto → RS} : WS (bndS m f) lo s K = WE (m lo) s (fun a s => match f lo a s with | .nx lo s => K.nx lo s | .rt v s => K.rt v s | .bk lo s => K.bk lo s | .ct lo s => K.ct lo s | .exc e lo s => K.ex e lo s | .fail => False) (fun e s => K.ex e lo s) := by
  simp only [WS_eq, WE_eq]
  unfold WS0 WE0 bndS
  cases m lo s <;> rfl
@[simp ↓] theorem WS_sExpr {e : EM} : WS (sExpr e) lo s K = WE (e lo) s (fun _ s => K.nx lo s) (fun x s => K.ex x lo s) := by unfold sExpr; rw [WS_bndS]
@[simp ↓] theorem WS_sRet {e : EM} : WS (sRet e) lo s K = WE (e lo) s K.rt (fun x s => K.ex x lo s) := by unfold sRet; rw [WS_bndS]
@[simp ↓] theorem WS_sSet {i : Nat} {e : EM} : WS (sSet i e) lo s K = WE (e lo) s (fun v s => K.nx (lo.set i (some v)) s) (fun x s => K.ex x lo s) := by unfold sSet; rw [WS_bndS]
@[simp ↓] theorem WS_sIf {t : TM} {a b : SM} : WS (sIf t a b) lo s K = WE (t lo) s (fun c s => if c = true then WS a lo s K else WS b lo s K) (fun x s => K.ex x lo s) := by
  unfold sIf
  rw [WS_bndS]
  refine WE_ext fun c s => ?_
  cases c <;> simp [WS_eq, WS0]
@[simp ↓] theorem WS_sPar {i j : Nat} {a : AM} : WS (sPar i j a) lo s K = WE (a lo) s (fun vs s => match vs with | [v, w] => K.nx ((lo.set i (some v)).set j (some w)) s | _ => False) (fun x s => K.ex x lo s) := by
  unfold sPar
  rw [WS_bndS]
  refine WE_ext fun vs s => ?_
  match vs with
  | [] => rfl
  | [_] => rfl
  | [_, _] => rfl
  | _ :: _ :: _ :: _ => rfl
@[simp ↓] theorem WS_sPar3 {i j l : Nat} {a : AM} : WS (sPar3 i j l a) lo s K = WE (a lo) s (fun vs s => match vs with | [v, w, x] => K.nx (((lo.set i (some v)).set j (some w)).set l (some x)) s | _ => False) (fun x s => K.ex x lo s) := by
  unfold sPar3
  rw [WS_bndS]
  refine WE_ext fun vs s => ?_
  match vs with
  | [] => rfl
  | [_] => rfl
  | [_, _] => rfl
  | [_, _, _] => rfl
  | _ :: _ :: _ :: _ :: _ => rfl
/-- targets -/
structure WG (g : GM) (v : Vl) (lo : Lo) (s : Sto) (N : Lo → Sto → Prop) (E : Ex → Sto → Prop) (_ : Tg (N, E) := .a) : Prop where
  h : WE (g v lo) s N E
theorem WG_eq {g : GM} {v : Vl} {lo : Lo} {s : Sto} {N : Lo → Sto → Prop} {E : Ex → Sto → Prop} : WG g v lo s N E = WE (g v lo) s N E := propext ⟨fun x => x.h, fun x => ⟨x⟩⟩
@[simp ↓] theorem WG_gNm {i : Nat} {v : Vl} {N : Lo → Sto → Prop} : WG (gNm i) v lo s N E = N (lo.set i (some v)) s := by simp only [WG_eq, WE_eq]; rfl
@[simp ↓] theorem WG_gTp {js : List Nat} {xs : List Vl} {N : Lo → Sto → Prop} : WG (gTp js) (.tup xs) lo s N E = (match gNms js xs lo with | some lo' => N lo' s | none => False) := by
  simp only [WG_eq, WE_eq]
  unfold WE0 gTp
  simp only
  cases gNms js xs lo <;> rfl
@[simp] theorem gNms_nil {lo : Lo} : gNms [] [] lo = some lo := rfl
@[simp] theorem gNms_cons {j : Nat} {js : List Nat} {v : Vl} {vs : List Vl} {lo : Lo} : gNms (j :: js) (v :: vs) lo = gNms js vs (lo.set j (some v)) := rfl
@[simp ↓] theorem WG_gSb {f : OSet} {o i : EM} {v : Vl} {N : Lo → Sto → Prop} : WG (gSb f o i) v lo s N E = WE (o lo) s (fun x s => WE (i lo) s (fun y s => match f x y v s with | some s' => N lo s' | none => False) E) E := by
  simp only [WG_eq]
  unfold gSb
  rw [WE_bnd]
  refine WE_ext fun x s => ?_
  rw [WE_bnd]
  refine WE_ext fun y s => ?_
  simp only [WE_eq]
  unfold WE0 liftU
  cases f x y v s <;> rfl
@[simp ↓] theorem WS_sAsg {g : GM} {e : EM} : WS (sAsg g e) lo s K = WE (e lo) s (fun v s => WG g v lo s K.nx (fun x s => K.ex x lo s)) (fun x s => K.ex x lo s) := by
  unfold sAsg
  rw [WS_bndS]
  refine WE_ext fun v s => ?_
  simp only [WG_eq, WE_eq]
  unfold WE0
  cases g v lo s <;> rfl
@[simp ↓] theorem WS_sFldM {cs : List Nat} {f : Str} {o e : EM} : WS (sFldM cs f o e) lo s K = WE (e lo) s (fun v s => WE (o lo) s (fun x s => match setFld cs f x v s with | some s' => K.nx lo s' | none => False) (fun x s => K.ex x lo s)) (fun x s => K.ex x lo s) := by
  unfold sFldM
  rw [WS_bndS]
  refine WE_ext fun v s => ?_
  refine Eq.trans (b := WS (bndS o fun lo x s => match setFld cs f x v s with | some s' => .nx lo s' | none => .fail) lo s K) (by simp only [WS_eq]; rfl) ?_
  rw [WS_bndS]
  refine WE_ext fun x s => ?_
  cases setFld cs f x v s <;> rfl
/-! methods, making -/
def methW (m : Str) (tab : MTab) (x : Vl) (s : Sto) (P : (List Vl → M Vl) → Prop) : Prop := match x with
  | .ref j => match s[j]? with
    | some (.ins c fs) => match tab c, getS fs m with
      | some mf, none => P mf
      | _, _ => False
    | _ => False
  | _ => False
theorem WE_eMeth {m : Str} {tab : MTab} {o : EM} {a : AM} : WE (eMeth m tab o a lo) s QV E = WE (o lo) s (fun x s => methW m tab x s fun mf => WE (a lo) s (fun as s => WE (mf (x :: as)) s QV E) E) E := by
  unfold eMeth
  rw [WE_bnd]
  refine WE_ext fun x s => ?_
  cases x <;> try (simp only [WE_eq]; rfl)
  rename_i j
  unfold methW
  show WE (fun s => match s[j]? with | some (.ins c fs) => (match tab c, getS fs m with | some mf, none => bnd (a lo) (fun as => mf (.ref j :: as)) s | _, _ => .fail) | _ => .fail) s QV E = _
  have key : ∀ mf : List Vl → M Vl, WE (a lo) s (fun as s => WE (mf (.ref j :: as)) s QV E) E = WE (bnd (a lo) (fun as => mf (.ref j :: as))) s QV E := fun mf => by rw [WE_bnd]
  simp only [key]
  simp only [WE_eq]
  unfold WE0
  simp only
  cases h : s[j]? with
  | none => rfl
  | some o =>
    cases o <;> try rfl
    rename_i c fs
    simp only
    cases h1 : tab c with
    | none => rfl
    | some mf => cases h2 : getS fs m <;> rfl
theorem WE_eMake {c : Nat} {mi : List Vl → M Vl} {a : AM} : WE (eMake c mi a lo) s QV E = WE (a lo) s (fun as s => WE (mi (.ref s.length :: as)) (s ++ [.ins c []]) (fun v s' => match v with | .non => QV (.ref s.length) s' | _ => False) E) E := by
  unfold eMake
  rw [WE_bnd]
  refine WE_ext fun as s => ?_
  simp only [WE_eq]
  unfold WE0
  simp only
  cases h : mi (.ref s.length :: as) (s ++ [.ins c []]) with
  | ok v s' => cases v <;> rfl
  | exc e s' => rfl
  | fail => rfl
end
end Sm

/-! S14: loops and comprehensions of pure programs -/
namespace Sm
open PySem L2
section
variable {α : Type} {s : Sto} {lo : Lo} {QV : Vl → Sto → Prop} {QA : List Vl → Sto → Prop} {QN : NX → Sto → Prop} {E : Ex → Sto → Prop} {K : RK}
@[simp ↓] theorem WE_aTup {e : EM} : WE (aTup e lo) s QA E = WE (e lo) s (fun x s => match x with | .tup xs => QA xs s | _ => False) E := by
  unfold aTup
  rw [WE_bnd]
  refine WE_ext fun x s => ?_
  cases x <;> simp only [WE_eq] <;> rfl
def rngW (xs : List Vl) (s : Sto) (QA : List Vl → Sto → Prop) : Prop := match xs with
  | [.int n] => (-(2 ^ 62) ≤ n ∧ n < 2 ^ 62) ∧ QA (rng 0 n.toNat) s
  | _ => False
theorem rngW_one {n : Int} : rngW [.int n] s QA = ((-(2 ^ 62) ≤ n ∧ n < 2 ^ 62) ∧ QA (rng 0 n.toNat) s) := rfl
@[simp ↓] theorem WE_aRng {a : AM} : WE (aRng a lo) s QA E = WE (a lo) s (fun xs s => rngW xs s QA) E := by
  unfold aRng
  rw [WE_bnd]
  refine WE_ext fun xs s => ?_
  match xs with
  | [] => simp only [WE_eq]; rfl
  | [.int n] =>
    simp only [rngW]
    by_cases h : -(2 ^ 62) ≤ n ∧ n < 2 ^ 62
    · rw [if_pos h]; simp only [h, and_self, true_and, WE_ret]
    · rw [if_neg h, WE_fail]
      exact (propext ⟨fun z => z.elim, fun z => absurd z.1 h⟩)
  | .non :: _ => simp only [WE_eq]; rfl
  | .bl _ :: _ => simp only [WE_eq]; rfl
  | .str _ :: _ => simp only [WE_eq]; rfl
  | .tup _ :: _ => simp only [WE_eq]; rfl
  | .ref _ :: _ => simp only [WE_eq]; rfl
  | .scr _ :: _ => simp only [WE_eq]; rfl
  | .ty _ :: _ => simp only [WE_eq]; rfl
  | .fn _ :: _ => simp only [WE_eq]; rfl
  | .int _ :: _ :: _ => simp only [WE_eq]; rfl
def lstW (x : Vl) (s : Sto) (P : Nat → List Vl → Prop) : Prop := match x with
  | .ref j => match s[j]? with
    | some (.lst xs) => P j xs
    | _ => False
  | _ => False
@[simp] theorem lstW_ref {j : Nat} {P : Nat → List Vl → Prop} : lstW (.ref j) s P = (match s[j]? with | some (.lst xs) => P j xs | _ => False) := rfl
@[simp ↓] theorem WE_iLst {e : EM} : WE (iLst e lo) s QN E = WE (e lo) s (fun x s => lstW x s fun j _ => QN (nxLst j) s) E := by
  unfold iLst
  rw [WE_bnd]
  refine WE_ext fun x s => ?_
  cases x <;> try (simp only [WE_eq]; rfl)
  rename_i j
  simp only [WE_eq]
  unfold WE0 lstW
  simp only
  cases h : s[j]? with
  | none => rfl
  | some o => cases o <;> rfl
def lst1W (xs : List Vl) (s : Sto) (P : Nat → List Vl → Prop) : Prop := match xs with
  | [x] => lstW x s P
  | _ => False
@[simp] theorem lst1W_one {x : Vl} {P : Nat → List Vl → Prop} : lst1W [x] s P = lstW x s P := rfl
@[simp ↓] theorem WE_iEnm {a : AM} : WE (iEnm a lo) s QN E = WE (a lo) s (fun xs s => lst1W xs s fun j _ => QN (nxEnum j) s) E := by
  unfold iEnm
  rw [WE_bnd]
  refine WE_ext fun xs s => ?_
  match xs with
  | [] => simp only [WE_eq]; rfl
  | [.ref j] =>
    simp only [WE_eq]
    unfold WE0 lst1W lstW
    simp only
    cases h : s[j]? with
    | none => rfl
    | some o => cases o <;> rfl
  | .non :: _ => cases ‹List Vl› <;> simp only [WE_eq] <;> rfl
  | .bl _ :: _ => cases ‹List Vl› <;> simp only [WE_eq] <;> rfl
  | .int _ :: _ => cases ‹List Vl› <;> simp only [WE_eq] <;> rfl
  | .str _ :: _ => cases ‹List Vl› <;> simp only [WE_eq] <;> rfl
  | .tup _ :: _ => cases ‹List Vl› <;> simp only [WE_eq] <;> rfl
  | .scr _ :: _ => cases ‹List Vl› <;> simp only [WE_eq] <;> rfl
  | .ty _ :: _ => cases ‹List Vl› <;> simp only [WE_eq] <;> rfl
  | .fn _ :: _ => cases ‹List Vl› <;> simp only [WE_eq] <;> rfl
  | .ref _ :: _ :: _ => simp only [WE_eq]; rfl
@[simp ↓] theorem WS_sForX {ma : AM} {g : GM} {b : SM} : WS (sForX ma g b) lo s K = WE (ma lo) s (fun xs s => WS (loopX g b xs) lo s K) (fun e s => K.ex e lo s) := by
  unfold sForX
  rw [WS_bndS]
  refine WE_ext fun xs s => ?_
  simp only [WS_eq]
  rfl
@[simp ↓] theorem WS_sFor {n : Nat} {m : IM} {g : GM} {b : SM} : WS (sFor n m g b) lo s K = WE (m lo) s (fun nx s => WS (loopN nx g b n 0) lo s K) (fun e s => K.ex e lo s) := by
  unfold sFor
  rw [WS_bndS]
  refine WE_ext fun xs s => ?_
  simp only [WS_eq]
  rfl
/-- a for by its invariant -/
theorem loopX_inv {g : GM} {b : SM} {xs : List Vl} (I : Nat → Lo → Sto → Prop) (h0 : I 0 lo s)
    (hs : ∀ i v lo s, xs[i]? = some v → I i lo s → WG g v lo s (fun lo s => WS b lo s ⟨I (i + 1), K.rt, K.nx, I (i + 1), K.ex⟩) (fun e s => K.ex e lo s)) (hd : ∀ lo s, I xs.length lo s → K.nx lo s) : WS (loopX g b xs) lo s K := by
  have key : ∀ (ys : List Vl) (i : Nat) (lo : Lo) (s : Sto), xs.drop i = ys → i ≤ xs.length → I i lo s → WS (loopX g b ys) lo s K := by
    intro ys
    induction ys with
    | nil =>
      intro i lo s e hi h
      have : i = xs.length := Nat.le_antisymm hi (List.drop_eq_nil_iff.mp e)
      subst this
      exact ⟨hd lo s h⟩
    | cons y ys ih =>
      intro i lo s e hi h
      have hi' : i < xs.length := by
        rcases Nat.lt_or_ge i xs.length with q | q
        · exact q
        · rw [List.drop_eq_nil_of_le q] at e; cases e
      rw [List.drop_eq_getElem_cons hi'] at e
      obtain ⟨e1, e2⟩ := List.cons.inj e
      have st := hs i y lo s (by rw [List.getElem?_eq_getElem hi', e1]) h
      simp only [WS_eq]
      unfold WS0 loopX
      simp only [WG_eq, WE_eq] at st
      unfold WE0 at st
      cases q : g y lo s with
      | fail => simp only [q] at st
      | exc z s' => simp only [q] at st ⊢; exact st
      | ok lo' s' =>
        simp only [q] at st ⊢
        simp only [WS_eq] at st
        unfold WS0 at st
        cases q2 : b lo' s' with
        | nx lo2 s2 => simp only [q2] at st ⊢; exact (ih (i + 1) lo2 s2 e2 hi' st).h
        | ct lo2 s2 => simp only [q2] at st ⊢; exact (ih (i + 1) lo2 s2 e2 hi' st).h
        | bk lo2 s2 => simp only [q2] at st ⊢; exact st
        | rt v s2 => simp only [q2] at st ⊢; exact st
        | exc z lo2 s2 => simp only [q2] at st ⊢; exact st
        | fail => simp only [q2] at st
  exact key xs 0 lo s (by simp) (Nat.zero_le _) h0
/-- the same over what nx tells: n items, at each turn the i-th one is f i -/
theorem loopN_inv {nx : NX} {g : GM} {b : SM} {n fuel : Nat} (I : Nat → Lo → Sto → Prop) (f : Nat → Vl) (hf : n < fuel) (h0 : I 0 lo s) (hn : ∀ i lo s, i < n → I i lo s → nx i s = some (some (f i))) (he : ∀ lo s, I n lo s → nx n s = some none)
    (hs : ∀ i lo s, i < n → I i lo s → WG g (f i) lo s (fun lo s => WS b lo s ⟨I (i + 1), K.rt, K.nx, I (i + 1), K.ex⟩) (fun e s => K.ex e lo s)) (hd : ∀ lo s, I n lo s → K.nx lo s) : WS (loopN nx g b fuel 0) lo s K := by
  have key : ∀ (k i : Nat) (lo : Lo) (s : Sto), n - i < k → i ≤ n → I i lo s → WS (loopN nx g b k i) lo s K := by
    intro k
    induction k with
    | zero => intro i lo s h; omega
    | succ k ih =>
      intro i lo s hk hi h
      simp only [WS_eq]
      unfold WS0 loopN
      rcases Nat.lt_or_ge i n with q | q
      · simp only [hn i lo s q h]
        have st := hs i lo s q h
        simp only [WG_eq, WE_eq] at st
        unfold WE0 at st
        cases q1 : g (f i) lo s with
        | fail => simp only [q1] at st
        | exc z s' => simp only [q1] at st ⊢; exact st
        | ok lo' s' =>
          simp only [q1] at st ⊢
          simp only [WS_eq] at st
          unfold WS0 at st
          cases q2 : b lo' s' with
          | nx lo2 s2 => simp only [q2] at st ⊢; exact (ih (i + 1) lo2 s2 (by omega) q st).h
          | ct lo2 s2 => simp only [q2] at st ⊢; exact (ih (i + 1) lo2 s2 (by omega) q st).h
          | bk lo2 s2 => simp only [q2] at st ⊢; exact st
          | rt v s2 => simp only [q2] at st ⊢; exact st
          | exc z lo2 s2 => simp only [q2] at st ⊢; exact st
          | fail => simp only [q2] at st
      · have : i = n := Nat.le_antisymm hi q
        subst this
        simp only [he lo s h]
        exact hd lo s h
  exact key fuel 0 lo s (by omega) (Nat.zero_le _) h0
/-- over a list that the loop leaves as it is -/
theorem loopL_inv {j : Nat} {xs : List Vl} {g : GM} {b : SM} {fuel : Nat} (I : Nat → Lo → Sto → Prop) (hf : xs.length < fuel) (h0 : I 0 lo s) (hl : ∀ i lo s, I i lo s → s[j]? = some (.lst xs))
    (hs : ∀ i v lo s, xs[i]? = some v → I i lo s → WG g v lo s (fun lo s => WS b lo s ⟨I (i + 1), K.rt, K.nx, I (i + 1), K.ex⟩) (fun e s => K.ex e lo s)) (hd : ∀ lo s, I xs.length lo s → K.nx lo s) : WS (loopN (nxLst j) g b fuel 0) lo s K :=
  loopN_inv I (fun i => (xs[i]?).getD .non) hf h0 (fun i lo s hi h => by simp only [nxLst, hl i lo s h, List.getElem?_eq_getElem hi, Option.getD]) (fun lo s h => by simp only [nxLst, hl _ lo s h]; rw [List.getElem?_eq_none (Nat.le_refl _)])
    (fun i lo s hi h => by
      have := hs i xs[i] lo s (List.getElem?_eq_getElem hi) h
      simpa only [List.getElem?_eq_getElem hi, Option.getD] using this) hd
/-- enumerate -/
theorem loopE_inv {j : Nat} {xs : List Vl} {g : GM} {b : SM} {fuel : Nat} (I : Nat → Lo → Sto → Prop) (hf : xs.length < fuel) (h0 : I 0 lo s) (hl : ∀ i lo s, I i lo s → s[j]? = some (.lst xs))
    (hs : ∀ i v lo s, xs[i]? = some v → I i lo s → WG g (.tup [.int (i : Nat), v]) lo s (fun lo s => WS b lo s ⟨I (i + 1), K.rt, K.nx, I (i + 1), K.ex⟩) (fun e s => K.ex e lo s)) (hd : ∀ lo s, I xs.length lo s → K.nx lo s) : WS (loopN (nxEnum j) g b fuel 0) lo s K :=
  loopN_inv I (fun i => .tup [.int (i : Nat), (xs[i]?).getD .non]) hf h0 (fun i lo s hi h => by simp only [nxEnum, hl i lo s h, List.getElem?_eq_getElem hi, Option.getD]) (fun lo s h => by simp only [nxEnum, hl _ lo s h]; rw [List.getElem?_eq_none (Nat.le_refl _)])
    (fun i lo s hi h => by
      have := hs i xs[i] lo s (List.getElem?_eq_getElem hi) h
      simpa only [List.getElem?_eq_getElem hi, Option.getD] using this) hd
/-- while, by an invariant with a number that falls -/
theorem loopW_inv {t : TM} {b : SM} {n : Nat} (I : Nat → Lo → Sto → Prop) (m0 : Nat) (hm : m0 < n) (h0 : I m0 lo s)
    (hs : ∀ m lo s, I m lo s → WE (t lo) s (fun c s' => if c = true then WS b lo s' ⟨fun lo s => ∃ m', m' < m ∧ I m' lo s, K.rt, K.nx, fun lo s => ∃ m', m' < m ∧ I m' lo s, K.ex⟩ else K.nx lo s') (fun e s => K.ex e lo s)) : WS (loopW t b n) lo s K := by
  have key : ∀ (k m : Nat) (lo : Lo) (s : Sto), m < k → I m lo s → WS (loopW t b k) lo s K := by
    intro k
    induction k with
    | zero => intro m lo s h; omega
    | succ k ih =>
      intro m lo s hk h
      have st := hs m lo s h
      simp only [WS_eq]
      unfold WS0 loopW
      simp only [WE_eq] at st
      unfold WE0 at st
      cases q : t lo s with
      | fail => simp only [q] at st
      | exc z s' => simp only [q] at st ⊢; exact st
      | ok c s' =>
        cases c with
        | false => simp only [q] at st ⊢; exact (by simpa using st)
        | true =>
          simp only [q, if_true] at st ⊢
          simp only [WS_eq] at st
          unfold WS0 at st
          cases q2 : b lo s' with
          | nx lo2 s2 => simp only [q2] at st ⊢; obtain ⟨m', h1, h2⟩ := st; exact (ih m' lo2 s2 (by omega) h2).h
          | ct lo2 s2 => simp only [q2] at st ⊢; obtain ⟨m', h1, h2⟩ := st; exact (ih m' lo2 s2 (by omega) h2).h
          | bk lo2 s2 => simp only [q2] at st ⊢; exact st
          | rt v s2 => simp only [q2] at st ⊢; exact st
          | exc z lo2 s2 => simp only [q2] at st ⊢; exact st
          | fail => simp only [q2] at st
  exact key n m0 lo s hm h0
/-! ### comprehensions -/
def WL0 (o : Option Sto) (Q : Sto → Prop) : Prop := match o with
  | some s => Q s
  | none => False
structure WL (o : Option Sto) (Q : Sto → Prop) (_ : Tg Q := .a) : Prop where
  h : WL0 o Q
theorem WL_eq {o : Option Sto} {Q : Sto → Prop} : WL o Q = WL0 o Q := propext ⟨fun x => x.h, fun x => ⟨x⟩⟩
@[simp ↓] theorem WE_eLc {n : Nat} {m : IM} {g : GL} {t : TM} {e : EM} {vs : List Nat} : WE (eLc n m g t e vs lo) s QV E = WE (m lo) s (fun nx s => WL (lcN nx g t e s.length (wipeL lo vs) n 0 (s ++ [.lst []])) fun s' => QV (.ref s.length) s') E := by
  unfold eLc
  rw [WE_bnd]
  refine WE_ext fun nx s => ?_
  simp only [WE_eq, WL_eq]
  unfold WE0 WL0
  simp only
  cases lcN nx g t e s.length (wipeL lo vs) n 0 (s ++ [.lst []]) <;> rfl
@[simp ↓] theorem WE_eLcX {m : AM} {g : GL} {t : TM} {e : EM} {vs : List Nat} : WE (eLcX m g t e vs lo) s QV E = WE (m lo) s (fun xs s => WL (lcX g t e s.length (wipeL lo vs) xs (s ++ [.lst []])) fun s' => QV (.ref s.length) s') E := by
  unfold eLcX
  rw [WE_bnd]
  refine WE_ext fun xs s => ?_
  simp only [WE_eq, WL_eq]
  unfold WE0 WL0
  simp only
  cases lcX g t e s.length (wipeL lo vs) xs (s ++ [.lst []]) <;> rfl
/-- one turn -/
def LcT (t : TM) (e : EM) (d : Nat) (lo : Lo) (s : Sto) (Q : Sto → Prop) : Prop :=
  WE (t lo) s (fun c s => if c = true then WE (e lo) s (fun y s => match s[d]? with | some (.lst acc) => acc.length < LIM ∧ Q (s.set d (.lst (acc ++ [y]))) | _ => False) NoX else Q s) NoX
theorem lcStep_of {t : TM} {e : EM} {d : Nat} {lo : Lo} {s : Sto} {Q : Sto → Prop} (h : LcT t e d lo s Q) : ∃ s', lcStep t e d lo s = some s' ∧ Q s' := by
  unfold LcT at h
  simp only [WE_eq] at h
  unfold WE0 at h
  unfold lcStep
  cases q : t lo s with
  | fail => simp only [q] at h
  | exc z s1 => simp only [q] at h; exact h.elim
  | ok c s1 =>
    cases c with
    | false => simp only [q] at h ⊢; exact ⟨s1, rfl, by simpa using h⟩
    | true =>
      simp only [q, if_true] at h ⊢
      cases q2 : e lo s1 with
      | fail => simp only [q2] at h
      | exc z s2 => simp only [q2] at h; exact h.elim
      | ok y s2 =>
        simp only [q2] at h ⊢
        split at h
        · rename_i acc hacc
          simp only [hacc, if_pos h.1]
          exact ⟨_, rfl, h.2⟩
        · exact h.elim
theorem lcX_inv {g : GL} {t : TM} {e : EM} {d : Nat} {xs : List Vl} {s : Sto} {Q : Sto → Prop} (I : Nat → Sto → Prop) (h0 : I 0 s) (hs : ∀ i v s, xs[i]? = some v → I i s → ∃ lo', g v lo = some lo' ∧ LcT t e d lo' s (I (i + 1))) (hd : ∀ s, I xs.length s → Q s) :
    WL (lcX g t e d lo xs s) Q := by
  have key : ∀ (ys : List Vl) (i : Nat) (s : Sto), xs.drop i = ys → i ≤ xs.length → I i s → WL (lcX g t e d lo ys s) Q := by
    intro ys
    induction ys with
    | nil =>
      intro i s e hi h
      have : i = xs.length := Nat.le_antisymm hi (List.drop_eq_nil_iff.mp e)
      subst this
      exact ⟨hd s h⟩
    | cons y ys ih =>
      intro i s e hi h
      have hi' : i < xs.length := by
        rcases Nat.lt_or_ge i xs.length with q | q
        · exact q
        · rw [List.drop_eq_nil_of_le q] at e; cases e
      rw [List.drop_eq_getElem_cons hi'] at e
      obtain ⟨e1, e2⟩ := List.cons.inj e
      obtain ⟨lo', g1, g2⟩ := hs i y s (by rw [List.getElem?_eq_getElem hi', e1]) h
      obtain ⟨s', k1, k2⟩ := lcStep_of g2
      unfold lcX
      simp only [g1, k1]
      exact ih (i + 1) s' e2 hi' k2
  exact key xs 0 s (by simp) (Nat.zero_le _) h0
theorem lcN_inv {nx : NX} {g : GL} {t : TM} {e : EM} {d n fuel : Nat} {s : Sto} {Q : Sto → Prop} (I : Nat → Sto → Prop) (f : Nat → Vl) (hf : n < fuel) (h0 : I 0 s) (hn : ∀ i s, i < n → I i s → nx i s = some (some (f i))) (he : ∀ s, I n s → nx n s = some none)
    (hs : ∀ i s, i < n → I i s → ∃ lo', g (f i) lo = some lo' ∧ LcT t e d lo' s (I (i + 1))) (hd : ∀ s, I n s → Q s) : WL (lcN nx g t e d lo fuel 0 s) Q := by
  have key : ∀ (k i : Nat) (s : Sto), n - i < k → i ≤ n → I i s → WL (lcN nx g t e d lo k i s) Q := by
    intro k
    induction k with
    | zero => intro i s h; omega
    | succ k ih =>
      intro i s hk hi h
      unfold lcN
      rcases Nat.lt_or_ge i n with q | q
      · simp only [hn i s q h]
        obtain ⟨lo', g1, g2⟩ := hs i s q h
        obtain ⟨s', k1, k2⟩ := lcStep_of g2
        simp only [g1, k1]
        exact ih (i + 1) s' (by omega) q k2
      · have : i = n := Nat.le_antisymm hi q
        subst this
        simp only [he s h]
        exact ⟨hd s h⟩
  exact key fuel 0 s (by omega) (Nat.zero_le _) h0
theorem lcL_inv {j : Nat} {xs : List Vl} {g : GL} {t : TM} {e : EM} {d fuel : Nat} {s : Sto} {Q : Sto → Prop} (I : Nat → Sto → Prop) (hf : xs.length < fuel) (h0 : I 0 s) (hl : ∀ i s, I i s → s[j]? = some (.lst xs))
    (hs : ∀ i v s, xs[i]? = some v → I i s → ∃ lo', g v lo = some lo' ∧ LcT t e d lo' s (I (i + 1))) (hd : ∀ s, I xs.length s → Q s) : WL (lcN (nxLst j) g t e d lo fuel 0 s) Q :=
  lcN_inv I (fun i => (xs[i]?).getD .non) hf h0 (fun i s hi h => by simp only [nxLst, hl i s h, List.getElem?_eq_getElem hi, Option.getD]) (fun s h => by simp only [nxLst, hl _ s h]; rw [List.getElem?_eq_none (Nat.le_refl _)])
    (fun i s hi h => by
      have := hs i xs[i] s (List.getElem?_eq_getElem hi) h
      simpa only [List.getElem?_eq_getElem hi, Option.getD] using this) hd
theorem lcE_inv {j : Nat} {xs : List Vl} {g : GL} {t : TM} {e : EM} {d fuel : Nat} {s : Sto} {Q : Sto → Prop} (I : Nat → Sto → Prop) (hf : xs.length < fuel) (h0 : I 0 s) (hl : ∀ i s, I i s → s[j]? = some (.lst xs))
    (hs : ∀ i v s, xs[i]? = some v → I i s → ∃ lo', g (.tup [.int (i : Nat), v]) lo = some lo' ∧ LcT t e d lo' s (I (i + 1))) (hd : ∀ s, I xs.length s → Q s) : WL (lcN (nxEnum j) g t e d lo fuel 0 s) Q :=
  lcN_inv I (fun i => .tup [.int (i : Nat), (xs[i]?).getD .non]) hf h0 (fun i s hi h => by simp only [nxEnum, hl i s h, List.getElem?_eq_getElem hi, Option.getD]) (fun s h => by simp only [nxEnum, hl _ s h]; rw [List.getElem?_eq_none (Nat.le_refl _)])
    (fun i s hi h => by
      have := hs i xs[i] s (List.getElem?_eq_getElem hi) h
      simpa only [List.getElem?_eq_getElem hi, Option.getD] using this) hd
theorem lcV_inv {j : Nat} {kvs : List (Key × Vl)} {g : GL} {t : TM} {e : EM} {d fuel : Nat} {s : Sto} {Q : Sto → Prop} (I : Nat → Sto → Prop) (hf : kvs.length < fuel) (h0 : I 0 s) (hl : ∀ i s, I i s → s[j]? = some (.fdic kvs))
    (hs : ∀ i v s, (kvs.map (·.2))[i]? = some v → I i s → ∃ lo', g v lo = some lo' ∧ LcT t e d lo' s (I (i + 1))) (hd : ∀ s, I kvs.length s → Q s) : WL (lcN (nxVals j) g t e d lo fuel 0 s) Q :=
  lcN_inv I (fun i => ((kvs.map (·.2))[i]?).getD .non) hf h0 (fun i s hi h => by simp only [nxVals, hl i s h, List.getElem?_eq_getElem hi, List.getElem?_map, Option.map, Option.getD]) (fun s h => by simp only [nxVals, hl _ s h]; rw [List.getElem?_eq_none (Nat.le_refl _)])
    (fun i s hi h => by
      have hi' : i < (kvs.map (·.2)).length := by rw [List.length_map]; exact hi
      have := hs i (kvs.map (·.2))[i] s (List.getElem?_eq_getElem hi') h
      simpa only [List.getElem?_eq_getElem hi', Option.getD] using this) hd
/-- where neither test nor element changes the store: kept items by f -/
def LcP (g : GL) (t : TM) (e : EM) (lo : Lo) (s : Sto) (x : Vl) (r : Option Vl) : Prop := ∀ acc, ∃ lo', g x lo = some lo' ∧ WE (t lo') (s ++ [.lst acc]) (fun c s' => s' = s ++ [.lst acc] ∧ if c = true then WE (e lo') s' (fun y s'' => s'' = s ++ [.lst acc] ∧ r = some y) NoX else r = none) NoX
theorem LcP.turn {g : GL} {t : TM} {e : EM} {s : Sto} {x : Vl} {r : Option Vl} {acc : List Vl} (h : LcP g t e lo s x r) (hl : acc.length < LIM) : ∃ lo', g x lo = some lo' ∧ LcT t e s.length lo' (s ++ [.lst acc]) fun s' => s' = s ++ [.lst (acc ++ r.toList)] := by
  obtain ⟨lo', h1, h2⟩ := h acc
  refine ⟨lo', h1, WE.mono h2 (fun c s' hc => ?_) fun _ _ z => z⟩
  obtain ⟨rfl, h3⟩ := hc
  cases c with
  | false =>
    simp only [if_false, Bool.false_eq_true] at h3 ⊢
    subst h3
    simp
  | true =>
    simp only [if_true] at h3 ⊢
    refine WE.mono h3 (fun y s'' hy => ?_) fun _ _ z => z
    obtain ⟨rfl, rfl⟩ := hy
    simp [hl]
theorem lcX_pure {g : GL} {t : TM} {e : EM} {xs : List Vl} {s : Sto} {Q : Sto → Prop} (f : Vl → Option Vl) (hl : xs.length < LIM) (hx : ∀ x ∈ xs, LcP g t e lo s x (f x)) (hd : Q (s ++ [.lst (xs.filterMap f)])) : WL (lcX g t e s.length lo xs (s ++ [.lst []])) Q := by
  refine lcX_inv (fun i s' => s' = s ++ [.lst ((xs.take i).filterMap f)]) (by simp) (fun i v s' hv e => ?_) (fun s' e => by rw [e, List.take_length]; exact hd)
  subst e
  obtain ⟨hi, ev⟩ := List.getElem?_eq_some_iff.mp hv
  have hlen : ((xs.take i).filterMap f).length < LIM := Nat.lt_of_le_of_lt (Nat.le_trans (List.length_filterMap_le ..) (by rw [List.length_take]; exact Nat.min_le_right ..)) hl
  obtain ⟨lo', h1, h2⟩ := (hx v (List.mem_of_getElem? hv)).turn hlen
  refine ⟨lo', h1, ?_⟩
  have : (xs.take (i + 1)).filterMap f = (xs.take i).filterMap f ++ (f v).toList := by
    rw [List.take_add_one, hv, Option.toList, List.filterMap_append]
    cases h : f v <;> simp [List.filterMap_cons, h]
  rw [this]
  exact h2
theorem lcL_pure {j fuel : Nat} {g : GL} {t : TM} {e : EM} {xs : List Vl} {s : Sto} {Q : Sto → Prop} (f : Vl → Option Vl) (hj : s[j]? = some (.lst xs)) (hl : xs.length < LIM) (hf : xs.length < fuel) (hx : ∀ x ∈ xs, LcP g t e lo s x (f x)) (hd : Q (s ++ [.lst (xs.filterMap f)])) :
    WL (lcN (nxLst j) g t e s.length lo fuel 0 (s ++ [.lst []])) Q := by
  have hjl : j < s.length := (List.getElem?_eq_some_iff.mp hj).1
  refine lcL_inv (xs := xs) (fun i s' => s' = s ++ [.lst ((xs.take i).filterMap f)]) hf (by simp) (fun i s' e => by rw [e, List.getElem?_append_left hjl]; exact hj) (fun i v s' hv e => ?_) (fun s' e => by rw [e, List.take_length]; exact hd)
  subst e
  have hlen : ((xs.take i).filterMap f).length < LIM := Nat.lt_of_le_of_lt (Nat.le_trans (List.length_filterMap_le ..) (by rw [List.length_take]; exact Nat.min_le_right ..)) hl
  obtain ⟨lo', h1, h2⟩ := (hx v (List.mem_of_getElem? hv)).turn hlen
  refine ⟨lo', h1, ?_⟩
  have : (xs.take (i + 1)).filterMap f = (xs.take i).filterMap f ++ (f v).toList := by
    rw [List.take_add_one, hv, Option.toList, List.filterMap_append]
    cases h : f v <;> simp [List.filterMap_cons, h]
  rw [this]
  exact h2
end
end Sm

/-! S15: frames of stores; locked dicts; decks of numbers -/
namespace Sm
open PySem L2
/-- all that stood in s stands in s' but for the numbers X -/
structure Fr (X : List Nat) (s s' : Sto) : Prop where
  le : s.length ≤ s'.length
  get : ∀ i, i < s.length → i ∉ X → s'[i]? = s[i]?
section
variable {X Y : List Nat} {s s1 s2 : Sto}
theorem Fr.refl : Fr X s s := ⟨Nat.le_refl _, fun _ _ _ => rfl⟩
theorem Fr.trans (a : Fr X s s1) (b : Fr X s1 s2) : Fr X s s2 := ⟨Nat.le_trans a.le b.le, fun i hi hx => (b.get i (Nat.lt_of_lt_of_le hi a.le) hx).trans (a.get i hi hx)⟩
theorem Fr.mono (a : Fr X s s1) (h : ∀ i ∈ X, i ∈ Y) : Fr Y s s1 := ⟨a.le, fun i hi hx => a.get i hi fun z => hx (h i z)⟩
/-- what is changed in s1 may be new since s -/
theorem Fr.trans' (a : Fr X s s1) (b : Fr Y s1 s2) (h : ∀ i ∈ Y, i ∈ X ∨ s.length ≤ i) : Fr X s s2 := ⟨Nat.le_trans a.le b.le, fun i hi hx => (b.get i (Nat.lt_of_lt_of_le hi a.le) fun z => (h i z).elim hx fun q => absurd hi (Nat.not_lt.mpr q)).trans (a.get i hi hx)⟩
theorem Fr.at (a : Fr X s s1) {i : Nat} {o : Ob} (h : s[i]? = some o) (hx : i ∉ X) : s1[i]? = some o := (a.get i (List.getElem?_eq_some_iff.mp h).1 hx).trans h
theorem Fr.push (a : Fr X s s1) (o : Ob) : Fr X s (s1 ++ [o]) := ⟨by rw [List.length_append]; exact Nat.le_trans a.le (Nat.le_add_right ..), fun i hi hx => by rw [List.getElem?_append_left (Nat.lt_of_lt_of_le hi a.le)]; exact a.get i hi hx⟩
theorem Fr.app (a : Fr X s s1) (t : Sto) : Fr X s (s1 ++ t) := ⟨by rw [List.length_append]; exact Nat.le_trans a.le (Nat.le_add_right ..), fun i hi hx => by rw [List.getElem?_append_left (Nat.lt_of_lt_of_le hi a.le)]; exact a.get i hi hx⟩
theorem Fr.set (a : Fr X s s1) {i : Nat} {o : Ob} (h : i ∈ X ∨ s.length ≤ i) : Fr X s (s1.set i o) := ⟨by rw [List.length_set]; exact a.le, fun j hj hx => by
  rw [List.getElem?_set_ne (fun z => by subst z; exact h.elim hx fun q => absurd hj (Nat.not_lt.mpr q))]
  exact a.get j hj hx⟩
end
@[simp] theorem get_set_self {s : Sto} {i : Nat} {o o' : Ob} (h : s[i]? = some o) : (s.set i o')[i]? = some o' := List.getElem?_set_self (List.getElem?_eq_some_iff.mp h).1
theorem get_set_ne {s : Sto} {i j : Nat} {o' : Ob} (h : i ≠ j) : (s.set i o')[j]? = s[j]? := List.getElem?_set_ne h
theorem get_push {s : Sto} {i : Nat} {o o' : Ob} (h : s[i]? = some o) : (s ++ [o'])[i]? = some o := by rw [List.getElem?_append_left (List.getElem?_eq_some_iff.mp h).1]; exact h
theorem get_app {s t : Sto} {i : Nat} {o : Ob} (h : s[i]? = some o) : (s ++ t)[i]? = some o := by rw [List.getElem?_append_left (List.getElem?_eq_some_iff.mp h).1]; exact h
@[simp] theorem get_last {s : Sto} {o : Ob} : (s ++ [o])[s.length]? = some o := by simp
theorem lt_of_get {s : Sto} {i : Nat} {o : Ob} (h : s[i]? = some o) : i < s.length := (List.getElem?_eq_some_iff.mp h).1
theorem ne_of_get {s : Sto} {i j : Nat} {o o' : Ob} (h : s[i]? = some o) (h' : s[j]? = some o') (n : o ≠ o') : i ≠ j := fun e => by subst e; rw [h] at h'; cases h'; exact n rfl
section
variable {s : Sto} {lo : Lo} {QV : Vl → Sto → Prop} {E : Ex → Sto → Prop}
theorem WE_eLock {e c : EM} {j : Nat} {kvs : List (Key × Vl)} (he : WE (e lo) s (fun v _ => v = .ref j) NoX) (hj : s[j]? = some (.dic kvs)) (hc : WE (c lo) (s.set j (.fdic kvs)) (fun v s' => (∃ kvs', s'[j]? = some (.fdic kvs')) ∧ QV v (s'.set j (.dic kvs))) NoX) : WE (eLock e c lo) s QV E := by
  obtain ⟨v, s', e1, e2⟩ := he.get
  subst e2
  obtain ⟨w, s2, e3, ⟨k', e4⟩, e5⟩ := hc.get
  simp only [WE_eq]
  unfold WE0 eLock
  simp only [e1, hj, e3, e4]
  exact e5
@[simp ↓] theorem WE_iVal {e : EM} {QN : NX → Sto → Prop} : WE (iVal e lo) s QN E = WE (e lo) s (fun x s => match x with | .ref j => (match s[j]? with | some (.fdic _) => QN (nxVals j) s | _ => False) | _ => False) E := by
  unfold iVal
  rw [WE_bnd]
  refine WE_ext fun x s => ?_
  cases x <;> try (simp only [WE_eq]; rfl)
  rename_i j
  simp only [WE_eq]
  unfold WE0
  simp only
  cases h : s[j]? with
  | none => rfl
  | some o => cases o <;> rfl
@[simp ↓] theorem WE_eListVals {e : EM} : WE (eListVals e lo) s QV E = WE (e lo) s (fun x s => match x with | .ref j => (match s[j]? with | some (.dic kvs) => QV (.ref s.length) (s ++ [.lst (kvs.map (·.2))]) | _ => False) | _ => False) E := by
  unfold eListVals
  rw [WE_bnd]
  refine WE_ext fun x s => ?_
  cases x <;> try (simp only [WE_eq]; rfl)
  rename_i j
  simp only [WE_eq]
  unfold WE0
  simp only
  cases h : s[j]? with
  | none => rfl
  | some o => cases o <;> rfl
/-- {k: v} of plain parts -/
theorem WE_eDict1 {k v : EM} {x y : Vl} {key : Key} (hk : ∀ s, WE (k lo) s (fun z s' => z = x ∧ s' = s) NoX) (hv : ∀ s, WE (v lo) s (fun z s' => z = y ∧ s' = s) NoX) (hx : keyOf x = some key) (h : QV (.ref s.length) (s ++ [.dic [(key, y)]])) : WE (eDict [(k, v)] lo) s QV E := by
  obtain ⟨a, s1, e1, rfl, rfl⟩ := (hk (s ++ [.dic []])).get
  obtain ⟨b, s2, e2, rfl, rfl⟩ := (hv (s ++ [.dic []])).get
  simp only [WE_eq]
  unfold WE0 eDict
  have : dpM [(k, v)] lo (s ++ [.dic []]) = .ok [(a, b)] (s ++ [.dic []]) := by
    simp only [dpM, bnd, e1, e2, ret]
  simp only [this, get_last]
  simp [mapO, keyP, hx, mergeP, put]
  exact h
end
/-- a deck: the cells at l and the count c, at d -/
structure Deck (s : Sto) (d l c : Nat) (cells : List Int) : Prop where
  top : s[d]? = some (.lst [.ref l, .int c])
  cel : s[l]? = some (.lst (cells.map Vl.int))
  nn : ∀ x ∈ cells, 0 ≤ x
  ne : l ≠ d
theorem Deck.fr {X : List Nat} {s s' : Sto} {d l c : Nat} {cells : List Int} (D : Deck s d l c cells) (f : Fr X s s') (h1 : d ∉ X) (h2 : l ∉ X) : Deck s' d l c cells := ⟨f.at D.top h1, f.at D.cel h2, D.nn, D.ne⟩
/-- some deck with at most c draws -/
def DeckLe (s : Sto) (d l c : Nat) : Prop := ∃ k cells, k ≤ c ∧ Deck s d l k cells
end Sm

/-! S16: operations on values that are known, as rewriting rules -/
namespace Sm
open PySem L2
section
variable {α : Type} {s : Sto} {lo : Lo} {i j : Int} {a b : Nat} {xs ys : List Vl} {x y : Str} {v w : Vl} {kvs : List (Key × Vl)} {k : Bool}
@[simp] theorem opAdd_int : opAdd (.int i) (.int j) s = some (.int (i + j), s) := rfl
@[simp] theorem opSub_int : opSub (.int i) (.int j) s = some (.int (i - j), s) := rfl
@[simp] theorem opNeg_int : opNeg (.int i) s = some (.int (-i), s) := rfl
@[simp] theorem opAdd_tup (h : xs.length + ys.length ≤ LIM) : opAdd (.tup xs) (.tup ys) s = some (.tup (xs ++ ys), s) := by simp only [opAdd, if_pos h]
@[simp] theorem opAdd_str (h : x.length + y.length ≤ LIM) : opAdd (.str x) (.str y) s = some (.str (x ++ y), s) := by simp only [opAdd, if_pos h]
@[simp] theorem opAdd_lst (h1 : s[a]? = some (.lst xs)) (h2 : s[b]? = some (.lst ys)) (h : xs.length + ys.length ≤ LIM) : opAdd (.ref a) (.ref b) s = some (.ref s.length, s ++ [.lst (xs ++ ys)]) := by simp only [opAdd, h1, h2, if_pos h]
@[simp] theorem opMul_int (h : (-(2 ^ 64) < i ∧ i < 2 ^ 64) ∨ (-(2 ^ 64) < j ∧ j < 2 ^ 64)) : opMul (.int i) (.int j) s = some (.int (i * j), s) := by simp only [opMul, if_pos h]
@[simp] theorem opMul_lst (h1 : s[a]? = some (.lst xs)) (h : 0 ≤ i ∧ i < 2 ^ 60 ∧ xs.length * i.toNat ≤ LIM) : opMul (.ref a) (.int i) s = some (.ref s.length, s ++ [.lst (List.replicate i.toNat xs).flatten]) := by simp only [opMul, h1, if_pos h]
@[simp] theorem opFdiv_int (h : 0 < j ∧ j < 1073741824) : opFdiv (.int i) (.int j) s = some (.int (i / j), s) := by simp only [opFdiv, if_pos h]
@[simp] theorem opMod_int (h : 0 < j) : opMod (.int i) (.int j) s = some (.int (i % j), s) := by simp only [opMod, if_pos h]
@[simp] theorem opPow_int (h : 0 ≤ j ∧ j ≤ 1000000 ∧ i.natAbs < 2 ^ 64) : opPow (.int i) (.int j) s = some (.int (i ^ j.toNat), s) := by simp only [opPow, if_pos h]
@[simp] theorem opLt_int : opLt (.int i) (.int j) s = some (.bl (decide (i < j)), s) := rfl
@[simp] theorem opLe_int : opLe (.int i) (.int j) s = some (.bl (decide (i ≤ j)), s) := rfl
@[simp] theorem opGt_int : opGt (.int i) (.int j) s = some (.bl (decide (j < i)), s) := rfl
@[simp] theorem opGe_int : opGe (.int i) (.int j) s = some (.bl (decide (j ≤ i)), s) := rfl
@[simp] theorem opIsN_non : opIsN v .non s = some (.bl (isNon v), s) := by cases v <;> rfl
@[simp] theorem opNotN_non : opNotN v .non s = some (.bl (!isNon v), s) := by cases v <;> rfl
@[simp] theorem isNon_non : isNon .non = true := rfl
@[simp] theorem isNon_int : isNon (.int i) = false := rfl
@[simp] theorem isNon_str : isNon (.str x) = false := rfl
@[simp] theorem isNon_tup : isNon (.tup xs) = false := rfl
@[simp] theorem isNon_ref : isNon (.ref a) = false := rfl
@[simp] theorem isNon_bl : isNon (.bl k) = false := rfl
@[simp] theorem opEq_int : opEq (.int i) (.int j) s = some (.bl (i == j), s) := rfl
@[simp] theorem opNe_int : opNe (.int i) (.int j) s = some (.bl (!(i == j)), s) := rfl
@[simp] theorem opEq_str : opEq (.str x) (.str y) s = some (.bl (x == y), s) := rfl
@[simp] theorem opNe_str : opNe (.str x) (.str y) s = some (.bl (!(x == y)), s) := rfl
@[simp] theorem opIx_tup : opIx (.tup xs) (.int i) s = (atI xs i).map fun v => (v, s) := rfl
@[simp] theorem opIx_lst (h : s[a]? = some (.lst xs)) : opIx (.ref a) (.int i) s = (atI xs i).map fun v => (v, s) := by simp only [opIx, h]
@[simp] theorem opIx_dicI (h : s[a]? = some (.dic kvs)) : opIx (.ref a) (.int i) s = (look kvs (.inl i)).map fun v => (v, s) := by simp only [opIx, h, keyOf]
@[simp] theorem opIx_dicS (h : s[a]? = some (.dic kvs)) : opIx (.ref a) (.str x) s = (look kvs (.inr x)).map fun v => (v, s) := by simp only [opIx, h, keyOf]
@[simp] theorem opSet_lst (h : s[a]? = some (.lst xs)) : opSet (.ref a) (.int i) v s = (ixN xs.length i).map fun n => s.set a (.lst (xs.set n v)) := by
  simp only [opSet, h]
  cases ixN xs.length i <;> rfl
@[simp] theorem opSet_dicI (h : s[a]? = some (.dic kvs)) (hl : kvs.length < LIM) : opSet (.ref a) (.int i) v s = some (s.set a (.dic (put kvs (.inl i) v))) := by simp only [opSet, h, keyOf, if_pos hl]
@[simp] theorem opSet_dicS (h : s[a]? = some (.dic kvs)) (hl : kvs.length < LIM) : opSet (.ref a) (.str x) v s = some (s.set a (.dic (put kvs (.inr x) v))) := by simp only [opSet, h, keyOf, if_pos hl]
@[simp] theorem oLen_lst (h : s[a]? = some (.lst xs)) : oLen [.ref a] s = some (.int xs.length, s) := by simp [oLen, lenM, h]
@[simp] theorem oLen_dic (h : s[a]? = some (.dic kvs)) : oLen [.ref a] s = some (.int kvs.length, s) := by simp [oLen, lenM, h]
@[simp] theorem oLen_tup : oLen [.tup xs] s = some (.int xs.length, s) := rfl
@[simp] theorem oAbs_int : oAbs [.int i] s = some (.int (if i < 0 then -i else i), s) := rfl
@[simp] theorem oInt_int : oInt [.int i] s = some (.int i, s) := rfl
@[simp] theorem oInt_bl : oInt [.bl k] s = some (.int (if k then 1 else 0), s) := rfl
@[simp] theorem oMax_int : oMax [.int i, .int j] s = some (.int (if j > i then j else i), s) := rfl
@[simp] theorem oMin_int : oMin [.int i, .int j] s = some (.int (if j < i then j else i), s) := rfl
@[simp] theorem oTup_ok (h : xs.length ≤ LIM) : oTup xs s = some (.tup xs, s) := by simp only [oTup, if_pos h]
@[simp] theorem oLst_ok (h : xs.length ≤ LIM) : oLst xs s = some (.ref s.length, s ++ [.lst xs]) := by simp only [oLst, if_pos h]
@[simp] theorem oTuple_lst (h : s[a]? = some (.lst xs)) : oTuple [.ref a] s = some (.tup xs, s) := by simp only [oTuple, h]
@[simp] theorem oTuple_tup : oTuple [.tup xs] s = some (.tup xs, s) := rfl
@[simp] theorem oList_lst (h : s[a]? = some (.lst xs)) : oList [.ref a] s = some (.ref s.length, s ++ [.lst xs]) := by simp only [oList, h]
@[simp] theorem oList_tup : oList [.tup xs] s = some (.ref s.length, s ++ [.lst xs]) := rfl
@[simp] theorem oList_dic (h : s[a]? = some (.dic kvs)) : oList [.ref a] s = some (.ref s.length, s ++ [.lst (kvs.map fun kv => keyVl kv.1)]) := by simp only [oList, h]
@[simp] theorem oAppend_lst (h : s[a]? = some (.lst xs)) (hl : xs.length < LIM) : oAppend (.ref a) [v] s = some (.non, s.set a (.lst (xs ++ [v]))) := by simp only [oAppend, h, if_pos hl]
@[simp] theorem oExtend_lst (h : s[a]? = some (.lst xs)) (h2 : s[b]? = some (.lst ys)) (hl : xs.length + ys.length ≤ LIM) : oExtend (.ref a) [.ref b] s = some (.non, s.set a (.lst (xs ++ ys))) := by simp only [oExtend, h, h2, if_pos hl]
@[simp] theorem oPop_lst (h : s[a]? = some (.lst (xs ++ [v]))) : oPop (.ref a) [] s = some (v, s.set a (.lst xs)) := by
  simp only [oPop, h]
  simp
@[simp] theorem kd_lst (h : s[a]? = some (.lst xs)) : kd .list (.ref a) s = true := by simp only [kd, h]
@[simp] theorem kd_dic (h : s[a]? = some (.dic kvs)) : kd .dict (.ref a) s = true := by simp only [kd, h]
@[simp] theorem kd_str : kd .str (.str x) s = true := rfl
@[simp] theorem opSl_tup {lo hi : Option Int} : opSl (.tup xs) lo hi s = some (.tup (cutL xs lo hi), s) := rfl
@[simp] theorem opSl_lst {lo hi : Option Int} (h : s[a]? = some (.lst xs)) : opSl (.ref a) lo hi s = some (.ref s.length, s ++ [.lst (cutL xs lo hi)]) := by simp only [opSl, h]
@[simp] theorem opSl_scr {lo hi : Option Int} {ns : List Int} : opSl (.scr ns) lo hi s = some (.ref s.length, s ++ [.lst ((cutL ns lo hi).map Vl.int)]) := rfl
@[simp] theorem opIn_lst (h : s[a]? = some (.lst xs)) (hf : flat v = true) (ha : xs.all flat = true) : opIn v (.ref a) s = some (.bl (inF v xs), s) := by simp only [opIn, inM, h, hf, ha, Bool.and_self, if_true]
@[simp] theorem opNotIn_lst (h : s[a]? = some (.lst xs)) (hf : flat v = true) (ha : xs.all flat = true) : opNotIn v (.ref a) s = some (.bl (!inF v xs), s) := by simp only [opNotIn, inM, h, hf, ha, Bool.and_self, if_true]
@[simp] theorem opIn_tup (hf : flat v = true) (ha : xs.all flat = true) : opIn v (.tup xs) s = some (.bl (inF v xs), s) := by simp only [opIn, inM, hf, ha, Bool.and_self, if_true]
@[simp] theorem opNotIn_tup (hf : flat v = true) (ha : xs.all flat = true) : opNotIn v (.tup xs) s = some (.bl (!inF v xs), s) := by simp only [opNotIn, inM, hf, ha, Bool.and_self, if_true]
@[simp] theorem opIn_dicI (h : s[a]? = some (.dic kvs)) : opIn (.int i) (.ref a) s = some (.bl (hasK kvs (.inl i)), s) := by simp only [opIn, inM, h, keyOf]
@[simp] theorem opNotIn_dicI (h : s[a]? = some (.dic kvs)) : opNotIn (.int i) (.ref a) s = some (.bl (!hasK kvs (.inl i)), s) := by simp only [opNotIn, inM, h, keyOf]
@[simp] theorem opIn_dicS (h : s[a]? = some (.dic kvs)) : opIn (.str x) (.ref a) s = some (.bl (hasK kvs (.inr x)), s) := by simp only [opIn, inM, h, keyOf]
@[simp] theorem opNotIn_dicS (h : s[a]? = some (.dic kvs)) : opNotIn (.str x) (.ref a) s = some (.bl (!hasK kvs (.inr x)), s) := by simp only [opNotIn, inM, h, keyOf]
@[simp] theorem flat_int : flat (.int i) = true := rfl
@[simp] theorem flat_str : flat (.str x) = true := rfl
@[simp] theorem flat_bl : flat (.bl k) = true := rfl
@[simp] theorem flat_non : flat .non = true := rfl
@[simp] theorem oSortS_ints {ns : List Int} (h : s[a]? = some (.lst (ns.map Vl.int))) : oSortS [.ref a] s = some (.ref s.length, s ++ [.lst ((srt ns).map Vl.int)]) := by simp [oSortS, h, mapO_ints]
@[simp] theorem oSortS_set {ns : List Int} (h : s[a]? = some (.set ns)) (hl : ns.length < 64) : oSortS [.ref a] s = some (.ref s.length, s ++ [.lst ((srt ns).map Vl.int)]) := by simp [oSortS, h, hl]
@[simp] theorem oSet_ints {ns : List Int} (h : s[a]? = some (.lst (ns.map Vl.int))) (hl : ns.length < 4000) : oSet [.ref a] s = some (.ref s.length, s ++ [.set (ddup ns)]) := by simp [oSet, lstOf, h, mapO_ints, hl]
@[simp] theorem oAll_bls {bs : List Bool} (h : s[a]? = some (.lst (bs.map Vl.bl))) : oAll [.ref a] s = some (.bl (bs.all id), s) := by simp [oAll, lstOf, h, mapO_bls]
@[simp] theorem oAny_bls {bs : List Bool} (h : s[a]? = some (.lst (bs.map Vl.bl))) : oAny [.ref a] s = some (.bl (bs.any id), s) := by simp [oAny, lstOf, h, mapO_bls]
@[simp] theorem oSum_ints {ns : List Int} (h : s[a]? = some (.lst (ns.map Vl.int))) : oSum [.ref a] s = some (.int ns.sum, s) := by simp [oSum, lstOf, h, mapO_ints]
theorem fldW_ins {cs : List Nat} {f : Str} {c : Nat} {fs : List (Str × Vl)} {QV : Vl → Sto → Prop} (h : s[a]? = some (.ins c fs)) : fldW cs f (.ref a) s QV = (c ∈ cs ∧ match getS fs f with | some v => QV v s | none => False) := by
  simp only [fldW, h] <;> rfl
theorem setFld_ins {cs : List Nat} {f : Str} {c : Nat} {fs : List (Str × Vl)} (h : s[a]? = some (.ins c fs)) (hc : c ∈ cs ∧ fs.length < 1000) : setFld cs f (.ref a) v s = some (s.set a (.ins c (putS f v fs))) := by simp only [setFld, h, if_pos hc]
theorem methW_ins {m : Str} {tab : MTab} {c : Nat} {fs : List (Str × Vl)} {mf : List Vl → M Vl} {P : (List Vl → M Vl) → Prop} (h : s[a]? = some (.ins c fs)) (ht : tab c = some mf) (hg : getS fs m = none) : methW m tab (.ref a) s P = P mf := by simp only [methW, h, ht, hg]
@[simp] theorem lim0 : (0 ≤ LIM) = True := eq_true (by decide)
@[simp] theorem lim1 : (1 ≤ LIM) = True := eq_true (by decide)
@[simp] theorem lim2 : (2 ≤ LIM) = True := eq_true (by decide)
@[simp] theorem lim3 : (3 ≤ LIM) = True := eq_true (by decide)
@[simp] theorem lim4 : (4 ≤ LIM) = True := eq_true (by decide)
@[simp] theorem lim5 : (5 ≤ LIM) = True := eq_true (by decide)
@[simp] theorem lim6 : (6 ≤ LIM) = True := eq_true (by decide)
@[simp] theorem limz : (0 < LIM) = True := eq_true (by decide)
theorem limB {n : Nat} (h : n ≤ 1000000) : n ≤ LIM := Nat.le_trans h (by decide)
theorem limC {n : Nat} (h : n < 1000000) : n < LIM := Nat.lt_of_lt_of_le h (by decide)
end
theorem ixN_nat {n m : Nat} (h : n < m) : ixN m (n : Int) = some n := by
  simp [ixN, h]
theorem atN {α : Type} {xs : List α} {n : Nat} : atI xs (n : Int) = xs[n]? := by
  by_cases h : n < xs.length
  · simp [atI, ixN_nat h]
  · simp [atI, ixN, h, List.getElem?_eq_none (Nat.le_of_not_lt h)]
@[simp] theorem atI_0 {α : Type} {xs : List α} : atI xs 0 = xs[0]? := atN (n := 0)
@[simp] theorem atI_1 {α : Type} {xs : List α} : atI xs 1 = xs[1]? := atN (n := 1)
@[simp] theorem atI_2 {α : Type} {xs : List α} : atI xs 2 = xs[2]? := atN (n := 2)
@[simp] theorem atI_3 {α : Type} {xs : List α} : atI xs 3 = xs[3]? := atN (n := 3)
@[simp] theorem atLast {α : Type} {xs : List α} {v : α} : atI (xs ++ [v]) (-1) = some v := by
  have : ixN (xs ++ [v]).length (-1) = some xs.length := by
    simp [ixN]
    omega
  unfold atI
  rw [this]
  simp
theorem mapO_none {α β : Type} {f : α → Option β} : ∀ {xs : List α}, (∀ x ∈ xs, (f x).isSome = true) → ∃ ys, mapO f xs = some ys ∧ ys.length = xs.length
  | [], _ => ⟨[], rfl, rfl⟩
  | x :: xs, h => by
    obtain ⟨y, hy⟩ := Option.isSome_iff_exists.mp (h x (List.mem_cons_self ..))
    obtain ⟨ys, e, l⟩ := mapO_none fun z hz => h z (List.mem_cons_of_mem _ hz)
    exact ⟨y :: ys, by simp only [mapO, hy, e], by simp [l]⟩
@[simp] theorem cutL_nat {α : Type} {xs : List α} {n : Nat} : cutL xs none (some (n : Int)) = xs.take n := by
  unfold cutL
  rw [HT.sIx_none, HT.sIx_nat]
  simp [List.take_eq_take_iff]
theorem lcX_p {g : GL} {t : TM} {e : EM} {lo : Lo} {d : Nat} {xs : List Vl} {s0 : Sto} {Q : Sto → Prop} (s : Sto) (f : Vl → Option Vl) (h1 : d = s.length) (h2 : s0 = s ++ [.lst []]) (hl : xs.length < 1000000) (hx : ∀ x ∈ xs, LcP g t e lo s x (f x)) (hd : Q (s ++ [.lst (xs.filterMap f)])) : WL (lcX g t e d lo xs s0) Q := by
  subst h1 h2
  exact lcX_pure f (limC hl) hx hd
theorem lcL_p {j : Nat} {g : GL} {t : TM} {e : EM} {lo : Lo} {d : Nat} {xs : List Vl} {s0 : Sto} {Q : Sto → Prop} (s : Sto) (f : Vl → Option Vl) (h1 : d = s.length) (h2 : s0 = s ++ [.lst []]) (hj : s[j]? = some (.lst xs)) (hf : xs.length < 100000) (hx : ∀ x ∈ xs, LcP g t e lo s x (f x)) (hd : Q (s ++ [.lst (xs.filterMap f)])) :
    WL (lcN (nxLst j) g t e d lo 100000 0 s0) Q := by
  subst h1 h2
  exact lcL_pure f hj (limC (by omega)) hf hx hd
theorem lcV_p {j : Nat} {g : GL} {t : TM} {e : EM} {lo : Lo} {d : Nat} {kvs : List (Key × Vl)} {s0 : Sto} {Q : Sto → Prop} (s : Sto) (f : Vl → Option Vl) (h1 : d = s.length) (h2 : s0 = s ++ [.lst []]) (hj : s[j]? = some (.fdic kvs)) (hf : kvs.length < 100000) (hx : ∀ x ∈ kvs.map (·.2), LcP g t e lo s x (f x)) (hd : Q (s ++ [.lst ((kvs.map (·.2)).filterMap f)])) :
    WL (lcN (nxVals j) g t e d lo 100000 0 s0) Q := by
  subst h1 h2
  have hjl : j < s.length := (List.getElem?_eq_some_iff.mp hj).1
  generalize hxs : kvs.map (·.2) = xs at hx hd
  have hxl : xs.length = kvs.length := by rw [← hxs, List.length_map]
  refine lcV_inv (kvs := kvs) (fun i s' => s' = s ++ [.lst ((xs.take i).filterMap f)]) hf (by simp) (fun i s' e => by rw [e, List.getElem?_append_left hjl]; exact hj) (fun i v s' hv e => ?_) (fun s' e => by rw [e, ← hxl, List.take_length]; exact hd)
  subst e
  rw [hxs] at hv
  have hlen : ((xs.take i).filterMap f).length < LIM := Nat.lt_of_le_of_lt (Nat.le_trans (List.length_filterMap_le ..) (by rw [List.length_take]; exact Nat.min_le_right ..)) (limC (by omega))
  obtain ⟨lo', h1, h2⟩ := (hx v (List.mem_of_getElem? hv)).turn hlen
  refine ⟨lo', h1, ?_⟩
  have : (xs.take (i + 1)).filterMap f = (xs.take i).filterMap f ++ (f v).toList := by
    rw [List.take_add_one, hv, Option.toList, List.filterMap_append]
    cases h : f v <;> simp [List.filterMap_cons, h]
  rw [this]
  exact h2
/-- enumerate, both names read -/
theorem lcE_p {j : Nat} {g : GL} {t : TM} {e : EM} {lo : Lo} {d : Nat} {xs : List Vl} {s0 : Sto} {Q : Sto → Prop} (s : Sto) (f : Nat → Vl → Option Vl) (h1 : d = s.length) (h2 : s0 = s ++ [.lst []]) (hj : s[j]? = some (.lst xs)) (hf : xs.length < 100000) (hx : ∀ i x, xs[i]? = some x → LcP g t e lo s (.tup [.int (i : Nat), x]) (f i x)) (hd : Q (s ++ [.lst ((xs.zipIdx).filterMap fun p => f p.2 p.1)])) :
    WL (lcN (nxEnum j) g t e d lo 100000 0 s0) Q := by
  subst h1 h2
  have hjl : j < s.length := (List.getElem?_eq_some_iff.mp hj).1
  refine lcE_inv (xs := xs) (fun i s' => s' = s ++ [.lst (((xs.take i).zipIdx).filterMap fun p => f p.2 p.1)]) hf (by simp) (fun i s' e => by rw [e, List.getElem?_append_left hjl]; exact hj) (fun i v s' hv e => ?_) (fun s' e => by rw [e, List.take_length]; exact hd)
  subst e
  obtain ⟨hi, ev⟩ := List.getElem?_eq_some_iff.mp hv
  have hlen : (((xs.take i).zipIdx).filterMap fun p => f p.2 p.1).length < LIM := Nat.lt_of_le_of_lt (Nat.le_trans (List.length_filterMap_le ..) (by rw [List.length_zipIdx, List.length_take]; exact Nat.min_le_right ..)) (limC (by omega))
  obtain ⟨lo', h1, h2⟩ := (hx i v hv).turn hlen
  refine ⟨lo', h1, ?_⟩
  have : ((xs.take (i + 1)).zipIdx).filterMap (fun p => f p.2 p.1) = ((xs.take i).zipIdx).filterMap (fun p => f p.2 p.1) ++ (f i v).toList := by
    rw [List.take_add_one, hv, Option.toList, List.zipIdx_append, List.filterMap_append]
    have : 0 + (xs.take i).length = i := by rw [List.length_take]; omega
    rw [this]
    cases h : f i v <;> simp [List.filterMap_cons, h]
  rw [this]
  exact h2
end Sm

/-! S17: texts of plain values; == with an empty list -/
namespace Sm
open PySem L2
/-- a plain value, at most n deep, at most w wide -/
def Pn (n w : Nat) (v : Vl) : Prop := ∃ d : PyData, (∀ s m, n ≤ m → toD m s v = some d) ∧ d.leavesShort 13 = true ∧ d.showable = true ∧ d.weight ≤ w
theorem Pn.mono {n m w z : Nat} {v : Vl} (h : Pn n w v) (h1 : n ≤ m) (h2 : w ≤ z) : Pn m z v := by
  obtain ⟨d, a, b, c, e⟩ := h
  exact ⟨d, fun s k hk => a s k (Nat.le_trans h1 hk), b, c, Nat.le_trans e h2⟩
theorem Pn.non : Pn 1 64 .non := by
  refine ⟨.none, fun s m hm => ?_, rfl, rfl, by simp [PyData.weight]⟩
  obtain ⟨m, rfl⟩ : ∃ k, m = k + 1 := ⟨m - 1, by omega⟩
  rfl
theorem Pn.int {i : Int} (h : i.natAbs < 10 ^ 12) : Pn 1 64 (.int i) := by
  refine ⟨.int i, fun s m hm => ?_, ?_, ?_, ?_⟩
  · obtain ⟨m, rfl⟩ : ∃ k, m = k + 1 := ⟨m - 1, by omega⟩
    rfl
  · have := int_text_length_le10 (a := i) (k := 12) (by omega) h
    simp only [PyData.leavesShort, PyData.shown]
    refine decide_eq_true ?_
    have e : (Str.ofString (toString i)).length = (toString i).length := ofString_length _
    omega
  · simp only [PyData.showable, decide_eq_true_eq]
    rcases Nat.eq_zero_or_pos i.natAbs with z | z
    · rw [z]; decide
    · have : i.natAbs.log2 < 40 := by
        rw [Nat.log2_lt (by omega)]
        exact Nat.lt_of_lt_of_le h (by decide)
      omega
  · simp only [PyData.weight]
    split
    · omega
    · rename_i z
      have z : i.natAbs ≠ 0 := by simp at z; omega
      have : i.natAbs.log2 < 40 := by
        rw [Nat.log2_lt z]
        exact Nat.lt_of_lt_of_le h (by decide)
      omega
theorem Pn.str {x : Str} (h : (x.cps.toList.all fun c => decide (c < 16 ^ 8)) = true) (hl : x.length ≤ 64) : Pn 1 64 (.str x) := by
  refine ⟨.str x, fun s m hm => ?_, ?_, rfl, ?_⟩
  · obtain ⟨m, rfl⟩ : ∃ k, m = k + 1 := ⟨m - 1, by omega⟩
    rfl
  · exact h
  · exact hl
theorem Pn.all {n w : Nat} : ∀ {xs : List Vl}, (∀ x ∈ xs, Pn n w x) → ∃ ds : List PyData, (∀ s m, n ≤ m → mapO (toD m s) xs = some ds) ∧ PyData.leavesShortAll 13 ds = true ∧ PyData.showableAll ds = true ∧ PyData.weightAll ds ≤ xs.length * (w + 1)
  | [], _ => ⟨[], fun _ _ _ => rfl, rfl, rfl, by simp [PyData.weightAll]⟩
  | x :: xs, h => by
    obtain ⟨d, a, b, c, e⟩ := h x (List.mem_cons_self ..)
    obtain ⟨ds, a', b', c', e'⟩ := Pn.all fun y hy => h y (List.mem_cons_of_mem _ hy)
    refine ⟨d :: ds, fun s m hm => ?_, ?_, ?_, ?_⟩
    · simp only [mapO, a s m hm, a' s m hm]
    · simp only [PyData.leavesShortAll, b, b', Bool.and_self]
    · simp only [PyData.showableAll, c, c', Bool.and_self]
    · simp only [PyData.weightAll, List.length_cons, Nat.add_mul, Nat.one_mul]
      omega
theorem Pn.tup {n w : Nat} {xs : List Vl} (h : ∀ x ∈ xs, Pn n w x) : Pn (n + 1) (xs.length * (w + 1)) (.tup xs) := by
  obtain ⟨ds, a, b, c, e⟩ := Pn.all h
  refine ⟨.tuple ds, fun s m hm => ?_, ?_, ?_, ?_⟩
  · obtain ⟨m, rfl⟩ : ∃ k, m = k + 1 := ⟨m - 1, by omega⟩
    simp only [toD, a s m (by omega), Option.map]
  · simpa only [PyData.leavesShort] using b
  · simpa only [PyData.showable] using c
  · simpa only [PyData.weight] using e
theorem Pn.repr {n w : Nat} {v : Vl} (h : Pn n w v) (hn : n ≤ 40) (hw : w ≤ 2 ^ 20) : ∃ x, ∀ s, oRepr [v] s = some (.str x, s) := by
  obtain ⟨d, a, b, c, e⟩ := h
  refine ⟨d.shown, fun s => ?_⟩
  have : d.shown.length ≤ LIM := by
    rw [← lim_eq]
    exact PyData.shown_fits (by omega) (by omega) b (by omega)
  simp only [oRepr, a s 40 hn, c, this, decide_true, Bool.and_self, if_true]
theorem canLay_ints : ∀ ns : List Int, PyData.canLayAll0 (ns.map PyData.int) = true
  | [] => rfl
  | n :: ns => by simp only [List.map_cons, PyData.canLayAll0, PyData.canLay0, canLay_ints ns, Bool.and_self]
theorem toD_ints {s : Sto} {m : Nat} : ∀ ns : List Int, mapO (toD (m + 1) s) (ns.map Vl.int) = some (ns.map PyData.int)
  | [] => rfl
  | n :: ns => by
    have e : toD (m + 1) s (.int n) = some (.int n) := rfl
    simp only [List.map_cons, mapO, e, toD_ints ns]
theorem toD_lst {s : Sto} {m a : Nat} {xs : List Vl} (h : s[a]? = some (.lst xs)) : toD (m + 1) s (.ref a) = (mapO (toD m s) xs).map .list := by
  unfold toD
  simp only [h]
theorem eqM_nil {s : Sto} {a b : Nat} {ns : List Int} (h1 : s[a]? = some (.lst (ns.map Vl.int))) (h2 : s[b]? = some (.lst [])) : eqM (.ref a) (.ref b) s = some ns.isEmpty := by
  have e1 : toD 40 s (.ref a) = some (.list (ns.map PyData.int)) := by
    rw [toD_lst (m := 39) h1, toD_ints (m := 38)]
    rfl
  have e2 : toD 40 s (.ref b) = some (.list []) := by
    rw [toD_lst (m := 39) h2]
    rfl
  have e3 : PyData.canLay0 (.list (ns.map PyData.int)) = true := by simpa only [PyData.canLay0] using canLay_ints ns
  have e4 : PyData.canLay0 (.list []) = true := rfl
  simp only [eqM, eqS, e1, e2, e3, e4, Bool.and_self, if_true, PyData.eqv]
  cases ns <;> simp [PyData.eqvAll]
theorem opEq_nil {s : Sto} {a b : Nat} {ns : List Int} (h1 : s[a]? = some (.lst (ns.map Vl.int))) (h2 : s[b]? = some (.lst [])) : opEq (.ref a) (.ref b) s = some (.bl ns.isEmpty, s) := by
  simp only [opEq, eqM_nil h1 h2]
theorem opNe_nil {s : Sto} {a b : Nat} {ns : List Int} (h1 : s[a]? = some (.lst (ns.map Vl.int))) (h2 : s[b]? = some (.lst [])) : opNe (.ref a) (.ref b) s = some (.bl (!ns.isEmpty), s) := by
  simp only [opNe, eqM_nil h1 h2]
section
variable {mf : List Vl → M Vl} {s : Sto} {QV : Vl → Sto → Prop} {E : Ex → Sto → Prop} {x y z : Vl}
theorem WE_arg1 : WE (arg 1 mf [x]) s QV E = WE (mf [x]) s QV E := by rw [WE_arg]; exact if_pos rfl
theorem WE_arg2 : WE (arg 2 mf [x, y]) s QV E = WE (mf [x, y]) s QV E := by rw [WE_arg]; exact if_pos rfl
theorem WE_arg3 : WE (arg 3 mf [x, y, z]) s QV E = WE (mf [x, y, z]) s QV E := by rw [WE_arg]; exact if_pos rfl
end
@[simp] theorem rngW_nat {n : Nat} {s : Sto} {QA : List Vl → Sto → Prop} (h : n < 1000000) : rngW [.int (n : Int)] s QA = QA (rng 0 n) s := by
  rw [rngW_one]
  have h1 : -(2 ^ 62) ≤ (n : Int) := by omega
  have h2 : (n : Int) < 2 ^ 62 := by omega
  have e : (n : Int).toNat = n := Int.toNat_natCast n
  rw [e]
  exact propext ⟨fun z => z.2, fun z => ⟨⟨h1, h2⟩, z⟩⟩
theorem rng_get {n i : Nat} {v : Vl} (h : (rng 0 n)[i]? = some v) : i < n ∧ v = .int (i : Nat) := by
  have h1 := (List.getElem?_eq_some_iff.mp h).1
  have h2 : i < n := by simpa [rng] using h1
  refine ⟨h2, ?_⟩
  simp [rng, h2] at h
  exact h.symm
@[simp] theorem rng_len {n : Nat} : (rng 0 n).length = n := by simp [rng]
end Sm

/-! S23: dicts, lists of ints, new rules of the pure programs; plain lemmas -/
namespace Sm
open PySem L2
section
variable {s : Sto} {lo : Lo} {QV : Vl → Sto → Prop} {E : Ex → Sto → Prop}
@[simp ↓] theorem WE_eMakeB {c : Nat} : WE (eMakeB c lo) s QV E = QV (.ref s.length) (s ++ [.ins c []]) := by simp only [WE_eq]; rfl
@[simp ↓] theorem WE_starM {n : Nat} {mf : List Vl → M Vl} {as : List Vl} : WE (starM n mf as) s QV E = (if n ≤ as.length ∧ as.length ≤ LIM then WE (mf (as.take n ++ [.tup (as.drop n)])) s QV E else False) := by
  by_cases h : n ≤ as.length ∧ as.length ≤ LIM
  · simp only [WE_eq, WE0, starM, if_pos h]
  · simp only [WE_eq, WE0, starM, if_neg h]
def callW (tab : MTab) (j : Nat) (s : Sto) (P : (List Vl → M Vl) → Prop) : Prop := match s[j]? with
  | some (.ins c _) => match tab c with
    | some mf => P mf
    | none => False
  | _ => False
theorem callW_ins {tab : MTab} {c j : Nat} {fs : List (Str × Vl)} {mf : List Vl → M Vl} {P : (List Vl → M Vl) → Prop} (h : s[j]? = some (.ins c fs)) (ht : tab c = some mf) : callW tab j s P = P mf := by simp only [callW, h, ht]
theorem WE_eCallO {tab : MTab} {o : EM} {a : AM} : WE (eCallO tab o a lo) s QV E = WE (o lo) s (fun x s => match x with | .ref j => WE (a lo) s (fun as s => callW tab j s fun mf => WE (mf (.ref j :: as)) s QV E) E | _ => False) E := by
  unfold eCallO
  rw [WE_bnd]
  refine WE_ext fun x s => ?_
  cases x <;> try (simp only [WE_eq]; rfl)
  rename_i j
  show WE (bnd (a lo) _) s QV E = _
  rw [WE_bnd]
  refine WE_ext fun as s => ?_
  simp only [WE_eq]
  unfold WE0 callW
  simp only
  cases h : s[j]? with
  | none => rfl
  | some o =>
    cases o <;> try rfl
    rename_i c fs
    simp only
    cases h1 : tab c with
    | none => rfl
    | some mf => simp only [WE_eq] <;> rfl
end
theorem put_len {κ : Type} [DecidableEq κ] {kvs : List (κ × Vl)} {k : κ} {v : Vl} : (put kvs k v).length ≤ kvs.length + 1 := by
  induction kvs with
  | nil => simp [put]
  | cons p r ih =>
    unfold put
    split
    · simp
    · simp; omega
@[simp] theorem look_put_self {κ : Type} [DecidableEq κ] {kvs : List (κ × Vl)} {k : κ} {v : Vl} : look (put kvs k v) k = some v := by
  induction kvs with
  | nil => simp [put, look]
  | cons p r ih =>
    unfold put
    split
    · simp [look]
    · rename_i h
      simp [look, h, ih]
theorem look_put_ne {κ : Type} [DecidableEq κ] {kvs : List (κ × Vl)} {k k' : κ} {v : Vl} (h : k ≠ k') : look (put kvs k v) k' = look kvs k' := by
  induction kvs with
  | nil => simp [put, look, h]
  | cons p r ih =>
    unfold put
    split
    · rename_i e
      simp only [look]
      rw [if_neg h, if_neg (by rw [e]; exact h)]
    · simp only [look]
      split
      · rfl
      · exact ih
theorem hasK_keys {y : Int} : ∀ {kvs : List (Key × Vl)} {K : List Int}, kvs.map (·.1) = K.map Sum.inl → hasK kvs (.inl y) = decide (y ∈ K)
  | [], [], _ => by simp [hasK]
  | [], _ :: _, h => by simp at h
  | _ :: _, [], h => by simp at h
  | p :: r, k :: K, h => by
    simp only [List.map_cons, List.cons.injEq] at h
    unfold hasK
    by_cases q : p.1 = .inl y
    · have : k = y := by rw [q] at h; have := h.1; cases this; rfl
      simp [q, this]
    · have : y ≠ k := fun e => q (by rw [h.1, e])
      rw [if_neg q, hasK_keys h.2]
      simp [this]
theorem put_new {y : Int} {v : Vl} : ∀ {kvs : List (Key × Vl)} {K : List Int}, kvs.map (·.1) = K.map Sum.inl → y ∉ K → (put kvs (.inl y) v).map (·.1) = (K ++ [y]).map Sum.inl
  | [], [], _, _ => rfl
  | [], _ :: _, h, _ => by simp at h
  | _ :: _, [], h, _ => by simp at h
  | p :: r, k :: K, h, hy => by
    simp only [List.map_cons, List.cons.injEq] at h
    simp only [List.mem_cons, not_or] at hy
    unfold put
    have q : p.1 ≠ .inl y := fun e => hy.1 (by rw [h.1] at e; cases e; rfl)
    rw [if_neg q]
    simp only [List.map_cons, List.cons_append, put_new h.2 hy.2, h.1]
theorem nodup_sub : ∀ {A B : List Int}, A.Nodup → (∀ x ∈ A, x ∈ B) → A.length ≤ B.length
  | [], B, _, _ => Nat.zero_le _
  | a :: A, B, nd, h => by
    have ha := h a (List.mem_cons_self ..)
    simp only [List.nodup_cons] at nd
    have ih := nodup_sub (B := B.erase a) nd.2 fun x hx => (List.mem_erase_of_ne (show x ≠ a from fun e => nd.1 (e ▸ hx))).mpr (h x (List.mem_cons_of_mem _ hx))
    rw [List.length_erase_of_mem ha] at ih
    have := List.length_pos_of_mem ha
    simp only [List.length_cons]
    omega
abbrev Inc (A : List Int) : Prop := A.Pairwise (· < ·)
theorem Inc.nodup {A : List Int} (h : Inc A) : A.Nodup := h.imp fun a => by omega
theorem srt_inc {A : List Int} (nd : A.Nodup) : Inc (srt A) := by
  have h1 := srt_sorted A
  have h2 : (srt A).Nodup := (srt_perm A).nodup_iff.mpr nd
  exact (h1.and h2).imp fun h => by omega
theorem mem_srt {A : List Int} {x : Int} : x ∈ srt A ↔ x ∈ A := (srt_perm A).mem_iff
theorem srt_len {A : List Int} : (srt A).length = A.length := (srt_perm A).length_eq
@[simp] theorem inF_ints {c : Int} : ∀ C : List Int, inF (.int c) (C.map Vl.int) = decide (c ∈ C)
  | [] => by simp [inF]
  | x :: C => by
    have := inF_ints (c := c) C
    have e : eqF (.int x) (.int c) = decide (c = x) := by
      simp [eqF]
      by_cases q : x = c
      · simp [q]
      · simp [q, Ne.symm q]
    simp [inF, e] at this ⊢
    rw [this]
@[simp] theorem flat_ints {xs : List Int} : (xs.map Vl.int).all flat = true := by simp [List.all_map]
theorem keys_list {kvs : List (Key × Vl)} {K : List Int} (h : kvs.map (·.1) = K.map Sum.inl) : (kvs.map fun kv => keyVl kv.1) = K.map Vl.int := by
  have : (kvs.map fun kv => keyVl kv.1) = (kvs.map (·.1)).map keyVl := by simp
  rw [this, h, List.map_map]
  rfl
end Sm

/-! S24: texts that are written out; small rules -/
namespace Sm
open PySem L2
theorem toNat_map_inj : ∀ {a b : List Char}, a.map Char.toNat = b.map Char.toNat → a = b
  | [], [], _ => rfl
  | [], _ :: _, h => by simp at h
  | _ :: _, [], h => by simp at h
  | x :: a, y :: b, h => by
    simp only [List.map_cons, List.cons.injEq] at h
    rw [toNat_map_inj h.2, Char.toNat_inj.mp h.1]
theorem ofString_inj {a b : String} (h : Str.ofString a = Str.ofString b) : a = b := by
  rw [Str.ofString_eq_toList, Str.ofString_eq_toList] at h
  have h1 := congrArg (fun z => z.cps.toList) h
  simp only at h1
  exact String.toList_inj.mp (toNat_map_inj h1)
@[simp] theorem ofString_eq_iff {a b : String} : (Str.ofString a = Str.ofString b) = (a = b) := propext ⟨ofString_inj, fun h => by rw [h]⟩
@[simp] theorem ofString_beq {a b : String} : (Str.ofString a == Str.ofString b) = (a == b) := by
  by_cases h : a = b
  · subst h; simp
  · rw [beq_eq_false_iff_ne.mpr h, beq_eq_false_iff_ne.mpr fun z => h (ofString_inj z)]
@[simp] theorem eqF_str {a b : Str} : eqF (.str a) (.str b) = (a == b) := rfl
@[simp] theorem eqF_int {a b : Int} : eqF (.int a) (.int b) = (a == b) := rfl
@[simp] theorem inF_nil {x : Vl} : inF x [] = false := rfl
@[simp] theorem inF_cons {x y : Vl} {ys : List Vl} : inF x (y :: ys) = (eqF y x || inF x ys) := rfl
section
variable {s : Sto} {x : Str} {i : Int} {xs : List Vl} {a : Nat}
@[simp] theorem opIn_tupS : opIn (.str x) (.tup xs) s = if xs.all flat = true then some (.bl (inF (.str x) xs), s) else none := by
  by_cases h : xs.all flat = true
  · rw [if_pos h, opIn_tup rfl h]
  · have h' : xs.all flat = false := by simpa using h
    rw [if_neg h]; simp only [opIn, inM, h', Bool.and_false]; rfl
@[simp] theorem opNotIn_tupS : opNotIn (.str x) (.tup xs) s = if xs.all flat = true then some (.bl (!inF (.str x) xs), s) else none := by
  by_cases h : xs.all flat = true
  · rw [if_pos h, opNotIn_tup rfl h]
  · have h' : xs.all flat = false := by simpa using h
    rw [if_neg h]; simp only [opNotIn, inM, h', Bool.and_false]; rfl
@[simp] theorem opIn_tupI : opIn (.int i) (.tup xs) s = if xs.all flat = true then some (.bl (inF (.int i) xs), s) else none := by
  by_cases h : xs.all flat = true
  · rw [if_pos h, opIn_tup rfl h]
  · have h' : xs.all flat = false := by simpa using h
    rw [if_neg h]; simp only [opIn, inM, h', Bool.and_false]; rfl
@[simp] theorem opNotIn_tupI : opNotIn (.int i) (.tup xs) s = if xs.all flat = true then some (.bl (!inF (.int i) xs), s) else none := by
  by_cases h : xs.all flat = true
  · rw [if_pos h, opNotIn_tup rfl h]
  · have h' : xs.all flat = false := by simpa using h
    rw [if_neg h]; simp only [opNotIn, inM, h', Bool.and_false]; rfl
@[simp] theorem opIn_lstS (h1 : s[a]? = some (.lst xs)) : opIn (.str x) (.ref a) s = if xs.all flat = true then some (.bl (inF (.str x) xs), s) else none := by
  by_cases h : xs.all flat = true
  · rw [if_pos h, opIn_lst h1 rfl h]
  · have h' : xs.all flat = false := by simpa using h
    rw [if_neg h]; simp only [opIn, inM, h1, h', Bool.and_false]; rfl
@[simp] theorem opNotIn_lstS (h1 : s[a]? = some (.lst xs)) : opNotIn (.str x) (.ref a) s = if xs.all flat = true then some (.bl (!inF (.str x) xs), s) else none := by
  by_cases h : xs.all flat = true
  · rw [if_pos h, opNotIn_lst h1 rfl h]
  · have h' : xs.all flat = false := by simpa using h
    rw [if_neg h]; simp only [opNotIn, inM, h1, h', Bool.and_false]; rfl
@[simp] theorem opIn_lstI (h1 : s[a]? = some (.lst xs)) : opIn (.int i) (.ref a) s = if xs.all flat = true then some (.bl (inF (.int i) xs), s) else none := by
  by_cases h : xs.all flat = true
  · rw [if_pos h, opIn_lst h1 rfl h]
  · have h' : xs.all flat = false := by simpa using h
    rw [if_neg h]; simp only [opIn, inM, h1, h', Bool.and_false]; rfl
@[simp] theorem opNotIn_lstI (h1 : s[a]? = some (.lst xs)) : opNotIn (.int i) (.ref a) s = if xs.all flat = true then some (.bl (!inF (.int i) xs), s) else none := by
  by_cases h : xs.all flat = true
  · rw [if_pos h, opNotIn_lst h1 rfl h]
  · have h' : xs.all flat = false := by simpa using h
    rw [if_neg h]; simp only [opNotIn, inM, h1, h', Bool.and_false]; rfl
end
theorem eqM_tupN {s : Sto} {ns : List Int} : eqM (.tup (ns.map Vl.int)) (.tup []) s = some ns.isEmpty := by
  have e1 : toD 40 s (.tup (ns.map Vl.int)) = some (.tuple (ns.map PyData.int)) := by
    unfold toD
    simp only [toD_ints (m := 38), Option.map]
  have e2 : toD 40 s (.tup []) = some (.tuple []) := rfl
  have e3 : PyData.canLay0 (.tuple (ns.map PyData.int)) = true := by simpa only [PyData.canLay0] using canLay_ints ns
  have e4 : PyData.canLay0 (.tuple []) = true := rfl
  simp only [eqM, eqS, e1, e2, e3, e4, Bool.and_self, if_true, PyData.eqv]
  cases ns <;> simp [PyData.eqvAll]
theorem opEq_tupN {s : Sto} {ns : List Int} : opEq (.tup (ns.map Vl.int)) (.tup []) s = some (.bl ns.isEmpty, s) := by
  simp only [opEq, eqM_tupN]
theorem opNe_tupN {s : Sto} {ns : List Int} : opNe (.tup (ns.map Vl.int)) (.tup []) s = some (.bl (!ns.isEmpty), s) := by
  simp only [opNe, eqM_tupN]
@[simp] theorem lim7 : (7 ≤ LIM) = True := eq_true (by decide)
@[simp] theorem lim8 : (8 ≤ LIM) = True := eq_true (by decide)
@[simp] theorem lim9 : (9 ≤ LIM) = True := eq_true (by decide)
@[simp] theorem lim10 : (10 ≤ LIM) = True := eq_true (by decide)
@[simp] theorem lim11 : (11 ≤ LIM) = True := eq_true (by decide)
@[simp] theorem lim12 : (12 ≤ LIM) = True := eq_true (by decide)
@[simp] theorem lim13 : (13 ≤ LIM) = True := eq_true (by decide)
@[simp] theorem lim14 : (14 ≤ LIM) = True := eq_true (by decide)
@[simp] theorem lim15 : (15 ≤ LIM) = True := eq_true (by decide)
@[simp] theorem lim16 : (16 ≤ LIM) = True := eq_true (by decide)
@[simp] theorem lim17 : (17 ≤ LIM) = True := eq_true (by decide)
@[simp] theorem lim18 : (18 ≤ LIM) = True := eq_true (by decide)
@[simp] theorem lim19 : (19 ≤ LIM) = True := eq_true (by decide)
@[simp] theorem lim20 : (20 ≤ LIM) = True := eq_true (by decide)
@[simp] theorem lim21 : (21 ≤ LIM) = True := eq_true (by decide)
@[simp] theorem lim22 : (22 ≤ LIM) = True := eq_true (by decide)
@[simp] theorem lim23 : (23 ≤ LIM) = True := eq_true (by decide)
@[simp] theorem lim24 : (24 ≤ LIM) = True := eq_true (by decide)
@[simp] theorem lim25 : (25 ≤ LIM) = True := eq_true (by decide)
@[simp] theorem lim26 : (26 ≤ LIM) = True := eq_true (by decide)
@[simp] theorem lim27 : (27 ≤ LIM) = True := eq_true (by decide)
@[simp] theorem lim28 : (28 ≤ LIM) = True := eq_true (by decide)
@[simp] theorem lim29 : (29 ≤ LIM) = True := eq_true (by decide)
@[simp] theorem lim30 : (30 ≤ LIM) = True := eq_true (by decide)
@[simp] theorem lim31 : (31 ≤ LIM) = True := eq_true (by decide)
@[simp] theorem lim32 : (32 ≤ LIM) = True := eq_true (by decide)
@[simp] theorem lim33 : (33 ≤ LIM) = True := eq_true (by decide)
@[simp] theorem lim34 : (34 ≤ LIM) = True := eq_true (by decide)
@[simp] theorem lim35 : (35 ≤ LIM) = True := eq_true (by decide)
@[simp] theorem lim36 : (36 ≤ LIM) = True := eq_true (by decide)
@[simp] theorem lim37 : (37 ≤ LIM) = True := eq_true (by decide)
@[simp] theorem lim38 : (38 ≤ LIM) = True := eq_true (by decide)
@[simp] theorem lim39 : (39 ≤ LIM) = True := eq_true (by decide)
@[simp] theorem lim40 : (40 ≤ LIM) = True := eq_true (by decide)
theorem Pn.bl {b : Bool} : Pn 1 64 (.bl b) := by
  refine ⟨.bool b, fun s m hm => ?_, by cases b <;> decide, rfl, by simp [PyData.weight]⟩
  obtain ⟨m, rfl⟩ : ∃ k, m = k + 1 := ⟨m - 1, by omega⟩
  rfl
theorem Pn.ints {ns : List Int} {n : Nat} (h : ∀ x ∈ ns, x.natAbs < 10 ^ 12) (hn : ns.length ≤ n) : Pn 2 (n * 65) (.tup (ns.map Vl.int)) :=
  (Pn.tup (n := 1) (w := 64) fun x hx => by
    obtain ⟨i, hi, rfl⟩ := List.mem_map.mp hx
    exact Pn.int (h i hi)).mono (Nat.le_refl _) (by simp; omega)
/-- an item of a mapped list -/
theorem get_map {α β : Type} {f : α → β} {xs : List α} {i : Nat} {v : β} (h : (xs.map f)[i]? = some v) : ∃ x, xs[i]? = some x ∧ v = f x := by
  rw [List.getElem?_map] at h
  cases q : xs[i]? with
  | none => rw [q] at h; cases h
  | some e => rw [q] at h; exact ⟨e, rfl, by simpa using h.symm⟩
theorem take_succ_get {α : Type} {xs : List α} {i : Nat} {x : α} (h : xs[i]? = some x) : xs.take (i + 1) = xs.take i ++ [x] := by
  rw [List.take_add_one, h]; rfl
theorem rngW_lit {n : Nat} {s : Sto} {QA : List Vl → Sto → Prop} (h : n < 1000000) : rngW [.int (OfNat.ofNat n)] s QA = QA (rng 0 n) s := rngW_nat h
end Sm

/-! S29: how the newer parts of pure programs are computed -/
namespace Sm
open PySem L2
section
variable {s : Sto} {lo : Lo} {QV : Vl → Sto → Prop} {QA : List Vl → Sto → Prop} {E : Ex → Sto → Prop} {K : RK} {N : Lo → Sto → Prop}
def WGs0 (gs : List GM) (vs : List Vl) (lo : Lo) (s : Sto) (N : Lo → Sto → Prop) : Prop := match gAll gs vs lo s with
  | some (lo', s') => N lo' s'
  | none => False
structure WGs (gs : List GM) (vs : List Vl) (lo : Lo) (s : Sto) (N : Lo → Sto → Prop) (_ : Tg N := .a) : Prop where
  h : WGs0 gs vs lo s N
theorem WGs_eq {gs : List GM} {vs : List Vl} : WGs gs vs lo s N = WGs0 gs vs lo s N := propext ⟨fun x => x.h, fun x => ⟨x⟩⟩
@[simp ↓] theorem WG_gTs {gs : List GM} {xs : List Vl} : WG (gTs gs) (.tup xs) lo s N E = WGs gs xs lo s N := by
  simp only [WG_eq, WE_eq, WGs_eq]
  unfold WE0 gTs WGs0
  simp only
  cases gAll gs xs lo s with
  | none => rfl
  | some p => obtain ⟨a, b⟩ := p; rfl
@[simp ↓] theorem WGs_nil : WGs [] [] lo s N = N lo s := by simp only [WGs_eq]; rfl
@[simp ↓] theorem WGs_cons {g : GM} {gs : List GM} {v : Vl} {vs : List Vl} : WGs (g :: gs) (v :: vs) lo s N = WG g v lo s (fun lo s => WGs gs vs lo s N) NoX := by
  simp only [WG_eq, WE_eq, WGs_eq]
  unfold WE0 WGs0
  have e : gAll (g :: gs) (v :: vs) lo s = match g v lo s with | .ok lo' s' => gAll gs vs lo' s' | _ => none := rfl
  rw [e]
  cases g v lo s with
  | ok a b => simp only [WGs_eq] <;> rfl
  | exc a b => rfl
  | fail => rfl
def ulW (x : Vl) (s : Sto) (P : List Vl → Prop) : Prop := match x with
  | .ref j => match s[j]? with
    | some (.lst xs) => P xs
    | _ => False
  | _ => False
@[simp] theorem ulW_ref {j : Nat} {P : List Vl → Prop} {xs : List Vl} (h : s[j]? = some (.lst xs)) : ulW (.ref j) s P = P xs := by simp [ulW, h]
@[simp ↓] theorem WG_gUl {gs : List GM} {x : Vl} : WG (gUl gs) x lo s N E = ulW x s fun xs => WGs gs xs lo s N := by
  simp only [WG_eq, WE_eq, WGs_eq]
  unfold WE0 gUl ulW WGs0
  cases x <;> try rfl
  rename_i j
  dsimp only
  cases s[j]? with
  | none => rfl
  | some o =>
    cases o <;> try rfl
    rename_i xs
    dsimp only
    cases gAll gs xs lo s with
    | none => rfl
    | some p => obtain ⟨a, b⟩ := p; rfl
def atW (lo : Lo) (i : Nat) (P : Vl → Prop) : Prop := match lo[i]? with
  | some (some x) => P x
  | _ => False
theorem atW_some {i : Nat} {x : Vl} {P : Vl → Prop} (h : lo[i]? = some (some x)) : atW lo i P = P x := by unfold atW; rw [h]
@[simp ↓] theorem WS_sAug {i : Nat} {f : O2} {e : EM} : WS (sAug i f e) lo s K = (match lo[i]? with | some (some x) => WE (e lo) s (fun v s => WO (f x v s) fun z s => K.nx (lo.set i (some z)) s) (fun x s => K.ex x lo s) | _ => False) := by
  simp only [WS_eq]
  unfold WS0 sAug
  cases h : lo[i]? with
  | none => simp only [h]
  | some o =>
    cases o with
    | none => simp only [h]
    | some x =>
      simp only [h]
      have := WS_bndS (m := e) (lo := lo) (s := s) (K := K) (f := fun lo v s => match f x v s with | some (z, s') => .nx (lo.set i (some z)) s' | none => .fail)
      refine Eq.trans (b := WS (bndS e fun lo v s => match f x v s with | some (z, s') => .nx (lo.set i (some z)) s' | none => .fail) lo s K) (by simp only [WS_eq]; rfl) (this.trans ?_)
      refine WE_ext fun v s => ?_
      simp only [WO_eq]
      unfold WO0
      cases f x v s with
      | none => rfl
      | some p => obtain ⟨a, b⟩ := p; rfl
@[simp] theorem opIAdd_int {i j : Int} : opIAdd (.int i) (.int j) s = some (.int (i + j), s) := rfl
@[simp] theorem opISub_int {i j : Int} : opISub (.int i) (.int j) s = some (.int (i - j), s) := rfl
@[simp] theorem opIAdd_str {x y : Str} (h : x.length + y.length ≤ LIM) : opIAdd (.str x) (.str y) s = some (.str (x ++ y), s) := by simp only [opIAdd, if_pos h]
@[simp ↓] theorem WE_eChain {f f' : O2} {a b c : EM} : WE (eChain f f' a b c lo) s QV E = WE (a lo) s (fun x s => WE (b lo) s (fun y s => WO (f x y s) fun z s => match z with | .bl true => WE (c lo) s (fun w s => WO (f' y w s) QV) E | .bl false => QV (.bl false) s | _ => False) E) E := by
  unfold eChain
  rw [WE_bnd]
  refine WE_ext fun x s => ?_
  rw [WE_bnd]
  refine WE_ext fun y s => ?_
  rw [WE_bnd, WE_lift]
  have : ∀ (o : Option (Vl × Sto)) (P P' : Vl → Sto → Prop), (∀ a s, P a s = P' a s) → WO o P = WO o P' := fun o P P' h => by
    have : P = P' := funext fun a => funext fun s => h a s
    subst this; rfl
  refine this _ _ _ fun z s => ?_
  cases z <;> try (simp only [WE_eq]; rfl)
  rename_i k
  cases k with
  | false => simp only [WE_eq]; rfl
  | true =>
    simp only
    rw [WE_bnd]
    exact WE_ext fun w s => WE_lift
def dicW (x : Vl) (s : Sto) (P : Nat → Prop) : Prop := match x with
  | .ref j => isDic j s = true ∧ P j
  | _ => False
@[simp] theorem dicW_ref {j : Nat} {P : Nat → Prop} {kvs : List (Key × Vl)} (h : s[j]? = some (.dic kvs)) : dicW (.ref j) s P = P j := by simp [dicW, isDic, h]
def getW (j : Nat) (y : Vl) (s : Sto) (P : List (Key × Vl) → Key → Prop) : Prop := match s[j]?, keyOf y with
  | some (.dic kvs), some key => P kvs key
  | _, _ => False
@[simp] theorem getW_str {j : Nat} {x : Str} {kvs : List (Key × Vl)} {P : List (Key × Vl) → Key → Prop} (h : s[j]? = some (.dic kvs)) : getW j (.str x) s P = P kvs (.inr x) := by simp [getW, h, keyOf]
@[simp] theorem getW_int {j : Nat} {x : Int} {kvs : List (Key × Vl)} {P : List (Key × Vl) → Key → Prop} (h : s[j]? = some (.dic kvs)) : getW j (.int x) s P = P kvs (.inl x) := by simp [getW, h, keyOf]
@[simp ↓] theorem WE_eDGet1 {d k : EM} : WE (eDGet1 d k lo) s QV E = WE (d lo) s (fun x s => dicW x s fun j => WE (k lo) s (fun y s => getW j y s fun kvs key => QV ((look kvs key).getD .non) s) E) E := by
  unfold eDGet1
  rw [WE_bnd]
  refine WE_ext fun x s => ?_
  cases x <;> try (simp only [WE_eq]; rfl)
  rename_i j
  unfold dicW
  by_cases h : isDic j s = true
  · simp only [h, true_and]
    refine Eq.trans (b := WE (bnd (k lo) fun y s => match s[j]?, keyOf y with | some (.dic kvs), some key => .ok ((look kvs key).getD .non) s | _, _ => .fail) s QV E) ?_ ?_
    · simp only [WE_eq]; unfold WE0; simp only [h, if_true] <;> rfl
    · rw [WE_bnd]
      refine WE_ext fun y s => ?_
      simp only [WE_eq]
      unfold WE0 getW
      dsimp only
      cases s[j]? with
      | none => rfl
      | some o => cases o <;> cases keyOf y <;> rfl
  · simp only [h, false_and, Bool.false_eq_true]
    simp only [WE_eq]; unfold WE0; simp only [h, if_false, Bool.false_eq_true]
@[simp ↓] theorem WE_eDGet2 {d k v : EM} : WE (eDGet2 d k v lo) s QV E = WE (d lo) s (fun x s => dicW x s fun j => WE (k lo) s (fun y s => WE (v lo) s (fun z s => getW j y s fun kvs key => QV ((look kvs key).getD z) s) E) E) E := by
  unfold eDGet2
  rw [WE_bnd]
  refine WE_ext fun x s => ?_
  cases x <;> try (simp only [WE_eq]; rfl)
  rename_i j
  unfold dicW
  by_cases h : isDic j s = true
  · simp only [h, true_and]
    refine Eq.trans (b := WE (bnd (k lo) fun y => bnd (v lo) fun z s => match s[j]?, keyOf y with | some (.dic kvs), some key => .ok ((look kvs key).getD z) s | _, _ => .fail) s QV E) ?_ ?_
    · simp only [WE_eq]; unfold WE0; simp only [h, if_true] <;> rfl
    · rw [WE_bnd]
      refine WE_ext fun y s => ?_
      rw [WE_bnd]
      refine WE_ext fun z s => ?_
      simp only [WE_eq]
      unfold WE0 getW
      dsimp only
      cases s[j]? with
      | none => rfl
      | some o => cases o <;> cases keyOf y <;> rfl
  · simp only [h, false_and, Bool.false_eq_true]
    simp only [WE_eq]; unfold WE0; simp only [h, if_false, Bool.false_eq_true]
@[simp ↓] theorem WE_aEnm {e : AM} : WE (aEnm e lo) s QA E = WE (e lo) s (fun as s => match as with | [.tup xs] => QA (enmL xs) s | _ => False) E := by
  unfold aEnm
  rw [WE_bnd]
  refine WE_ext fun as s => ?_
  match as with
  | [] => simp only [WE_eq]; rfl
  | [.tup xs] => simp only [WE_eq]; rfl
  | .non :: _ => cases ‹List Vl› <;> simp only [WE_eq] <;> rfl
  | .bl _ :: _ => cases ‹List Vl› <;> simp only [WE_eq] <;> rfl
  | .int _ :: _ => cases ‹List Vl› <;> simp only [WE_eq] <;> rfl
  | .str _ :: _ => cases ‹List Vl› <;> simp only [WE_eq] <;> rfl
  | .ref _ :: _ => cases ‹List Vl› <;> simp only [WE_eq] <;> rfl
  | .scr _ :: _ => cases ‹List Vl› <;> simp only [WE_eq] <;> rfl
  | .ty _ :: _ => cases ‹List Vl› <;> simp only [WE_eq] <;> rfl
  | .fn _ :: _ => cases ‹List Vl› <;> simp only [WE_eq] <;> rfl
  | .tup _ :: _ :: _ => simp only [WE_eq]; rfl
@[simp ↓] theorem WE_dflM {n : Nat} {das as : List Vl} {mf : List Vl → M Vl} : WE (dflM n das mf as) s QV E = (if as.length + das.length = n then WE (mf (as ++ das)) s QV E else False) := by
  by_cases h : as.length + das.length = n
  · simp only [WE_eq, WE0, dflM, if_pos h]
  · simp only [WE_eq, WE0, dflM, if_neg h]
end
section
variable {s : Sto} {a : Nat} {x : Str} {xs : List Vl} {kvs : List (Key × Vl)}
theorem oJoin_strs {ys : List Str} (h : s[a]? = some (.lst (ys.map Vl.str))) (hl : (ys.map (·.length)).sum + ys.length * x.length ≤ LIM) : oJoin (.str x) [.ref a] s = some (.str (Txt.join x ys), s) := by simp [oJoin, lstOf, h, mapO_strs, hl]
@[simp] theorem oDict_dic (h : s[a]? = some (.dic kvs)) : oDict [.ref a] s = some (.ref s.length, s ++ [.dic kvs]) := by simp only [oDict, h]
theorem oDictP_lst {ps : List (Key × Vl)} (h : s[a]? = some (.lst xs)) (hp : mapO asPr xs = some ps) : oDictP [.ref a] s = some (.ref s.length, s ++ [.dic (mergeP [] ps)]) := by simp [oDictP, lstOf, h, hp]
theorem strKeys_eq : ∀ {kvs : List (Key × Vl)} {ks : List Str}, kvs.map (·.1) = ks.map Sum.inr → strKeys kvs = some ks
  | [], [], _ => rfl
  | [], _ :: _, h => by simp at h
  | _ :: _, [], h => by simp at h
  | p :: r, k :: ks, h => by
    simp only [List.map_cons, List.cons.injEq] at h
    obtain ⟨⟨k1, v⟩, r⟩ : ∃ q : Key × Vl, q = p := ⟨p, rfl⟩
    have ih := strKeys_eq h.2
    cases p with
    | mk q v =>
      obtain ⟨h1, h2⟩ := h
      simp only at h1
      subst h1
      simp [strKeys, ih]
theorem oSort_dic {ks : List Str} (h : s[a]? = some (.dic kvs)) (hk : kvs.map (·.1) = ks.map Sum.inr) (hl : ks.length < 64) : oSort [.ref a] s = some (.ref s.length, s ++ [.lst ((srtT ks).map Vl.str)]) := by simp [oSort, h, strKeys_eq hk, hl]
theorem mem_srtT {ks : List Str} {z : Str} : z ∈ srtT ks ↔ z ∈ ks := (srtT_perm ks).mem_iff
theorem srtT_len {ks : List Str} : (srtT ks).length = ks.length := (srtT_perm ks).length_eq
@[simp] theorem kd_join : kd .str (.str x) s = true := rfl
@[simp] theorem oLen_str (h : x.length ≤ LIM) : oLen [.str x] s = some (.int x.length, s) := by simp [oLen, lenM, h]
@[simp] theorem opIx_str {i : Int} (h : x.length ≤ LIM) : opIx (.str x) (.int i) s = (atI x.cps.toList i).map fun c => (.str ⟨#[c]⟩, s) := by simp only [opIx, if_pos h]
@[simp] theorem oStr_int {i : Int} (h : i.natAbs.log2 < 1920) : oStr [.int i] s = some (.str (toString i), s) := by simp only [oStr, if_pos h]
end
theorem str_len {x : Str} : x.length = x.cps.toList.length := by simp [Str.length]
theorem str_append {x y : Str} : (x ++ y).cps.toList = x.cps.toList ++ y.cps.toList := by
  show (x.cps ++ y.cps).toList = _
  simp
/-- == of any list with an empty one -/
theorem eqM_lstN {s : Sto} {a b : Nat} {xs : List Vl} {ds : List PyData} (h1 : s[a]? = some (.lst xs)) (h2 : s[b]? = some (.lst [])) (hd : mapO (toD 39 s) xs = some ds) (hc : PyData.canLayAll0 ds = true) : eqM (.ref a) (.ref b) s = some xs.isEmpty := by
  have e1 : toD 40 s (.ref a) = some (.list ds) := by rw [toD_lst (m := 39) h1, hd]; rfl
  have e2 : toD 40 s (.ref b) = some (.list []) := by rw [toD_lst (m := 39) h2]; rfl
  have e3 : PyData.canLay0 (.list ds) = true := by simpa only [PyData.canLay0] using hc
  have e4 : PyData.canLay0 (.list []) = true := rfl
  have e5 : ds.isEmpty = xs.isEmpty := by
    cases xs with
    | nil => cases hd; rfl
    | cons x xs =>
      unfold mapO at hd
      cases q : toD 39 s x with
      | none => simp only [q] at hd; cases hd
      | some d =>
        simp only [q] at hd
        cases q2 : mapO (toD 39 s) xs with
        | none => simp only [q2] at hd; cases hd
        | some r => simp only [q2] at hd; cases hd; rfl
  simp only [eqM, eqS, e1, e2, e3, e4, Bool.and_self, if_true, PyData.eqv]
  rw [← e5]
  cases ds <;> simp [PyData.eqvAll]
theorem toD_strs {s : Sto} {m : Nat} : ∀ ns : List Str, mapO (toD (m + 1) s) (ns.map Vl.str) = some (ns.map PyData.str)
  | [] => rfl
  | n :: ns => by
    have e : toD (m + 1) s (.str n) = some (.str n) := rfl
    simp only [List.map_cons, mapO, e, toD_strs ns]
theorem canLay_strs : ∀ {ns : List Str}, (∀ z ∈ ns, PyData.strOk z = true) → PyData.canLayAll0 (ns.map PyData.str) = true
  | [], _ => rfl
  | n :: ns, h => by
    have h1 := h n (List.mem_cons_self ..)
    have h2 := canLay_strs (ns := ns) fun z hz => h z (List.mem_cons_of_mem _ hz)
    simp only [List.map_cons, PyData.canLayAll0, PyData.canLay0, h1, h2, Bool.and_self]
theorem opEq_lstS {s : Sto} {a b : Nat} {zs : List Str} (hz : ∀ z ∈ zs, PyData.strOk z = true) (h1 : s[a]? = some (.lst (zs.map Vl.str))) (h2 : s[b]? = some (.lst [])) : opEq (.ref a) (.ref b) s = some (.bl zs.isEmpty, s) := by
  simp only [opEq, eqM_lstN h1 h2 (toD_strs (m := 38) zs) (canLay_strs hz)]
  simp
/-- plain values, each with its own weight -/
theorem Pn.tupS {n : Nat} : ∀ {xs : List Vl} {ws : List Nat}, ws.length = xs.length → (∀ (i : Nat) (x : Vl) (w : Nat), xs[i]? = some x → ws[i]? = some w → Pn n w x) → Pn (n + 1) ((ws.map (· + 1)).sum) (.tup xs) := by
  intro xs ws hl h
  have key : ∃ ds : List PyData, (∀ s m, n ≤ m → mapO (toD m s) xs = some ds) ∧ PyData.leavesShortAll 13 ds = true ∧ PyData.showableAll ds = true ∧ PyData.weightAll ds ≤ (ws.map (· + 1)).sum := by
    induction xs generalizing ws with
    | nil =>
      cases ws with
      | nil => exact ⟨[], fun _ _ _ => rfl, rfl, rfl, by simp [PyData.weightAll]⟩
      | cons w ws => simp at hl
    | cons x xs ih =>
      cases ws with
      | nil => simp at hl
      | cons w ws =>
        obtain ⟨d, a, b, c, e⟩ := h 0 x w rfl rfl
        obtain ⟨ds, a', b', c', e'⟩ := ih (by simpa using hl) fun i y v h1 h2 => h (i + 1) y v (by simpa using h1) (by simpa using h2)
        refine ⟨d :: ds, fun s m hm => ?_, ?_, ?_, ?_⟩
        · simp only [mapO, a s m hm, a' s m hm]
        · simp only [PyData.leavesShortAll, b, b', Bool.and_self]
        · simp only [PyData.showableAll, c, c', Bool.and_self]
        · simp only [PyData.weightAll, List.map_cons, List.sum_cons]
          omega
  obtain ⟨ds, a, b, c, e⟩ := key
  refine ⟨.tuple ds, fun s m hm => ?_, ?_, ?_, ?_⟩
  · obtain ⟨m, rfl⟩ : ∃ k, m = k + 1 := ⟨m - 1, by omega⟩
    simp only [toD, a s m (by omega), Option.map]
  · simpa only [PyData.leavesShort] using b
  · simpa only [PyData.showable] using c
  · simpa only [PyData.weight] using e
end Sm

/-! S30: programs of cells: tests, statements, blocks -/
namespace Sm
open PySem L2
/-- a short text of plain signs -/
structure Nice (x : Str) : Prop where
  len : x.length ≤ 20
  sgn : ∀ c ∈ x.cps.toList, c < 128
theorem Nice.pn {x : Str} (h : Nice x) : Pn 1 64 (.str x) := Pn.str (by
  rw [List.all_eq_true]
  intro c hc
  have := h.sgn c hc
  exact decide_eq_true (by omega)) (by have := h.len; omega)
theorem Nice.strOk {x : Str} (h : Nice x) : PyData.strOk x = true := by
  unfold PyData.strOk
  rw [← Array.all_toList, List.all_eq_true]
  intro c hc
  have := h.sgn c hc
  exact decide_eq_true (by omega)
inductive Tst where
  | given (i : Nat) | set (x : Str) | same (x y : Str) | full (x f : Str) | wished (w : Str) | not (t : Tst)
def Tst.vl : Tst → Vl
  | .given i => .tup [.str "given", .int (i : Nat)]
  | .set x => .tup [.str "set", .str x]
  | .same x y => .tup [.str "same", .str x, .str y]
  | .full x f => .tup [.str "full", .str x, .str f]
  | .wished w => .tup [.str "wished", .str w]
  | .not t => .tup [.str "not", t.vl]
/-- a right test, at most n "not" in one another, g givens -/
def Tst.ok (g : Nat) : Nat → Tst → Prop
  | _, .given i => i < g
  | _, .set x => Nice x
  | _, .same x y => Nice x ∧ Nice y
  | _, .full x f => Nice x ∧ Nice f
  | _, .wished w => Nice w
  | n + 1, .not t => Tst.ok g n t
  | 0, .not _ => False
theorem Tst.ok.mono {g : Nat} : ∀ {n m : Nat} {t : Tst}, t.ok g n → n ≤ m → t.ok g m
  | n, m, .given i, h, _ => by cases n <;> cases m <;> exact h
  | n, m, .set x, h, _ => by cases n <;> cases m <;> exact h
  | n, m, .same x y, h, _ => by cases n <;> cases m <;> exact h
  | n, m, .full x y, h, _ => by cases n <;> cases m <;> exact h
  | n, m, .wished x, h, _ => by cases n <;> cases m <;> exact h
  | n + 1, 0, .not t, h, e => by omega
  | n + 1, m + 1, .not t, h, e => Tst.ok.mono (t := t) (n := n) (m := m) h (by omega)
  | 0, _, .not t, h, _ => h.elim
inductive Stm where
  | make (x : Str) | wish (x w : Str) | keep (x : Str) | name (x y : Str) | drop (x : Str)
  | hold (x f y : Str) | weak (x f y : Str) | cut (x f : Str) | take (z x f : Str) | say (w : Str) | ask (t : Tst)
  | ife (t : Tst) (yes no : List Stm) | rep (k : Nat) (b : List Stm)
mutual
def Stm.vl : Stm → Vl
  | .make x => .tup [.str "make", .str x]
  | .wish x w => .tup [.str "wish", .str x, .str w]
  | .keep x => .tup [.str "keep", .str x]
  | .name x y => .tup [.str "name", .str x, .str y]
  | .drop x => .tup [.str "drop", .str x]
  | .hold x f y => .tup [.str "hold", .str x, .str f, .str y]
  | .weak x f y => .tup [.str "weak", .str x, .str f, .str y]
  | .cut x f => .tup [.str "cut", .str x, .str f]
  | .take z x f => .tup [.str "take", .str z, .str x, .str f]
  | .say w => .tup [.str "say", .str w]
  | .ask t => .tup [.str "ask", t.vl]
  | .ife t a b => .tup [.str "if", t.vl, .tup (Stm.vls a), .tup (Stm.vls b)]
  | .rep k b => .tup [.str "repeat", .int (k : Nat), .tup (Stm.vls b)]
def Stm.vls : List Stm → List Vl
  | [] => []
  | x :: xs => x.vl :: Stm.vls xs
end
mutual
/-- how many statements -/
def Stm.cnt : Stm → Nat
  | .ife _ a b => 1 + Stm.cnts a + Stm.cnts b
  | .rep _ b => 1 + Stm.cnts b
  | _ => 1
def Stm.cnts : List Stm → Nat
  | [] => 0
  | x :: xs => x.cnt + Stm.cnts xs
end
mutual
def Stm.wgt : Stm → Nat
  | .ife _ a b => 1 + Stm.wgts a + Stm.wgts b
  | .rep k b => 1 + k * Stm.wgts b
  | _ => 1
def Stm.wgts : List Stm → Nat
  | [] => 0
  | x :: xs => x.wgt + Stm.wgts xs
end
mutual
/-- a right statement: g givens, at most n blocks in one another -/
def Stm.ok (g : Nat) : Nat → Stm → Prop
  | _, .make x => Nice x
  | _, .wish x w => Nice x ∧ Nice w
  | _, .keep x => Nice x
  | _, .name x y => Nice x ∧ Nice y
  | _, .drop x => Nice x
  | _, .hold x f y => Nice x ∧ Nice f ∧ Nice y
  | _, .weak x f y => Nice x ∧ Nice f ∧ Nice y
  | _, .cut x f => Nice x ∧ Nice f
  | _, .take z x f => Nice z ∧ Nice x ∧ Nice f
  | _, .say w => Nice w
  | _, .ask t => t.ok g 3
  | n, .ife t a b => 0 < n ∧ t.ok g 3 ∧ Stm.oks g (n - 1) a ∧ Stm.oks g (n - 1) b
  | n, .rep k b => 0 < n ∧ k ≤ 12 ∧ Stm.oks g (n - 1) b
def Stm.oks (g : Nat) : Nat → List Stm → Prop
  | _, [] => True
  | n, x :: xs => x.ok g n ∧ Stm.oks g n xs
end
mutual
/-- the statements in the order of their places, with their depth -/
def Stm.flat (d : Nat) : Stm → List (Nat × Stm)
  | .ife t a b => (d, .ife t a b) :: (Stm.flats (d + 1) a ++ Stm.flats (d + 1) b)
  | .rep k b => (d, .rep k b) :: Stm.flats (d + 1) b
  | x => [(d, x)]
def Stm.flats (d : Nat) : List Stm → List (Nat × Stm)
  | [] => []
  | x :: xs => x.flat d ++ Stm.flats d xs
end
theorem Stm.vls_map : ∀ xs : List Stm, Stm.vls xs = xs.map Stm.vl
  | [] => rfl
  | x :: xs => by rw [Stm.vls, Stm.vls_map xs]; rfl
theorem Stm.cnts_app : ∀ xs ys : List Stm, Stm.cnts (xs ++ ys) = Stm.cnts xs + Stm.cnts ys
  | [], ys => by simp [Stm.cnts]
  | x :: xs, ys => by simp only [List.cons_append, Stm.cnts, Stm.cnts_app xs ys]; omega
theorem Stm.wgts_app : ∀ xs ys : List Stm, Stm.wgts (xs ++ ys) = Stm.wgts xs + Stm.wgts ys
  | [], ys => by simp [Stm.wgts]
  | x :: xs, ys => by simp only [List.cons_append, Stm.wgts, Stm.wgts_app xs ys]; omega
theorem Stm.oks_app {g n : Nat} : ∀ {xs ys : List Stm}, Stm.oks g n (xs ++ ys) ↔ Stm.oks g n xs ∧ Stm.oks g n ys
  | [], ys => by simp [Stm.oks]
  | x :: xs, ys => by simp only [List.cons_append, Stm.oks, Stm.oks_app (xs := xs) (ys := ys), and_assoc]
theorem Stm.oks_mem {g n : Nat} : ∀ {xs : List Stm}, Stm.oks g n xs → ∀ x ∈ xs, x.ok g n
  | [], _, x, h => by simp at h
  | y :: xs, h, x, hx => by
    rcases List.mem_cons.mp hx with rfl | hx
    · exact h.1
    · exact Stm.oks_mem h.2 x hx
theorem Stm.flats_app {d : Nat} : ∀ xs ys : List Stm, Stm.flats d (xs ++ ys) = Stm.flats d xs ++ Stm.flats d ys
  | [], ys => by simp [Stm.flats]
  | x :: xs, ys => by simp only [List.cons_append, Stm.flats, Stm.flats_app xs ys, List.append_assoc]
mutual
theorem Stm.ok.mono {g : Nat} : ∀ {n m : Nat} {x : Stm}, x.ok g n → n ≤ m → x.ok g m
  | n, m, .make x, h, _ => by unfold Stm.ok at h ⊢; exact h
  | n, m, .wish x w, h, _ => by unfold Stm.ok at h ⊢; exact h
  | n, m, .keep x, h, _ => by unfold Stm.ok at h ⊢; exact h
  | n, m, .name x y, h, _ => by unfold Stm.ok at h ⊢; exact h
  | n, m, .drop x, h, _ => by unfold Stm.ok at h ⊢; exact h
  | n, m, .hold x f y, h, _ => by unfold Stm.ok at h ⊢; exact h
  | n, m, .weak x f y, h, _ => by unfold Stm.ok at h ⊢; exact h
  | n, m, .cut x f, h, _ => by unfold Stm.ok at h ⊢; exact h
  | n, m, .take z x f, h, _ => by unfold Stm.ok at h ⊢; exact h
  | n, m, .say w, h, _ => by unfold Stm.ok at h ⊢; exact h
  | n, m, .ask t, h, _ => by unfold Stm.ok at h ⊢; exact h
  | n, m, .ife t a b, h, e => by
    unfold Stm.ok at h ⊢
    exact ⟨by omega, h.2.1, Stm.oks.mono h.2.2.1 (by omega), Stm.oks.mono h.2.2.2 (by omega)⟩
  | n, m, .rep k b, h, e => by
    unfold Stm.ok at h ⊢
    exact ⟨by omega, h.2.1, Stm.oks.mono h.2.2 (by omega)⟩
theorem Stm.oks.mono {g : Nat} : ∀ {n m : Nat} {xs : List Stm}, Stm.oks g n xs → n ≤ m → Stm.oks g m xs
  | _, _, [], _, _ => trivial
  | _, _, x :: xs, h, e => ⟨Stm.ok.mono h.1 e, Stm.oks.mono h.2 e⟩
end
/-! ### they are plain values -/
theorem Pn.tup2 {n u v : Nat} {a b : Vl} (ha : Pn n u a) (hb : Pn n v b) : Pn (n + 1) (u + v + 2) (.tup [a, b]) :=
  (Pn.tupS (ws := [u, v]) rfl fun i x w h1 h2 => by
    match i with
    | 0 => simp at h1 h2; subst h1 h2; exact ha
    | 1 => simp at h1 h2; subst h1 h2; exact hb
    | i + 2 => simp at h1).mono (Nat.le_refl _) (by simp; omega)
theorem Pn.tup3 {n u v w : Nat} {a b c : Vl} (ha : Pn n u a) (hb : Pn n v b) (hc : Pn n w c) : Pn (n + 1) (u + v + w + 3) (.tup [a, b, c]) :=
  (Pn.tupS (ws := [u, v, w]) rfl fun i x w h1 h2 => by
    match i with
    | 0 => simp at h1 h2; subst h1 h2; exact ha
    | 1 => simp at h1 h2; subst h1 h2; exact hb
    | 2 => simp at h1 h2; subst h1 h2; exact hc
    | i + 3 => simp at h1).mono (Nat.le_refl _) (by simp; omega)
theorem Pn.tup4 {n u v w z : Nat} {a b c d : Vl} (ha : Pn n u a) (hb : Pn n v b) (hc : Pn n w c) (hd : Pn n z d) : Pn (n + 1) (u + v + w + z + 4) (.tup [a, b, c, d]) :=
  (Pn.tupS (ws := [u, v, w, z]) rfl fun i x w h1 h2 => by
    match i with
    | 0 => simp at h1 h2; subst h1 h2; exact ha
    | 1 => simp at h1 h2; subst h1 h2; exact hb
    | 2 => simp at h1 h2; subst h1 h2; exact hc
    | 3 => simp at h1 h2; subst h1 h2; exact hd
    | i + 4 => simp at h1).mono (Nat.le_refl _) (by simp; omega)
theorem Pn.lit {x : Str} (h : (x.cps.toList.all fun c => decide (c < 16 ^ 8)) = true := by decide) (hl : x.length ≤ 64 := by decide) : Pn 1 64 (.str x) := Pn.str h hl
theorem Tst.pn {g : Nat} (hg : g ≤ 100) : ∀ {n : Nat} {t : Tst}, t.ok g n → Pn (2 + n) (195 + 66 * n) t.vl
  | n, .given i, h => by
    have h : i < g := by cases n <;> exact h
    exact (Pn.tup2 Pn.lit (Pn.int (by omega))).mono (by omega) (by omega)
  | n, .set x, h => by
    have h : Nice x := by cases n <;> exact h
    exact (Pn.tup2 Pn.lit h.pn).mono (by omega) (by omega)
  | n, .same x y, h => by
    have h : Nice x ∧ Nice y := by cases n <;> exact h
    exact (Pn.tup3 Pn.lit h.1.pn h.2.pn).mono (by omega) (by omega)
  | n, .full x y, h => by
    have h : Nice x ∧ Nice y := by cases n <;> exact h
    exact (Pn.tup3 Pn.lit h.1.pn h.2.pn).mono (by omega) (by omega)
  | n, .wished x, h => by
    have h : Nice x := by cases n <;> exact h
    exact (Pn.tup2 Pn.lit h.pn).mono (by omega) (by omega)
  | n + 1, .not t, h => by
    have ih := Tst.pn hg (n := n) (t := t) h
    exact (Pn.tup2 (Pn.mono Pn.lit (by omega) (Nat.le_refl _)) ih).mono (by omega) (by omega)
  | 0, .not t, h => h.elim
theorem Pn.listS {n : Nat} : ∀ {xs : List Vl} {w : Nat}, (∃ ws : List Nat, ws.length = xs.length ∧ (∀ (i : Nat) (x : Vl) (v : Nat), xs[i]? = some x → ws[i]? = some v → Pn n v x) ∧ (ws.map (· + 1)).sum ≤ w) → Pn (n + 1) w (.tup xs) := by
  rintro xs w ⟨ws, h1, h2, h3⟩
  exact (Pn.tupS h1 h2).mono (Nat.le_refl _) h3
mutual
theorem Stm.pn {g : Nat} (hg : g ≤ 100) : ∀ {n : Nat} {x : Stm}, x.ok g n → Pn (6 + 2 * n) (2000 * x.cnt - 1000) x.vl
  | n, .make x, h => by unfold Stm.ok at h; unfold Stm.vl Stm.cnt; exact (Pn.tup2 Pn.lit h.pn).mono (by omega) (by omega)
  | n, .wish x w, h => by unfold Stm.ok at h; unfold Stm.vl Stm.cnt; exact (Pn.tup3 Pn.lit h.1.pn h.2.pn).mono (by omega) (by omega)
  | n, .keep x, h => by unfold Stm.ok at h; unfold Stm.vl Stm.cnt; exact (Pn.tup2 Pn.lit h.pn).mono (by omega) (by omega)
  | n, .name x y, h => by unfold Stm.ok at h; unfold Stm.vl Stm.cnt; exact (Pn.tup3 Pn.lit h.1.pn h.2.pn).mono (by omega) (by omega)
  | n, .drop x, h => by unfold Stm.ok at h; unfold Stm.vl Stm.cnt; exact (Pn.tup2 Pn.lit h.pn).mono (by omega) (by omega)
  | n, .hold x f y, h => by unfold Stm.ok at h; unfold Stm.vl Stm.cnt; exact (Pn.tup4 Pn.lit h.1.pn h.2.1.pn h.2.2.pn).mono (by omega) (by omega)
  | n, .weak x f y, h => by unfold Stm.ok at h; unfold Stm.vl Stm.cnt; exact (Pn.tup4 Pn.lit h.1.pn h.2.1.pn h.2.2.pn).mono (by omega) (by omega)
  | n, .cut x f, h => by unfold Stm.ok at h; unfold Stm.vl Stm.cnt; exact (Pn.tup3 Pn.lit h.1.pn h.2.pn).mono (by omega) (by omega)
  | n, .take z x f, h => by unfold Stm.ok at h; unfold Stm.vl Stm.cnt; exact (Pn.tup4 Pn.lit h.1.pn h.2.1.pn h.2.2.pn).mono (by omega) (by omega)
  | n, .say w, h => by unfold Stm.ok at h; unfold Stm.vl Stm.cnt; exact (Pn.tup2 Pn.lit h.pn).mono (by omega) (by omega)
  | n, .ask t, h => by
    unfold Stm.ok at h; unfold Stm.vl Stm.cnt
    exact (Pn.tup2 (Pn.mono Pn.lit (show 1 ≤ 5 by omega) (Nat.le_refl _)) (Tst.pn hg h)).mono (by omega) (by omega)
  | n, .ife t a b, h => by
    unfold Stm.ok at h; unfold Stm.vl Stm.cnt
    have h1 := Stm.pns hg h.2.2.1
    have h2 := Stm.pns hg h.2.2.2
    have h3 := Tst.pn hg h.2.1
    have e : 6 + 2 * (n - 1) + 1 = 5 + 2 * n := by omega
    rw [e] at h1 h2
    exact (Pn.tup4 (Pn.mono Pn.lit (show 1 ≤ 5 + 2 * n by omega) (Nat.le_refl _)) (h3.mono (by omega) (Nat.le_refl _)) h1 h2).mono (by omega) (by omega)
  | n, .rep k b, h => by
    unfold Stm.ok at h; unfold Stm.vl Stm.cnt
    have h1 := Stm.pns hg h.2.2
    have e : 6 + 2 * (n - 1) + 1 = 5 + 2 * n := by omega
    rw [e] at h1
    exact (Pn.tup3 (Pn.mono Pn.lit (show 1 ≤ 5 + 2 * n by omega) (Nat.le_refl _)) ((Pn.int (by have := h.2.1; omega)).mono (show 1 ≤ 5 + 2 * n by omega) (Nat.le_refl _)) h1).mono (by omega) (by omega)
theorem Stm.pns {g : Nat} (hg : g ≤ 100) : ∀ {n : Nat} {xs : List Stm}, Stm.oks g n xs → Pn (6 + 2 * n + 1) (2000 * Stm.cnts xs) (.tup (Stm.vls xs))
  | n, xs, h => Pn.listS (Stm.pnw hg h)
theorem Stm.pnw {g : Nat} (hg : g ≤ 100) : ∀ {n : Nat} {xs : List Stm}, Stm.oks g n xs → ∃ ws : List Nat, ws.length = (Stm.vls xs).length ∧ (∀ (i : Nat) (x : Vl) (v : Nat), (Stm.vls xs)[i]? = some x → ws[i]? = some v → Pn (6 + 2 * n) v x) ∧ (ws.map (· + 1)).sum ≤ 2000 * Stm.cnts xs
  | n, [], _ => ⟨[], rfl, fun i x v h => by simp [Stm.vls] at h, by simp⟩
  | n, x :: xs, h => by
    have h1 := Stm.pn hg h.1
    obtain ⟨ws, a, b, c⟩ := Stm.pnw hg h.2
    have hc : 1 ≤ x.cnt := by cases x <;> unfold Stm.cnt <;> omega
    refine ⟨(2000 * x.cnt - 1000) :: ws, by simp [Stm.vls, a], fun i y v e1 e2 => ?_, ?_⟩
    · cases i with
      | zero => simp [Stm.vls] at e1 e2; subst e1 e2; exact h1
      | succ i => simp [Stm.vls] at e1 e2; exact b i y v e1 e2
    · simp only [List.map_cons, List.sum_cons, Stm.cnts]
      omega
end
end Sm

/-! S32: slices of lists -/
namespace Sm
open PySem L2
theorem cutL_from {α : Type} {xs : List α} {n : Nat} : cutL xs (some (n : Int)) none = xs.drop n := by
  unfold cutL
  rw [HT.sIx_none, HT.sIx_nat]
  by_cases h : n ≤ xs.length
  · rw [Nat.min_eq_left h, List.take_of_length_le (by simp)]
  · rw [Nat.min_eq_right (by omega), Nat.sub_self, List.take_zero, List.drop_eq_nil_of_le (by omega)]
theorem cutL_mid {α : Type} {xs : List α} {n m : Nat} (h1 : n ≤ m) (h2 : m ≤ xs.length) : cutL xs (some (n : Int)) (some (m : Int)) = (xs.drop n).take (m - n) := by
  unfold cutL
  rw [HT.sIx_nat, HT.sIx_nat, Nat.min_eq_left h2, Nat.min_eq_left (by omega)]
theorem cutL_to {α : Type} {xs : List α} {n : Nat} : cutL xs none (some (n : Int)) = xs.take n := cutL_nat
end Sm

/-! S33: programs of cells: words, inner blocks, rows -/
namespace Sm
open PySem L2
def Stm.word : Stm → Str
  | .make _ => "make"
  | .wish _ _ => "wish"
  | .keep _ => "keep"
  | .name _ _ => "name"
  | .drop _ => "drop"
  | .hold _ _ _ => "hold"
  | .weak _ _ _ => "weak"
  | .cut _ _ => "cut"
  | .take _ _ _ => "take"
  | .say _ => "say"
  | .ask _ => "ask"
  | .ife _ _ _ => "if"
  | .rep _ _ => "repeat"
def blk (b : List Stm) : Vl := .tup (Stm.vls b)
def Stm.args : Stm → List Vl
  | .make x => [.str x]
  | .wish x w => [.str x, .str w]
  | .keep x => [.str x]
  | .name x y => [.str x, .str y]
  | .drop x => [.str x]
  | .hold x f y => [.str x, .str f, .str y]
  | .weak x f y => [.str x, .str f, .str y]
  | .cut x f => [.str x, .str f]
  | .take z x f => [.str z, .str x, .str f]
  | .say w => [.str w]
  | .ask t => [t.vl]
  | .ife t a b => [t.vl, blk a, blk b]
  | .rep k b => [.int (k : Nat), blk b]
/-- the blocks within a statement -/
def Stm.ins : Stm → List (List Stm)
  | .ife _ a b => [a, b]
  | .rep _ b => [b]
  | _ => []
theorem Stm.vl_eq (x : Stm) : x.vl = .tup (.str x.word :: x.args) := by
  cases x <;> simp [Stm.vl, Stm.word, Stm.args, blk]
theorem Stm.flat_eq (d : Nat) (x : Stm) : x.flat d = (d, x) :: x.ins.flatMap (Stm.flats (d + 1)) := by
  cases x <;> simp [Stm.flat, Stm.ins]
theorem Stm.ins_len (x : Stm) : x.ins.length ≤ 2 := by
  cases x <;> simp [Stm.ins]
theorem Stm.ok_ins {g n : Nat} {x : Stm} (h : x.ok g n) : ∀ b ∈ x.ins, 0 < n ∧ Stm.oks g (n - 1) b := by
  intro b hb
  cases x <;> simp [Stm.ins] at hb
  · unfold Stm.ok at h
    rcases hb with rfl | rfl
    · exact ⟨h.1, h.2.2.1⟩
    · exact ⟨h.1, h.2.2.2⟩
  · unfold Stm.ok at h
    subst hb
    exact ⟨h.1, h.2.2⟩
theorem Stm.cnt_ins (x : Stm) : x.cnt = 1 + (x.ins.map Stm.cnts).sum := by
  cases x <;> simp [Stm.ins, Stm.cnt] <;> omega
theorem Stm.cnt_in {x : Stm} : ∀ b ∈ x.ins, Stm.cnts b < x.cnt := by
  intro b hb
  cases x <;> simp [Stm.ins] at hb
  · rcases hb with rfl | rfl <;> simp [Stm.cnt] <;> omega
  · subst hb
    simp [Stm.cnt]
theorem Stm.cnts_mem {b : List Stm} : ∀ x ∈ b, x.cnt ≤ Stm.cnts b := by
  induction b with
  | nil => intro x hx; simp at hx
  | cons y b ih =>
    intro x hx
    simp only [Stm.cnts]
    rcases List.mem_cons.mp hx with rfl | hx
    · omega
    · have := ih x hx; omega
theorem Stm.cnts_take {b : List Stm} {i : Nat} : Stm.cnts (b.take i) ≤ Stm.cnts b := by
  have := Stm.cnts_app (b.take i) (b.drop i)
  rw [List.take_append_drop] at this
  omega
mutual
theorem Stm.flat_len : ∀ (d : Nat) (x : Stm), (x.flat d).length = x.cnt
  | d, .make x => rfl
  | d, .wish x w => rfl
  | d, .keep x => rfl
  | d, .name x y => rfl
  | d, .drop x => rfl
  | d, .hold x f y => rfl
  | d, .weak x f y => rfl
  | d, .cut x f => rfl
  | d, .take z x f => rfl
  | d, .say w => rfl
  | d, .ask t => rfl
  | d, .ife t a b => by
    have h1 := Stm.flats_len (d + 1) a
    have h2 := Stm.flats_len (d + 1) b
    simp only [Stm.flat, Stm.cnt, List.length_cons, List.length_append, h1, h2]
    omega
  | d, .rep k b => by
    have h1 := Stm.flats_len (d + 1) b
    simp only [Stm.flat, Stm.cnt, List.length_cons, h1]
    omega
theorem Stm.flats_len : ∀ (d : Nat) (b : List Stm), (Stm.flats d b).length = Stm.cnts b
  | d, [] => rfl
  | d, x :: b => by
    have h1 := Stm.flat_len d x
    have h2 := Stm.flats_len d b
    simp only [Stm.flats, Stm.cnts, List.length_append, h1, h2]
end
mutual
theorem Stm.flat_ok {g : Nat} : ∀ {n : Nat} (d : Nat) {x : Stm}, x.ok g n → ∀ q ∈ x.flat d, q.2.ok g n ∧ q.2.cnt ≤ x.cnt
  | n, d, .make x, h, q, hq => by simp only [Stm.flat, List.mem_singleton] at hq; subst hq; exact ⟨h, Nat.le_refl _⟩
  | n, d, .wish x w, h, q, hq => by simp only [Stm.flat, List.mem_singleton] at hq; subst hq; exact ⟨h, Nat.le_refl _⟩
  | n, d, .keep x, h, q, hq => by simp only [Stm.flat, List.mem_singleton] at hq; subst hq; exact ⟨h, Nat.le_refl _⟩
  | n, d, .name x w, h, q, hq => by simp only [Stm.flat, List.mem_singleton] at hq; subst hq; exact ⟨h, Nat.le_refl _⟩
  | n, d, .drop x, h, q, hq => by simp only [Stm.flat, List.mem_singleton] at hq; subst hq; exact ⟨h, Nat.le_refl _⟩
  | n, d, .hold x f y, h, q, hq => by simp only [Stm.flat, List.mem_singleton] at hq; subst hq; exact ⟨h, Nat.le_refl _⟩
  | n, d, .weak x f y, h, q, hq => by simp only [Stm.flat, List.mem_singleton] at hq; subst hq; exact ⟨h, Nat.le_refl _⟩
  | n, d, .cut x f, h, q, hq => by simp only [Stm.flat, List.mem_singleton] at hq; subst hq; exact ⟨h, Nat.le_refl _⟩
  | n, d, .take z x f, h, q, hq => by simp only [Stm.flat, List.mem_singleton] at hq; subst hq; exact ⟨h, Nat.le_refl _⟩
  | n, d, .say w, h, q, hq => by simp only [Stm.flat, List.mem_singleton] at hq; subst hq; exact ⟨h, Nat.le_refl _⟩
  | n, d, .ask t, h, q, hq => by simp only [Stm.flat, List.mem_singleton] at hq; subst hq; exact ⟨h, Nat.le_refl _⟩
  | n, d, .ife t a b, h, q, hq => by
    have h0 := h
    unfold Stm.ok at h0
    simp only [Stm.flat, List.mem_cons, List.mem_append] at hq
    simp only [Stm.cnt]
    rcases hq with rfl | hq | hq
    · exact ⟨h, by simp [Stm.cnt]⟩
    · have := Stm.flats_ok (d + 1) h0.2.2.1 q hq
      exact ⟨this.1.mono (by omega), by omega⟩
    · have := Stm.flats_ok (d + 1) h0.2.2.2 q hq
      exact ⟨this.1.mono (by omega), by omega⟩
  | n, d, .rep k b, h, q, hq => by
    have h0 := h
    unfold Stm.ok at h0
    simp only [Stm.flat, List.mem_cons] at hq
    simp only [Stm.cnt]
    rcases hq with rfl | hq
    · exact ⟨h, by simp [Stm.cnt]⟩
    · have := Stm.flats_ok (d + 1) h0.2.2 q hq
      exact ⟨this.1.mono (by omega), by omega⟩
theorem Stm.flats_ok {g : Nat} : ∀ {n : Nat} (d : Nat) {b : List Stm}, Stm.oks g n b → ∀ q ∈ Stm.flats d b, q.2.ok g n ∧ q.2.cnt ≤ Stm.cnts b
  | n, d, [], h, q, hq => by simp [Stm.flats] at hq
  | n, d, x :: b, h, q, hq => by
    simp only [Stm.flats, List.mem_append] at hq
    simp only [Stm.cnts]
    rcases hq with hq | hq
    · have := Stm.flat_ok d h.1 q hq
      exact ⟨this.1, by omega⟩
    · have := Stm.flats_ok d h.2 q hq
      exact ⟨this.1, by omega⟩
end
def rowD (q : Nat × Stm) : Vl := .tup [.int (q.1 : Nat), q.2.vl]
def rowS (q : Nat × Stm) : Vl := q.2.vl
theorem vls_get {b : List Stm} {i : Nat} {v : Vl} (h : (Stm.vls b)[i]? = some v) : ∃ x, b[i]? = some x ∧ v = x.vl := by
  rw [Stm.vls_map] at h
  exact get_map h
theorem vls_len {b : List Stm} : (Stm.vls b).length = b.length := by rw [Stm.vls_map, List.length_map]
end Sm

/-! S35: pure rules of S34 -/
namespace Sm
open PySem L2
section
variable {lo : Lo} {s : Sto} {QV : Vl → Sto → Prop} {E : Ex → Sto → Prop}
def fmtW (x : Vl) (P : Str → Prop) : Prop := match x with
  | .str y => y.length ≤ LIM ∧ P y
  | .int i => i.natAbs.log2 < 1920 ∧ P (Str.ofString (toString i))
  | _ => False
@[simp] theorem fmtW_str {y : Str} {P : Str → Prop} (h : y.length ≤ LIM) : fmtW (.str y) P = P y := by simp [fmtW, h]
@[simp] theorem fmtW_int {i : Int} {P : Str → Prop} (h : i.natAbs.log2 < 1920) : fmtW (.int i) P = P (Str.ofString (toString i)) := by simp [fmtW, h]
@[simp ↓] theorem WE_eFmt {m : EM} : WE (eFmt m lo) s QV E = WE (m lo) s (fun x s => fmtW x fun y => QV (.str y) s) E := by
  unfold eFmt
  rw [WE_bnd]
  refine WE_ext fun x s => ?_
  unfold fmtM
  cases x <;> try (simp only [WE_eq]; rfl)
  · rename_i i
    by_cases h : i.natAbs.log2 < 1920
    · simp only [WE_eq, if_pos h, fmtW, h, true_and]; rfl
    · simp only [WE_eq, if_neg h, fmtW, h, false_and]; rfl
  · rename_i y
    by_cases h : y.length ≤ LIM
    · simp only [WE_eq, if_pos h, fmtW, h, true_and]; rfl
    · simp only [WE_eq, if_neg h, fmtW, h, false_and]; rfl
def strW (x : Vl) (P : Str → Prop) : Prop := match x with
  | .str y => P y
  | _ => False
@[simp] theorem strW_str {y : Str} {P : Str → Prop} : strW (.str y) P = P y := rfl
theorem WE_jnd_nil {acc : Str} : WE (jnd [] acc lo) s QV E = QV (.str acc) s := by simp only [WE_eq]; rfl
theorem WE_jnd_cons {m : EM} {ms : List EM} {acc : Str} : WE (jnd (m :: ms) acc lo) s QV E = WE (m lo) s (fun x s => strW x fun y => (acc ++ y).length ≤ LIM ∧ WE (jnd ms (acc ++ y) lo) s QV E) E := by
  rw [jnd, WE_bnd]
  refine WE_ext fun x s => ?_
  cases x <;> try (simp only [WE_eq]; rfl)
  rename_i y
  by_cases h : (acc ++ y).length ≤ LIM
  · simp only [strW, h, true_and]
    rfl
  · simp only [strW, h, false_and, WE_eq, if_false]
    rfl
theorem WE_eJnd {ms : List EM} : WE (eJnd ms lo) s QV E = WE (jnd ms Str.empty lo) s QV E := rfl
@[simp ↓] theorem WE_eOrL {a b : EM} : WE (eOrL a b lo) s QV E = WE (a lo) s (fun x s => match lstOf x s with | some xs => if xs.isEmpty = true then WE (b lo) s QV E else QV x s | none => False) E := by
  unfold eOrL
  rw [WE_bnd]
  refine WE_ext fun x s => ?_
  simp only [WE_eq]
  unfold WE0
  cases h : lstOf x s with
  | none => simp only [h]
  | some xs =>
    by_cases q : xs.isEmpty = true
    · simp only [h, q, if_true]
    · simp only [h, q, if_false, Bool.false_eq_true]
@[simp] theorem lstOf_ref {j : Nat} {xs : List Vl} (h : s[j]? = some (.lst xs)) : lstOf (.ref j) s = some xs := by simp only [lstOf, h]
@[simp] theorem oSplit0_str {a : Str} (h : a.length + 2 ≤ LIM) : oSplit0 (.str a) [] s = some (.ref s.length, s ++ [.lst ((Txt.words a).map Vl.str)]) := by simp only [oSplit0, if_pos h]
@[simp] theorem oStrD_str {y : Str} : oStrD [.str y] s = some (.str y, s) := rfl
@[simp] theorem oStrD_int {i : Int} (h : i.natAbs.log2 < 1920) : oStrD [.int i] s = some (.str (Str.ofString (toString i)), s) := by simp only [oStrD, if_pos h]
/-- str of a plain tuple -/
theorem Pn.strD {n w : Nat} {xs : List Vl} (h : Pn n w (.tup xs)) (hn : n ≤ 40) (hw : w ≤ 2 ^ 20) : ∃ x, ∀ s, oStrD [.tup xs] s = some (.str x, s) := by
  obtain ⟨x, hx⟩ := h.repr hn hw
  refine ⟨x, fun s => ?_⟩
  have := hx s
  simp only [oRepr] at this
  simp only [oStrD]
  exact this
end
end Sm

/-! S36: programs of cells whose names and words are of a kind -/
namespace Sm
open PySem L2
section
variable (N W : Str → Prop)
def Tst.sat : Tst → Prop
  | .given _ => True
  | .set x => N x
  | .same x y => N x ∧ N y
  | .full x f => N x ∧ N f
  | .wished w => W w
  | .not t => t.sat
mutual
def Stm.sat : Stm → Prop
  | .make x => N x
  | .wish x w => N x ∧ W w
  | .keep x => N x
  | .name x y => N x ∧ N y
  | .drop x => N x
  | .hold x f y => N x ∧ N f ∧ N y
  | .weak x f y => N x ∧ N f ∧ N y
  | .cut x f => N x ∧ N f
  | .take z x f => N z ∧ N x ∧ N f
  | .say w => W w
  | .ask t => t.sat N W
  | .ife t a b => t.sat N W ∧ Stm.sats a ∧ Stm.sats b
  | .rep _ b => Stm.sats b
def Stm.sats : List Stm → Prop
  | [] => True
  | x :: xs => x.sat ∧ Stm.sats xs
end
end
theorem Stm.sats_app {N W : Str → Prop} : ∀ {xs ys : List Stm}, Stm.sats N W (xs ++ ys) ↔ Stm.sats N W xs ∧ Stm.sats N W ys
  | [], ys => by simp [Stm.sats]
  | x :: xs, ys => by simp only [List.cons_append, Stm.sats, Stm.sats_app (xs := xs) (ys := ys), and_assoc]
end Sm

/-! S37: the texts of tests, statements and blocks -/
namespace Sm
open PySem L2
def nums (i : Nat) : Str := Str.ofString (toString ((i : Nat) : Int))
def Tst.txt : Tst → Str
  | .given i => "given " ++ nums i
  | .set x => "set " ++ x
  | .same x y => x ++ " is " ++ y
  | .full x f => "full " ++ x ++ "." ++ f
  | .wished w => "wished " ++ w
  | .not t => "not " ++ t.txt
def Stm.line : Stm → Str
  | .make x => "make " ++ x
  | .wish x w => "wish " ++ x ++ " " ++ w
  | .keep x => "keep " ++ x
  | .name x y => x ++ " = " ++ y
  | .drop x => "drop " ++ x
  | .hold x f y => x ++ "." ++ f ++ " = " ++ y
  | .weak x f y => x ++ "." ++ f ++ " ~ " ++ y
  | .cut x f => "cut " ++ x ++ "." ++ f
  | .take z x f => z ++ " = " ++ x ++ "." ++ f
  | .say w => "say " ++ w
  | .ask t => "ask " ++ t.txt
  | .ife t _ _ => "if " ++ t.txt
  | .rep k _ => "repeat " ++ nums k
mutual
/-- the lines of a statement -/
def Stm.lines (a : Str) : Stm → List Str
  | .ife t x y => (a ++ (Stm.ife t x y).line) :: ((match Stm.liness (a ++ "  ") x with | [] => [a ++ "  pass"] | ls => ls) ++ (match Stm.liness (a ++ "  ") y with | [] => [] | ls => (a ++ "else") :: ls))
  | .rep k x => (a ++ (Stm.rep k x).line) :: (match Stm.liness (a ++ "  ") x with | [] => [a ++ "  pass"] | ls => ls)
  | x => [a ++ x.line]
def Stm.liness (a : Str) : List Stm → List Str
  | [] => []
  | x :: xs => x.lines a ++ Stm.liness a xs
end
end Sm

/-! S38: values that can be laid out (==); short loops unrolled; lines -/
namespace Sm
open PySem L2
def La (n : Nat) (v : Vl) : Prop := ∃ d : PyData, (∀ s m, n ≤ m → toD m s v = some d) ∧ d.canLay0 = true
theorem La.mono {n m : Nat} {v : Vl} (h : La n v) (h1 : n ≤ m) : La m v := by
  obtain ⟨d, a, b⟩ := h
  exact ⟨d, fun s k hk => a s k (Nat.le_trans h1 hk), b⟩
theorem La.int {i : Int} : La 1 (.int i) := by
  refine ⟨.int i, fun s m hm => ?_, rfl⟩
  obtain ⟨m, rfl⟩ : ∃ k, m = k + 1 := ⟨m - 1, by omega⟩
  rfl
theorem La.str {x : Str} (h : PyData.strOk x = true) : La 1 (.str x) := by
  refine ⟨.str x, fun s m hm => ?_, h⟩
  obtain ⟨m, rfl⟩ : ∃ k, m = k + 1 := ⟨m - 1, by omega⟩
  rfl
theorem La.lit {x : Str} (h : (x.cps.toList.all fun c => decide (c < 128)) = true := by decide) : La 1 (.str x) := La.str (by
  unfold PyData.strOk
  rw [← Array.all_toList, List.all_eq_true]
  intro c hc
  have := of_decide_eq_true (List.all_eq_true.mp h c hc)
  exact decide_eq_true (by omega))
theorem Nice.la {x : Str} (h : Nice x) : La 1 (.str x) := La.str h.strOk
theorem La.all {n : Nat} : ∀ {xs : List Vl}, (∀ x ∈ xs, La n x) → ∃ ds : List PyData, (∀ s m, n ≤ m → mapO (toD m s) xs = some ds) ∧ PyData.canLayAll0 ds = true
  | [], _ => ⟨[], fun _ _ _ => rfl, rfl⟩
  | x :: xs, h => by
    obtain ⟨d, a, b⟩ := h x (List.mem_cons_self ..)
    obtain ⟨ds, a', b'⟩ := La.all fun y hy => h y (List.mem_cons_of_mem _ hy)
    refine ⟨d :: ds, fun s m hm => ?_, ?_⟩
    · simp only [mapO, a s m hm, a' s m hm]
    · simp only [PyData.canLayAll0, b, b', Bool.and_self]
theorem La.tup {n : Nat} {xs : List Vl} (h : ∀ x ∈ xs, La n x) : La (n + 1) (.tup xs) := by
  obtain ⟨ds, a, b⟩ := La.all h
  refine ⟨.tuple ds, fun s m hm => ?_, ?_⟩
  · obtain ⟨m, rfl⟩ : ∃ k, m = k + 1 := ⟨m - 1, by omega⟩
    simp only [toD, a s m (by omega), Option.map]
  · simpa only [PyData.canLay0] using b
theorem La.tup2 {n : Nat} {a b : Vl} (h1 : La n a) (h2 : La n b) : La (n + 1) (.tup [a, b]) := La.tup fun x hx => by
  simp at hx; rcases hx with rfl | rfl <;> assumption
theorem La.tup3 {n : Nat} {a b c : Vl} (h1 : La n a) (h2 : La n b) (h3 : La n c) : La (n + 1) (.tup [a, b, c]) := La.tup fun x hx => by
  simp at hx; rcases hx with rfl | rfl | rfl <;> assumption
theorem La.tup4 {n : Nat} {a b c d : Vl} (h1 : La n a) (h2 : La n b) (h3 : La n c) (h4 : La n d) : La (n + 1) (.tup [a, b, c, d]) := La.tup fun x hx => by
  simp at hx; rcases hx with rfl | rfl | rfl | rfl <;> assumption
theorem isEmpty_map0 {xs : List Vl} {ds : List PyData} {f : Vl → Option PyData} (h : mapO f xs = some ds) : ds.isEmpty = xs.isEmpty := by
  cases xs with
  | nil => cases h; rfl
  | cons x xs =>
    unfold mapO at h
    cases q : f x with
    | none => simp only [q] at h; cases h
    | some d =>
      simp only [q] at h
      cases q2 : mapO f xs with
      | none => simp only [q2] at h; cases h
      | some r => simp only [q2] at h; cases h; rfl
theorem eqM_tup0 {s : Sto} {n : Nat} {xs : List Vl} (h : ∀ x ∈ xs, La n x) (hn : n ≤ 39) : eqM (.tup xs) (.tup []) s = some xs.isEmpty := by
  obtain ⟨ds, a, b⟩ := La.all h
  have a := a s 39 hn
  have e1 : toD 40 s (.tup xs) = some (.tuple ds) := by unfold toD; simp only [a, Option.map]
  have e2 : toD 40 s (.tup []) = some (.tuple []) := rfl
  have e3 : PyData.canLay0 (.tuple ds) = true := by simpa only [PyData.canLay0] using b
  have e4 : PyData.canLay0 (.tuple []) = true := rfl
  simp only [eqM, eqS, e1, e2, e3, e4, Bool.and_self, if_true, PyData.eqv]
  rw [← isEmpty_map0 a]
  cases ds <;> simp [PyData.eqvAll]
theorem opEq_tup0 {s : Sto} {n : Nat} {xs : List Vl} (h : ∀ x ∈ xs, La n x) (hn : n ≤ 39) : opEq (.tup xs) (.tup []) s = some (.bl xs.isEmpty, s) := by
  simp only [opEq, eqM_tup0 h hn]
theorem opNe_tup0 {s : Sto} {n : Nat} {xs : List Vl} (h : ∀ x ∈ xs, La n x) (hn : n ≤ 39) : opNe (.tup xs) (.tup []) s = some (.bl (!xs.isEmpty), s) := by
  simp only [opNe, eqM_tup0 h hn]
theorem eqM_lst0 {s : Sto} {n a b : Nat} {xs : List Vl} (h1 : s[a]? = some (.lst xs)) (h2 : s[b]? = some (.lst [])) (h : ∀ x ∈ xs, La n x) (hn : n ≤ 39) : eqM (.ref a) (.ref b) s = some xs.isEmpty := by
  obtain ⟨ds, q, r⟩ := La.all h
  exact eqM_lstN h1 h2 (q s 39 hn) r
theorem opEq_lst0 {s : Sto} {n a b : Nat} {xs : List Vl} (h1 : s[a]? = some (.lst xs)) (h2 : s[b]? = some (.lst [])) (h : ∀ x ∈ xs, La n x) (hn : n ≤ 39) : opEq (.ref a) (.ref b) s = some (.bl xs.isEmpty, s) := by
  simp only [opEq, eqM_lst0 h1 h2 h hn]
theorem opNe_lst0 {s : Sto} {n a b : Nat} {xs : List Vl} (h1 : s[a]? = some (.lst xs)) (h2 : s[b]? = some (.lst [])) (h : ∀ x ∈ xs, La n x) (hn : n ≤ 39) : opNe (.ref a) (.ref b) s = some (.bl (!xs.isEmpty), s) := by
  simp only [opNe, eqM_lst0 h1 h2 h hn]
theorem Tst.la {g : Nat} : ∀ {n : Nat} {t : Tst}, t.ok g n → La (2 + n) t.vl
  | n, .given i, h => (La.tup2 La.lit La.int).mono (by omega)
  | n, .set x, h => by
    have h : Nice x := by cases n <;> exact h
    exact (La.tup2 La.lit h.la).mono (by omega)
  | n, .same x y, h => by
    have h : Nice x ∧ Nice y := by cases n <;> exact h
    exact (La.tup3 La.lit h.1.la h.2.la).mono (by omega)
  | n, .full x y, h => by
    have h : Nice x ∧ Nice y := by cases n <;> exact h
    exact (La.tup3 La.lit h.1.la h.2.la).mono (by omega)
  | n, .wished x, h => by
    have h : Nice x := by cases n <;> exact h
    exact (La.tup2 La.lit h.la).mono (by omega)
  | n + 1, .not t, h => by
    have ih := Tst.la (n := n) (t := t) h
    exact (La.tup2 (La.mono La.lit (by omega)) ih).mono (by omega)
  | 0, .not t, h => h.elim
mutual
theorem Stm.la {g : Nat} : ∀ {n : Nat} {x : Stm}, x.ok g n → La (6 + 2 * n) x.vl
  | n, .make x, h => by unfold Stm.ok at h; unfold Stm.vl; exact (La.tup2 La.lit h.la).mono (by omega)
  | n, .wish x w, h => by unfold Stm.ok at h; unfold Stm.vl; exact (La.tup3 La.lit h.1.la h.2.la).mono (by omega)
  | n, .keep x, h => by unfold Stm.ok at h; unfold Stm.vl; exact (La.tup2 La.lit h.la).mono (by omega)
  | n, .name x y, h => by unfold Stm.ok at h; unfold Stm.vl; exact (La.tup3 La.lit h.1.la h.2.la).mono (by omega)
  | n, .drop x, h => by unfold Stm.ok at h; unfold Stm.vl; exact (La.tup2 La.lit h.la).mono (by omega)
  | n, .hold x f y, h => by unfold Stm.ok at h; unfold Stm.vl; exact (La.tup4 La.lit h.1.la h.2.1.la h.2.2.la).mono (by omega)
  | n, .weak x f y, h => by unfold Stm.ok at h; unfold Stm.vl; exact (La.tup4 La.lit h.1.la h.2.1.la h.2.2.la).mono (by omega)
  | n, .cut x f, h => by unfold Stm.ok at h; unfold Stm.vl; exact (La.tup3 La.lit h.1.la h.2.la).mono (by omega)
  | n, .take z x f, h => by unfold Stm.ok at h; unfold Stm.vl; exact (La.tup4 La.lit h.1.la h.2.1.la h.2.2.la).mono (by omega)
  | n, .say w, h => by unfold Stm.ok at h; unfold Stm.vl; exact (La.tup2 La.lit h.la).mono (by omega)
  | n, .ask t, h => by
    unfold Stm.ok at h; unfold Stm.vl
    exact (La.tup2 (La.mono La.lit (show 1 ≤ 5 by omega)) (Tst.la h)).mono (by omega)
  | n, .ife t a b, h => by
    unfold Stm.ok at h; unfold Stm.vl
    have h1 : La (6 + 2 * (n - 1) + 1) (.tup (Stm.vls a)) := La.tup (Stm.lam h.2.2.1)
    have h2 : La (6 + 2 * (n - 1) + 1) (.tup (Stm.vls b)) := La.tup (Stm.lam h.2.2.2)
    have h3 := Tst.la h.2.1
    have e : 6 + 2 * (n - 1) + 1 = 5 + 2 * n := by omega
    rw [e] at h1 h2
    exact (La.tup4 (La.mono La.lit (show 1 ≤ 5 + 2 * n by omega)) (h3.mono (by omega)) h1 h2).mono (by omega)
  | n, .rep k b, h => by
    unfold Stm.ok at h; unfold Stm.vl
    have h1 : La (6 + 2 * (n - 1) + 1) (.tup (Stm.vls b)) := La.tup (Stm.lam h.2.2)
    have e : 6 + 2 * (n - 1) + 1 = 5 + 2 * n := by omega
    rw [e] at h1
    exact (La.tup3 (La.mono La.lit (show 1 ≤ 5 + 2 * n by omega)) (La.int.mono (show 1 ≤ 5 + 2 * n by omega)) h1).mono (by omega)
theorem Stm.lam {g : Nat} : ∀ {n : Nat} {xs : List Stm}, Stm.oks g n xs → ∀ v ∈ Stm.vls xs, La (6 + 2 * n) v
  | n, [], _, v, hv => by simp [Stm.vls] at hv
  | n, x :: xs, h, v, hv => by
    simp only [Stm.vls, List.mem_cons] at hv
    rcases hv with rfl | hv
    · exact Stm.la h.1
    · exact Stm.lam h.2 v hv
end
theorem Stm.las {g n : Nat} {xs : List Stm} (h : Stm.oks g n xs) : La (7 + 2 * n) (blk xs) := (La.tup (Stm.lam h)).mono (by omega)
/-! ### short loops -/
section
variable {s : Sto} {lo : Lo} {K : RK} {g : GM} {b : SM}
theorem WS_loopX_nil : WS (loopX g b []) lo s K = K.nx lo s := by simp only [WS_eq]; rfl
theorem WS_loopX_cons {v : Vl} {vs : List Vl} : WS (loopX g b (v :: vs)) lo s K = WG g v lo s (fun lo s => WS b lo s ⟨fun lo s => WS (loopX g b vs) lo s K, K.rt, K.nx, fun lo s => WS (loopX g b vs) lo s K, K.ex⟩) (fun e s => K.ex e lo s) := by
  simp only [WS_eq, WG_eq, WE_eq]
  unfold WS0 WE0
  have e : loopX g b (v :: vs) lo s = match g v lo s with | .ok lo' s' => (match b lo' s' with | .nx lo2 s2 => loopX g b vs lo2 s2 | .ct lo2 s2 => loopX g b vs lo2 s2 | .bk lo2 s2 => .nx lo2 s2 | .rt v s2 => .rt v s2 | .exc z lo2 s2 => .exc z lo2 s2 | .fail => .fail) | .exc z s' => .exc z lo s' | .fail => .fail := by
    conv => lhs; unfold loopX
    cases g v lo s with
    | fail => rfl
    | exc z s' => rfl
    | ok lo' s' => rfl
  rw [e]
  cases g v lo s with
  | fail => rfl
  | exc z s' => rfl
  | ok lo' s' =>
    simp only [WS_eq]
    cases b lo' s' <;> rfl
theorem WO_addS {x y : Str} {Q : Vl → Sto → Prop} : WO (opAdd (.str x) (.str y) s) Q = (x.length + y.length ≤ LIM ∧ Q (.str (x ++ y)) s) := by
  by_cases h : x.length + y.length ≤ LIM
  · rw [opAdd_str h, WO_some]; exact propext ⟨fun z => ⟨h, z⟩, fun z => z.2⟩
  · have : opAdd (.str x) (.str y) s = none := by simp only [opAdd, if_neg h]
    rw [this, WO_none]; exact propext ⟨fun z => z.elim, fun z => h z.1⟩
end
section
variable {s : Sto} {xs : List Vl} {x : Str} {i : Int} {k : Bool}
@[simp] theorem oIsi_tup_tuple : oIsi [.tup xs, .ty "tuple"] s = some (.bl true, s) := rfl
@[simp] theorem oIsi_tup_str : oIsi [.tup xs, .ty "str"] s = some (.bl false, s) := rfl
@[simp] theorem oIsi_tup_int : oIsi [.tup xs, .ty "int"] s = some (.bl false, s) := rfl
@[simp] theorem oIsi_tup_bool : oIsi [.tup xs, .ty "bool"] s = some (.bl false, s) := rfl
@[simp] theorem oIsi_tup_list : oIsi [.tup xs, .ty "list"] s = some (.bl false, s) := rfl
@[simp] theorem oIsi_tup_dict : oIsi [.tup xs, .ty "dict"] s = some (.bl false, s) := rfl
@[simp] theorem oIsi_str_tuple : oIsi [.str x, .ty "tuple"] s = some (.bl false, s) := rfl
@[simp] theorem oIsi_str_str : oIsi [.str x, .ty "str"] s = some (.bl true, s) := rfl
@[simp] theorem oIsi_str_int : oIsi [.str x, .ty "int"] s = some (.bl false, s) := rfl
@[simp] theorem oIsi_str_bool : oIsi [.str x, .ty "bool"] s = some (.bl false, s) := rfl
@[simp] theorem oIsi_str_list : oIsi [.str x, .ty "list"] s = some (.bl false, s) := rfl
@[simp] theorem oIsi_str_dict : oIsi [.str x, .ty "dict"] s = some (.bl false, s) := rfl
@[simp] theorem oIsi_int_tuple : oIsi [.int i, .ty "tuple"] s = some (.bl false, s) := rfl
@[simp] theorem oIsi_int_str : oIsi [.int i, .ty "str"] s = some (.bl false, s) := rfl
@[simp] theorem oIsi_int_int : oIsi [.int i, .ty "int"] s = some (.bl true, s) := rfl
@[simp] theorem oIsi_int_bool : oIsi [.int i, .ty "bool"] s = some (.bl false, s) := rfl
@[simp] theorem oIsi_int_list : oIsi [.int i, .ty "list"] s = some (.bl false, s) := rfl
@[simp] theorem oIsi_int_dict : oIsi [.int i, .ty "dict"] s = some (.bl false, s) := rfl
@[simp] theorem oIsi_bl_tuple : oIsi [.bl k, .ty "tuple"] s = some (.bl false, s) := rfl
@[simp] theorem oIsi_bl_str : oIsi [.bl k, .ty "str"] s = some (.bl false, s) := rfl
@[simp] theorem oIsi_bl_int : oIsi [.bl k, .ty "int"] s = some (.bl true, s) := rfl
@[simp] theorem oIsi_bl_bool : oIsi [.bl k, .ty "bool"] s = some (.bl true, s) := rfl
@[simp] theorem oIsi_bl_list : oIsi [.bl k, .ty "list"] s = some (.bl false, s) := rfl
@[simp] theorem oIsi_bl_dict : oIsi [.bl k, .ty "dict"] s = some (.bl false, s) := rfl
@[simp] theorem oIsi_non_tuple : oIsi [.non, .ty "tuple"] s = some (.bl false, s) := rfl
@[simp] theorem oIsi_non_str : oIsi [.non, .ty "str"] s = some (.bl false, s) := rfl
@[simp] theorem oIsi_non_int : oIsi [.non, .ty "int"] s = some (.bl false, s) := rfl
@[simp] theorem oIsi_non_bool : oIsi [.non, .ty "bool"] s = some (.bl false, s) := rfl
@[simp] theorem oIsi_non_list : oIsi [.non, .ty "list"] s = some (.bl false, s) := rfl
@[simp] theorem oIsi_non_dict : oIsi [.non, .ty "dict"] s = some (.bl false, s) := rfl
end
/-! ### lines -/
def padL (a : Str) (p : List Stm) : List Str := match Stm.liness (a ++ "  ") p with | [] => [a ++ "  pass"] | ls => ls
def elsL (a : Str) (p : List Stm) : List Str := match Stm.liness (a ++ "  ") p with | [] => [] | ls => (a ++ "else") :: ls
theorem Stm.lines_eq (a : Str) (x : Stm) : x.lines a = (a ++ x.line) :: (match x.ins with | [] => [] | [p] => padL a p | p :: q :: _ => padL a p ++ elsL a q) := by
  cases x
  case ife t p q => simp only [Stm.lines, Stm.ins, padL, elsL] <;> cases Stm.liness (a ++ "  ") p <;> cases Stm.liness (a ++ "  ") q <;> rfl
  case rep k p => simp only [Stm.lines, Stm.ins, padL, elsL] <;> cases Stm.liness (a ++ "  ") p <;> rfl
  all_goals simp [Stm.lines, Stm.ins]
theorem Stm.liness_app {a : Str} : ∀ xs ys : List Stm, Stm.liness a (xs ++ ys) = Stm.liness a xs ++ Stm.liness a ys
  | [], ys => by simp [Stm.liness]
  | x :: xs, ys => by simp only [List.cons_append, Stm.liness, Stm.liness_app xs ys, List.append_assoc]
theorem Stm.lines_ne {a : Str} {x : Stm} : x.lines a ≠ [] := by rw [Stm.lines_eq]; simp
theorem Stm.liness_nil {a : Str} {b : List Stm} : Stm.liness a b = [] ↔ b = [] := by
  cases b with
  | nil => simp [Stm.liness]
  | cons x b => simp [Stm.liness, Stm.lines_ne]
theorem padL_nil {a : Str} : padL a [] = [a ++ "  pass"] := by simp [padL, Stm.liness]
theorem padL_ne {a : Str} {p : List Stm} (h : p ≠ []) : padL a p = Stm.liness (a ++ "  ") p := by
  unfold padL
  cases q : Stm.liness (a ++ "  ") p with
  | nil => exact absurd (Stm.liness_nil.mp q) h
  | cons _ _ => rfl
theorem elsL_nil {a : Str} : elsL a [] = [] := by simp [elsL, Stm.liness]
theorem elsL_ne {a : Str} {p : List Stm} (h : p ≠ []) : elsL a p = (a ++ "else") :: Stm.liness (a ++ "  ") p := by
  unfold elsL
  cases q : Stm.liness (a ++ "  ") p with
  | nil => exact absurd (Stm.liness_nil.mp q) h
  | cons _ _ => rfl
end Sm

/-! D1: the deck of numbers (the texts _law_deck, _law_draw, _law_one) -/
namespace K36
open PySem L2 Sm
theorem map_int_get {cells : List Int} {p : Nat} (h : p < (cells ++ [0]).length) : ∃ x, ((cells ++ [(0 : Int)]).map Vl.int)[p]? = some (.int x) ∧ (cells ++ [0])[p]? = some x := by
  refine ⟨(cells ++ [0])[p], ?_, ?_⟩
  · rw [List.getElem?_map, List.getElem?_eq_getElem h]; rfl
  · exact List.getElem?_eq_getElem h
theorem draw_spec {s : Sto} {d l c : Nat} {cells : List Int} {many : Int} (D : Deck s d l c cells) (hl : cells.length ≤ 63) (hm : 0 < many) (hm2 : many < 1073741824) (hc : c < 1000000) :
    WE (m__law_draw [.ref d, .int many]) s (fun v s' => ∃ (r : Int) (cells' : List Int), v = .int r ∧ 0 ≤ r ∧ r < many ∧ Deck s' d l (c + 1) cells' ∧ cells'.length = cells.length ∧ Fr [d, l] s s') NoX := by
  have h1 := D.top
  have h2 := D.cel
  have hne := D.ne
  have hld := lt_of_get h1
  unfold m__law_draw b__law_draw
  simp [h1, h2, ixN, atI, List.replicate, get_set_self h1, get_set_ne hne.symm]
  obtain ⟨M, hM, hM1, hM2⟩ : ∃ M : Int, M = (if 1 < (cells.length : Int) then (cells.length : Int) else 1) ∧ 0 < M ∧ M ≤ cells.length + 1 := ⟨_, rfl, by split <;> omega, by split <;> omega⟩
  rw [← hM]
  have hp0 := Int.emod_nonneg ((c : Int) + 1) (Int.ne_of_gt hM1)
  have hp1 := Int.emod_lt_of_pos ((c : Int) + 1) hM1
  obtain ⟨p, hp⟩ : ∃ p : Nat, ((c : Int) + 1) % M = p := ⟨_, (Int.toNat_of_nonneg hp0).symm⟩
  have hpl : p < (cells ++ [(0 : Int)]).length := by simp; omega
  obtain ⟨x, hx, hx'⟩ := map_int_get hpl
  have hx0 : 0 ≤ x := by
    have := List.mem_of_getElem? hx'
    simp at this
    rcases this with h | h
    · exact D.nn x h
    · omega
  generalize hs1 : s.set d (Ob.lst [Vl.ref l, Vl.int (↑c + 1)]) = s1
  have e1 : s1[d]? = some (.lst [.ref l, .int (c + 1)]) := by rw [← hs1]; exact get_set_self h1
  have e2 : s1[l]? = some (.lst (cells.map Vl.int)) := by rw [← hs1, get_set_ne hne.symm]; exact h2
  have f1 : Fr [d, l] s s1 := hs1 ▸ Fr.refl.set (Or.inl (List.mem_cons_self ..))
  have g1 : ∀ {o : Ob}, (s1 ++ [o])[d]? = some (.lst [.ref l, .int (c + 1)]) := get_push e1
  have g2 : ∀ {o : Ob}, (s1 ++ [o])[l]? = some (.lst (cells.map Vl.int)) := get_push e2
  have g3 : ∀ {t : Sto}, (s1 ++ t)[d]? = some (.lst [.ref l, .int (c + 1)]) := get_app e1
  have g4 : ∀ {t : Sto}, (s1 ++ t)[l]? = some (.lst (cells.map Vl.int)) := get_app e2
  rw [opMod_int hM1, hp]
  have hll : cells.length + 1 ≤ LIM := limB (by omega)
  simp only [List.map_append, List.map_cons, List.map_nil] at hx
  have hlt : p < cells.length + 1 := by simpa using hpl
  simp [e1, e2, g1, g2, g3, g4, atN, opAdd_lst g2 get_last, hll, hx]
  generalize hs2 : s1 ++ [Ob.lst [Vl.int 0], Ob.lst (List.map Vl.int cells ++ [Vl.int 0])] = s2
  have k1 : s2[d]? = some (.lst [.ref l, .int (c + 1)]) := by rw [← hs2]; exact g3
  have k2 : s2[l]? = some (.lst (cells.map Vl.int)) := by rw [← hs2]; exact g4
  have f2 : Fr [d, l] s s2 := hs2 ▸ f1.app _
  by_cases hbig : 1000000000000000000 ≤ x
  · have hpc : p < cells.length := by
      rcases Nat.lt_or_ge p cells.length with h | h
      · exact h
      · have : p = cells.length := by omega
        subst this
        simp at hx'
        omega
    have hq : 0 ≤ x / many := Int.ediv_nonneg hx0 (by omega)
    have i2 := ixN_nat hpc
    simp [hbig, k1, k2, hm, hm2, i2]
    refine ⟨Int.emod_nonneg x (by omega), Int.emod_lt_of_pos x hm, cells.set p (x / many), ⟨?_, ?_, ?_, hne⟩, by simp, f2.set (by simp)⟩
    · rw [get_set_ne hne]; exact k1
    · rw [get_set_self k2, List.map_set]
    · intro y hy
      rcases List.mem_or_eq_of_mem_set hy with h | h
      · exact D.nn y h
      · omega
  · have hq0 : 0 ≤ x % 2147483587 := Int.emod_nonneg x (by omega)
    have hq1 : x % 2147483587 < 2147483587 := Int.emod_lt_of_pos x (by omega)
    generalize x % 2147483587 = q at hq0 hq1
    have hb : (q + 7919 * ((c : Int) + 1) + 1).natAbs < 2 ^ 64 := by omega
    simp [hbig, k1, k2, hm, hm2, hb]
    exact ⟨Int.emod_nonneg _ (by omega), Int.emod_lt_of_pos _ hm, cells, ⟨k1, k2, D.nn, hne⟩, rfl, f2⟩
/-- a deck of at most 63 numbers, at most c of them drawn -/
def Dk (s : Sto) (d l c : Nat) : Prop := ∃ k cells, k ≤ c ∧ cells.length ≤ 63 ∧ Deck s d l k cells
theorem Dk.fr {X : List Nat} {s s' : Sto} {d l c : Nat} (D : Dk s d l c) (f : Fr X s s') (h1 : d ∉ X) (h2 : l ∉ X) : Dk s' d l c := by
  obtain ⟨k, cells, a, b, D⟩ := D
  exact ⟨k, cells, a, b, D.fr f h1 h2⟩
theorem Dk.mono {s : Sto} {d l c c' : Nat} (D : Dk s d l c) (h : c ≤ c') : Dk s d l c' := by
  obtain ⟨k, cells, a, b, D⟩ := D
  exact ⟨k, cells, Nat.le_trans a h, b, D⟩
theorem Dk.lt {s : Sto} {d l c : Nat} (D : Dk s d l c) : d < s.length ∧ l < s.length := by
  obtain ⟨k, cells, a, b, D⟩ := D
  exact ⟨lt_of_get D.top, lt_of_get D.cel⟩
theorem draw0 {s : Sto} {d l c : Nat} {many : Int} (D : Dk s d l c) (hm : 0 < many) (hm2 : many < 1073741824) (hc : c < 1000000) :
    WE (m__law_draw [.ref d, .int many]) s (fun v s' => ∃ (r : Nat), v = .int r ∧ (r : Int) < many ∧ Dk s' d l (c + 1) ∧ Fr [d, l] s s') NoX := by
  obtain ⟨k, cells, a, b, D⟩ := D
  refine (draw_spec D b hm hm2 (by omega)).use ?_
  rintro v s' ⟨r, cells', rfl, h0, h1, h2, h3, h4⟩
  exact ⟨r.toNat, by rw [Int.toNat_of_nonneg h0], by omega, ⟨k + 1, cells', by omega, by omega, h2⟩, h4⟩
theorem deck0 {s : Sto} {ns : List Int} (h : ns.length ≤ 63) : WE (m__law_deck [.scr ns]) s (fun v s' => ∃ d l, v = .ref d ∧ Dk s' d l 0 ∧ Fr [] s s') NoX := by
  unfold m__law_deck b__law_deck
  have e63 : cutL ns none (some 63) = ns.take 63 := cutL_nat (n := 63)
  simp
  rw [e63]
  refine lcL_p (xs := (ns.take 63).map Vl.int) (s ++ [.lst ((ns.take 63).map Vl.int)]) (fun v => match v with | .int i => some (.int (if i < 0 then -i else i)) | _ => none) (by simp) (by simp) get_last (by simp; omega) ?_ ?_
  · intro x hx acc
    obtain ⟨i, _, rfl⟩ := List.mem_map.mp hx
    refine ⟨_, rfl, ?_⟩
    simp [tTrue, wipeL]
  · have e : ((ns.take 63).map Vl.int).filterMap (fun v => match v with | .int i => some (.int (if i < 0 then -i else i)) | _ => none) = ((ns.take 63).map fun i : Int => if i < 0 then -i else i).map Vl.int := by
      rw [List.filterMap_map, List.map_map, ← List.filterMap_eq_map]
      rfl
    rw [e]
    have hcl : ((ns.take 63).map fun i : Int => if i < 0 then -i else i).length ≤ 63 := by simp; omega
    have hcn : ∀ x ∈ ((ns.take 63).map fun i : Int => if i < 0 then -i else i), 0 ≤ x := by
      intro x hx
      obtain ⟨a, _, rfl⟩ := List.mem_map.mp hx
      split <;> omega
    generalize ((ns.take 63).map fun i : Int => if i < 0 then -i else i) = cs at hcl hcn
    generalize (ns.take 63).map Vl.int = o1
    simp
    refine ⟨⟨s.length + 1, 0, cs, Nat.le_refl _, hcl, ⟨?_, ?_, hcn, ?_⟩⟩, Fr.refl.app _⟩
    · rw [List.getElem?_append_right (by omega)]
      simp
    · rw [List.getElem?_append_right (by omega)]
      simp
    · omega
theorem Dk.new {s s' : Sto} {d l c : Nat} (D : Dk s d l c) (f : Fr [] s s') : Dk s' d l c := D.fr f (by simp) (by simp)
section
variable {s : Sto} {d l c : Nat} {Q : Vl → Sto → Prop} {E : Ex → Sto → Prop}
theorem draw {many : Int} (D : Dk s d l c) (hm : 0 < many) (hm2 : many < 1073741824) (hc : c < 1000000) (k : ∀ (r : Nat) s', (r : Int) < many → Dk s' d l (c + 1) → Fr [d, l] s s' → Q (.int r) s') : WE (m__law_draw [.ref d, .int many]) s Q E := by
  refine (draw0 D hm hm2 hc).use ?_
  rintro v s' ⟨r, rfl, h1, h2, h3⟩
  exact k r s' h1 h2 h3
theorem deck {ns : List Int} (h : ns.length ≤ 63) (k : ∀ d l s', Dk s' d l 0 → Fr [] s s' → Q (.ref d) s') : WE (m__law_deck [.scr ns]) s Q E := by
  refine (deck0 h).use ?_
  rintro v s' ⟨d, l, rfl, h1, h2⟩
  exact k d l s' h1 h2
end
end K36

/-! S39: range(a, b), len of own objects; small helpers -/
namespace Sm
open PySem L2
section
variable {s : Sto} {lo : Lo} {QV : Vl → Sto → Prop} {QA : List Vl → Sto → Prop} {E : Ex → Sto → Prop}
def rng2W (xs : List Vl) (s : Sto) (QA : List Vl → Sto → Prop) : Prop := match xs with
  | [.int i, .int j] => (-(2 ^ 62) ≤ i ∧ i < 2 ^ 62 ∧ -(2 ^ 62) ≤ j ∧ j < 2 ^ 62) ∧ QA (rng i (j - i).toNat) s
  | _ => False
@[simp ↓] theorem WE_aRng2 {a : AM} : WE (aRng2 a lo) s QA E = WE (a lo) s (fun xs s => rng2W xs s QA) E := by
  unfold aRng2
  rw [WE_bnd]
  refine WE_ext fun xs s => ?_
  unfold rng2W
  split
  · rename_i i j
    by_cases h : -(2 ^ 62) ≤ i ∧ i < 2 ^ 62 ∧ -(2 ^ 62) ≤ j ∧ j < 2 ^ 62
    · rw [if_pos h]; simp only [h, and_self, true_and, WE_ret]
    · rw [if_neg h, WE_fail]
      exact (propext ⟨fun z => z.elim, fun z => absurd z.1 h⟩)
  · simp only [WE_eq]; rfl
theorem rng2W_int {i j : Int} (h1 : -1000000 ≤ i) (h2 : i ≤ 1000000) (h3 : -1000000 ≤ j) (h4 : j ≤ 1000000) : rng2W [.int i, .int j] s QA = QA (rng i (j - i).toNat) s := by
  unfold rng2W
  exact propext ⟨fun z => z.2, fun z => ⟨⟨by omega, by omega, by omega, by omega⟩, z⟩⟩
theorem WE_eLenO {tab : MTab} {o : EM} : WE (eLenO tab o lo) s QV E = WE (o lo) s (fun x s => match x with | .ref j => (match s[j]? with | some (.ins c fs) => (match tab c with | some mf => WE (mf [.ref j]) s (fun v s' => match v with | .int n => (0 ≤ n ∧ n < 2 ^ 62) ∧ QV (.int n) s' | _ => False) E | none => False) | _ => False) | _ => False) E := by
  unfold eLenO
  rw [WE_bnd]
  refine WE_ext fun x s => ?_
  cases x <;> try (simp only [WE_eq]; rfl)
  rename_i j
  simp only [WE_eq]
  unfold WE0
  dsimp only
  cases h : s[j]? with
  | none => rfl
  | some ob =>
    cases ob <;> try rfl
    rename_i c fs
    dsimp only
    cases h1 : tab c with
    | none => rfl
    | some mf =>
      dsimp only
      cases h2 : mf [.ref j] s with
      | fail => rfl
      | exc e s' => rfl
      | ok v s' =>
        cases v <;> try rfl
        rename_i n
        dsimp only
        by_cases q : 0 ≤ n ∧ n < 2 ^ 62
        · rw [if_pos q]; exact propext ⟨fun z => ⟨q, z⟩, fun z => z.2⟩
        · rw [if_neg q]; exact propext ⟨fun z => z.elim, fun z => q z.1⟩
end
theorem rng_get2 {a : Int} {n i : Nat} {v : Vl} (h : (rng a n)[i]? = some v) : i < n ∧ v = .int (a + (i : Nat)) := by
  have h1 := (List.getElem?_eq_some_iff.mp h).1
  have h2 : i < n := by simpa [rng] using h1
  refine ⟨h2, ?_⟩
  simp [rng, h2] at h
  exact h.symm
@[simp] theorem rng_len2 {a : Int} {n : Nat} : (rng a n).length = n := by simp [rng]
theorem rep_flat {α : Type} {x : α} {n : Nat} : (List.replicate n [x]).flatten = List.replicate n x := by
  induction n with
  | zero => rfl
  | succ n ih => rw [List.replicate_succ, List.flatten_cons, ih]; rfl
theorem opMul_one {s : Sto} {a : Nat} {x : Vl} {n : Nat} (h1 : s[a]? = some (.lst [x])) (hn : n ≤ 100000) : opMul (.ref a) (.int (n : Nat)) s = some (.ref s.length, s ++ [.lst (List.replicate n x)]) := by
  have := opMul_lst (i := (n : Nat)) h1 ⟨by omega, by omega, limB (by simp; omega)⟩
  rw [this]
  have e : ((n : Nat) : Int).toNat = n := by omega
  rw [e, rep_flat]
end Sm

/-! A36a: k36: stories, what is reached; how they lie in the store -/
namespace K36
open PySem L2 Sm
/-- an item behind the first one -/
inductive It where
  | no | stand (c : Nat) (b : Bool) | ask (c : Nat)
def It.ok (n : Nat) : It → Prop
  | .no => True
  | .stand c _ => c < n
  | .ask c => c < n
def nm (c : Nat) : Str := "n" ++ Str.ofString (toString (c : Int))
def It.vl : It → Vl
  | .no => .tup []
  | .stand c b => .tup [.tup [.str "stand", .str (nm c), if b then .int (c : Nat) else .non]]
  | .ask c => .tup [.tup [.str "ask", .int (c : Nat)]]
def stStep (st : List Bool) : It → List Bool
  | .stand c b => st.set c b
  | _ => st
/-- what stands behind some items -/
def stOf (n : Nat) (its : List It) : List Bool := its.foldl stStep (List.replicate n false)
theorem stOf_app {n : Nat} {its : List It} {it : It} : stOf n (its ++ [it]) = stStep (stOf n its) it := by simp [stOf]
theorem stOf_len {n : Nat} {its : List It} : (stOf n its).length = n := by
  have : ∀ (its : List It) (st : List Bool), (its.foldl stStep st).length = st.length := by
    intro its
    induction its with
    | nil => intro st; rfl
    | cons it its ih =>
      intro st
      simp only [List.foldl_cons]
      rw [ih]
      cases it <;> simp [stStep]
  rw [stOf, this]
  simp
/-- the last moments, one moment more -/
def lstep (m : Nat) (st : List Bool) (l : List Int) : List Int := List.zipWith (fun b x => if b then (m : Int) else x) st l
/-- the last moments at which cells are reached, among the moments 1 .. k -/
def lastK (n : Nat) (l0 : List Int) (its : List It) : Nat → List Int
  | 0 => l0
  | k + 1 => lstep (k + 1) (stOf n (its.take k)) (lastK n l0 its k)
theorem lastK_len {n : Nat} {l0 : List Int} {its : List It} (h : l0.length = n) : ∀ k, (lastK n l0 its k).length = n
  | 0 => h
  | k + 1 => by simp [lastK, lstep, stOf_len, lastK_len h k]
theorem lastK_app {n : Nat} {l0 : List Int} {its more : List It} : ∀ k, k ≤ its.length + 1 → lastK n l0 (its ++ more) k = lastK n l0 its k
  | 0, _ => rfl
  | k + 1, h => by
    simp only [lastK]
    rw [lastK_app k (by omega), List.take_append_of_le_length (by omega)]
/-- the two counts -/
def rl (x y : Int) : Prop := (x = -1 ∧ y = 0) ∨ (x = y ∧ 1 ≤ x)
def Rls (L T : List Int) : Prop := L.length = T.length ∧ ∀ (i : Nat) (x y : Int), L[i]? = some x → T[i]? = some y → rl x y
theorem get_zip {α β γ : Type} {f : α → β → γ} {xs : List α} {ys : List β} {i : Nat} {z : γ} (h : (List.zipWith f xs ys)[i]? = some z) : ∃ x y, xs[i]? = some x ∧ ys[i]? = some y ∧ z = f x y := by
  rw [List.getElem?_zipWith] at h
  cases hx : xs[i]? with
  | none => rw [hx] at h; simp at h
  | some x =>
    cases hy : ys[i]? with
    | none => rw [hx, hy] at h; simp at h
    | some y => rw [hx, hy] at h; simp at h; exact ⟨x, y, rfl, rfl, h.symm⟩
theorem rls_last {n : Nat} {its : List It} : ∀ k, Rls (lastK n (List.replicate n (-1)) its k) (lastK n (List.replicate n 0) its k)
  | 0 => by
    refine ⟨by simp [lastK], fun i x y h1 h2 => ?_⟩
    simp only [lastK] at h1 h2
    have := List.mem_of_getElem? h1
    have := List.mem_of_getElem? h2
    simp at *
    exact Or.inl ⟨by omega, by omega⟩
  | k + 1 => by
    have ih := rls_last (n := n) (its := its) k
    refine ⟨by rw [lastK_len (by simp), lastK_len (by simp)], fun i x y h1 h2 => ?_⟩
    simp only [lastK, lstep] at h1 h2
    obtain ⟨b, u, e1, e2, rfl⟩ := get_zip h1
    obtain ⟨b', u', e3, e4, rfl⟩ := get_zip h2
    rw [e1] at e3
    cases e3
    have := ih.2 i u u' e2 e4
    cases b
    · simpa using this
    · have hp : (1 : Int) ≤ ((k + 1 : Nat) : Int) := by omega
      exact Or.inr ⟨rfl, hp⟩
theorem last_le {n : Nat} {l0 : List Int} {its : List It} {B : Nat} (h0 : ∀ x ∈ l0, -1 ≤ x ∧ x ≤ 0) : ∀ k, k ≤ B → ∀ x ∈ lastK n l0 its k, -1 ≤ x ∧ x ≤ B
  | 0, _, x, hx => by have := h0 x hx; omega
  | k + 1, hk, x, hx => by
    obtain ⟨i, hi⟩ := List.getElem?_of_mem hx
    simp only [lastK, lstep] at hi
    obtain ⟨b, u, e1, e2, rfl⟩ := get_zip hi
    have := last_le (B := B) h0 k (by omega) u (List.mem_of_getElem? e2)
    have hp : -1 ≤ ((k + 1 : Nat) : Int) ∧ ((k + 1 : Nat) : Int) ≤ B := by omega
    cases b
    · exact this
    · exact hp
/-! ### the store -/
/-- a moment: what is held (nothing), what is reached; all at numbers from a to below b -/
def MomAt (s : Sto) (a b : Nat) (v : Vl) (fl : List Bool) : Prop := ∃ (h f : Nat) (js : List Nat), v = .tup [.ref h, .ref f] ∧ (a ≤ h ∧ h < b) ∧ (a ≤ f ∧ f < b) ∧ s[h]? = some (.lst (js.map Vl.ref)) ∧ js.length = fl.length ∧ (∀ j ∈ js, a ≤ j ∧ j < b ∧ s[j]? = some (.lst [])) ∧ s[f]? = some (.lst (fl.map Vl.bl))
theorem MomAt.fr {s s' : Sto} {a b : Nat} {v : Vl} {fl : List Bool} {X : List Nat} (M : MomAt s a b v fl) (f : Fr X s s') (hX : ∀ x ∈ X, x < a ∨ b ≤ x) : MomAt s' a b v fl := by
  obtain ⟨h, g, js, e, h1, h2, h3, h4, h5, h6⟩ := M
  have nx : ∀ z, a ≤ z → z < b → z ∉ X := fun z q1 q2 q3 => by have := hX z q3; omega
  exact ⟨h, g, js, e, h1, h2, f.at h3 (nx _ h1.1 h1.2), h4, fun j hj => ⟨(h5 j hj).1, (h5 j hj).2.1, f.at (h5 j hj).2.2 (nx _ (h5 j hj).1 (h5 j hj).2.1)⟩, f.at h6 (nx _ h2.1 h2.2)⟩
theorem MomAt.mono {s : Sto} {a b b' : Nat} {v : Vl} {fl : List Bool} (M : MomAt s a b v fl) (h : b ≤ b') : MomAt s a b' v fl := by
  obtain ⟨h, g, js, e, h1, h2, h3, h4, h5, h6⟩ := M
  exact ⟨h, g, js, e, by omega, by omega, h3, h4, fun j hj => ⟨(h5 j hj).1, by have := (h5 j hj).2.1; omega, (h5 j hj).2.2⟩, h6⟩
structure MomsAt (s : Sto) (a b r : Nat) (fls : List (List Bool)) : Prop where
  vs : ∃ vs : List Vl, s[r]? = some (.lst vs) ∧ vs.length = fls.length ∧ ∀ (i : Nat) (v : Vl) (fl : List Bool), vs[i]? = some v → fls[i]? = some fl → MomAt s a b v fl
  lo : a ≤ r
  hi : r < b
theorem MomsAt.fr {s s' : Sto} {a b r : Nat} {fls : List (List Bool)} {X : List Nat} (M : MomsAt s a b r fls) (f : Fr X s s') (hX : ∀ x ∈ X, x < a ∨ b ≤ x) : MomsAt s' a b r fls := by
  obtain ⟨⟨vs, h1, h2, h3⟩, h4, h5⟩ := M
  exact ⟨⟨vs, f.at h1 (fun q => by have := hX r q; omega), h2, fun i v fl e1 e2 => (h3 i v fl e1 e2).fr f hX⟩, h4, h5⟩
/-- who holds whom: nobody -/
structure HolAt (s : Sto) (a b r : Nat) (fls : List (List Bool)) : Prop where
  vs : ∃ ks : List Nat, s[r]? = some (.lst (ks.map Vl.ref)) ∧ ks.length = fls.length ∧ ∀ (i k : Nat) (fl : List Bool), ks[i]? = some k → fls[i]? = some fl → (a ≤ k ∧ k < b) ∧ ∃ js : List Nat, s[k]? = some (.lst (js.map Vl.ref)) ∧ js.length = fl.length ∧ ∀ j ∈ js, a ≤ j ∧ j < b ∧ s[j]? = some (.lst [])
  lo : a ≤ r
  hi : r < b
theorem HolAt.fr {s s' : Sto} {a b r : Nat} {fls : List (List Bool)} {X : List Nat} (M : HolAt s a b r fls) (f : Fr X s s') (hX : ∀ x ∈ X, x < a ∨ b ≤ x) : HolAt s' a b r fls := by
  obtain ⟨⟨ks, h1, h2, h3⟩, h4, h5⟩ := M
  have nx : ∀ z, a ≤ z → z < b → z ∉ X := fun z q1 q2 q3 => by have := hX z q3; omega
  refine ⟨⟨ks, f.at h1 (nx _ h4 h5), h2, fun i k fl e1 e2 => ?_⟩, h4, h5⟩
  obtain ⟨q1, js, q2, q3, q4⟩ := h3 i k fl e1 e2
  exact ⟨q1, js, f.at q2 (nx _ q1.1 q1.2), q3, fun j hj => ⟨(q4 j hj).1, (q4 j hj).2.1, f.at (q4 j hj).2.2 (nx _ (q4 j hj).1 (q4 j hj).2.1)⟩⟩
/-- bounds at bd -/
structure BdAt (s : Sto) (bd mr hr lt fg wt wg : Nat) (L G : List Int) : Prop where
  top : s[bd]? = some (.ins 4 [("moments", .ref mr), ("holders", .ref hr), ("last_there", .ref lt), ("first_gone", .ref fg), ("why_there", .ref wt), ("why_gone", .ref wg)])
  slt : s[lt]? = some (.lst (L.map Vl.int))
  sfg : s[fg]? = some (.lst (G.map Vl.int))
  swt : ∃ ws, s[wt]? = some (.lst ws) ∧ ws.length = L.length
  swg : ∃ ws, s[wg]? = some (.lst ws) ∧ ws.length = L.length
  len : G.length = L.length
  nd : [bd, lt, fg, wt, wg].Nodup
theorem BdAt.fr {s s' : Sto} {bd mr hr lt fg wt wg : Nat} {L G : List Int} {X : List Nat} (B : BdAt s bd mr hr lt fg wt wg L G) (f : Fr X s s') (hX : ∀ x ∈ X, x ∉ [bd, lt, fg, wt, wg]) : BdAt s' bd mr hr lt fg wt wg L G := by
  have nx : ∀ z ∈ [bd, lt, fg, wt, wg], z ∉ X := fun z q1 q2 => hX z q2 q1
  obtain ⟨h1, h2, h3, ⟨w1, h4, h5⟩, ⟨w2, h6, h7⟩, h8, h9⟩ := B
  exact ⟨f.at h1 (nx _ (by simp)), f.at h2 (nx _ (by simp)), f.at h3 (nx _ (by simp)), ⟨w1, f.at h4 (nx _ (by simp)), h5⟩, ⟨w2, f.at h6 (nx _ (by simp)), h7⟩, h8, h9⟩
/-- the flags of all moments -/
def flsOf (n : Nat) (its : List It) : List (List Bool) := [] :: (List.range its.length).map fun i => stOf n (its.take i)
theorem flsOf_len {n : Nat} {its : List It} : (flsOf n its).length = its.length + 1 := by simp [flsOf]
theorem flsOf_zero {n : Nat} {its : List It} : (flsOf n its)[0]? = some [] := rfl
theorem flsOf_succ {n : Nat} {its : List It} {i : Nat} (h : i < its.length) : (flsOf n its)[i + 1]? = some (stOf n (its.take i)) := by simp [flsOf, h]
end K36

/-! A36b: keep_there, keep_gone -/
namespace K36
open PySem L2 Sm
section
variable {s : Sto} {Q : Vl → Sto → Prop} {E : Ex → Sto → Prop} {bd mr hr lt fg wt wg : Nat} {L G : List Int}
theorem f_mo (B : BdAt s bd mr hr lt fg wt wg L G) {Q : Vl → Sto → Prop} : fldW cs_moments "moments" (.ref bd) s Q = Q (.ref mr) s := by
  rw [fldW_ins B.top]; simp [getS]
theorem f_ho (B : BdAt s bd mr hr lt fg wt wg L G) {Q : Vl → Sto → Prop} : fldW cs_holders "holders" (.ref bd) s Q = Q (.ref hr) s := by
  rw [fldW_ins B.top]; simp [getS]
theorem f_lt (B : BdAt s bd mr hr lt fg wt wg L G) {Q : Vl → Sto → Prop} : fldW cs_last_there "last_there" (.ref bd) s Q = Q (.ref lt) s := by
  rw [fldW_ins B.top]; simp [getS]
theorem f_fg (B : BdAt s bd mr hr lt fg wt wg L G) {Q : Vl → Sto → Prop} : fldW cs_first_gone "first_gone" (.ref bd) s Q = Q (.ref fg) s := by
  rw [fldW_ins B.top]; simp [getS]
theorem f_wt (B : BdAt s bd mr hr lt fg wt wg L G) {Q : Vl → Sto → Prop} : fldW cs_why_there "why_there" (.ref bd) s Q = Q (.ref wt) s := by
  rw [fldW_ins B.top]; simp [getS]
theorem f_wg (B : BdAt s bd mr hr lt fg wt wg L G) {Q : Vl → Sto → Prop} : fldW cs_why_gone "why_gone" (.ref bd) s Q = Q (.ref wg) s := by
  rw [fldW_ins B.top]; simp [getS]
end
/-- behind the first turn -/
def KtI (s : Sto) (bd mr hr lt fg wt wg : Nat) (L G L' : List Int) (c m : Nat) (why : Vl) (k : Nat) (lo : Lo) (s' : Sto) : Prop :=
  (k = 1 ∧ lo = [some (.ref bd), some (.int (c : Nat)), some (.int (m : Nat)), some why, some (.ref s.length), none, none, none, none, none, none] ∧ s' = s ++ [.lst [.tup [.int (c : Nat), .int (m : Nat), why]]]) ∨
  (k = 0 ∧ (∃ x5 x6 x7 x8 x9 x10, lo = [some (.ref bd), some (.int (c : Nat)), some (.int (m : Nat)), some why, some (.ref s.length), x5, x6, x7, x8, x9, x10]) ∧ s'[s.length]? = some (.lst []) ∧ BdAt s' bd mr hr lt fg wt wg L' G ∧ Fr [lt, wt] s s')
theorem keepThere {s : Sto} {Q : Vl → Sto → Prop} {E : Ex → Sto → Prop} {bd mr hr lt fg wt wg a b c m : Nat} {L G : List Int} {x : Int} {fls : List (List Bool)} {why : Vl} (B : BdAt s bd mr hr lt fg wt wg L G) (M : MomsAt s a b mr fls) (hX : (lt < a ∨ b ≤ lt) ∧ (wt < a ∨ b ≤ wt)) (hb : b ≤ s.length) (hx : L[c]? = some x) (hx1 : -1 ≤ x) (hx2 : x ≤ 1000) (hm : m < fls.length) (hf : fls.length ≤ 1000) (hw : La 3 why)
    (k : ∀ s', BdAt s' bd mr hr lt fg wt wg (if x < m then L.set c m else L) G → Fr [lt, wt] s s' → Q .non s') : WE (m_Bounds_keep_there [.ref bd, .int (c : Nat), .int (m : Nat), why]) s Q E := by
  unfold m_Bounds_keep_there b_Bounds_keep_there
  simp
  refine loopW_inv (KtI s bd mr hr lt fg wt wg L G (if x < m then L.set c m else L) c m why) 1 (by omega) (Or.inl ⟨rfl, rfl, rfl⟩) ?_
  rintro k' lo s1 (⟨rfl, rfl, rfl⟩ | ⟨rfl, ⟨x5, x6, x7, x8, x9, x10, rfl⟩, e0, B', f'⟩)
  · have la : ∀ v ∈ [Vl.tup [.int (c : Nat), .int (m : Nat), why]], La 4 v := fun v hv => by
      simp at hv; subst hv
      exact (La.tup3 (La.int.mono (by omega)) (La.int.mono (by omega)) hw)
    have q := opNe_lst0 (s := s ++ [Ob.lst [Vl.tup [.int (c : Nat), .int (m : Nat), why]]] ++ [Ob.lst []]) (get_push get_last) get_last la (by omega)
    simp at q
    simp [q]
    have ep : (s ++ [Ob.lst [Vl.tup [.int (c : Nat), .int (m : Nat), why]], Ob.lst []])[s.length]? = some (.lst ([] ++ [Vl.tup [.int (c : Nat), .int (m : Nat), why]])) := by simp
    rw [oPop_lst ep]
    simp only [WO_some]
    have f2 : Fr [] s ((s ++ [Ob.lst [Vl.tup [.int (c : Nat), .int (m : Nat), why]], Ob.lst []]).set s.length (.lst [])) := (Fr.refl.app _).set (Or.inr (Nat.le_refl _))
    have e2 : ((s ++ [Ob.lst [Vl.tup [.int (c : Nat), .int (m : Nat), why]], Ob.lst []]).set s.length (.lst []))[s.length]? = some (.lst []) := get_set_self ep
    generalize ((s ++ [Ob.lst [Vl.tup [.int (c : Nat), .int (m : Nat), why]], Ob.lst []]).set s.length (.lst [])) = s2 at f2 e2
    have B2 := B.fr f2 (by simp)
    have M2 := M.fr f2 (by simp)
    have hc : c < L.length := (List.getElem?_eq_some_iff.mp hx).1
    simp [f_lt B2, opIx_lst B2.slt, atN, hx]
    by_cases hxm : x < m
    · have ltl := lt_of_get B.slt
      obtain ⟨ws, hw1, hw2⟩ := B2.swt
      have wtl : wt < s.length := by obtain ⟨_, z, _⟩ := B.swt; exact lt_of_get z
      have hcw : c < ws.length := by omega
      have nd := B.nd
      simp at nd
      simp [hxm, f_lt B2, opSet_lst B2.slt, ixN_nat hc]
      have f3 : Fr [lt, wt] s (s2.set lt (Ob.lst ((L.map Vl.int).set c (.int (m : Nat))))) := (f2.mono (by simp)).set (Or.inl (by simp))
      have B3 : BdAt (s2.set lt (Ob.lst ((L.map Vl.int).set c (.int (m : Nat))))) bd mr hr lt fg wt wg (L.set c m) G := by
        refine ⟨by rw [get_set_ne (by omega)]; exact B2.top, by rw [get_set_self B2.slt, List.map_set], by rw [get_set_ne (by omega)]; exact B2.sfg, ⟨ws, by rw [get_set_ne (by omega)]; exact hw1, by simpa using hw2⟩, ?_, by simpa using B2.len, B2.nd⟩
        obtain ⟨w2, q1, q2⟩ := B2.swg
        exact ⟨w2, by rw [get_set_ne (by omega)]; exact q1, by simpa using q2⟩
      have e3 : (s2.set lt (Ob.lst ((L.map Vl.int).set c (.int (m : Nat)))))[s.length]? = some (.lst []) := by rw [get_set_ne (by omega)]; exact e2
      generalize (s2.set lt (Ob.lst ((L.map Vl.int).set c (.int (m : Nat))))) = s3 at f3 B3 e3
      obtain ⟨ws3, hw3, hw4⟩ := B3.swt
      have hcw3 : c < ws3.length := by rw [hw4]; simpa using hc
      simp [f_wt B3, opSet_lst hw3, ixN_nat hcw3]
      have f4 : Fr [lt, wt] s (s3.set wt (Ob.lst (ws3.set c why))) := f3.set (Or.inl (by simp))
      have B4 : BdAt (s3.set wt (Ob.lst (ws3.set c why))) bd mr hr lt fg wt wg (L.set c m) G := by
        refine ⟨by rw [get_set_ne (by omega)]; exact B3.top, by rw [get_set_ne (by omega)]; exact B3.slt, by rw [get_set_ne (by omega)]; exact B3.sfg, ⟨_, get_set_self hw3, by simpa using hw4⟩, ?_, B3.len, B3.nd⟩
        obtain ⟨w2, q1, q2⟩ := B3.swg
        exact ⟨w2, by rw [get_set_ne (by omega)]; exact q1, q2⟩
      have e4 : (s3.set wt (Ob.lst (ws3.set c why)))[s.length]? = some (.lst []) := by rw [get_set_ne (by omega)]; exact e3
      generalize (s3.set wt (Ob.lst (ws3.set c why))) = s4 at f4 B4 e4
      rw [rng2W_int (by omega) (by omega) (by omega) (by omega)]
      refine loopX_inv (fun i lo s' => ∃ x9 x10, lo = [some (.ref bd), some (.int (c : Nat)), some (.int (m : Nat)), some why, some (.ref s.length), some (.int x), some (.int (c : Nat)), some (.int (m : Nat)), some why, x9, x10] ∧ s'[s.length]? = some (.lst []) ∧ BdAt s' bd mr hr lt fg wt wg (L.set c m) G ∧ Fr [lt, wt] s s') ⟨none, none, rfl, e4, B4, f4⟩ ?_ ?_
      · rintro i v lo s5 hv ⟨x9, x10, rfl, e5, B5, f5⟩
        obtain ⟨hi, rfl⟩ := rng_get2 hv
        obtain ⟨o, ho⟩ : ∃ o : Nat, (o : Int) = x + 1 + (i : Nat) := ⟨(x + 1 + (i : Nat)).toNat, by omega⟩
        rw [← ho]
        have hom : o < fls.length := by omega
        have M5 := M.fr f5 (by simp; omega)
        obtain ⟨vs, v1, v2, v3⟩ := M5.vs
        obtain ⟨h, g, js, hv, r1, r2, r3, r4, r5, r6⟩ := v3 o vs[o] fls[o] (List.getElem?_eq_getElem (by omega)) (List.getElem?_eq_getElem hom)
        have hvo : vs[o]? = some (.tup [.ref h, .ref g]) := by rw [List.getElem?_eq_getElem (by omega), hv]
        simp [f_mo B5, opIx_lst v1, atN, hvo, oLen_lst r3]
        by_cases hj : c < js.length
        · have hjm : js[c] ∈ js := List.getElem_mem hj
          have rj := (r5 _ hjm).2.2
          simp [hj, kd_lst e5, f_mo B5, opIx_lst v1, atN, hvo, opIx_lst r3, rj]
          refine lcL_p (xs := []) s5 some rfl rfl rj (by simp) (by simp) ?_
          have e6 : (s5 ++ [Ob.lst []])[s.length]? = some (.lst []) := get_push e5
          simp [oExtend_lst e6 get_last]
          have f6 : Fr [] s5 ((s5 ++ [Ob.lst []]).set s.length (Ob.lst [])) := ⟨by simp, fun z hz _ => by
            by_cases q : z = s.length
            · subst q; rw [get_set_self e6, e5]
            · rw [get_set_ne (Ne.symm q), List.getElem?_append_left hz]⟩
          exact ⟨get_set_self e6, B5.fr f6 (by simp), f5.trans (f6.mono (by simp))⟩
        · simp [hj]
          exact ⟨e5, B5, f5⟩
      · rintro lo s5 ⟨x9, x10, rfl, e5, B5, f5⟩
        refine ⟨0, by omega, Or.inr ⟨rfl, ⟨_, _, _, _, _, _, rfl⟩, e5, ?_, f5⟩⟩
        rw [if_pos hxm]
        exact B5
    · simp [hxm]
      exact Or.inr ⟨rfl, ⟨_, _, _, _, _, _, rfl⟩, e2, B2, f2.mono (by simp)⟩
  · have q := opNe_lst0 (xs := []) (n := 1) (get_push e0) (get_last (s := s1) (o := Ob.lst [])) (by simp) (by omega)
    simp [q]
    exact k _ (B'.fr (Fr.refl.push _ (X := [])) (by simp)) (f'.push _)
def KgI (s : Sto) (bd mr hr lt fg wt wg : Nat) (L G G' : List Int) (c m : Nat) (why : Vl) (k : Nat) (lo : Lo) (s' : Sto) : Prop :=
  (k = 1 ∧ lo = [some (.ref bd), some (.int (c : Nat)), some (.int (m : Nat)), some why, some (.ref s.length), none, none, none, none, none, none] ∧ s' = s ++ [.lst [.tup [.int (c : Nat), .int (m : Nat), why]]]) ∨
  (k = 0 ∧ (∃ x5 x6 x7 x8 x9 x10, lo = [some (.ref bd), some (.int (c : Nat)), some (.int (m : Nat)), some why, some (.ref s.length), x5, x6, x7, x8, x9, x10]) ∧ s'[s.length]? = some (.lst []) ∧ BdAt s' bd mr hr lt fg wt wg L G' ∧ Fr [fg, wg] s s')
theorem keepGone {s : Sto} {Q : Vl → Sto → Prop} {E : Ex → Sto → Prop} {bd mr hr lt fg wt wg a b c m : Nat} {L G : List Int} {x : Int} {fls : List (List Bool)} {why : Vl} (B : BdAt s bd mr hr lt fg wt wg L G) (M : HolAt s a b hr fls) (hX : (fg < a ∨ b ≤ fg) ∧ (wg < a ∨ b ≤ wg)) (hb : b ≤ s.length) (hx : G[c]? = some x) (hx1 : -1 ≤ x) (hx2 : x ≤ fls.length) (hm1 : ∀ (i : Nat) (fl : List Bool), m ≤ i → fls[i]? = some fl → c < fl.length) (hf : fls.length ≤ 1000) (hw : La 3 why)
    (k : ∀ s', BdAt s' bd mr hr lt fg wt wg L (if m < x then G.set c m else G) → Fr [fg, wg] s s' → Q .non s') : WE (m_Bounds_keep_gone [.ref bd, .int (c : Nat), .int (m : Nat), why]) s Q E := by
  unfold m_Bounds_keep_gone b_Bounds_keep_gone
  simp
  refine loopW_inv (KgI s bd mr hr lt fg wt wg L G (if m < x then G.set c m else G) c m why) 1 (by omega) (Or.inl ⟨rfl, rfl, rfl⟩) ?_
  rintro k' lo s1 (⟨rfl, rfl, rfl⟩ | ⟨rfl, ⟨x5, x6, x7, x8, x9, x10, rfl⟩, e0, B', f'⟩)
  · have la : ∀ v ∈ [Vl.tup [.int (c : Nat), .int (m : Nat), why]], La 4 v := fun v hv => by
      simp at hv; subst hv
      exact (La.tup3 (La.int.mono (by omega)) (La.int.mono (by omega)) hw)
    have q := opNe_lst0 (s := s ++ [Ob.lst [Vl.tup [.int (c : Nat), .int (m : Nat), why]]] ++ [Ob.lst []]) (get_push get_last) get_last la (by omega)
    simp at q
    simp [q]
    have ep : (s ++ [Ob.lst [Vl.tup [.int (c : Nat), .int (m : Nat), why]], Ob.lst []])[s.length]? = some (.lst ([] ++ [Vl.tup [.int (c : Nat), .int (m : Nat), why]])) := by simp
    rw [oPop_lst ep]
    simp only [WO_some]
    have f2 : Fr [] s ((s ++ [Ob.lst [Vl.tup [.int (c : Nat), .int (m : Nat), why]], Ob.lst []]).set s.length (.lst [])) := (Fr.refl.app _).set (Or.inr (Nat.le_refl _))
    have e2 : ((s ++ [Ob.lst [Vl.tup [.int (c : Nat), .int (m : Nat), why]], Ob.lst []]).set s.length (.lst []))[s.length]? = some (.lst []) := get_set_self ep
    generalize ((s ++ [Ob.lst [Vl.tup [.int (c : Nat), .int (m : Nat), why]], Ob.lst []]).set s.length (.lst [])) = s2 at f2 e2
    have B2 := B.fr f2 (by simp)
    have M2 := M.fr f2 (by simp)
    have hc : c < G.length := (List.getElem?_eq_some_iff.mp hx).1
    simp [f_fg B2, opIx_lst B2.sfg, atN, hx]
    by_cases hxm : m < x
    · have ltl := lt_of_get B.sfg
      obtain ⟨ws, hw1, hw2⟩ := B2.swg
      have wtl : wg < s.length := by obtain ⟨_, z, _⟩ := B.swg; exact lt_of_get z
      have hcl := B2.len
      have hcw : c < ws.length := by omega
      have nd := B.nd
      simp at nd
      simp [hxm, f_fg B2, opSet_lst B2.sfg, ixN_nat hc]
      have f3 : Fr [fg, wg] s (s2.set fg (Ob.lst ((G.map Vl.int).set c (.int (m : Nat))))) := (f2.mono (by simp)).set (Or.inl (by simp))
      have B3 : BdAt (s2.set fg (Ob.lst ((G.map Vl.int).set c (.int (m : Nat))))) bd mr hr lt fg wt wg L (G.set c m) := by
        refine ⟨by rw [get_set_ne (by omega)]; exact B2.top, by rw [get_set_ne (by omega)]; exact B2.slt, by rw [get_set_self B2.sfg, List.map_set], ?_, ⟨ws, by rw [get_set_ne (by omega)]; exact hw1, hw2⟩, by simpa using B2.len, B2.nd⟩
        obtain ⟨w2, q1, q2⟩ := B2.swt
        exact ⟨w2, by rw [get_set_ne (by omega)]; exact q1, q2⟩
      have e3 : (s2.set fg (Ob.lst ((G.map Vl.int).set c (.int (m : Nat)))))[s.length]? = some (.lst []) := by rw [get_set_ne (by omega)]; exact e2
      generalize (s2.set fg (Ob.lst ((G.map Vl.int).set c (.int (m : Nat))))) = s3 at f3 B3 e3
      obtain ⟨ws3, hw3, hw4⟩ := B3.swg
      have hcw3 : c < ws3.length := by omega
      simp [f_wg B3, opSet_lst hw3, ixN_nat hcw3]
      have f4 : Fr [fg, wg] s (s3.set wg (Ob.lst (ws3.set c why))) := f3.set (Or.inl (by simp))
      have B4 : BdAt (s3.set wg (Ob.lst (ws3.set c why))) bd mr hr lt fg wt wg L (G.set c m) := by
        refine ⟨by rw [get_set_ne (by omega)]; exact B3.top, by rw [get_set_ne (by omega)]; exact B3.slt, by rw [get_set_ne (by omega)]; exact B3.sfg, ?_, ⟨_, get_set_self hw3, by simpa using hw4⟩, B3.len, B3.nd⟩
        obtain ⟨w2, q1, q2⟩ := B3.swt
        exact ⟨w2, by rw [get_set_ne (by omega)]; exact q1, q2⟩
      have e4 : (s3.set wg (Ob.lst (ws3.set c why)))[s.length]? = some (.lst []) := by rw [get_set_ne (by omega)]; exact e3
      generalize (s3.set wg (Ob.lst (ws3.set c why))) = s4 at f4 B4 e4
      rw [rng2W_int (by omega) (by omega) (by omega) (by omega)]
      refine loopX_inv (fun i lo s' => ∃ x9 x10, lo = [some (.ref bd), some (.int (c : Nat)), some (.int (m : Nat)), some why, some (.ref s.length), some (.int x), some (.int (c : Nat)), some (.int (m : Nat)), some why, x9, x10] ∧ s'[s.length]? = some (.lst []) ∧ BdAt s' bd mr hr lt fg wt wg L (G.set c m) ∧ Fr [fg, wg] s s') ⟨none, none, rfl, e4, B4, f4⟩ ?_ ?_
      · rintro i v lo s5 hv ⟨x9, x10, rfl, e5, B5, f5⟩
        obtain ⟨hi, rfl⟩ := rng_get2 hv
        obtain ⟨o, ho⟩ : ∃ o : Nat, (o : Int) = (m : Int) + (i : Nat) := ⟨m + i, by omega⟩
        rw [← ho]
        have hom : o < fls.length := by omega
        have M5 := M.fr f5 (by simp; omega)
        obtain ⟨ks, v1, v2, v3⟩ := M5.vs
        have hko : ks[o]? = some ks[o] := List.getElem?_eq_getElem (by omega)
        obtain ⟨r1, js, r3, r4, r5⟩ := v3 o ks[o] fls[o] hko (List.getElem?_eq_getElem hom)
        have hcf := hm1 o fls[o] (by omega) (List.getElem?_eq_getElem hom)
        have hj : c < js.length := by omega
        have hjm : js[c] ∈ js := List.getElem_mem hj
        have rj := (r5 _ hjm).2.2
        generalize ks[o] = ko at hko r1 r3
        simp [kd_lst e5, f_ho B5, opIx_lst v1, atN, hko, opIx_lst r3, hj, rj]
        refine lcL_p (xs := []) s5 some rfl rfl rj (by simp) (by simp) ?_
        have e6 : (s5 ++ [Ob.lst []])[s.length]? = some (.lst []) := get_push e5
        simp [oExtend_lst e6 get_last]
        have f6 : Fr [] s5 ((s5 ++ [Ob.lst []]).set s.length (Ob.lst [])) := ⟨by simp, fun z hz _ => by
          by_cases q : z = s.length
          · subst q; rw [get_set_self e6, e5]
          · rw [get_set_ne (Ne.symm q), List.getElem?_append_left hz]⟩
        exact ⟨get_set_self e6, B5.fr f6 (by simp), f5.trans (f6.mono (by simp))⟩
      · rintro lo s5 ⟨x9, x10, rfl, e5, B5, f5⟩
        refine ⟨0, by omega, Or.inr ⟨rfl, ⟨_, _, _, _, _, _, rfl⟩, e5, ?_, f5⟩⟩
        rw [if_pos hxm]
        exact B5
    · simp [hxm]
      exact Or.inr ⟨rfl, ⟨_, _, _, _, _, _, rfl⟩, e2, B2, f2.mono (by simp)⟩
  · have q := opNe_lst0 (xs := []) (n := 1) (get_push e0) (get_last (s := s1) (o := Ob.lst [])) (by simp) (by omega)
    simp [q]
    exact k _ (B'.fr (Fr.refl.push _ (X := [])) (by simp)) (f'.push _)
end K36

/-! A36c: the heap of such a story -/
namespace K36
open PySem L2 Sm
theorem mem_put {κ : Type} [DecidableEq κ] {k : κ} {v : Vl} {kv : κ × Vl} : ∀ {kvs : List (κ × Vl)}, (kvs.map (·.1)).Nodup → (kv ∈ put kvs k v ↔ (kv ∈ kvs ∧ kv.1 ≠ k) ∨ kv = (k, v))
  | [], _ => by simp [put]
  | p :: r, nd => by
    simp only [List.map_cons, List.nodup_cons] at nd
    have ih := mem_put (k := k) (v := v) (kv := kv) nd.2
    unfold put
    by_cases e : p.1 = k
    · rw [if_pos e]
      have hk : ∀ q ∈ r, q.1 ≠ k := fun q hq z => nd.1 (by rw [e, ← z]; exact List.mem_map_of_mem hq)
      constructor
      · intro h
        rcases List.mem_cons.mp h with h | h
        · exact Or.inr h
        · exact Or.inl ⟨List.mem_cons_of_mem _ h, hk _ h⟩
      · rintro (⟨h, h2⟩ | h)
        · rcases List.mem_cons.mp h with rfl | h
          · exact absurd e h2
          · exact List.mem_cons_of_mem _ h
        · rw [h]; exact List.mem_cons_self ..
    · rw [if_neg e]
      constructor
      · intro h
        rcases List.mem_cons.mp h with rfl | h
        · exact Or.inl ⟨List.mem_cons_self .., e⟩
        · rcases ih.mp h with ⟨h1, h2⟩ | h1
          · exact Or.inl ⟨List.mem_cons_of_mem _ h1, h2⟩
          · exact Or.inr h1
      · rintro (⟨h, h2⟩ | h)
        · rcases List.mem_cons.mp h with rfl | h
          · exact List.mem_cons_self ..
          · exact List.mem_cons_of_mem _ (ih.mpr (Or.inl ⟨h, h2⟩))
        · exact List.mem_cons_of_mem _ (ih.mpr (Or.inr h))
theorem nodup_put {κ : Type} [DecidableEq κ] {k : κ} {v : Vl} : ∀ {kvs : List (κ × Vl)}, (kvs.map (·.1)).Nodup → ((put kvs k v).map (·.1)).Nodup
  | [], _ => by simp [put]
  | p :: r, nd => by
    simp only [List.map_cons, List.nodup_cons] at nd
    unfold put
    by_cases e : p.1 = k
    · rw [if_pos e]
      simp only [List.map_cons, List.nodup_cons]
      exact ⟨e ▸ nd.1, nd.2⟩
    · rw [if_neg e]
      simp only [List.map_cons, List.nodup_cons]
      refine ⟨fun h => ?_, nodup_put nd.2⟩
      obtain ⟨q, hq, hq2⟩ := List.mem_map.mp h
      rcases (mem_put nd.2).mp hq with ⟨h1, _⟩ | h1
      · exact nd.1 (hq2 ▸ List.mem_map_of_mem h1)
      · subst h1; exact e hq2.symm
theorem nm_inj {c d : Nat} (hc : c < 9) (hd : d < 9) (h : nm c = nm d) : c = d := by
  have : ∀ i j : Fin 9, nm i.val = nm j.val → i = j := by decide +kernel
  have := this ⟨c, hc⟩ ⟨d, hd⟩ h
  exact congrArg Fin.val this
/-- what stands, as the dict has it -/
structure KvOk (n : Nat) (kvs : List (Key × Vl)) (st : List Bool) : Prop where
  nd : (kvs.map (·.1)).Nodup
  ent : ∀ kv ∈ kvs, ∃ c, c < n ∧ kv.1 = .inr (nm c) ∧ kv.2 = (if st[c]? = some true then Vl.int (c : Nat) else .non)
  has : ∀ c, c < n → st[c]? = some true → (Sum.inr (nm c), Vl.int (c : Nat)) ∈ kvs
theorem KvOk.zero {n : Nat} : KvOk n [] (List.replicate n false) := ⟨by simp, by simp, fun c hc h => by
  have := List.mem_of_getElem? h
  simp at this⟩
theorem KvOk.put {n c : Nat} {b : Bool} {kvs : List (Key × Vl)} {st : List Bool} (K : KvOk n kvs st) (hn : n ≤ 8) (hc : c < n) (hs : st.length = n) : KvOk n (put kvs (.inr (nm c)) (if b then Vl.int (c : Nat) else .non)) (st.set c b) := by
  have self : (st.set c b)[c]? = some b := List.getElem?_set_self (by omega)
  have other : ∀ d, d ≠ c → (st.set c b)[d]? = st[d]? := fun d hd => List.getElem?_set_ne (Ne.symm hd)
  refine ⟨nodup_put K.nd, fun kv hkv => ?_, fun d hd h => ?_⟩
  · rcases (mem_put K.nd).mp hkv with ⟨h1, h2⟩ | h1
    · obtain ⟨d, e1, e2, e3⟩ := K.ent kv h1
      have hdc : d ≠ c := fun z => h2 (by rw [e2, z])
      exact ⟨d, e1, e2, by rw [other d hdc]; exact e3⟩
    · subst h1
      exact ⟨c, hc, rfl, by rw [self]; cases b <;> rfl⟩
  · by_cases e : d = c
    · subst e
      rw [self] at h
      cases h
      exact (mem_put K.nd).mpr (Or.inr rfl)
    · rw [other d e] at h
      refine (mem_put K.nd).mpr (Or.inl ⟨K.has d hd h, fun z => e (nm_inj (by omega) (by omega) ?_)⟩)
      exact Sum.inr.inj z
/-- the cells that stand -/
def nonF (v : Vl) : Option Vl := if Sm.isNon v = true then none else some v
theorem KvOk.cells {n : Nat} {kvs : List (Key × Vl)} {st : List Bool} (K : KvOk n kvs st) : ∃ cs : List Nat, (kvs.map (·.2)).filterMap nonF = cs.map (fun c => Vl.int (c : Nat)) ∧ cs.length ≤ kvs.length ∧ ∀ c, c ∈ cs ↔ (c < n ∧ st[c]? = some true) := by
  have key : ∀ l : List (Key × Vl), (∀ kv ∈ l, ∃ c, c < n ∧ kv.1 = .inr (nm c) ∧ kv.2 = (if st[c]? = some true then Vl.int (c : Nat) else .non)) → ∃ cs : List Nat, (l.map (·.2)).filterMap nonF = cs.map (fun c => Vl.int (c : Nat)) ∧ cs.length ≤ l.length ∧ (∀ c ∈ cs, c < n ∧ st[c]? = some true) ∧ ∀ c : Nat, ∀ k, (k, Vl.int (c : Nat)) ∈ l → c ∈ cs := by
    intro l
    induction l with
    | nil => intro _; exact ⟨[], rfl, by simp, by simp, by simp⟩
    | cons p l ih =>
      intro h
      obtain ⟨cs, h1, h2, h3, h4⟩ := ih fun kv hkv => h kv (List.mem_cons_of_mem _ hkv)
      obtain ⟨d, e1, e2, e3⟩ := h p (List.mem_cons_self ..)
      by_cases q : st[d]? = some true
      · rw [if_pos q] at e3
        refine ⟨d :: cs, ?_, by simp; omega, fun c hc => ?_, fun c k hk => ?_⟩
        · rw [List.map_cons, e3, List.filterMap_cons]
          simp [nonF, h1]
        · rcases List.mem_cons.mp hc with rfl | hc
          · exact ⟨e1, q⟩
          · exact h3 c hc
        · rcases List.mem_cons.mp hk with hk | hk
          · have : Vl.int (c : Nat) = p.2 := by rw [← hk]
            rw [e3] at this
            have : (c : Int) = (d : Int) := Vl.int.inj this
            have : c = d := by omega
            subst this
            exact List.mem_cons_self ..
          · exact List.mem_cons_of_mem _ (h4 c k hk)
      · rw [if_neg q] at e3
        refine ⟨cs, ?_, by simp; omega, h3, fun c k hk => ?_⟩
        · rw [List.map_cons, e3, List.filterMap_cons]
          simp [nonF, h1]
        · rcases List.mem_cons.mp hk with hk | hk
          · have : Vl.int (c : Nat) = p.2 := by rw [← hk]
            rw [e3] at this
            cases this
          · exact h4 c k hk
  obtain ⟨cs, h1, h2, h3, h4⟩ := key kvs K.ent
  exact ⟨cs, h1, h2, fun c => ⟨h3 c, fun q => h4 c _ (K.has c q.1 q.2)⟩⟩
/-- the heap at h -/
structure HpSt (s : Sto) (h a1 a2 a3 : Nat) (rs : List Nat) (kvs : List (Key × Vl)) : Prop where
  top : s[h]? = some (.ins 3 [("standing", .ref a1), ("kept_cells", .ref a2), ("strong", .ref a3)])
  st : s[a1]? = some (.dic kvs)
  kp : s[a2]? = some (.dic [])
  sg : s[a3]? = some (.lst (rs.map Vl.ref))
  rw : ∀ r ∈ rs, s[r]? = some (.dic [])
  nd : [h, a1, a2, a3].Nodup
  nr : ∀ r ∈ rs, r ∉ [h, a1, a2, a3]
section
variable {s : Sto} {Q : Vl → Sto → Prop} {E : Ex → Sto → Prop} {h a1 a2 a3 : Nat} {rs : List Nat} {kvs : List (Key × Vl)}
theorem HpSt.fr {s' : Sto} (P : HpSt s h a1 a2 a3 rs kvs) (f : Fr [] s s') : HpSt s' h a1 a2 a3 rs kvs :=
  ⟨f.at P.top (by simp), f.at P.st (by simp), f.at P.kp (by simp), f.at P.sg (by simp), fun r hr => f.at (P.rw r hr) (by simp), P.nd, P.nr⟩
theorem g_st (P : HpSt s h a1 a2 a3 rs kvs) {Q : Vl → Sto → Prop} : fldW cs_standing "standing" (.ref h) s Q = Q (.ref a1) s := by
  rw [fldW_ins P.top]; simp [getS]
theorem g_kp (P : HpSt s h a1 a2 a3 rs kvs) {Q : Vl → Sto → Prop} : fldW cs_kept_cells "kept_cells" (.ref h) s Q = Q (.ref a2) s := by
  rw [fldW_ins P.top]; simp [getS]
theorem g_sg (P : HpSt s h a1 a2 a3 rs kvs) {Q : Vl → Sto → Prop} : fldW cs_strong "strong" (.ref h) s Q = Q (.ref a3) s := by
  rw [fldW_ins P.top]; simp [getS]
/-- an empty dict's values -/
theorem lockE {r : Nat} {lo : Lo} (hr : s[r]? = some (.dic [])) (h1 : lo[1]? = some (some (.ref r))) (k : ∀ s', s'[s.length]? = some (.lst []) → s'.length = s.length + 1 → Fr [] s s' → Q (.ref s.length) s') :
    WE (eLock (eVar 1) (eLc 100000 (iVal (eVar 1)) (glN 2) (tVal (eOp opNotN (eVar 2) (eC .non))) (eVar 2) [2]) lo) s Q E := by
  refine WE_eLock (j := r) (by simp [h1]) hr ?_
  have hrl := lt_of_get hr
  have hf : (s.set r (Ob.fdic []))[r]? = some (.fdic []) := get_set_self hr
  simp [h1, hf]
  refine lcV_p (kvs := []) (s.set r (.fdic [])) nonF (by simp) (by simp) hf (by simp) (by simp) ?_
  refine ⟨⟨[], get_push hf⟩, ?_⟩
  have hlen : (s.set r (Ob.fdic [])).length = s.length := by simp
  have := k ((s.set r (.fdic []) ++ [Ob.lst []]).set r (Ob.dic [])) ?_ (by simp) ?_
  · simpa using this
  · rw [get_set_ne (by omega)]
    simp
  · refine ⟨by simp, fun i hi _ => ?_⟩
    by_cases e : i = r
    · subst e
      rw [get_set_self (get_push hf), hr]
    · rw [get_set_ne (Ne.symm e), List.getElem?_append_left (by simpa using hi), get_set_ne (Ne.symm e)]
theorem heldS (P : HpSt s h a1 a2 a3 rs kvs) (hl : rs.length ≤ 100) (k : ∀ (js : List Nat) s', (∀ j ∈ js, s.length ≤ j ∧ j < s'.length ∧ s'[j]? = some (.lst [])) → js.length = rs.length → s'[s.length]? = some (.lst (js.map Vl.ref)) → Fr [] s s' → Q (.ref s.length) s') : WE (m_Heap_held_lists [.ref h]) s Q E := by
  unfold m_Heap_held_lists b_Heap_held_lists
  simp [g_sg P, P.sg]
  refine lcL_inv (xs := rs.map Vl.ref) (fun i s' => Fr [] s s' ∧ ∃ js : List Nat, js.length = i ∧ s'[s.length]? = some (.lst (js.map Vl.ref)) ∧ ∀ j ∈ js, s.length < j ∧ j < s'.length ∧ s'[j]? = some (.lst [])) (by simp; omega) ⟨Fr.refl.push _, [], rfl, get_last, by simp⟩ ?_ ?_ ?_
  · rintro i s' ⟨f, _⟩
    exact f.at P.sg (by simp)
  · rintro i v s1 hv ⟨f1, js, hi, e1, hjs⟩
    obtain ⟨r, hr, rfl⟩ := get_map hv
    have hrm := List.mem_of_getElem? hr
    have lt1 := lt_of_get e1
    refine ⟨_, rfl, ?_⟩
    unfold LcT tTrue
    rw [WE_ret, if_pos rfl]
    refine lockE (r := r) (f1.at (P.rw r hrm) (by simp)) (by simp [wipeL]) fun s2 e2 l2 f2 => ?_
    have e3 := f2.at e1 (by simp)
    simp only [e3]
    have hil : i < rs.length := (List.getElem?_eq_some_iff.mp hr).1
    refine ⟨limC (by simp; omega), (f1.trans f2).set (Or.inr (Nat.le_refl _)), js ++ [s1.length], by simp [hi], by rw [get_set_self e3]; simp, fun j hj => ?_⟩
    rcases List.mem_append.mp hj with hj | hj
    · obtain ⟨q1, q2, q3⟩ := hjs j hj
      exact ⟨q1, by simp; omega, by rw [get_set_ne (by omega)]; exact f2.at q3 (by simp)⟩
    · simp at hj
      subst hj
      exact ⟨lt1, by simp; omega, by rw [get_set_ne (by omega)]; exact e2⟩
  · rintro s1 ⟨f1, js, hi, e1, hjs⟩
    exact k js s1 (fun j hj => ⟨by have := (hjs j hj).1; omega, (hjs j hj).2⟩) (by simpa using hi) e1 f1
/-- the standing cells -/
theorem standS {lo : Lo} {n : Nat} {st : List Bool} (P : HpSt s h a1 a2 a3 rs kvs) (K : KvOk n kvs st) (hl : kvs.length ≤ 2000) (h0 : lo[0]? = some (some (.ref h))) (h5 : lo.length = 5)
    (k : ∀ (cs : List Nat) s', cs.length ≤ kvs.length → (∀ c, c ∈ cs ↔ (c < n ∧ st[c]? = some true)) → s'[s.length]? = some (.lst (cs.map fun c => Vl.int (c : Nat))) → s'.length = s.length + 1 → Fr [] s s' → Q (.ref s.length) s') :
    WE (eLock (eFld cs_standing "standing" (eVar 0)) (eLc 100000 (iVal (eFld cs_standing "standing" (eVar 0))) (glN 4) (tVal (eOp opNotN (eVar 4) (eC .non))) (eVar 4) [4]) lo) s Q E := by
  obtain ⟨cs, c1, c2, c3⟩ := K.cells
  have hr := P.st
  have hrl := lt_of_get hr
  have nd := P.nd
  simp at nd
  refine WE_eLock (j := a1) (by simp [h0, g_st P]) hr ?_
  have hf : (s.set a1 (Ob.fdic kvs))[a1]? = some (.fdic kvs) := get_set_self hr
  have top' : (s.set a1 (Ob.fdic kvs))[h]? = some (.ins 3 [("standing", .ref a1), ("kept_cells", .ref a2), ("strong", .ref a3)]) := by rw [get_set_ne (by omega)]; exact P.top
  have gs : ∀ {Q : Vl → Sto → Prop}, fldW cs_standing "standing" (.ref h) (s.set a1 (Ob.fdic kvs)) Q = Q (.ref a1) (s.set a1 (Ob.fdic kvs)) := by
    intro Q
    rw [fldW_ins top']; simp [getS]
  simp [h0, gs, hf]
  refine lcV_p (kvs := kvs) (s.set a1 (.fdic kvs)) nonF (by simp) (by simp) hf (by omega) ?_ ?_
  · intro x hx acc
    refine ⟨_, rfl, ?_⟩
    simp [wipeL, h5]
    unfold nonF
    by_cases q : Sm.isNon x = true <;> simp [q]
  · rw [c1]
    refine ⟨⟨kvs, get_push hf⟩, ?_⟩
    have := k cs ((s.set a1 (.fdic kvs) ++ [Ob.lst (cs.map fun c => Vl.int (c : Nat))]).set a1 (Ob.dic kvs)) c2 c3 ?_ (by simp) ?_
    · simpa using this
    · rw [get_set_ne (by omega)]
      simp
    · refine ⟨by simp, fun i hi _ => ?_⟩
      by_cases e : i = a1
      · subst e
        rw [get_set_self (get_push hf), hr]
      · rw [get_set_ne (Ne.symm e), List.getElem?_append_left (by simpa using hi), get_set_ne (Ne.symm e)]
def FlI (s : Sto) (fl wl h hd : Nat) (x4 : Option Vl) (n : Nat) (cs : List Nat) (k : Nat) (lo : Lo) (s' : Sto) : Prop := ∃ (x4 : Option Vl) (fs : List Bool), k ≤ cs.length ∧ lo = [some (.ref h), some (.ref hd), some (.ref fl), some (.ref wl), x4] ∧ s'[wl]? = some (.lst ((cs.take k).map fun c => Vl.int (c : Nat))) ∧ s'[fl]? = some (.lst (fs.map Vl.bl)) ∧ fs.length = n ∧ (∀ c, fs[c]? = some true ↔ (c < n ∧ c ∈ cs.drop k)) ∧ Fr [] s s'
theorem ints_ne {wl z : Nat} {cs : List Nat} (h1 : s[wl]? = some (.lst (cs.map fun c => Vl.int (c : Nat)))) (h2 : s[z]? = some (.lst [])) : opNe (.ref wl) (.ref z) s = some (.bl (!cs.isEmpty), s) := by
  have e : (cs.map fun c => Vl.int (c : Nat)) = (cs.map fun c : Nat => (c : Int)).map Vl.int := by simp
  rw [e] at h1
  rw [opNe_nil h1 h2]
  cases cs <;> rfl
theorem flagsS {n hd : Nat} {st : List Bool} {js : List Nat} (P : HpSt s h a1 a2 a3 rs kvs) (K : KvOk n kvs st) (hs : st.length = n) (hn : n ≤ 8) (hl : kvs.length ≤ 2000) (Hh : s[hd]? = some (.lst (js.map Vl.ref))) (hjl : js.length = n) (hjs : ∀ j ∈ js, s[j]? = some (.lst []))
    (k : ∀ r s', s.length ≤ r → s'[r]? = some (.lst (st.map Vl.bl)) → Fr [] s s' → Q (.ref r) s') : WE (m_Heap_reached_flags [.ref h, .ref hd]) s Q E := by
  unfold m_Heap_reached_flags b_Heap_reached_flags
  generalize hE1 : eLock (eFld cs_standing "standing" (eVar 0)) (eLc 100000 (iVal (eFld cs_standing "standing" (eVar 0))) (glN 4) (tVal (eOp opNotN (eVar 4) (eC .non))) (eVar 4) [4]) = e1
  have i1 : ∀ {lo : Lo} {s : Sto} {Q : Vl → Sto → Prop} {E : Ex → Sto → Prop} (P : HpSt s h a1 a2 a3 rs kvs) (h0 : lo[0]? = some (some (.ref h))) (h5 : lo.length = 5)
    (k : ∀ (cs : List Nat) s', cs.length ≤ kvs.length → (∀ c, c ∈ cs ↔ (c < n ∧ st[c]? = some true)) → s'[s.length]? = some (.lst (cs.map fun c => Vl.int (c : Nat))) → s'.length = s.length + 1 → Fr [] s s' → Q (.ref s.length) s'), WE (e1 lo) s Q E := fun P h0 h5 k => by rw [← hE1]; exact standS P K hl h0 h5 k
  simp [oLen_lst Hh]
  have g1 : (s ++ [Ob.lst [Vl.bl false]])[hd]? = some (.lst (js.map Vl.ref)) := get_push Hh
  have m1 := opMul_one (s := s ++ [Ob.lst [Vl.bl false]]) (a := s.length) (x := .bl false) (n := js.length) get_last (by omega)
  simp [oLen_lst g1, m1]
  have f1 : Fr [] s (s ++ [Ob.lst [Vl.bl false], Ob.lst (List.replicate js.length (.bl false))]) := Fr.refl.app _
  have e1' : (s ++ [Ob.lst [Vl.bl false], Ob.lst (List.replicate js.length (.bl false))])[s.length + 1]? = some (.lst (List.replicate js.length (.bl false))) := by simp
  generalize (s ++ [Ob.lst [Vl.bl false], Ob.lst (List.replicate js.length (.bl false))]) = s1 at f1 e1'
  refine i1 (P.fr f1) rfl rfl fun cs s2 c1 c2 c3 c4 f2 => ?_
  have P2 := P.fr (f1.trans f2)
  simp [g_kp P2, P2.kp]
  have c3' : (s2 ++ [Ob.lst []])[s1.length]? = some (.lst (cs.map fun c => Vl.int (c : Nat))) := get_push c3
  rw [opAdd_lst c3' get_last (limB (by simp; omega))]
  simp
  have f3 : Fr [] s (s2 ++ [Ob.lst [], Ob.lst (cs.map fun c => Vl.int (c : Nat))]) := (f1.trans f2).app _
  have e3 : (s2 ++ [Ob.lst [], Ob.lst (cs.map fun c => Vl.int (c : Nat))])[s2.length + 1]? = some (.lst (cs.map fun c => Vl.int (c : Nat))) := by simp
  have e4 : (s2 ++ [Ob.lst [], Ob.lst (cs.map fun c => Vl.int (c : Nat))])[s.length + 1]? = some (.lst (List.replicate js.length (.bl false))) := get_app (f2.at e1' (by simp))
  have le1 := f1.le
  have l1 := lt_of_get e1'
  generalize (s2 ++ [Ob.lst [], Ob.lst (cs.map fun c => Vl.int (c : Nat))]) = s3 at f3 e3 e4
  refine loopW_inv (FlI s (s.length + 1) (s2.length + 1) h hd none n cs) cs.length (by omega) ?_ ?_
  · refine ⟨none, List.replicate n false, Nat.le_refl _, rfl, by simpa using e3, by rw [e4, hjl]; simp, by simp, fun c => ⟨fun q => ?_, fun q => ?_⟩, f3⟩
    · have := List.mem_of_getElem? q
      simp at this
    · simp at q
  · rintro m lo s4 ⟨x4, fs, hm, rfl, w4, f4, hfs, hiff, F4⟩
    have q4 := ints_ne (s := s4 ++ [Ob.lst []]) (get_push w4) get_last
    cases m with
    | zero =>
      simp at q4
      simp [q4]
      have e : fs = st := by
        refine List.ext_getElem? fun c => ?_
        by_cases hc : c < n
        · have h1 := hiff c
          simp only [List.drop_zero] at h1
          have h2 := c2 c
          cases q1 : fs[c]? with
          | none => have := List.getElem?_eq_none_iff.mp q1; omega
          | some b1 =>
            cases q2 : st[c]? with
            | none => have := List.getElem?_eq_none_iff.mp q2; omega
            | some b2 =>
              rw [q1] at h1
              rw [q2] at h2
              cases b1 <;> cases b2 <;> simp_all
        · rw [List.getElem?_eq_none (by omega), List.getElem?_eq_none (by omega)]
      subst e
      exact k _ _ (by omega) (get_push f4) (F4.push _)
    | succ m =>
      have hmc : cs[m]? = some cs[m] := List.getElem?_eq_getElem (by omega)
      have ht : cs.take (m + 1) = cs.take m ++ [cs[m]] := take_succ_get hmc
      have hne : (cs.take (m + 1)).isEmpty = false := by rw [ht]; cases cs.take m <;> rfl
      have hcn := (c2 cs[m]).mp (List.getElem_mem _)
      have hdrop : cs.drop m = cs[m] :: cs.drop (m + 1) := List.drop_eq_getElem_cons (by omega)
      generalize cs[m] = c at hmc ht hcn hdrop
      simp [q4, hne]
      rw [ht] at w4
      simp only [List.map_append, List.map_cons, List.map_nil] at w4
      have w5 : (s4 ++ [Ob.lst []])[s2.length + 1]? = some (.lst (((cs.take m).map fun c => Vl.int (c : Nat)) ++ [Vl.int (c : Nat)])) := get_push w4
      simp [kd_lst w5]
      rw [oPop_lst w5]
      have f5 : Fr [] s ((s4 ++ [Ob.lst []]).set (s2.length + 1) (Ob.lst ((cs.take m).map fun c => Vl.int (c : Nat)))) := (F4.push _).set (Or.inr (by have := F4.le; omega))
      have w6 : ((s4 ++ [Ob.lst []]).set (s2.length + 1) (Ob.lst ((cs.take m).map fun c => Vl.int (c : Nat))))[s2.length + 1]? = some (.lst ((cs.take m).map fun c => Vl.int (c : Nat))) := get_set_self w5
      have f6 : ((s4 ++ [Ob.lst []]).set (s2.length + 1) (Ob.lst ((cs.take m).map fun c => Vl.int (c : Nat))))[s.length + 1]? = some (.lst (fs.map Vl.bl)) := by rw [get_set_ne (by have := f2.le; omega)]; exact get_push f4
      generalize ((s4 ++ [Ob.lst []]).set (s2.length + 1) (Ob.lst ((cs.take m).map fun c => Vl.int (c : Nat)))) = s5 at f5 w6 f6
      have hcf : c < fs.length := by omega
      have hfc : fs[c]? = some fs[c] := List.getElem?_eq_getElem hcf
      simp [opIx_lst f6, atN, hfc]
      cases hv : fs[c] with
      | true =>
        rw [hv] at hfc
        refine ⟨m, by omega, some (.int (c : Nat)), fs, by omega, rfl, w6, f6, hfs, fun d => ?_, f5⟩
        rw [hdrop]
        have h1 := hiff d
        by_cases e : d = c
        · subst e; simp [hfc]; omega
        · simp [e, h1]
      | false =>
        have hjc : js[c]? = some js[c] := List.getElem?_eq_getElem (by omega)
        have hje := hjs js[c] (List.getElem_mem _)
        generalize js[c] = jc at hjc hje
        simp [opSet_lst f6, ixN_nat hcf]
        have f7 : Fr [] s (s5.set (s.length + 1) (Ob.lst ((fs.map Vl.bl).set c (.bl true)))) := f5.set (Or.inr (by omega))
        have w7 : (s5.set (s.length + 1) (Ob.lst ((fs.map Vl.bl).set c (.bl true))))[s2.length + 1]? = some (.lst ((cs.take m).map fun c => Vl.int (c : Nat))) := by rw [get_set_ne (by have := f2.le; omega)]; exact w6
        have g7 : (s5.set (s.length + 1) (Ob.lst ((fs.map Vl.bl).set c (.bl true))))[s.length + 1]? = some (.lst ((fs.set c true).map Vl.bl)) := by rw [get_set_self f6, List.map_set]
        generalize (s5.set (s.length + 1) (Ob.lst ((fs.map Vl.bl).set c (.bl true)))) = s6 at f7 w7 g7
        have H6 := f7.at Hh (by simp)
        have J6 := f7.at hje (by simp)
        simp [kd_lst w7, opIx_lst H6, atN, hjc]
        rw [oExtend_lst w7 J6 (limB (by simp; omega))]
        simp only [WO_some, List.append_nil]
        have f8 : Fr [] s (s6.set (s2.length + 1) (Ob.lst ((cs.take m).map fun c => Vl.int (c : Nat)))) := f7.set (Or.inr (by have := f2.le; omega))
        refine ⟨m, by omega, some (.int (c : Nat)), fs.set c true, by omega, rfl, get_set_self w7, by rw [get_set_ne (by have := f2.le; omega)]; exact g7, by simpa using hfs, fun d => ?_, f8⟩
        rw [hdrop]
        have h1 := hiff d
        by_cases e : d = c
        · subst e; rw [List.getElem?_set_self hcf]; simp; omega
        · rw [List.getElem?_set_ne (Ne.symm e)]; simp [e, h1]
end
end K36

/-! A36d: apply, moments_of, questions_of, holders_of -/
namespace K36
open PySem L2 Sm
def mkV (k : Nat) : Vl := .tup [.str "make", .int (k : Nat)]
/-- the first item -/
def mkI (n : Nat) : Vl := .tup ((List.range n).map mkV)
def stV (n : Nat) (its : List It) : Vl := .tup (mkI n :: its.map It.vl)
section
variable {s : Sto} {Q : Vl → Sto → Prop} {E : Ex → Sto → Prop} {h a1 a2 a3 n : Nat} {rs : List Nat} {kvs : List (Key × Vl)} {st : List Bool}
theorem applyMk (P : HpSt s h a1 a2 a3 [] []) (hn : n ≤ 8) (k : ∀ rs s', HpSt s' h a1 a2 a3 rs [] → rs.length = n → Fr [a3] s s' → Q .non s') : WE (m_Heap_apply [.ref h, mkI n]) s Q E := by
  unfold m_Heap_apply b_Heap_apply mkI
  simp
  refine loopX_inv (fun i lo s' => ∃ x2 rs, lo = [some (.ref h), some (.tup ((List.range n).map mkV)), x2] ∧ HpSt s' h a1 a2 a3 rs [] ∧ rs.length = i ∧ Fr [a3] s s') ⟨none, [], rfl, P, rfl, Fr.refl⟩ ?_ ?_
  · rintro i v lo s1 hv ⟨x2, rs, rfl, P1, hi, f1⟩
    obtain ⟨c, hc, rfl⟩ := get_map hv
    have hin : i < n := by
      have := (List.getElem?_eq_some_iff.mp hc).1
      simpa using this
    have nd := P.nd
    simp at nd
    have l3 := lt_of_get P1.sg
    have l0 := lt_of_get P1.top
    have l1 := lt_of_get P1.st
    have l2 := lt_of_get P1.kp
    unfold mkV
    simp [g_sg P1, kd_lst P1.sg]
    have sg' : (s1 ++ [Ob.dic []])[a3]? = some (.lst (rs.map Vl.ref)) := get_push P1.sg
    rw [oAppend_lst sg' (limC (by simp; omega))]
    simp only [WO_some]
    refine ⟨_, rs ++ [s1.length], rfl, ⟨?_, ?_, ?_, ?_, fun r hr => ?_, P.nd, fun r hr => ?_⟩, by simp [hi], ?_⟩
    · rw [get_set_ne (by omega)]; exact get_push P1.top
    · rw [get_set_ne (by omega)]; exact get_push P1.st
    · rw [get_set_ne (by omega)]; exact get_push P1.kp
    · rw [get_set_self sg']; simp
    · rcases List.mem_append.mp hr with hr | hr
      · have := P1.nr r hr
        simp at this
        rw [get_set_ne (by omega)]; exact get_push (P1.rw r hr)
      · simp at hr; subst hr
        rw [get_set_ne (by omega)]; simp
    · rcases List.mem_append.mp hr with hr | hr
      · exact P1.nr r hr
      · simp at hr; subst hr
        simp; omega
    · exact (f1.push _).set (Or.inl (by simp))
  · rintro lo s1 ⟨x2, rs, rfl, P1, hi, f1⟩
    exact k rs s1 P1 (by simpa using hi) f1
theorem applyI (P : HpSt s h a1 a2 a3 rs kvs) (K : KvOk n kvs st) (hs : st.length = n) (hn : n ≤ 8) (hl : kvs.length ≤ 2000) (it : It) (ho : it.ok n) (k : ∀ kvs' s', HpSt s' h a1 a2 a3 rs kvs' → KvOk n kvs' (stStep st it) → kvs'.length ≤ kvs.length + 1 → Fr [a1] s s' → Q .non s') : WE (m_Heap_apply [.ref h, it.vl]) s Q E := by
  unfold m_Heap_apply b_Heap_apply
  cases it with
  | no =>
    simp [It.vl, WS_loopX_nil]
    exact k kvs s P K (by omega) Fr.refl
  | ask c =>
    simp [It.vl, WS_loopX_nil, WS_loopX_cons]
    exact k kvs s P K (by omega) Fr.refl
  | stand c b =>
    have ho : c < n := ho
    have nd := P.nd
    simp at nd
    simp [It.vl, WS_loopX_nil, WS_loopX_cons, g_st P, opSet_dicS P.st (limC (by omega))]
    refine k _ _ ⟨by rw [get_set_ne (by omega)]; exact P.top, get_set_self P.st, by rw [get_set_ne (by omega)]; exact P.kp, by rw [get_set_ne (by omega)]; exact P.sg, fun r hr => ?_, P.nd, P.nr⟩ (K.put (b := b) hn ho hs) put_len (Fr.refl.set (by simp))
    have := P.nr r hr
    simp at this
    rw [get_set_ne (by omega)]; exact P.rw r hr
end
theorem MomAt.low {s : Sto} {a a' b : Nat} {v : Vl} {fl : List Bool} (M : MomAt s a b v fl) (h : a' ≤ a) : MomAt s a' b v fl := by
  obtain ⟨h, g, js, e, h1, h2, h3, h4, h5, h6⟩ := M
  exact ⟨h, g, js, e, by omega, by omega, h3, h4, fun j hj => ⟨by have := (h5 j hj).1; omega, (h5 j hj).2⟩, h6⟩
/-- behind i items -/
def MoI (s : Sto) (n : Nat) (its : List It) (i : Nat) (lo : Lo) (s' : Sto) : Prop := ∃ (x3 x4 : Option Vl) (rs : List Nat) (kvs : List (Key × Vl)) (vs : List Vl), lo = [some (stV n its), some (.ref s.length), some (.ref (s.length + 4)), x3, x4] ∧
  HpSt s' s.length (s.length + 1) (s.length + 2) (s.length + 3) rs kvs ∧ kvs.length ≤ i ∧ (i = 0 → rs = [] ∧ kvs = []) ∧ (0 < i → rs.length = n ∧ KvOk n kvs (stOf n (its.take (i - 1)))) ∧ s'[s.length + 4]? = some (.lst vs) ∧ vs.length = i ∧ s.length + 5 ≤ s'.length ∧ (∀ (p : Nat) (v : Vl) (fl : List Bool), vs[p]? = some v → (flsOf n its)[p]? = some fl → MomAt s' (s.length + 5) s'.length v fl) ∧ Fr [] s s'
theorem set_app {s t : Sto} {o x : Ob} : (s ++ o :: t).set s.length x = s ++ x :: t := by simp
theorem get_app1 {s t : Sto} {o : Ob} : (s ++ o :: t)[s.length]? = some o := by simp
/-- a field of the newest own object -/
theorem setFld_new {s t : Sto} {cs : List Nat} {f : Str} {c : Nat} {fs : List (Str × Vl)} {v : Vl} (hc : c ∈ cs) (hl : fs.length < 1000) : setFld cs f (.ref s.length) v (s ++ Ob.ins c fs :: t) = some (s ++ Ob.ins c (putS f v fs) :: t) := by
  rw [setFld_ins get_app1 ⟨hc, hl⟩, set_app]
theorem momentsS {s : Sto} {Q : Vl → Sto → Prop} {E : Ex → Sto → Prop} {n : Nat} {its : List It} (hn : n ≤ 8) (hi : its.length ≤ 1000) (ho : ∀ it ∈ its, it.ok n) (k : ∀ r s', MomsAt s' s.length s'.length r (flsOf n its) → Fr [] s s' → Q (.ref r) s') : WE (m_moments_of [stV n its]) s Q E := by
  unfold m_moments_of b_moments_of
  simp [WE_eMake]
  unfold m_HeapU_initU b_HeapU_initU
  simp
  rw [setFld_new (by simp) (by simp)]
  simp only [List.append_assoc, List.cons_append, List.nil_append]
  rw [setFld_new (by simp) (by simp [putS])]
  simp only [List.append_assoc, List.cons_append, List.nil_append]
  rw [setFld_new (by simp) (by simp [putS])]
  simp only [List.append_assoc, List.cons_append, List.nil_append]
  simp [putS]
  generalize hs1 : (s ++ [Ob.ins 3 [("standing", .ref (s.length + 1)), ("kept_cells", .ref (s.length + 2)), ("strong", .ref (s.length + 3))], Ob.dic [], Ob.dic [], Ob.lst [], Ob.lst []]) = s1
  have f1 : Fr [] s s1 := hs1 ▸ Fr.refl.app _
  have P1 : HpSt s1 s.length (s.length + 1) (s.length + 2) (s.length + 3) [] [] := by
    subst hs1
    exact ⟨by simp, by simp, by simp, by simp, by simp, by simp, by simp⟩
  have e1 : s1[s.length + 4]? = some (.lst []) := by subst hs1; simp
  have l1 : s.length + 5 ≤ s1.length := by subst hs1; simp
  show WS (loopX _ _ (mkI n :: its.map It.vl)) _ _ _
  refine loopX_inv (MoI s n its) ?_ ?_ ?_
  · exact ⟨none, none, [], [], [], rfl, P1, by simp, fun _ => ⟨rfl, rfl⟩, fun z => absurd z (by omega), e1, rfl, l1, fun p v fl hv => by simp at hv, f1⟩
  · rintro i v lo s2 hv ⟨x3, x4, rs, kvs, vs, rfl, P2, kl, hz, hp, e2, vl, l2, hm, f2⟩
    have hil : i < its.length + 1 := by
      have := (List.getElem?_eq_some_iff.mp hv).1
      simpa using this
    have hrs : rs.length ≤ 100 := by
      rcases Nat.eq_zero_or_pos i with z | z
      · rw [(hz z).1]; simp
      · rw [(hp z).1]; omega
    obtain ⟨fl, hfl, hfn⟩ : ∃ fl, (flsOf n its)[i]? = some fl ∧ KvOk fl.length kvs fl ∧ fl.length ≤ 8 ∧ rs.length = fl.length := by
      rcases Nat.eq_zero_or_pos i with z | z
      · subst z
        obtain ⟨q1, q2⟩ := hz rfl
        subst q1 q2
        exact ⟨[], rfl, KvOk.zero (n := 0), by simp, rfl⟩
      · obtain ⟨j, rfl⟩ : ∃ j, i = j + 1 := ⟨i - 1, by omega⟩
        obtain ⟨q1, q2⟩ := hp z
        exact ⟨_, flsOf_succ (by omega), by rw [stOf_len]; exact q2, by rw [stOf_len]; exact hn, by rw [stOf_len]; exact q1⟩
    obtain ⟨K2, fl8, rfl2⟩ := hfn
    simp [WE_eMeth]
    rw [methW_ins (m := "held_lists") (tab := tabA 0 tab_held_lists) (mf := arg 1 m_Heap_held_lists) P2.top rfl (by simp [getS])]
    simp
    refine heldS P2 hrs fun js s3 hjs hjl hj3 f3 => ?_
    have P3 := P2.fr f3
    have e3 := f3.at e2 (by simp)
    simp [WE_eMeth, kd_lst e3]
    rw [methW_ins (m := "reached_flags") (tab := tabA 1 tab_reached_flags) (mf := arg 2 m_Heap_reached_flags) P3.top rfl (by simp [getS])]
    simp
    refine flagsS P3 K2 rfl fl8 (by omega) hj3 (by omega) (fun j hj => (hjs j hj).2.2) fun r s4 hr e4 f4 => ?_
    have P4 := P3.fr f4
    have e34 := f4.at e3 (by simp)
    simp
    rw [oAppend_lst e34 (limC (by omega))]
    simp only [WO_some]
    have le3 := f3.le
    have le4 := f4.le
    have l4 := lt_of_get e4
    have l34 := lt_of_get (f4.at hj3 (by simp))
    have lt0 := lt_of_get P4.top
    have lt1 := lt_of_get P4.st
    have lt2 := lt_of_get P4.kp
    have lt3 := lt_of_get P4.sg
    have f5 : Fr [] s (s4.set (s.length + 4) (Ob.lst (vs ++ [.tup [.ref s2.length, .ref r]]))) := ((f2.trans f3).trans f4).set (Or.inr (by omega))
    have g5 : Fr [s.length + 4] s4 (s4.set (s.length + 4) (Ob.lst (vs ++ [.tup [.ref s2.length, .ref r]]))) := Fr.refl.set (by simp)
    have M5 : MomAt (s4.set (s.length + 4) (Ob.lst (vs ++ [.tup [.ref s2.length, .ref r]]))) (s.length + 5) s4.length (.tup [.ref s2.length, .ref r]) fl :=
      ⟨s2.length, r, js, rfl, ⟨by omega, by omega⟩, ⟨by omega, l4⟩, g5.at (f4.at hj3 (by simp)) (by simp; omega), by omega, fun j hj => ⟨by have := (hjs j hj).1; omega, by have := (hjs j hj).2.1; omega, g5.at (f4.at (hjs j hj).2.2 (by simp)) (by have := (hjs j hj).1; simp; omega)⟩, g5.at e4 (by simp; omega)⟩
    have h5 : ∀ (p : Nat) (v : Vl) (fl : List Bool), vs[p]? = some v → (flsOf n its)[p]? = some fl → MomAt (s4.set (s.length + 4) (Ob.lst (vs ++ [.tup [.ref s2.length, .ref r]]))) (s.length + 5) s4.length v fl := fun p v fl q1 q2 =>
      (((hm p v fl q1 q2).fr ((f3.trans f4)) (by simp)).mono (by omega)).fr g5 (by simp)
    have P5 : HpSt (s4.set (s.length + 4) (Ob.lst (vs ++ [.tup [.ref s2.length, .ref r]]))) s.length (s.length + 1) (s.length + 2) (s.length + 3) rs kvs := by
      refine ⟨g5.at P4.top (by simp), g5.at P4.st (by simp), g5.at P4.kp (by simp), g5.at P4.sg (by simp), fun q hq => ?_, P4.nd, P4.nr⟩
      refine g5.at (P4.rw q hq) ?_
      simp
      intro z
      have := P4.rw q hq
      rw [z, e34] at this
      cases this
    have e5 : (s4.set (s.length + 4) (Ob.lst (vs ++ [.tup [.ref s2.length, .ref r]])))[s.length + 4]? = some (.lst (vs ++ [.tup [.ref s2.length, .ref r]])) := get_set_self e34
    have l5 : (s4.set (s.length + 4) (Ob.lst (vs ++ [.tup [.ref s2.length, .ref r]]))).length = s4.length := by simp
    generalize (s4.set (s.length + 4) (Ob.lst (vs ++ [.tup [.ref s2.length, .ref r]]))) = s5 at f5 M5 h5 P5 e5 l5
    have all5 : ∀ (p : Nat) (v : Vl) (fl : List Bool), (vs ++ [Vl.tup [.ref s2.length, .ref r]])[p]? = some v → (flsOf n its)[p]? = some fl → MomAt s5 (s.length + 5) s5.length v fl := fun p v fl' q1 q2 => by
      rw [l5]
      rcases Nat.lt_or_ge p vs.length with z | z
      · rw [List.getElem?_append_left z] at q1
        exact h5 p v fl' q1 q2
      · rw [List.getElem?_append_right z] at q1
        have : p - vs.length = 0 := by
          rcases Nat.eq_zero_or_pos (p - vs.length) with q | q
          · exact q
          · rw [List.getElem?_eq_none (by simp; omega)] at q1; cases q1
        have hp0 : p = i := by omega
        rw [this] at q1
        simp at q1
        subst q1 hp0
        rw [hfl] at q2
        cases q2
        exact M5
    simp [WE_eMeth]
    rw [methW_ins (m := "apply") (tab := tabA 1 tab_apply) (mf := arg 2 m_Heap_apply) P5.top rfl (by simp [getS])]
    simp
    -- the item
    rcases Nat.eq_zero_or_pos i with z | z
    · subst z
      obtain ⟨q1, q2⟩ := hz rfl
      subst q1 q2
      simp at hv
      subst hv
      refine applyMk P5 hn fun rs s6 P6 hrs6 f6 => ?_
      refine ⟨_, _, rs, [], _, rfl, P6, by simp, fun z => absurd z (by omega), fun _ => ⟨hrs6, ?_⟩, f6.at e5 (by simp), by simp [vl], by have := f6.le; omega, fun p v fl q1 q2 => ((all5 p v fl q1 q2).fr f6 (by simp)).mono f6.le, f5.trans' f6 (by simp)⟩
      simpa [stOf] using KvOk.zero
    · obtain ⟨j, rfl⟩ : ∃ j, i = j + 1 := ⟨i - 1, by omega⟩
      obtain ⟨q1, q2⟩ := hp z
      simp only [List.getElem?_cons_succ] at hv
      obtain ⟨it, hit, rfl⟩ := get_map hv
      refine applyI P5 q2 stOf_len hn (by omega) it (ho it (List.mem_of_getElem? hit)) fun kvs' s6 P6 K6 kl6 f6 => ?_
      refine ⟨_, _, rs, kvs', _, rfl, P6, by omega, fun z => absurd z (by omega), fun _ => ⟨q1, ?_⟩, f6.at e5 (by simp), by simp [vl], by have := f6.le; omega, fun p v fl q1 q2 => ((all5 p v fl q1 q2).fr f6 (by simp)).mono f6.le, f5.trans' f6 (by simp)⟩
      have : its.take (j + 1) = its.take j ++ [it] := take_succ_get hit
      simp only [Nat.add_sub_cancel] at K6 ⊢
      rw [this, stOf_app]
      exact K6
  · rintro lo s2 ⟨x3, x4, rs, kvs, vs, rfl, P2, kl, hz, hp, e2, vl, l2, hm, f2⟩
    simp
    refine k _ s2 ⟨⟨vs, e2, by rw [vl]; simp [flsOf], fun i v fl q1 q2 => (hm i v fl q1 q2).low (by omega)⟩, by omega, by omega⟩ f2
end K36

/-! A36e: questions_of, holders_of -/
namespace K36
open PySem L2 Sm
/-- the questions among the first k items behind the first one -/
def qsOf (its : List It) : Nat → List (Nat × Nat)
  | 0 => []
  | k + 1 => qsOf its k ++ (match its[k]? with | some (.ask c) => [(k + 1, c)] | _ => [])
def qV (q : Nat × Nat) : Vl := .tup [.int (q.1 : Nat), .int (q.2 : Nat)]
theorem qsOf_len {its : List It} : ∀ k, (qsOf its k).length ≤ k
  | 0 => Nat.le_refl _
  | k + 1 => by
    have := qsOf_len (its := its) k
    simp only [qsOf, List.length_append]
    split <;> simp <;> omega
theorem enm_get {xs : List Vl} {i : Nat} {v : Vl} (h : (enmL xs)[i]? = some v) : ∃ x, xs[i]? = some x ∧ v = .tup [.int (i : Nat), x] := by
  rw [enmL_get] at h
  cases q : xs[i]? with
  | none => rw [q] at h; cases h
  | some x => rw [q] at h; exact ⟨x, rfl, by simpa using h.symm⟩
theorem enm_len {xs : List Vl} : (enmL xs).length = xs.length := by simp [enmL]
/-- the question in an item -/
def askF (i : Nat) (v : Vl) : Option Vl := match v with
  | .tup [.str w, x] => if w = "ask" then some (.tup [.int (i : Nat), x]) else none
  | _ => none
section
variable {s : Sto} {Q : Vl → Sto → Prop} {E : Ex → Sto → Prop}
theorem askL {lo : Lo} {xs : List Vl} {i : Nat} {QS : Sto → Prop} (hx : ∀ x ∈ xs, (∃ k, x = mkV k) ∨ (∃ a b, x = .tup [.str "stand", a, b]) ∨ ∃ c : Nat, x = .tup [.str "ask", .int (c : Nat)]) (hl : xs.length < 1000) (h2 : lo[2]? = some (some (.int (i : Nat)))) (h4 : lo.length = 5) (k : QS (s ++ [.lst (xs.filterMap (askF i))])) :
    WL (lcX (glN 4) (tVal (eOp opEq (eOp opIx (eVar 4) (eC (.int 0))) (eC (.str "ask")))) (eCB oTup (aCons (eVar 2) (aCons (eOp opIx (eVar 4) (eC (.int 1))) aNil))) s.length lo xs (s ++ [.lst []])) QS := by
  refine lcX_p (xs := xs) s (askF i) rfl rfl (by omega) ?_ k
  intro x hxm acc
  refine ⟨_, rfl, ?_⟩
  have e2 : (lo.set 4 (some x))[2]? = some (some (.int (i : Nat))) := by rw [List.getElem?_set_ne (by omega)]; exact h2
  have e4 : (lo.set 4 (some x))[4]? = some (some x) := List.getElem?_set_self (by omega)
  rcases hx x hxm with ⟨c, rfl⟩ | ⟨a, b, rfl⟩ | ⟨c, rfl⟩
  · unfold mkV at e4 ⊢
    simp [e4, askF]
  · simp [e4, askF]
  · simp [e4, e2, askF]
theorem questionsS {n : Nat} {its : List It} (hn : n ≤ 8) (hi : its.length ≤ 1000) (k : ∀ s', s'[s.length]? = some (.lst ((qsOf its its.length).map qV)) → Fr [] s s' → Q (.ref s.length) s') : WE (m_questions_of [stV n its]) s Q E := by
  unfold m_questions_of b_questions_of
  simp
  show WS (loopX _ _ (enmL (mkI n :: its.map It.vl))) _ _ _
  refine loopX_inv (fun i lo s' => ∃ x2 x3 x4, lo = [some (stV n its), some (.ref s.length), x2, x3, x4] ∧ s'[s.length]? = some (.lst ((qsOf its (i - 1)).map qV)) ∧ Fr [] s s') ⟨none, none, none, rfl, by simp [qsOf], Fr.refl.push _⟩ ?_ ?_
  · rintro i v lo s1 hv ⟨x2, x3, x4, rfl, e1, f1⟩
    obtain ⟨x, hx, rfl⟩ := enm_get hv
    have hil : i < its.length + 1 := by
      have := (List.getElem?_eq_some_iff.mp hx).1
      simpa using this
    have ql := qsOf_len (its := its) (i - 1)
    obtain ⟨xs, hxs, hall, hlen, hfin⟩ : ∃ xs, x = .tup xs ∧ (∀ x ∈ xs, (∃ k, x = mkV k) ∨ (∃ a b, x = .tup [.str "stand", a, b]) ∨ ∃ c : Nat, x = .tup [.str "ask", .int (c : Nat)]) ∧ xs.length < 1000 ∧ (qsOf its (i - 1)).map qV ++ xs.filterMap (askF i) = (qsOf its i).map qV := by
      cases i with
      | zero =>
        simp at hx
        subst hx
        refine ⟨_, rfl, fun x hx => ?_, by simp; omega, ?_⟩
        · obtain ⟨k, _, rfl⟩ := List.mem_map.mp hx
          exact Or.inl ⟨k, rfl⟩
        · have : ((List.range n).map mkV).filterMap (askF 0) = [] := by
            rw [List.filterMap_eq_nil_iff]
            intro x hx
            obtain ⟨k, _, rfl⟩ := List.mem_map.mp hx
            simp [mkV, askF]
          rw [this]
          simp
      | succ j =>
        simp only [List.getElem?_cons_succ] at hx
        obtain ⟨it, hit, rfl⟩ := get_map hx
        cases it with
        | no => exact ⟨[], rfl, by simp, by simp, by simp [qsOf, hit]⟩
        | stand c b => exact ⟨_, rfl, fun x hx => by simp at hx; subst hx; exact Or.inr (Or.inl ⟨_, _, rfl⟩), by simp, by simp [qsOf, hit, askF]⟩
        | ask c => exact ⟨_, rfl, fun x hx => by simp at hx; subst hx; exact Or.inr (Or.inr ⟨_, rfl⟩), by simp, by simp [qsOf, hit, askF, qV]⟩
    subst hxs
    simp [kd_lst e1]
    refine askL hall hlen rfl rfl ?_
    have e2 : (s1 ++ [Ob.lst (xs.filterMap (askF i))])[s.length]? = some (.lst ((qsOf its (i - 1)).map qV)) := get_push e1
    have hfl : (xs.filterMap (askF i)).length ≤ xs.length := List.length_filterMap_le ..
    rw [WE_aNil, oExtend_lst e2 get_last (limB (by simp; omega))]
    simp only [WO_some]
    refine ⟨_, _, _, rfl, ?_, (f1.push _).set (Or.inr (Nat.le_refl _))⟩
    rw [get_set_self e2, hfin]
    try rfl
  · rintro lo s1 ⟨x2, x3, x4, rfl, e1, f1⟩
    rw [enm_len] at e1
    simp at e1
    simp
    exact k s1 (by simpa using e1) f1
theorem holdersS {hd : Nat} {js : List Nat} (Hh : s[hd]? = some (.lst (js.map Vl.ref))) (hjl : js.length ≤ 8) (hjs : ∀ j ∈ js, s[j]? = some (.lst [])) (k : ∀ (ks : List Nat) s', ks.length = js.length → s'[s.length]? = some (.lst (ks.map Vl.ref)) → (∀ j ∈ ks, s.length ≤ j ∧ j < s'.length ∧ s'[j]? = some (.lst [])) → Fr [] s s' → Q (.ref s.length) s') : WE (m_holders_of [.ref hd]) s Q E := by
  unfold m_holders_of b_holders_of
  simp [Hh]
  refine lcL_inv (xs := js.map Vl.ref) (fun i s' => Fr [] s s' ∧ ∃ ks : List Nat, ks.length = i ∧ s'[s.length]? = some (.lst (ks.map Vl.ref)) ∧ ∀ j ∈ ks, s.length < j ∧ j < s'.length ∧ s'[j]? = some (.lst [])) (by simp; omega) ⟨Fr.refl.push _, [], rfl, get_last, by simp⟩ ?_ ?_ ?_
  · rintro i s' ⟨f, _⟩
    exact f.at Hh (by simp)
  · rintro i v s1 hv ⟨f1, ks, hi, e1, hks⟩
    have lt1 := lt_of_get e1
    have hil : i < js.length := by
      have := (List.getElem?_eq_some_iff.mp hv).1
      simpa using this
    refine ⟨_, rfl, ?_⟩
    unfold LcT tTrue
    rw [WE_ret, if_pos rfl]
    have e2 : (s1 ++ [Ob.lst []])[s.length]? = some (.lst (ks.map Vl.ref)) := get_push e1
    simp only [WE_eCB, WE_aNil, oLst_ok (xs := []) (by simp), WO_some, e2]
    refine ⟨limC (by simp; omega), (f1.push _).set (Or.inr (Nat.le_refl _)), ks ++ [s1.length], by simp [hi], by rw [get_set_self e2]; simp, fun j hj => ?_⟩
    rcases List.mem_append.mp hj with hj | hj
    · obtain ⟨q1, q2, q3⟩ := hks j hj
      exact ⟨q1, by simp; omega, by rw [get_set_ne (by omega)]; exact get_push q3⟩
    · simp at hj
      subst hj
      exact ⟨lt1, by simp, by rw [get_set_ne (by omega)]; simp⟩
  · rintro s1 ⟨f1, ks, hi, e1, hks⟩
    have H1 := f1.at Hh (by simp)
    simp [H1]
    refine loopE_inv (xs := js.map Vl.ref) (fun i lo s' => s' = s1 ∧ ∃ x2 x3 x4, lo = [some (.ref hd), some (.ref s.length), x2, x3, x4]) (by simp; omega) ⟨rfl, none, none, none, rfl⟩ (fun i lo s' h => by rw [h.1]; exact H1) ?_ ?_
    · rintro i v lo s2 hv ⟨rfl, x2, x3, x4, rfl⟩
      obtain ⟨j, hj, rfl⟩ := get_map hv
      have hje := f1.at (hjs j (List.mem_of_getElem? hj)) (by simp)
      simp [hje]
      refine loopL_inv (xs := []) (fun i lo s' => s' = s2 ∧ ∃ x2 x3 x4, lo = [some (.ref hd), some (.ref s.length), x2, x3, x4]) (by simp) ⟨rfl, _, _, _, rfl⟩ (fun i lo s' h => by rw [h.1]; exact hje) ?_ ?_
      · rintro i v lo s' hv
        simp at hv
      · rintro lo s' ⟨rfl, x2, x3, x4, rfl⟩
        exact ⟨rfl, _, _, _, rfl⟩
    · rintro lo s' ⟨rfl, x2, x3, x4, rfl⟩
      simp
      exact k ks _ (by simpa using hi) e1 (fun j hj => ⟨by have := (hks j hj).1; omega, (hks j hj).2⟩) f1
end
end K36

/-! A36f: Bounds: made, copied, what is reached, clashes -/
namespace K36
open PySem L2 Sm
/-- a value that can be laid out in this store -/
def Las (s : Sto) (m : Nat) (x : Vl) : Prop := ∃ d, toD m s x = some d ∧ d.canLay0 = true
theorem Las.all {s : Sto} {m : Nat} : ∀ {xs : List Vl}, (∀ x ∈ xs, Las s m x) → ∃ ds, mapO (toD m s) xs = some ds ∧ PyData.canLayAll0 ds = true
  | [], _ => ⟨[], rfl, rfl⟩
  | x :: xs, h => by
    obtain ⟨d, a, b⟩ := h x (List.mem_cons_self ..)
    obtain ⟨ds, a', b'⟩ := Las.all fun y hy => h y (List.mem_cons_of_mem _ hy)
    exact ⟨d :: ds, by simp only [mapO, a, a'], by simp only [PyData.canLayAll0, b, b', Bool.and_self]⟩
theorem Las.lst {s : Sto} {m a : Nat} {xs : List Vl} (h1 : s[a]? = some (.lst xs)) (h : ∀ x ∈ xs, Las s m x) : Las s (m + 1) (.ref a) := by
  obtain ⟨ds, p, q⟩ := Las.all h
  exact ⟨.list ds, by rw [toD_lst h1, p]; rfl, by simpa only [PyData.canLay0] using q⟩
theorem Las.tup {s : Sto} {m : Nat} {xs : List Vl} (h : ∀ x ∈ xs, Las s m x) : Las s (m + 1) (.tup xs) := by
  obtain ⟨ds, p, q⟩ := Las.all h
  exact ⟨.tuple ds, by simp only [toD, p, Option.map], by simpa only [PyData.canLay0] using q⟩
theorem Las.bl {s : Sto} {m : Nat} {b : Bool} : Las s (m + 1) (.bl b) := ⟨.bool b, rfl, rfl⟩
theorem MomAt.las {s : Sto} {a b : Nat} {v : Vl} {fl : List Bool} (M : MomAt s a b v fl) : Las s 39 v := by
  obtain ⟨h, f, js, rfl, h1, h2, h3, h4, h5, h6⟩ := M
  refine Las.tup (m := 38) fun x hx => ?_
  simp at hx
  rcases hx with rfl | rfl
  · refine Las.lst (m := 37) h3 fun x hx => ?_
    obtain ⟨j, hj, rfl⟩ := List.mem_map.mp hx
    exact Las.lst (m := 36) (h5 j hj).2.2 (by simp)
  · refine Las.lst (m := 37) h6 fun x hx => ?_
    obtain ⟨j, hj, rfl⟩ := List.mem_map.mp hx
    exact Las.bl
theorem opNe_las {s : Sto} {a b : Nat} {xs : List Vl} (h1 : s[a]? = some (.lst xs)) (h2 : s[b]? = some (.lst [])) (h : ∀ x ∈ xs, Las s 39 x) : opNe (.ref a) (.ref b) s = some (.bl (!xs.isEmpty), s) := by
  obtain ⟨ds, q, r⟩ := Las.all h
  simp only [opNe, eqM_lstN h1 h2 q r]
theorem opEq_las {s : Sto} {a b : Nat} {xs : List Vl} (h1 : s[a]? = some (.lst xs)) (h2 : s[b]? = some (.lst [])) (h : ∀ x ∈ xs, Las s 39 x) : opEq (.ref a) (.ref b) s = some (.bl xs.isEmpty, s) := by
  obtain ⟨ds, q, r⟩ := Las.all h
  simp only [opEq, eqM_lstN h1 h2 q r]
theorem MomsAt.las {s : Sto} {a b r : Nat} {fls : List (List Bool)} (M : MomsAt s a b r fls) : ∃ vs, s[r]? = some (.lst vs) ∧ vs.length = fls.length ∧ ∀ x ∈ vs, Las s 39 x := by
  obtain ⟨vs, h1, h2, h3⟩ := M.vs
  refine ⟨vs, h1, h2, fun x hx => ?_⟩
  obtain ⟨i, hi⟩ := List.getElem?_of_mem hx
  have hil := (List.getElem?_eq_some_iff.mp hi).1
  exact (h3 i x fls[i] hi (List.getElem?_eq_getElem (by omega))).las
section
variable {s : Sto} {Q : Vl → Sto → Prop} {E : Ex → Sto → Prop}
/-- new bounds: behind Bounds(moments, holders) -/
theorem boundsS {mr hr a b n : Nat} {its : List It} (M : MomsAt s a b mr (flsOf n its)) (hb : b ≤ s.length) (hn : n ≤ 8) (hi : its.length ≤ 1000) (h1 : 0 < its.length)
    (k : ∀ s', BdAt s' s.length mr hr (s.length + 3) (s.length + 5) (s.length + 7) (s.length + 9) (List.replicate n (-1)) (List.replicate n ((its.length + 1 : Nat) : Int)) → s'.length = s.length + 10 → Fr [] s s' → Q .non s') :
    WE (m_BoundsU_initU [.ref s.length, .ref mr, .ref hr]) (s ++ [Ob.ins 4 []]) Q E := by
  unfold m_BoundsU_initU b_BoundsU_initU
  simp
  rw [setFld_new (by simp) (by simp)]
  simp only
  rw [setFld_new (by simp) (by simp [putS])]
  simp [putS]
  have fa : Fr [] s (s ++ [Ob.ins 4 [("moments", .ref mr), ("holders", .ref hr)], Ob.lst []]) := Fr.refl.app _
  have Ma := M.fr fa (by simp)
  obtain ⟨vs, v1, v2, v3⟩ := Ma.las
  have vl : vs.length = its.length + 1 := by rw [v2, flsOf_len]
  have ea : (s ++ [Ob.ins 4 [("moments", .ref mr), ("holders", .ref hr)], Ob.lst []])[s.length + 1]? = some (.lst []) := by simp
  have ne : vs.isEmpty = false := by cases vs with | nil => simp at vl | cons _ _ => rfl
  rw [opNe_las v1 ea v3]
  obtain ⟨vs', w1, w2, w3⟩ := Ma.vs
  rw [v1] at w1
  cases w1
  obtain ⟨j, hj⟩ : ∃ j, its.length = j + 1 := ⟨its.length - 1, by omega⟩
  have hv : vs[its.length]? = some vs[its.length] := List.getElem?_eq_getElem (by omega)
  obtain ⟨ah, af, js, e1, e2, e3, e4, e5, e6, e7⟩ := w3 its.length _ (stOf n (its.take j)) hv (by rw [hj]; exact flsOf_succ (by omega))
  rw [stOf_len] at e5
  have hvs : vs = vs.dropLast ++ [.tup [.ref ah, .ref af]] := by
    have hne : vs ≠ [] := fun z => by rw [z] at vl; simp at vl
    have h1 := List.dropLast_concat_getLast hne
    have h2 : vs.getLast hne = vs[its.length] := by rw [List.getLast_eq_getElem]; congr 1; omega
    rw [h2, e1] at h1
    exact h1.symm
  have ix : atI vs (-1) = some (.tup [.ref ah, .ref af]) := by rw [hvs, atLast]
  simp [ne, opIx_lst v1, ix, oLen_lst e4, e5]
  -- last_there
  have ml : (s ++ [Ob.ins 4 [("moments", .ref mr), ("holders", .ref hr)], Ob.lst [], Ob.lst [Vl.int (-1)]])[s.length + 2]? = some (.lst [Vl.int (-1)]) := by simp
  have o1 := opMul_one (n := n) ml (by omega)
  simp at o1
  simp [o1]
  rw [setFld_new (by simp) (by simp)]
  simp [putS]
  have Mb : MomsAt (s ++ [Ob.ins 4 [("moments", .ref mr), ("holders", .ref hr), ("last_there", .ref (s.length + 3))], Ob.lst [], Ob.lst [Vl.int (-1)], Ob.lst (List.replicate n (Vl.int (-1)))]) a b mr (flsOf n its) := M.fr (Fr.refl.app _) (X := []) (by simp)
  obtain ⟨vs2, u1, u2, _⟩ := Mb.vs
  have ul : vs2.length = its.length + 1 := by rw [u2, flsOf_len]
  simp [oLen_lst u1, ul]
  have mg : (s ++ [Ob.ins 4 [("moments", .ref mr), ("holders", .ref hr), ("last_there", .ref (s.length + 3))], Ob.lst [], Ob.lst [Vl.int (-1)], Ob.lst (List.replicate n (Vl.int (-1))), Ob.lst [Vl.int ((its.length : Int) + 1)]])[s.length + 4]? = some (.lst [Vl.int ((its.length : Int) + 1)]) := by simp
  have o2 := opMul_one (n := n) mg (by omega)
  simp at o2
  simp [o2]
  rw [setFld_new (by simp) (by simp)]
  simp [putS]
  have mw : (s ++ [Ob.ins 4 [("moments", .ref mr), ("holders", .ref hr), ("last_there", .ref (s.length + 3)), ("first_gone", .ref (s.length + 5))], Ob.lst [], Ob.lst [Vl.int (-1)], Ob.lst (List.replicate n (Vl.int (-1))), Ob.lst [Vl.int ((its.length : Int) + 1)], Ob.lst (List.replicate n (Vl.int ((its.length : Int) + 1))), Ob.lst [Vl.non]])[s.length + 6]? = some (.lst [Vl.non]) := by simp
  have o3 := opMul_one (n := n) mw (by omega)
  simp at o3
  simp [o3]
  rw [setFld_new (by simp) (by simp)]
  simp [putS]
  have mx : (s ++ [Ob.ins 4 [("moments", .ref mr), ("holders", .ref hr), ("last_there", .ref (s.length + 3)), ("first_gone", .ref (s.length + 5)), ("why_there", .ref (s.length + 7))], Ob.lst [], Ob.lst [Vl.int (-1)], Ob.lst (List.replicate n (Vl.int (-1))), Ob.lst [Vl.int ((its.length : Int) + 1)], Ob.lst (List.replicate n (Vl.int ((its.length : Int) + 1))), Ob.lst [Vl.non], Ob.lst (List.replicate n Vl.non), Ob.lst [Vl.non]])[s.length + 8]? = some (.lst [Vl.non]) := by simp
  have o4 := opMul_one (n := n) mx (by omega)
  simp at o4
  simp [o4]
  rw [setFld_new (by simp) (by simp)]
  simp [putS]
  refine k _ ⟨by simp, by simp, by simp, ⟨_, by simp; rfl, by simp⟩, ⟨_, by simp; rfl, by simp⟩, by simp, by simp⟩ (by simp) (Fr.refl.app _)
end
end K36

/-! A36g: Bounds: copied, what is reached, clashes -/
namespace K36
open PySem L2 Sm
section
variable {s : Sto} {Q : Vl → Sto → Prop} {E : Ex → Sto → Prop} {bd mr hr lt fg wt wg : Nat} {L G : List Int}
theorem copiedS {a b n : Nat} {its : List It} (B : BdAt s bd mr hr lt fg wt wg L G) (M : MomsAt s a b mr (flsOf n its)) (hb : b ≤ s.length) (hn : n ≤ 8) (hi : its.length ≤ 1000) (h1 : 0 < its.length) (hL : L.length = n)
    (k : ∀ s', BdAt s' s.length mr hr (s.length + 10) (s.length + 11) (s.length + 12) (s.length + 13) L G → Fr [] s s' → Q (.ref s.length) s') : WE (m_Bounds_copied [.ref bd]) s Q E := by
  unfold m_Bounds_copied b_Bounds_copied
  simp [WE_eMake, f_mo B, f_ho B]
  refine boundsS M hb hn hi h1 fun s1 B1 l1 f1 => ?_
  have C1 := B.fr f1 (by simp)
  obtain ⟨w1, p1, q1⟩ := C1.swt
  obtain ⟨w2, p2, q2⟩ := C1.swg
  have bl := lt_of_get B.top
  have ltl := lt_of_get B.slt
  have fgl := lt_of_get B.sfg
  have wtl : wt < s.length := by obtain ⟨_, z, _⟩ := B.swt; exact lt_of_get z
  have wgl : wg < s.length := by obtain ⟨_, z, _⟩ := B.swg; exact lt_of_get z
  simp [f_lt C1, oList_lst C1.slt]
  have t1 : (s1 ++ [Ob.lst (L.map Vl.int)])[s.length]? = _ := get_push B1.top
  rw [setFld_ins t1 ⟨by simp, by simp⟩]
  simp [putS]
  generalize hs2 : (s1 ++ [Ob.lst (L.map Vl.int)]).set s.length (Ob.ins 4 [("moments", .ref mr), ("holders", .ref hr), ("last_there", .ref s1.length), ("first_gone", .ref (s.length + 5)), ("why_there", .ref (s.length + 7)), ("why_gone", .ref (s.length + 9))]) = s2
  have f2 : Fr [] s s2 := hs2 ▸ (f1.push _).set (Or.inr (Nat.le_refl _))
  have t2 : s2[s.length]? = some (Ob.ins 4 [("moments", .ref mr), ("holders", .ref hr), ("last_there", .ref s1.length), ("first_gone", .ref (s.length + 5)), ("why_there", .ref (s.length + 7)), ("why_gone", .ref (s.length + 9))]) := by rw [← hs2]; exact get_set_self t1
  have l2 : s2.length = s.length + 11 := by rw [← hs2]; simp [l1]
  have x1 : s2[s1.length]? = some (.lst (L.map Vl.int)) := by rw [← hs2, get_set_ne (by omega)]; simp
  clear hs2 t1
  rw [l1] at t2 x1
  have C2 := B.fr f2 (by simp)
  simp [f_fg C2, oList_lst C2.sfg]
  have t3 := get_push (o' := Ob.lst (G.map Vl.int)) t2
  rw [setFld_ins t3 ⟨by simp, by simp⟩]
  simp [putS]
  generalize hs3 : (s2 ++ [Ob.lst (G.map Vl.int)]).set s.length (Ob.ins 4 [("moments", .ref mr), ("holders", .ref hr), ("last_there", .ref (s.length + 10)), ("first_gone", .ref s2.length), ("why_there", .ref (s.length + 7)), ("why_gone", .ref (s.length + 9))]) = s3
  have f3 : Fr [] s s3 := hs3 ▸ (f2.push _).set (Or.inr (Nat.le_refl _))
  have t4 : s3[s.length]? = some (Ob.ins 4 [("moments", .ref mr), ("holders", .ref hr), ("last_there", .ref (s.length + 10)), ("first_gone", .ref s2.length), ("why_there", .ref (s.length + 7)), ("why_gone", .ref (s.length + 9))]) := by rw [← hs3]; exact get_set_self t3
  have l3 : s3.length = s.length + 12 := by rw [← hs3]; simp [l2]
  have x2 : s3[s.length + 10]? = some (.lst (L.map Vl.int)) := by rw [← hs3, get_set_ne (by omega)]; exact get_push x1
  have y2 : s3[s2.length]? = some (.lst (G.map Vl.int)) := by rw [← hs3, get_set_ne (by omega)]; simp
  clear hs3 t3
  rw [l2] at t4 y2
  have C3 := B.fr f3 (by simp)
  obtain ⟨w3, p3, q3⟩ := C3.swt
  simp [f_wt C3, oList_lst p3]
  have t5 := get_push (o' := Ob.lst w3) t4
  rw [setFld_ins t5 ⟨by simp, by simp⟩]
  simp [putS]
  generalize hs4 : (s3 ++ [Ob.lst w3]).set s.length (Ob.ins 4 [("moments", .ref mr), ("holders", .ref hr), ("last_there", .ref (s.length + 10)), ("first_gone", .ref (s.length + 11)), ("why_there", .ref s3.length), ("why_gone", .ref (s.length + 9))]) = s4
  have f4 : Fr [] s s4 := hs4 ▸ (f3.push _).set (Or.inr (Nat.le_refl _))
  have t6 : s4[s.length]? = some (Ob.ins 4 [("moments", .ref mr), ("holders", .ref hr), ("last_there", .ref (s.length + 10)), ("first_gone", .ref (s.length + 11)), ("why_there", .ref s3.length), ("why_gone", .ref (s.length + 9))]) := by rw [← hs4]; exact get_set_self t5
  have l4 : s4.length = s.length + 13 := by rw [← hs4]; simp [l3]
  have x3 : s4[s.length + 10]? = some (.lst (L.map Vl.int)) := by rw [← hs4, get_set_ne (by omega)]; exact get_push x2
  have y3 : s4[s.length + 11]? = some (.lst (G.map Vl.int)) := by rw [← hs4, get_set_ne (by omega)]; exact get_push y2
  have z3 : s4[s3.length]? = some (.lst w3) := by rw [← hs4, get_set_ne (by omega)]; simp
  clear hs4 t5
  rw [l3] at t6 z3
  have C4 := B.fr f4 (by simp)
  obtain ⟨w4, p4, q4⟩ := C4.swg
  simp [f_wg C4, oList_lst p4]
  have t7 := get_push (o' := Ob.lst w4) t6
  rw [setFld_ins t7 ⟨by simp, by simp⟩]
  simp [putS]
  refine k _ ⟨?_, ?_, ?_, ⟨w3, ?_, q3⟩, ⟨w4, ?_, q4⟩, B.len, by simp⟩ ((f4.push _).set (Or.inr (Nat.le_refl _)))
  · rw [get_set_self t7, l4]
  · rw [get_set_ne (by omega)]; exact get_push x3
  · rw [get_set_ne (by omega)]; exact get_push y3
  · rw [get_set_ne (by omega)]; exact get_push z3
  · rw [get_set_ne (by omega), ← l4]; simp
theorem clashS (B : BdAt s bd mr hr lt fg wt wg L G) (hL : L.length ≤ 8) (h : ∀ (c : Nat) (x y : Int), L[c]? = some x → G[c]? = some y → x < y) (k : Q .non s) : WE (m_Bounds_clash [.ref bd]) s Q E := by
  unfold m_Bounds_clash b_Bounds_clash
  simp [f_fg B, B.sfg]
  have hl := B.len
  refine loopE_inv (xs := G.map Vl.int) (fun i lo s' => s' = s ∧ ∃ x1 x2 x3, lo = [some (.ref bd), x1, x2, x3]) (by simp; omega) ⟨rfl, none, none, none, rfl⟩ (fun i lo s' h => by rw [h.1]; exact B.sfg) ?_ ?_
  · rintro i v lo s2 hv ⟨rfl, x1, x2, x3, rfl⟩
    obtain ⟨y, hy, rfl⟩ := get_map hv
    have hil := (List.getElem?_eq_some_iff.mp hy).1
    have hx : L[i]? = some L[i] := List.getElem?_eq_getElem (by omega)
    have := h i _ y hx hy
    generalize L[i] = x at hx this
    have hn : ¬ y ≤ x := by omega
    simp [f_lt B, opIx_lst B.slt, atN, hx, hn]
  · rintro lo s2 ⟨rfl, x1, x2, x3, rfl⟩
    simp
    exact k
/-- behind p cells of a moment -/
theorem lstep_len {m : Nat} {st : List Bool} {l : List Int} (h : st.length = l.length) : (lstep m st l).length = l.length := by simp [lstep, h]
theorem part_get {m p : Nat} {st : List Bool} {l : List Int} {x : Int} (h : st.length = l.length) (hx : l[p]? = some x) : ((lstep m st l).take p ++ l.drop p)[p]? = some x := by
  have hp := (List.getElem?_eq_some_iff.mp hx).1
  rw [List.getElem?_append_right (by simp [lstep_len h]; omega)]
  simp [lstep_len h, Nat.min_eq_left (Nat.le_of_lt hp)]
  exact hx
theorem part_set {m p : Nat} {st : List Bool} {l : List Int} {b : Bool} {x : Int} (h : st.length = l.length) (hb : st[p]? = some b) (hx : l[p]? = some x) : (lstep m st l).take (p + 1) ++ l.drop (p + 1) = if b then ((lstep m st l).take p ++ l.drop p).set p (m : Int) else (lstep m st l).take p ++ l.drop p := by
  have hp := (List.getElem?_eq_some_iff.mp hx).1
  have e1 : (lstep m st l)[p]? = some (if b then (m : Int) else x) := by
    unfold lstep
    rw [List.getElem?_zipWith, hb, hx]
  have e2 : l.drop p = x :: l.drop (p + 1) := by
    rw [List.drop_eq_getElem_cons hp]
    congr 1
    exact (List.getElem?_eq_some_iff.mp hx).2
  have hl : ((lstep m st l).take p).length = p := by simp [lstep_len h]; omega
  rw [take_succ_get e1, e2]
  cases b
  · simp
  · simp only [if_true]
    rw [List.set_append_right _ _ (by omega), hl]
    simp
theorem reachedS {a b n : Nat} {its : List It} (B : BdAt s bd mr hr lt fg wt wg (List.replicate n (-1)) G) (M : MomsAt s a b mr (flsOf n its)) (hX : (lt < a ∨ b ≤ lt) ∧ (wt < a ∨ b ≤ wt)) (hb : b ≤ s.length) (hn : n ≤ 8) (hi : its.length ≤ 900)
    (k : ∀ s', BdAt s' bd mr hr lt fg wt wg (lastK n (List.replicate n (-1)) its its.length) G → Fr [lt, wt] s s' → Q .non s') : WE (m_Bounds_take_reached [.ref bd]) s Q E := by
  unfold m_Bounds_take_reached b_Bounds_take_reached
  obtain ⟨vs, v1, v2, v3⟩ := M.vs
  have hmr : mr ∉ [lt, wt] := by have := M.lo; have := M.hi; simp; omega
  have hfl : vs.length = its.length + 1 := by rw [v2, flsOf_len]
  simp [f_mo B, v1]
  refine loopE_inv (xs := vs) (fun i lo s' => (∃ x1 x2 x3 x4 x5, lo = [some (.ref bd), x1, x2, x3, x4, x5]) ∧ BdAt s' bd mr hr lt fg wt wg (lastK n (List.replicate n (-1)) its (i - 1)) G ∧ Fr [lt, wt] s s') (by omega) ⟨⟨none, none, none, none, none, rfl⟩, B, Fr.refl⟩ (fun i lo s' h => h.2.2.at v1 hmr) ?_ ?_
  · rintro i v lo s1 hv ⟨⟨x1, x2, x3, x4, x5, rfl⟩, B1, f1⟩
    have hil := (List.getElem?_eq_some_iff.mp hv).1
    have hfi : (flsOf n its)[i]? = some (flsOf n its)[i] := List.getElem?_eq_getElem (by omega)
    have hq := (v3 i v _ hv hfi).fr f1 (by simp; omega)
    obtain ⟨ah, af, js, rfl, e2, e3, e4, e5, e6, e7⟩ := hq
    simp [e7]
    cases i with
    | zero =>
      have : (flsOf n its)[0] = [] := rfl
      rw [this] at e7
      refine loopE_inv (xs := []) (fun i lo s' => s' = s1 ∧ ∃ x1 x2 x3 x4 x5, lo = [some (.ref bd), x1, x2, x3, x4, x5]) (by simp) ⟨rfl, _, _, _, _, _, rfl⟩ (fun i lo s' h => by rw [h.1]; exact e7) ?_ ?_
      · rintro i v lo s' hv
        simp at hv
      · rintro lo s' ⟨rfl, x1, x2, x3, x4, x5, rfl⟩
        exact ⟨⟨_, _, _, _, _, rfl⟩, B1, f1⟩
    | succ j =>
      have hst := flsOf_succ (n := n) (its := its) (i := j) (by omega)
      rw [hfi] at hst
      have hst := Option.some.inj hst
      rw [hst] at e7
      simp only [Nat.add_sub_cancel] at B1 ⊢
      have hl : (lastK n (List.replicate n (-1)) its j).length = n := lastK_len (by simp) j
      have hsl : (stOf n (its.take j)).length = (lastK n (List.replicate n (-1)) its j).length := by rw [stOf_len, hl]
      have haf : af ∉ [lt, wt] := by simp; omega
      refine loopE_inv (xs := (stOf n (its.take j)).map Vl.bl) (fun p lo s' => (∃ x4 x5, lo = [some (.ref bd), some (.int ((j + 1 : Nat) : Int)), some (.ref ah), some (.ref af), x4, x5]) ∧ BdAt s' bd mr hr lt fg wt wg ((lstep (j + 1) (stOf n (its.take j)) (lastK n (List.replicate n (-1)) its j)).take p ++ (lastK n (List.replicate n (-1)) its j).drop p) G ∧ Fr [lt, wt] s s' ∧ s'[af]? = some (.lst ((stOf n (its.take j)).map Vl.bl))) (by simp [stOf_len]; omega) ⟨⟨x4, x5, by simp⟩, by simpa using B1, f1, e7⟩ (fun i lo s' h => h.2.2.2) ?_ ?_
      · rintro p v lo s2 hv ⟨⟨x4, x5, rfl⟩, B2, f2, g2⟩
        obtain ⟨bb, hbb, rfl⟩ := get_map hv
        have hp := (List.getElem?_eq_some_iff.mp hbb).1
        have hx : (lastK n (List.replicate n (-1)) its j)[p]? = some (lastK n (List.replicate n (-1)) its j)[p] := List.getElem?_eq_getElem (by omega)
        have hxb := last_le (n := n) (l0 := List.replicate n (-1)) (its := its) (B := j) (fun x hx => by have := List.eq_of_mem_replicate hx; omega) j (Nat.le_refl _) _ (List.mem_of_getElem? hx)
        generalize (lastK n (List.replicate n (-1)) its j)[p] = x at hx hxb
        have ps := part_set (m := j + 1) hsl hbb hx
        cases bb with
        | false =>
          simp
          refine ⟨?_, f2, g2⟩
          rw [ps]
          simpa using B2
        | true =>
          have B2t := B2.top
          simp [WE_eMeth]
          rw [methW_ins (m := "keep_there") (tab := tabA 3 tab_keep_there) (mf := arg 4 m_Bounds_keep_there) B2t rfl (by simp [getS])]
          simp
          have M2 := M.fr f2 (by simp; omega)
          have ej : ((j : Int) + 1) = ((j + 1 : Nat) : Int) := by omega
          have := keepThere (Q := fun _ s' => BdAt s' bd mr hr lt fg wt wg ((lstep (j + 1) (stOf n (its.take j)) (lastK n (List.replicate n (-1)) its j)).take (p + 1) ++ (lastK n (List.replicate n (-1)) its j).drop (p + 1)) G ∧ Fr [lt, wt] s s' ∧ s'[af]? = some (.lst ((stOf n (its.take j)).map Vl.bl))) (E := E) (c := p) (m := j + 1) (why := .tup [.str "reached"]) B2 M2 hX (by have := f2.le; omega) (part_get hsl hx) (by omega) (by omega) (by omega) (by omega) (La.mono (La.tup (n := 1) (by simp; exact La.lit)) (by omega)) fun s3 B3 f3 => ⟨by rw [ps]; rw [if_pos (by omega)] at B3; simpa using B3, f2.trans f3, f3.at g2 haf⟩
          rw [ej]
          refine this.mono (fun v s3 h => ?_) fun _ _ z => z
          exact ⟨⟨_, _, rfl⟩, h⟩
      · rintro lo s2 ⟨⟨x4, x5, rfl⟩, B2, f2, g2⟩
        refine ⟨⟨_, _, _, _, _, rfl⟩, ?_, f2⟩
        rw [List.length_map, stOf_len, List.take_of_length_le (by rw [lstep_len hsl]; omega), List.drop_eq_nil_of_le (by omega), List.append_nil] at B2
        exact B2
  · rintro lo s1 ⟨⟨x1, x2, x3, x4, x5, rfl⟩, B1, f1⟩
    rw [hfl] at B1
    exact k s1 (by simpa using B1) f1
end
end K36

/-! A36h: Facts -/
namespace K36
open PySem L2 Sm
def fcO (n : Nat) (its : List It) (told : List Int) (ap bd : Nat) : Ob := .ins 5 [("story", stV n its), ("told", .tup (told.map Vl.int)), ("asked_pairs", .ref ap), ("bounds", .ref bd)]
structure Wd (s : Sto) (a b fc ap bd mr hr lt fg wt wg n : Nat) (its : List It) (told L G : List Int) : Prop where
  fa : s[fc]? = some (fcO n its told ap bd)
  aps : s[ap]? = some (.lst ((qsOf its its.length).map qV))
  apr : a ≤ ap ∧ ap < b
  mo : MomsAt s a b mr (flsOf n its)
  ho : HolAt s a b hr (flsOf n its)
  bds : BdAt s bd mr hr lt fg wt wg L G
  out : ∀ x ∈ [fc, bd, lt, fg, wt, wg], x < a ∨ b ≤ x
  fcn : fc ∉ [bd, lt, fg, wt, wg]
  hb : b ≤ s.length
  ll : L.length = n
section
variable {s s' : Sto} {Q : Vl → Sto → Prop} {E : Ex → Sto → Prop} {a b fc ap bd mr hr lt fg wt wg n : Nat} {its : List It} {told L G : List Int}
theorem Wd.fr {X : List Nat} (W : Wd s a b fc ap bd mr hr lt fg wt wg n its told L G) (f : Fr X s s') (hX : ∀ x ∈ X, (x < a ∨ b ≤ x) ∧ x ∉ [fc, bd, lt, fg, wt, wg]) : Wd s' a b fc ap bd mr hr lt fg wt wg n its told L G := by
  obtain ⟨h1, h2, h3, h4, h5, h6, h7, h8, h9, h10⟩ := W
  have o1 : ∀ x ∈ X, x < a ∨ b ≤ x := fun x hx => (hX x hx).1
  refine ⟨f.at h1 (fun z => (hX _ z).2 (by simp)), f.at h2 (fun z => by have := (hX _ z).1; omega), h3, h4.fr f o1, h5.fr f o1, h6.fr f (fun x hx z => (hX x hx).2 ?_), h7, h8, Nat.le_trans h9 f.le, h10⟩
  exact List.mem_cons_of_mem _ z
theorem k_st (W : Wd s a b fc ap bd mr hr lt fg wt wg n its told L G) {Q : Vl → Sto → Prop} : fldW cs_story "story" (.ref fc) s Q = Q (stV n its) s := by
  rw [fldW_ins W.fa]; simp [getS]
theorem k_to (W : Wd s a b fc ap bd mr hr lt fg wt wg n its told L G) {Q : Vl → Sto → Prop} : fldW cs_told "told" (.ref fc) s Q = Q (.tup (told.map Vl.int)) s := by
  rw [fldW_ins W.fa]; simp [getS]
theorem k_ap (W : Wd s a b fc ap bd mr hr lt fg wt wg n its told L G) {Q : Vl → Sto → Prop} : fldW cs_asked_pairs "asked_pairs" (.ref fc) s Q = Q (.ref ap) s := by
  rw [fldW_ins W.fa]; simp [getS]
theorem k_bd (W : Wd s a b fc ap bd mr hr lt fg wt wg n its told L G) {Q : Vl → Sto → Prop} : fldW cs_bounds "bounds" (.ref fc) s Q = Q (.ref bd) s := by
  rw [fldW_ins W.fa]; simp [getS]
/-- the counts behind an answer -/
def newL (L : List Int) (c m : Nat) (ans : Int) : List Int := if ans = 1 then L else (match L[c]? with | some x => if x < m then L.set c m else L | none => L)
def newG (G : List Int) (c m : Nat) (ans : Int) : List Int := if ans = 1 then (match G[c]? with | some x => if m < x then G.set c m else G | none => G) else G
theorem newL_len {c m : Nat} {ans : Int} : (newL L c m ans).length = L.length := by
  unfold newL
  split
  · rfl
  · split
    · split <;> simp
    · rfl
theorem tellS {c m : Nat} {ans : Int} (W : Wd s a b fc ap bd mr hr lt fg wt wg n its told L G) (hn : n ≤ 8) (hi : its.length ≤ 900) (h1 : 0 < its.length) (hq : (qsOf its its.length)[told.length]? = some (m, c)) (ha : ans = 0 ∨ ans = 1) (hc : c < n) (hm1 : 1 ≤ m) (hm2 : m ≤ its.length)
    (hL : ∀ x ∈ L, -1 ≤ x ∧ x ≤ its.length) (hG : ∀ x ∈ G, -1 ≤ x ∧ x ≤ its.length + 1) (hok : ∀ (c' : Nat) (x y : Int), (newL L c m ans)[c']? = some x → (newG G c m ans)[c']? = some y → x < y)
    (k : ∀ v s' bd' lt' fg' wt' wg', Wd s' a b fc ap bd' mr hr lt' fg' wt' wg' n its (told ++ [ans]) (newL L c m ans) (newG G c m ans) → (∀ x ∈ [bd', lt', fg', wt', wg'], s.length ≤ x) → Fr [fc] s s' → Q v s') : WE (m_Facts_tell [.ref fc, .int ans]) s Q E := by
  unfold m_Facts_tell b_Facts_tell
  have hql := (List.getElem?_eq_some_iff.mp hq).1
  have hqm : ((qsOf its its.length).map qV)[told.length]? = some (.tup [.int (m : Nat), .int (c : Nat)]) := by rw [List.getElem?_map, hq]; rfl
  have nge : ¬ ((qsOf its its.length).length : Int) ≤ (told.length : Int) := by omega
  have nge' : ¬ (qsOf its its.length).length ≤ told.length := by omega
  simp [k_to W, k_ap W, oLen_lst W.aps, nge, nge', opIx_lst W.aps, atN, hqm, k_bd W, WE_eMeth]
  rw [methW_ins (m := "copied") (tab := tabA 0 tab_copied) (mf := arg 1 m_Bounds_copied) W.bds.top rfl (by simp [getS])]
  simp
  refine copiedS W.bds W.mo W.hb hn (by omega) h1 W.ll fun s1 B1 f1 => ?_
  have W1 := W.fr f1 (by simp)
  have hb := W.hb
  have le1 := f1.le
  -- the answer
  have fin : ∀ s2, BdAt s2 s.length mr hr (s.length + 10) (s.length + 11) (s.length + 12) (s.length + 13) (newL L c m ans) (newG G c m ans) → Fr [] s s2 → WS (sSeq (sSet 4 (eMeth "clash" (tabA 0 tab_clash) (eVar 3) aNil)) (sSeq (sIf (tVal (eOp opNotN (eVar 4) (eC .non))) sFail sNil) (sSeq (sFldM cs_bounds "bounds" (eVar 0) (eVar 3)) (sSeq (sFldM cs_told "told" (eVar 0) (eOp opAdd (eFld cs_told "told" (eVar 0)) (eCB oTup (aCons (eVar 1) aNil)))) (sRet (eCB oLen (aCons (eFld cs_told "told" (eVar 0)) aNil)))))))
      [some (.ref fc), some (.int ans), some (.int (told.length : Nat)), some (.ref s.length), none, some (.int (m : Nat)), some (.int (c : Nat))] s2 ⟨fun _ s => Q .non s, Q, fun _ _ => False, fun _ _ => False, fun e _ s => E e s⟩ := fun s2 B2 f2 => by
    have W2 := W.fr f2 (by simp)
    simp [WE_eMeth]
    rw [methW_ins (m := "clash") (tab := tabA 0 tab_clash) (mf := arg 1 m_Bounds_clash) B2.top rfl (by simp [getS])]
    simp
    refine clashS B2 (by rw [newL_len, W.ll]; exact hn) hok ?_
    simp
    rw [setFld_ins W2.fa ⟨by simp, by simp⟩]
    simp [putS]
    have fcl := lt_of_get W.fa
    generalize hs3 : s2.set fc (Ob.ins 5 [("story", stV n its), ("told", .tup (told.map Vl.int)), ("asked_pairs", .ref ap), ("bounds", .ref s.length)]) = s3
    have t3 : s3[fc]? = some (Ob.ins 5 [("story", stV n its), ("told", .tup (told.map Vl.int)), ("asked_pairs", .ref ap), ("bounds", .ref s.length)]) := by rw [← hs3]; exact get_set_self W2.fa
    have f3 : Fr [fc] s s3 := hs3 ▸ (f2.mono (by simp)).set (Or.inl (by simp))
    have g3 : Fr [fc] s2 s3 := hs3 ▸ Fr.refl.set (Or.inl (by simp))
    have ft : ∀ {Q : Vl → Sto → Prop}, fldW cs_told "told" (.ref fc) s3 Q = Q (.tup (told.map Vl.int)) s3 := by intro Q; rw [fldW_ins t3]; simp [getS]
    have hql2 := qsOf_len (its := its) its.length
    have ll : (told.map Vl.int).length + [Vl.int ans].length ≤ LIM := limB (by simp; omega)
    simp only [List.length_map, List.length_cons, List.length_nil, Nat.zero_add] at ll
    simp [ft, ll]
    rw [setFld_ins t3 ⟨by simp, by simp⟩]
    simp [putS]
    generalize hs4 : s3.set fc (Ob.ins 5 [("story", stV n its), ("told", .tup (told.map Vl.int ++ [.int ans])), ("asked_pairs", .ref ap), ("bounds", .ref s.length)]) = s4
    have t4 : s4[fc]? = some (Ob.ins 5 [("story", stV n its), ("told", .tup (told.map Vl.int ++ [.int ans])), ("asked_pairs", .ref ap), ("bounds", .ref s.length)]) := by rw [← hs4]; exact get_set_self t3
    have f4 : Fr [fc] s s4 := hs4 ▸ f3.set (Or.inl (by simp))
    have g4 : Fr [fc] s2 s4 := hs4 ▸ g3.set (Or.inl (by simp))
    have ft4 : ∀ {Q : Vl → Sto → Prop}, fldW cs_told "told" (.ref fc) s4 Q = Q (.tup (told.map Vl.int ++ [.int ans])) s4 := by intro Q; rw [fldW_ins t4]; simp [getS]
    simp [ft4]
    have hfo := W.out fc (by simp)
    have o1 : ∀ x ∈ [fc], x < a ∨ b ≤ x := fun x hx => by simp at hx; subst hx; exact hfo
    refine k _ s4 s.length (s.length + 10) (s.length + 11) (s.length + 12) (s.length + 13) ⟨?_, f4.at W.aps (fun z => ?_), W.apr, W.mo.fr f4 o1, W.ho.fr f4 o1, B2.fr g4 (fun x hx => ?_), fun x hx => ?_, ?_, Nat.le_trans hb f4.le, by rw [newL_len]; exact W.ll⟩ (by simp) f4
    · rw [t4]; simp [fcO]
    · simp at z
      have := W.apr
      omega
    · simp at hx; subst hx; simp; omega
    · simp at hx
      rcases hx with rfl | rfl | rfl | rfl | rfl | rfl
      · exact hfo
      all_goals exact Or.inr (by omega)
    · simp; omega
  have hcL : c < L.length := by rw [W.ll]; exact hc
  have hcG : c < G.length := by rw [W.bds.len, W.ll]; exact hc
  have hx : L[c]? = some L[c] := List.getElem?_eq_getElem hcL
  have hy : G[c]? = some G[c] := List.getElem?_eq_getElem hcG
  have bx := hL L[c] (List.getElem_mem _)
  have byy := hG G[c] (List.getElem_mem _)
  generalize L[c] = x at hx bx
  generalize G[c] = y at hy byy
  have la : La 3 (.tup [.str "asked", .int (told.length : Nat)]) := (La.tup2 La.lit La.int).mono (by omega)
  have M1 := W1.mo
  have H1 := W1.ho
  rcases ha with rfl | rfl
  · simp [WE_eMeth]
    rw [methW_ins (m := "keep_there") (tab := tabA 3 tab_keep_there) (mf := arg 4 m_Bounds_keep_there) B1.top rfl (by simp [getS])]
    simp
    refine keepThere B1 M1 ⟨Or.inr (by omega), Or.inr (by omega)⟩ (by omega) hx (by omega) (by omega) (by rw [flsOf_len]; omega) (by rw [flsOf_len]; omega) la fun s2 B2 f2 => ?_
    refine fin s2 ?_ (f1.trans' f2 (by simp))
    have e1 : newL L c m 0 = if x < m then L.set c m else L := by simp [newL, hx]
    have e2 : newG G c m 0 = G := by simp [newG]
    rw [e1, e2]
    exact B2
  · simp [WE_eMeth]
    rw [methW_ins (m := "keep_gone") (tab := tabA 3 tab_keep_gone) (mf := arg 4 m_Bounds_keep_gone) B1.top rfl (by simp [getS])]
    simp
    refine keepGone B1 H1 ⟨Or.inr (by omega), Or.inr (by omega)⟩ (by omega) hy (by omega) (by rw [flsOf_len]; omega) (fun i fl h1 h2 => ?_) (by rw [flsOf_len]; omega) la fun s2 B2 f2 => ?_
    · obtain ⟨j, rfl⟩ : ∃ j, i = j + 1 := ⟨i - 1, by omega⟩
      have hil := (List.getElem?_eq_some_iff.mp h2).1
      rw [flsOf_len] at hil
      rw [flsOf_succ (by omega)] at h2
      cases h2
      rw [stOf_len]
      exact hc
    · refine fin s2 ?_ (f1.trans' f2 (by simp))
      have e1 : newL L c m 1 = L := by simp [newL]
      have e2 : newG G c m 1 = if m < y then G.set c m else G := by simp [newG, hy]
      rw [e1, e2]
      exact B2
end
end K36

/-! A36i: Facts made, fate, window, len -/
namespace K36
open PySem L2 Sm
section
variable {s : Sto} {Q : Vl → Sto → Prop} {E : Ex → Sto → Prop}
theorem holsS {a b mr : Nat} {fls : List (List Bool)} {lo : Lo} {QS : Sto → Prop} (M : MomsAt s a b mr fls) (h8 : ∀ fl ∈ fls, fl.length ≤ 8) (hl : fls.length ≤ 1001) (h7 : lo.length = 7) (k : ∀ s', HolAt s' s.length s'.length s.length fls → Fr [] s s' → QS s') :
    WL (lcN (nxLst mr) (glT [5, 6]) tTrue (eCall (arg 1 m_holders_of) (aCons (eVar 5) aNil)) s.length lo 100000 0 (s ++ [.lst []])) QS := by
  obtain ⟨vs, v1, v2, v3⟩ := M.vs
  refine lcL_inv (xs := vs) (fun i s' => Fr [] s s' ∧ ∃ ks : List Nat, ks.length = i ∧ s'[s.length]? = some (.lst (ks.map Vl.ref)) ∧ ∀ (p k : Nat) (fl : List Bool), ks[p]? = some k → fls[p]? = some fl → (s.length < k ∧ k < s'.length) ∧ ∃ js : List Nat, s'[k]? = some (.lst (js.map Vl.ref)) ∧ js.length = fl.length ∧ ∀ j ∈ js, s.length < j ∧ j < s'.length ∧ s'[j]? = some (.lst [])) (by omega) ⟨Fr.refl.push _, [], rfl, get_last, by simp⟩ ?_ ?_ ?_
  · rintro i s' ⟨f, _⟩
    exact f.at v1 (by simp)
  · rintro i v s1 hv ⟨f1, ks, hi, e1, hks⟩
    have hil := (List.getElem?_eq_some_iff.mp hv).1
    have hfi : fls[i]? = some fls[i] := List.getElem?_eq_getElem (by omega)
    obtain ⟨ah, af, js, rfl, r2, r3, r4, r5, r6, r7⟩ := (v3 i v _ hv hfi).fr f1 (by simp)
    have lt1 := lt_of_get e1
    refine ⟨(lo.set 5 (some (.ref ah))).set 6 (some (.ref af)), rfl, ?_⟩
    unfold LcT tTrue
    rw [WE_ret, if_pos rfl]
    have e5 : ((lo.set 5 (some (Vl.ref ah))).set 6 (some (.ref af)))[5]? = some (some (.ref ah)) := by rw [List.getElem?_set_ne (by omega), List.getElem?_set_self (by omega)]
    simp [e5]
    have hfl8 := h8 fls[i] (List.getElem_mem _)
    refine holdersS r4 (by omega) (fun j hj => (r6 j hj).2.2) fun ks2 s2 q1 q2 q3 f2 => ?_
    have e2 := f2.at e1 (by simp)
    simp only [e2]
    have le2 := f2.le
    have lt2 := lt_of_get q2
    refine ⟨limC (by simp; omega), (f1.trans f2).set (Or.inr (Nat.le_refl _)), ks ++ [s1.length], by simp [hi], by rw [get_set_self e2]; simp, fun p kk fl w1 w2 => ?_⟩
    rcases Nat.lt_or_ge p ks.length with z | z
    · rw [List.getElem?_append_left z] at w1
      obtain ⟨u1, js', u2, u3, u4⟩ := hks p kk fl w1 w2
      exact ⟨⟨u1.1, by simp; omega⟩, js', by rw [get_set_ne (by omega)]; exact f2.at u2 (by simp), u3, fun j hj => ⟨(u4 j hj).1, by have := (u4 j hj).2.1; simp; omega, by rw [get_set_ne (by have := (u4 j hj).1; omega)]; exact f2.at (u4 j hj).2.2 (by simp)⟩⟩
    · rw [List.getElem?_append_right z] at w1
      have hp0 : p - ks.length = 0 := by
        rcases Nat.eq_zero_or_pos (p - ks.length) with q | q
        · exact q
        · rw [List.getElem?_eq_none (by simp; omega)] at w1; cases w1
      have hpi : p = i := by omega
      rw [hp0] at w1
      simp at w1
      subst w1 hpi
      rw [hfi] at w2
      cases w2
      exact ⟨⟨lt1, by simp; omega⟩, ks2, by rw [get_set_ne (by omega)]; exact q2, by omega, fun j hj => ⟨by have := (q3 j hj).1; omega, by have := (q3 j hj).2.1; simp; omega, by rw [get_set_ne (by have := (q3 j hj).1; omega)]; exact (q3 j hj).2.2⟩⟩
  · rintro s1 ⟨f1, ks, hi, e1, hks⟩
    refine k s1 ⟨⟨ks, e1, by omega, fun p kk fl w1 w2 => ?_⟩, Nat.le_refl _, lt_of_get e1⟩ f1
    obtain ⟨u1, js', u2, u3, u4⟩ := hks p kk fl w1 w2
    exact ⟨⟨by omega, u1.2⟩, js', u2, u3, fun j hj => ⟨by have := (u4 j hj).1; omega, (u4 j hj).2⟩⟩
theorem MomsAt.wide {a b a' b' r : Nat} {fls : List (List Bool)} (M : MomsAt s a b r fls) (h1 : a' ≤ a) (h2 : b ≤ b') : MomsAt s a' b' r fls := by
  obtain ⟨⟨vs, v1, v2, v3⟩, l, h⟩ := M
  exact ⟨⟨vs, v1, v2, fun i v fl e1 e2 => ((v3 i v fl e1 e2).low h1).mono h2⟩, by omega, by omega⟩
theorem HolAt.wide {a b a' b' r : Nat} {fls : List (List Bool)} (M : HolAt s a b r fls) (h1 : a' ≤ a) (h2 : b ≤ b') : HolAt s a' b' r fls := by
  obtain ⟨⟨vs, v1, v2, v3⟩, l, h⟩ := M
  refine ⟨⟨vs, v1, v2, fun i v fl e1 e2 => ?_⟩, by omega, by omega⟩
  obtain ⟨q1, js, q2, q3, q4⟩ := v3 i v fl e1 e2
  exact ⟨by omega, js, q2, q3, fun j hj => ⟨by have := (q4 j hj).1; omega, by have := (q4 j hj).2.1; omega, (q4 j hj).2.2⟩⟩
theorem factsS {n : Nat} {its : List It} (hn : n ≤ 8) (hi : its.length ≤ 900) (h1 : 0 < its.length) (ho : ∀ it ∈ its, it.ok n)
    (k : ∀ s' a b ap bd mr hr lt fg wt wg, Wd s' a b s.length ap bd mr hr lt fg wt wg n its [] (lastK n (List.replicate n (-1)) its its.length) (List.replicate n ((its.length + 1 : Nat) : Int)) → s.length ≤ a → (∀ x ∈ [bd, lt, fg, wt, wg], s.length ≤ x ∧ x < s'.length) → Fr [] s s' → Q .non s') :
    WE (m_FactsU_initU [.ref s.length, stV n its, .tup []]) (s ++ [Ob.ins 5 []]) Q E := by
  unfold m_FactsU_initU b_FactsU_initU
  simp
  rw [setFld_new (by simp) (by simp)]
  simp only
  simp [putS]
  rw [setFld_new (by simp) (by simp)]
  simp [putS]
  generalize hs1 : (s ++ [Ob.ins 5 [("story", stV n its), ("told", .tup [])]]) = s1
  have f1 : Fr [] s s1 := hs1 ▸ Fr.refl.push _
  have l1 : s1.length = s.length + 1 := by rw [← hs1]; simp
  have t1 : s1[s.length]? = some (.ins 5 [("story", stV n its), ("told", .tup [])]) := by rw [← hs1]; simp
  clear hs1
  refine questionsS hn (by omega) fun s2 e2 f2 => ?_
  have t2 := f2.at t1 (by simp)
  simp
  rw [setFld_ins t2 ⟨by simp, by simp⟩]
  simp [putS]
  have le2 := f2.le
  have l2 := lt_of_get e2
  generalize hs3 : s2.set s.length (Ob.ins 5 [("story", stV n its), ("told", .tup []), ("asked_pairs", .ref s1.length)]) = s3
  have t3 : s3[s.length]? = some (.ins 5 [("story", stV n its), ("told", .tup []), ("asked_pairs", .ref s1.length)]) := by rw [← hs3]; exact get_set_self t2
  have f3 : Fr [] s s3 := hs3 ▸ (f1.trans f2).set (Or.inr (Nat.le_refl _))
  have e3 : s3[s1.length]? = some (.lst ((qsOf its its.length).map qV)) := by rw [← hs3, get_set_ne (by omega)]; exact e2
  have l3 : s3.length = s2.length := by rw [← hs3]; simp
  clear hs3
  refine momentsS hn (by omega) ho fun mr s4 M4 f4 => ?_
  have t4 := f4.at t3 (by simp)
  have e4 := f4.at e3 (by simp)
  obtain ⟨vs, v1, v2, v3⟩ := M4.vs
  simp [WE_eMake, v1]
  refine holsS M4 (fun fl hfl => ?_) (by rw [flsOf_len]; omega) rfl fun s5 H5 f5 => ?_
  · unfold flsOf at hfl
    rcases List.mem_cons.mp hfl with rfl | hfl
    · simp
    · obtain ⟨i, _, rfl⟩ := List.mem_map.mp hfl
      rw [stOf_len]; exact hn
  have M5 := M4.fr f5 (by simp)
  have t5 := f5.at t4 (by simp)
  have e5 := f5.at e4 (by simp)
  have le4 := f4.le
  have le5 := f5.le
  simp
  refine boundsS M5 (by omega) hn (by omega) h1 fun s6 B6 l6 f6 => ?_
  have t6 := f6.at t5 (by simp)
  simp
  rw [setFld_ins t6 ⟨by simp, by simp⟩]
  simp [putS]
  generalize hs7 : s6.set s.length (Ob.ins 5 [("story", stV n its), ("told", .tup []), ("asked_pairs", .ref s1.length), ("bounds", .ref s5.length)]) = s7
  have t7 : s7[s.length]? = some (.ins 5 [("story", stV n its), ("told", .tup []), ("asked_pairs", .ref s1.length), ("bounds", .ref s5.length)]) := by rw [← hs7]; exact get_set_self t6
  have g7 : Fr [s.length] s6 s7 := hs7 ▸ Fr.refl.set (Or.inl (by simp))
  have l7 : s7.length = s6.length := by rw [← hs7]; simp
  clear hs7
  have B7 := B6.fr g7 (by simp; omega)
  have M7 := (M5.fr f6 (by simp)).fr g7 (by simp; omega)
  have H7 := (H5.fr f6 (by simp)).fr g7 (by simp; omega)
  have F7 : Fr [] s s7 := (((f3.trans f4).trans f5).trans f6).trans' g7 (by simp)
  have bq : ∀ {Q : Vl → Sto → Prop}, fldW cs_bounds "bounds" (.ref s.length) s7 Q = Q (.ref s5.length) s7 := by intro Q; rw [fldW_ins t7]; simp [getS]
  simp [bq, WE_eMeth]
  rw [methW_ins (m := "take_reached") (tab := tabA 0 tab_take_reached) (mf := arg 1 m_Bounds_take_reached) B7.top rfl (by simp [getS])]
  simp
  refine reachedS B7 M7 ⟨Or.inr (by omega), Or.inr (by omega)⟩ (by omega) hn hi fun s8 B8 f8 => ?_
  have o8 : ∀ x ∈ [s5.length + 3, s5.length + 7], x < s1.length ∨ s5.length ≤ x := by simp
  have le8 := f8.le
  simp [WS_loopX_nil]
  refine k s8 s1.length s5.length s1.length s5.length mr s4.length (s5.length + 3) (s5.length + 5) (s5.length + 7) (s5.length + 9) ⟨?_, ?_, by omega, (M7.wide (by omega) (by omega)).fr f8 o8, (H7.wide (by omega) (by omega)).fr f8 o8, B8, ?_, by simp; omega, by omega, lastK_len (by simp) _⟩ (by omega) ?_ (F7.trans' f8 (by simp; omega))
  · exact f8.at (by rw [t7]; rfl) (by simp; omega)
  · exact f8.at (g7.at (f6.at e5 (by simp)) (by simp; omega)) (by simp; omega)
  · simp; omega
  · simp; omega
variable {a b fc ap bd mr hr lt fg wt wg n : Nat} {its : List It} {told L G : List Int}
def fateW (x g : Int) (m : Int) : Str := if m ≤ x then "there" else if g ≤ m then "gone" else "open"
theorem fateS {c : Nat} {m x g : Int} (W : Wd s a b fc ap bd mr hr lt fg wt wg n its told L G) (hx : L[c]? = some x) (hg : G[c]? = some g) (k : Q (.str (fateW x g m)) s) : WE (m_Facts_fate [.ref fc, .int (c : Nat), .int m]) s Q E := by
  unfold m_Facts_fate b_Facts_fate
  simp [k_bd W, f_lt W.bds, f_fg W.bds, opIx_lst W.bds.slt, opIx_lst W.bds.sfg, atN, hx, hg]
  unfold fateW at k
  by_cases h1 : m ≤ x
  · simp [h1] at k ⊢; exact k
  · by_cases h2 : g ≤ m
    · simp [h1, h2] at k ⊢; exact k
    · simp [h1, h2] at k ⊢; exact k
def winV (items : Nat) (t g : Int) : Vl := .tup [if t + 1 < items then .int (t + 1) else .non, if g < items then .int g else .non]
theorem windowS {c : Nat} {x t g : Int} (W : Wd s a b fc ap bd mr hr lt fg wt wg n its told L G) (hn : n ≤ 8) (hi : its.length ≤ 900) (h1 : 0 < its.length) (hc : c < n) (hx : L[c]? = some x) (hg : G[c]? = some g) (hr' : rl x t) (hx2 : x ≤ its.length) (k : ∀ s', Fr [] s s' → Q (winV (its.length + 1) t g) s') : WE (m_Facts_window [.ref fc, .int (c : Nat)]) s Q E := by
  unfold m_Facts_window b_Facts_window
  obtain ⟨vs, v1, v2, v3⟩ := W.mo.las
  have vl : vs.length = its.length + 1 := by rw [v2, flsOf_len]
  have ne : vs.isEmpty = false := by cases vs with | nil => simp at vl | cons _ _ => rfl
  have W1 := W.fr (s' := s ++ [Ob.lst []]) (Fr.refl.push _ (X := [])) (by simp)
  have v1' : (s ++ [Ob.lst []])[mr]? = some (.lst vs) := get_push v1
  obtain ⟨vs', w1, w2, w3⟩ := W1.mo.vs
  rw [v1'] at w1
  cases w1
  have hmom : ∀ i, 1 ≤ i → i ≤ its.length → ∃ (ah af : Nat) (js : List Nat), vs[i]? = some (.tup [.ref ah, .ref af]) ∧ (s ++ [Ob.lst []])[ah]? = some (.lst (js.map Vl.ref)) ∧ js.length = n := fun i q1 q2 => by
    obtain ⟨j, rfl⟩ : ∃ j, i = j + 1 := ⟨i - 1, by omega⟩
    have hv : vs[j + 1]? = some vs[j + 1] := List.getElem?_eq_getElem (by omega)
    obtain ⟨ah, af, js, e1, e2, e3, e4, e5, e6, e7⟩ := w3 (j + 1) _ _ hv (flsOf_succ (by omega))
    rw [e1] at hv
    exact ⟨ah, af, js, hv, e4, by rw [e5, stOf_len]⟩
  obtain ⟨ah0, af0, js0, hv0, e40, e50⟩ : ∃ (ah af : Nat) (js : List Nat), vs[0]? = some (.tup [.ref ah, .ref af]) ∧ (s ++ [Ob.lst []])[ah]? = some (.lst (js.map Vl.ref)) ∧ js.length = 0 := by
    have hv : vs[0]? = some vs[0] := List.getElem?_eq_getElem (by omega)
    obtain ⟨ah, af, js, e1, e2, e3, e4, e5, e6, e7⟩ := w3 0 _ _ hv flsOf_zero
    rw [e1] at hv
    exact ⟨ah, af, js, hv, e4, e5⟩
  obtain ⟨ahl, afl, jsl, hvl, e4l, e5l⟩ := hmom its.length h1 (Nat.le_refl _)
  have hvs : vs = vs.dropLast ++ [.tup [.ref ahl, .ref afl]] := by
    have hne : vs ≠ [] := fun z => by rw [z] at vl; simp at vl
    have h1 := List.dropLast_concat_getLast hne
    have hv : vs[its.length]? = some vs[its.length] := List.getElem?_eq_getElem (by omega)
    have h2 : vs.getLast hne = vs[its.length] := by rw [List.getLast_eq_getElem]; congr 1; omega
    rw [hvl] at hv
    rw [h2, ← Option.some.inj hv] at h1
    exact h1.symm
  have ix : atI vs (-1) = some (.tup [.ref ahl, .ref afl]) := by rw [hvs, atLast]
  have hncl : ¬ n ≤ c := by omega
  have q := opEq_las v1' (get_last (s := s) (o := Ob.lst [])) fun y hy => by
    obtain ⟨i, hi'⟩ := List.getElem?_of_mem hy
    have hil := (List.getElem?_eq_some_iff.mp hi').1
    exact (w3 i y _ hi' (List.getElem?_eq_getElem (by omega))).las
  simp [k_bd W, f_mo W.bds, q, ne, opIx_lst v1', ix, oLen_lst e4l, e5l, hncl, k_bd W1, f_lt W1.bds, opIx_lst W1.bds.slt, atN, hx]
  refine loopW_inv (fun m lo s' => s' = s ++ [Ob.lst []] ∧ (∃ x4, lo = [some (.ref fc), some (.int (c : Nat)), some (.ref mr), some (.int (t + 1 - m)), x4]) ∧ (m = 0 ∨ (m = 1 ∧ t = 0))) (if x = -1 then 1 else 0) (by split <;> omega) ?_ ?_
  · refine ⟨rfl, ⟨none, ?_⟩, ?_⟩
    · rcases hr' with ⟨rfl, rfl⟩ | ⟨rfl, h⟩
      · rfl
      · have : ¬ x = -1 := by omega
        simp [this]
    · rcases hr' with ⟨rfl, rfl⟩ | ⟨rfl, h⟩
      · exact Or.inr ⟨rfl, rfl⟩
      · have : ¬ x = -1 := by omega
        simp [this]
  · rintro m lo s2 ⟨rfl, ⟨x4, rfl⟩, hm⟩
    have ht0 : 0 ≤ t := by rcases hr' with ⟨rfl, rfl⟩ | ⟨rfl, h⟩ <;> omega
    have ht2 : t ≤ its.length := by rcases hr' with ⟨rfl, rfl⟩ | ⟨rfl, h⟩ <;> omega
    simp [oLen_lst v1', vl]
    rcases hm with rfl | ⟨rfl, rfl⟩
    · by_cases hlt : t + 1 < (its.length : Int) + 1
      · obtain ⟨o, ho⟩ : ∃ o : Nat, (o : Int) = t + 1 := ⟨(t + 1).toNat, by omega⟩
        obtain ⟨ah, af, js, hv, e4, e5⟩ := hmom o (by omega) (by omega)
        have hlt' : t < its.length := by omega
        simp [hlt, hlt', ← ho, opIx_lst v1', atN, hv, oLen_lst e4, e5, hncl, k_bd W1, f_fg W1.bds, opIx_lst W1.bds.sfg, hg, oLen_lst v1', vl]
        have := k (s ++ [Ob.lst []]) (Fr.refl.push _)
        unfold winV at this
        have e1 : t + 1 < ((its.length + 1 : Nat) : Int) := by omega
        rw [if_pos e1, ← ho] at this
        have e2 : (o : Int) < (its.length : Int) + 1 := by omega
        by_cases h3 : g < (its.length : Int) + 1
        · simp [h3, e2] at this ⊢; exact this
        · simp [h3, e2] at this ⊢; exact this
      · have hlt' : ¬ t < its.length := by omega
        simp [hlt, hlt', k_bd W1, f_fg W1.bds, opIx_lst W1.bds.sfg, atN, hg, oLen_lst v1', vl]
        have := k (s ++ [Ob.lst []]) (Fr.refl.push _)
        unfold winV at this
        have e1 : ¬ t + 1 < ((its.length + 1 : Nat) : Int) := by omega
        rw [if_neg e1] at this
        by_cases h3 : g < (its.length : Int) + 1
        · simp [h3] at this ⊢; exact this
        · simp [h3] at this ⊢; exact this
    · have hp : (0 : Int) < (its.length : Int) + 1 := by omega
      simp [hp, opIx_lst v1', hv0, oLen_lst e40, e50]
theorem lenS (W : Wd s a b fc ap bd mr hr lt fg wt wg n its told L G) (hq : told.length = (qsOf its its.length).length) (k : ∀ s', Q (.int 0) s') : WE (m_FactsU_lenU [.ref fc]) s Q E := by
  unfold m_FactsU_lenU b_FactsU_lenU
  have c : cutL ((qsOf its its.length).map qV) (some (told.length : Int)) none = [] := by
    rw [cutL_from, hq, List.drop_eq_nil_of_le (by simp)]
  simp [k_to W, k_ap W, opSl_lst W.aps, c, oLen_lst get_last]
  exact k _
end
end K36

/-! A36j: the law's own functions -/
namespace K36
open PySem L2 Sm
section
variable {s : Sto} {Q : Vl → Sto → Prop} {E : Ex → Sto → Prop} {d l c0 : Nat}
theorem answerS {c tr gr : Nat} {m t g : Int} {T G : List Int} (D : Dk s d l c0) (hc0 : c0 < 900000) (hT : s[tr]? = some (.lst (T.map Vl.int))) (hG : s[gr]? = some (.lst (G.map Vl.int))) (ht : T[c]? = some t) (hg : G[c]? = some g)
    (k : ∀ (ans : Int) s', (ans = 0 ∨ ans = 1) → (m ≤ t → ans = 0) → (t < m → g ≤ m → ans = 1) → Dk s' d l (c0 + 1) → Fr [d, l] s s' → Q (.int ans) s') : WE (m__law_answer [.ref d, .int (c : Nat), .int m, .ref tr, .ref gr]) s Q E := by
  unfold m__law_answer b__law_answer
  simp [opIx_lst hT, opIx_lst hG, atN, ht, hg]
  by_cases h1 : m ≤ t
  · simp [h1]
    exact k 0 s (Or.inl rfl) (fun _ => rfl) (fun z => by omega) (D.mono (by omega)) Fr.refl
  · by_cases h2 : g ≤ m
    · simp [h1, h2]
      exact k 1 s (Or.inr rfl) (fun z => absurd z h1) (fun _ _ => rfl) (D.mono (by omega)) Fr.refl
    · simp [h1, h2]
      refine draw D (by omega) (by omega) (by omega) fun r s' hr D' f' => ?_
      simp
      by_cases h3 : r = 0
      · simp [h3]
        exact k 1 s' (Or.inr rfl) (fun z => absurd z h1) (fun _ _ => rfl) D' f'
      · simp [h3]
        exact k 0 s' (Or.inl rfl) (fun _ => rfl) (fun _ z => absurd z h2) D' f'
theorem Pn.win {items : Nat} {t g : Int} (hi : items ≤ 1000) (h1 : 0 ≤ t) (h3 : -1 ≤ g) : Pn 2 130 (winV items t g) := by
  unfold winV
  refine Pn.tup2 (n := 1) (u := 64) (v := 64) ?_ ?_
  · split
    · exact Pn.int (by omega)
    · exact Pn.non
  · split
    · exact Pn.int (by omega)
    · exact Pn.non
theorem fate_same {x t g m : Int} (h : rl x t) (hm : 1 ≤ m) : fateW x g m = fateW t g m := by
  rcases h with ⟨rfl, rfl⟩ | ⟨rfl, _⟩
  · unfold fateW
    have h1 : ¬ m ≤ -1 := by omega
    have h2 : ¬ m ≤ 0 := by omega
    simp [h1, h2]
  · rfl
theorem fate_pn {x g m : Int} : Pn 1 64 (.str (fateW x g m)) := by
  unfold fateW
  split
  · exact Pn.lit
  · split <;> exact Pn.lit
variable {a b fc ap bd mr hr lt fg wt wg n tr gr : Nat} {its : List It} {told L G T : List Int}
def KnI (s : Sto) (d l c0 fc tr gr n items : Nat) (p : Nat) (lo : Lo) (s' : Sto) : Prop := ∃ x5 x6 x7 x8 x9, lo = [some (.ref d), some (.ref fc), some (.ref tr), some (.ref gr), some (.int (items : Nat)), x5, x6, x7, x8, x9] ∧ Dk s' d l (c0 + 6 * p) ∧ Fr [d, l] s s'
def KnJ (s : Sto) (d l c0 fc tr gr n items c : Nat) (v : Vl) (p : Nat) (lo : Lo) (s' : Sto) : Prop := ∃ x7 x8 x9, lo = [some (.ref d), some (.ref fc), some (.ref tr), some (.ref gr), some (.int (items : Nat)), some (.int (c : Nat)), some v, x7, x8, x9] ∧ Dk s' d l (c0 + 6 * c + p) ∧ Fr [d, l] s s'
theorem knownS (D : Dk s d l c0) (hc0 : c0 < 900000) (W : Wd s a b fc ap bd mr hr lt fg wt wg n its told L G) (hdl : ∀ x ∈ [d, l], (x < a ∨ b ≤ x) ∧ x ∉ [fc, bd, lt, fg, wt, wg]) (hT : s[tr]? = some (.lst (T.map Vl.int))) (hG : s[gr]? = some (.lst (G.map Vl.int))) (hto : tr ∉ [d, l]) (hgo : gr ∉ [d, l]) (R : Rls L T) (hn : n ≤ 8) (hi : its.length ≤ 900) (h1 : 1 ≤ its.length) (hL : ∀ x ∈ L, -1 ≤ x ∧ x ≤ its.length) (hGb : ∀ x ∈ G, -1 ≤ x ∧ x ≤ its.length + 1)
    (k : ∀ s', Dk s' d l (c0 + 48) → Fr [d, l] s s' → Q (.bl true) s') : WE (m__law_known [.ref d, .ref fc, .ref tr, .ref gr]) s Q E := by
  unfold m__law_known b__law_known
  have hTl : T.length = n := by rw [← R.1, W.ll]
  have ol : oLen [stV n its] s = some (.int ((its.length + 1 : Nat) : Int), s) := by
    unfold stV; simp
  simp [k_st W, ol, oLen_lst hT, hTl]
  rw [rngW_nat (by omega)]
  have ei : (its.length : Int) + 1 = ((its.length + 1 : Nat) : Int) := by omega
  rw [ei]
  refine loopX_inv (KnI s d l c0 fc tr gr n (its.length + 1)) ⟨none, none, none, none, none, rfl, D, Fr.refl⟩ ?_ ?_
  · rintro p v lo s1 hv ⟨x5, x6, x7, x8, x9, rfl, D1, f1⟩
    obtain ⟨hp, rfl⟩ := rng_get hv
    have W1 := W.fr f1 hdl
    have T1 := f1.at hT hto
    have G1 := f1.at hG hgo
    have pL : p < L.length := by rw [W.ll]; exact hp
    have pG : p < G.length := by rw [W.bds.len, W.ll]; exact hp
    have ht : T[p]? = some T[p] := List.getElem?_eq_getElem (by omega)
    have hx : L[p]? = some L[p] := List.getElem?_eq_getElem pL
    have hg : G[p]? = some G[p] := List.getElem?_eq_getElem pG
    have hr' := R.2 p _ _ hx ht
    have bx := hL _ (List.mem_of_getElem? hx)
    have bg := hGb _ (List.mem_of_getElem? hg)
    generalize T[p] = t at ht hr'
    generalize L[p] = x at hx hr' bx
    generalize G[p] = g at hg bg
    have ht0 : 0 ≤ t := by rcases hr' with ⟨rfl, rfl⟩ | ⟨rfl, h⟩ <;> omega
    obtain ⟨y, hy⟩ := (Pn.win (items := its.length + 1) (g := g) (by omega) ht0 (by omega)).repr (by omega) (by omega)
    have due : ∀ {lo : Lo} {s' : Sto} {N : Vl → Sto → Prop} {E' : Ex → Sto → Prop}, lo[2]? = some (some (.ref tr)) → lo[3]? = some (some (.ref gr)) → lo[4]? = some (some (.int ((its.length + 1 : Nat) : Int))) → lo[5]? = some (some (.int (p : Nat))) → s'[tr]? = some (.lst (T.map Vl.int)) → s'[gr]? = some (.lst (G.map Vl.int)) → N (winV (its.length + 1) t g) s' →
        WE (eCB oTup (aCons (eIfM (tVal (eOp opLt (eOp opAdd (eOp opIx (eVar 2) (eVar 5)) (eC (.int 1))) (eVar 4))) (eOp opAdd (eOp opIx (eVar 2) (eVar 5)) (eC (.int 1))) (eC .non)) (aCons (eIfM (tVal (eOp opLt (eOp opIx (eVar 3) (eVar 5)) (eVar 4))) (eOp opIx (eVar 3) (eVar 5)) (eC .non)) aNil)) lo) s' N E' := fun q2 q3 q4 q5 qT qG kk => by
      unfold winV at kk
      by_cases h3 : t < (its.length : Int) <;> by_cases h4 : g < (its.length : Int) + 1 <;> simp [q2, q3, q4, q5, opIx_lst qT, opIx_lst qG, atN, ht, hg, h3, h4] at kk ⊢ <;> exact kk
    rw [WG_gNm, WS_sSeq, WS_sSet]
    refine due rfl rfl rfl rfl T1 G1 ?_
    simp [WE_eMeth]
    have fa1 : s1[fc]? = some (.ins 5 [("story", stV n its), ("told", .tup (told.map Vl.int)), ("asked_pairs", .ref ap), ("bounds", .ref bd)]) := W1.fa
    rw [methW_ins (m := "window") (tab := tabA 1 tab_window) (mf := arg 2 m_Facts_window) fa1 rfl (by simp [getS])]
    simp
    refine windowS W1 hn hi (by omega) hp hx hg hr' bx.2 fun s2 f2 => ?_
    simp [hy]
    rw [rngW_lit (n := 6) (by omega)]
    have F2 : Fr [d, l] s s2 := f1.trans (f2.mono (by simp))
    refine loopX_inv (KnJ s d l c0 fc tr gr n (its.length + 1) p (winV (its.length + 1) t g)) ⟨x7, x8, x9, rfl, (D1.new f2).mono (by omega), F2⟩ ?_ ?_
    · rintro q v lo s3 hv ⟨x7, x8, x9, rfl, D3, f3⟩
      obtain ⟨hq, rfl⟩ := rng_get hv
      simp
      refine draw D3 (by omega) (by omega) (by omega) fun r s4 hr4 D4 f4 => ?_
      have W4 := W.fr (f3.trans f4) hdl
      have T4 := (f3.trans f4).at hT hto
      have G4 := (f3.trans f4).at hG hgo
      have hm : (1 : Int) ≤ 1 + (r : Nat) := by omega
      obtain ⟨z, hz⟩ := (fate_pn (x := x) (g := g) (m := 1 + (r : Nat))).repr (by omega) (by omega)
      have fs := fate_same (g := g) hr' hm
      have st : ∀ {lo : Lo} {s' : Sto} {N : Vl → Sto → Prop} {E' : Ex → Sto → Prop}, lo[2]? = some (some (.ref tr)) → lo[3]? = some (some (.ref gr)) → lo[8]? = some (some (.int (1 + (r : Nat)))) → lo[5]? = some (some (.int (p : Nat))) → s'[tr]? = some (.lst (T.map Vl.int)) → s'[gr]? = some (.lst (G.map Vl.int)) → N (.str (fateW x g (1 + (r : Nat)))) s' →
          WE (eIfM (tVal (eOp opLe (eVar 8) (eOp opIx (eVar 2) (eVar 5)))) (eC (.str "there")) (eIfM (tVal (eOp opGe (eVar 8) (eOp opIx (eVar 3) (eVar 5)))) (eC (.str "gone")) (eC (.str "open"))) lo) s' N E' := fun q2 q3 q4 q5 qT qG kk => by
        rw [fs] at kk
        unfold fateW at kk
        by_cases h3 : 1 + (r : Int) ≤ t <;> by_cases h4 : g ≤ 1 + (r : Int) <;> simp [q2, q3, q4, q5, opIx_lst qT, opIx_lst qG, atN, ht, hg, h3, h4] at kk ⊢ <;> exact kk
      rw [opAdd_int, WO_some, WS_sSeq, WS_sSet]
      refine st rfl rfl rfl rfl T4 G4 ?_
      have fa4 : s4[fc]? = some (.ins 5 [("story", stV n its), ("told", .tup (told.map Vl.int)), ("asked_pairs", .ref ap), ("bounds", .ref bd)]) := W4.fa
      simp [WE_eMeth]
      rw [methW_ins (m := "fate") (tab := tabA 2 tab_fate) (mf := arg 3 m_Facts_fate) fa4 rfl (by simp [getS])]
      simp
      refine fateS W4 hx hg ?_
      simp [hz]
      exact ⟨_, _, _, rfl, D4.mono (by omega), f3.trans f4⟩
    · rintro lo s3 ⟨x7, x8, x9, rfl, D3, f3⟩
      rw [rng_len] at D3
      exact ⟨_, _, _, _, _, rfl, D3.mono (by omega), f3⟩
  · rintro lo s1 ⟨x5, x6, x7, x8, x9, rfl, D1, f1⟩
    rw [rng_len] at D1
    simp
    exact k s1 (D1.mono (by omega)) f1
theorem mkL {lo : Lo} {QS : Sto → Prop} (hn : n ≤ 8) (h11 : lo.length = 12) (k : QS (s ++ [.lst ((List.range n).map mkV)])) : WL (lcX (glN 11) tTrue (eCB oTup (aCons (eC (.str "make")) (aCons (eVar 11) aNil))) s.length lo (rng 0 n) (s ++ [.lst []])) QS := by
  refine lcX_p (xs := rng 0 n) s (fun v => match v with | .int i => some (.tup [.str "make", .int i]) | _ => none) rfl rfl (by simp; omega) ?_ ?_
  · intro v hv acc
    obtain ⟨i, hq⟩ := List.getElem?_of_mem hv
    obtain ⟨hi, rfl⟩ := rng_get hq
    refine ⟨_, rfl, ?_⟩
    simp [tTrue, h11]
  · have e : (rng 0 n).filterMap (fun v => match v with | .int i => some (.tup [.str "make", .int i]) | _ => none) = (List.range n).map mkV := by
      unfold rng
      rw [List.filterMap_map, ← List.filterMap_eq_map]
      congr 1
      funext i
      simp [mkV]
    rw [e]
    exact k
/-- behind i moments -/
def BuI (s : Sto) (d l c0 n items : Nat) (i : Nat) (lo : Lo) (s' : Sto) : Prop := ∃ (its : List It) (na : Int) (x3 x8 x9 x10 x11 : Option Vl), lo = [some (.ref d), some (.int (n : Nat)), some (.int (items : Nat)), x3, some (.ref (s.length + 1)), some (.ref (s.length + 3)), some (.ref (s.length + 5)), some (.int na), x8, x9, x10, x11] ∧ its.length = i ∧ (∀ it ∈ its, it.ok n) ∧
  s'[s.length + 1]? = some (.lst (mkI n :: its.map It.vl)) ∧ s'[s.length + 3]? = some (.lst ((stOf n its).map Vl.bl)) ∧ s'[s.length + 5]? = some (.lst ((lastK n (List.replicate n 0) its i).map Vl.int)) ∧ Dk s' d l (c0 + 3 * i) ∧ Fr [d, l] s s'
def BuJ (s : Sto) (d l c0 n items i : Nat) (its : List It) (na : Int) (x9 x10 x11 : Option Vl) (p : Nat) (lo : Lo) (s' : Sto) : Prop := (∃ x8, lo = [some (.ref d), some (.int (n : Nat)), some (.int (items : Nat)), some (.int ((i + 1 : Nat) : Int)), some (.ref (s.length + 1)), some (.ref (s.length + 3)), some (.ref (s.length + 5)), some (.int na), x8, x9, x10, x11]) ∧ s'[s.length + 1]? = some (.lst (mkI n :: its.map It.vl)) ∧ s'[s.length + 3]? = some (.lst ((stOf n its).map Vl.bl)) ∧ s'[s.length + 5]? = some (.lst (((lstep (i + 1) (stOf n its) (lastK n (List.replicate n 0) its i)).take p ++ (lastK n (List.replicate n 0) its i).drop p).map Vl.int)) ∧ Dk s' d l (c0 + 3 * i) ∧ Fr [d, l] s s'
theorem builtS {items : Nat} (D : Dk s d l c0) (hc0 : c0 < 900000) (hn : n ≤ 8) (h0 : 1 ≤ n) (hi1 : 200 ≤ items) (hi2 : items ≤ 900)
    (k : ∀ its lr s', its.length + 1 = items → (∀ it ∈ its, It.ok n it) → s'[lr]? = some (.lst ((lastK n (List.replicate n 0) its its.length).map Vl.int)) → s.length ≤ lr → Dk s' d l (c0 + 3 * items) → Fr [d, l] s s' → Q (.tup [stV n its, .ref lr]) s') : WE (m__law_built [.ref d, .int (n : Nat), .int (items : Nat)]) s Q E := by
  unfold m__law_built b__law_built
  have dl := D.lt
  simp
  rw [rngW_nat (by omega)]
  refine mkL hn rfl ?_
  simp [oTuple_lst get_last]
  have m1 : (s ++ [Ob.lst ((List.range n).map mkV), Ob.lst [Vl.tup ((List.range n).map mkV)], Ob.lst [Vl.bl false]])[s.length + 2]? = some (.lst [Vl.bl false]) := by simp
  have o1 := opMul_one (n := n) m1 (by omega)
  simp at o1
  simp [o1]
  have m2 : (s ++ [Ob.lst ((List.range n).map mkV), Ob.lst [Vl.tup ((List.range n).map mkV)], Ob.lst [Vl.bl false], Ob.lst (List.replicate n (Vl.bl false)), Ob.lst [Vl.int 0]])[s.length + 4]? = some (.lst [Vl.int 0]) := by simp
  have o2 := opMul_one (n := n) m2 (by omega)
  simp at o2
  simp [o2]
  generalize hs1 : (s ++ [Ob.lst ((List.range n).map mkV), Ob.lst [Vl.tup ((List.range n).map mkV)], Ob.lst [Vl.bl false], Ob.lst (List.replicate n (Vl.bl false)), Ob.lst [Vl.int 0], Ob.lst (List.replicate n (Vl.int 0))]) = s1
  have f1 : Fr [] s s1 := hs1 ▸ Fr.refl.app _
  have e1 : s1[s.length + 1]? = some (.lst [mkI n]) := by rw [← hs1]; simp [mkI]
  have e2 : s1[s.length + 3]? = some (.lst (List.replicate n (Vl.bl false))) := by rw [← hs1]; simp
  have e3 : s1[s.length + 5]? = some (.lst (List.replicate n (Vl.int 0))) := by rw [← hs1]; simp
  clear hs1 o1 o2 m1 m2
  have lt5 := lt_of_get e3
  rw [rng2W_int (by omega) (by omega) (by omega) (by omega)]
  refine loopX_inv (BuI s d l c0 n items) ?_ ?_ ?_
  · exact ⟨[], 0, none, none, none, none, none, rfl, rfl, by simp, by simpa using e1, by simpa [stOf] using e2, by simpa [lastK] using e3, D.new f1, f1.mono (by simp)⟩
  · rintro i v lo s2 hv ⟨its, na, x3, x8, x9, x10, x11, rfl, hil, hok, g1, g2, g3, D2, F2⟩
    obtain ⟨hi, rfl⟩ := rng_get2 hv
    have hm : (1 : Int) + (i : Nat) = ((i + 1 : Nat) : Int) := by omega
    have le2 := F2.le
    have lg5 := lt_of_get g3
    have hl : (lastK n (List.replicate n 0) its i).length = n := lastK_len (by simp) i
    have hsl : (stOf n its).length = (lastK n (List.replicate n 0) its i).length := by rw [stOf_len, hl]
    rw [hm]
    simp
    rw [rngW_nat (by omega)]
    -- the last moments
    refine loopX_inv (BuJ s d l c0 n items i its na x9 x10 x11) ⟨⟨x8, rfl⟩, g1, g2, by simpa using g3, D2, F2⟩ ?_ ?_
    · rintro p v lo s3 hv ⟨⟨x8, rfl⟩, h1, h2, h3, D3, F3⟩
      obtain ⟨hp, rfl⟩ := rng_get hv
      have pS : p < (stOf n its).length := by rw [stOf_len]; exact hp
      have pL : p < (lastK n (List.replicate n 0) its i).length := by omega
      have hbb : (stOf n its)[p]? = some (stOf n its)[p] := List.getElem?_eq_getElem pS
      have hx : (lastK n (List.replicate n 0) its i)[p]? = some (lastK n (List.replicate n 0) its i)[p] := List.getElem?_eq_getElem pL
      generalize (stOf n its)[p] = bb at hbb
      generalize (lastK n (List.replicate n 0) its i)[p] = x at hx
      have ps := part_set (m := i + 1) hsl hbb hx
      have pg := part_get (m := i + 1) hsl hx
      generalize hP : (lstep (i + 1) (stOf n its) (lastK n (List.replicate n 0) its i)).take p ++ (lastK n (List.replicate n 0) its i).drop p = P at h3 ps pg
      have pP := (List.getElem?_eq_some_iff.mp pg).1
      have ixp := ixN_nat pP
      have dl3 := D3.lt
      have fin : ∀ v : Int, (lstep (i + 1) (stOf n its) (lastK n (List.replicate n 0) its i)).take (p + 1) ++ (lastK n (List.replicate n 0) its i).drop (p + 1) = P.set p v → (s3.set (s.length + 5) (Ob.lst ((P.map Vl.int).set p (.int v))))[s.length + 1]? = some (.lst (mkI n :: its.map It.vl)) ∧ (s3.set (s.length + 5) (Ob.lst ((P.map Vl.int).set p (.int v))))[s.length + 3]? = some (.lst ((stOf n its).map Vl.bl)) ∧ (s3.set (s.length + 5) (Ob.lst ((P.map Vl.int).set p (.int v))))[s.length + 5]? = some (.lst (((lstep (i + 1) (stOf n its) (lastK n (List.replicate n 0) its i)).take (p + 1) ++ (lastK n (List.replicate n 0) its i).drop (p + 1)).map Vl.int)) ∧ Dk (s3.set (s.length + 5) (Ob.lst ((P.map Vl.int).set p (.int v)))) d l (c0 + 3 * i) ∧ Fr [d, l] s (s3.set (s.length + 5) (Ob.lst ((P.map Vl.int).set p (.int v)))) := fun v hv => by
        have ff : Fr [s.length + 5] s3 (s3.set (s.length + 5) (Ob.lst ((P.map Vl.int).set p (.int v)))) := Fr.refl.set (by simp)
        exact ⟨by rw [get_set_ne (by omega)]; exact h1, by rw [get_set_ne (by omega)]; exact h2, by rw [get_set_self h3, hv, List.map_set], D3.fr ff (by simp; omega) (by simp; omega), F3.set (Or.inr (by omega))⟩
      cases bb with
      | true =>
        simp [opIx_lst h2, atN, hbb, opSet_lst h3, ixp]
        exact ⟨⟨_, rfl⟩, fin ((i + 1 : Nat) : Int) (by rw [ps]; rfl)⟩
      | false =>
        simp [opIx_lst h2, atN, hbb, opIx_lst h3, pg, opSet_lst h3, ixp]
        have e : P.set p x = P := by
          refine List.ext_getElem? fun q => ?_
          by_cases z : q = p
          · subst z; rw [List.getElem?_set_self pP, pg]
          · rw [List.getElem?_set_ne (Ne.symm z)]
        exact ⟨⟨_, rfl⟩, fin x (by rw [ps, e]; rfl)⟩
    · rintro lo s3 ⟨⟨x8, rfl⟩, h1, h2, h3, D3, F3⟩
      rw [rng_len, List.take_of_length_le (by rw [lstep_len hsl]; omega), List.drop_eq_nil_of_le (by omega), List.append_nil] at h3
      simp
      refine draw D3 (by omega) (by omega) (by omega) fun c s4 hc D4 f4 => ?_
      simp
      refine draw D4 (by omega) (by omega) (by omega) fun way s5 hway D5 f5 => ?_
      have dl3 := D3.lt
      have nn : ∀ z, s.length ≤ z → z ∉ [d, l] := fun z hz => by simp; omega
      have F5 := (F3.trans f4).trans f5
      have h15 := f5.at (f4.at h1 (nn _ (by omega))) (nn _ (by omega))
      have h25 := f5.at (f4.at h2 (nn _ (by omega))) (nn _ (by omega))
      have h35 := f5.at (f4.at h3 (nn _ (by omega))) (nn _ (by omega))
      have hcn : c < n := by omega
      have endT : ∀ (it : It) (na' : Int) (s' : Sto) (y8 y9 y10 : Option Vl), it.ok n → s'[s.length + 1]? = some (.lst (mkI n :: its.map It.vl)) → s'[s.length + 3]? = some (.lst ((stStep (stOf n its) it).map Vl.bl)) → s'[s.length + 5]? = some (.lst ((lstep (i + 1) (stOf n its) (lastK n (List.replicate n 0) its i)).map Vl.int)) → Dk s' d l (c0 + 3 * i + 3) → Fr [d, l] s s' →
          BuI s d l c0 n items (i + 1) [some (.ref d), some (.int (n : Nat)), some (.int (items : Nat)), some (.int ((i + 1 : Nat) : Int)), some (.ref (s.length + 1)), some (.ref (s.length + 3)), some (.ref (s.length + 5)), some (.int na'), y8, y9, y10, x11] (s'.set (s.length + 1) (Ob.lst (mkI n :: (its.map It.vl ++ [it.vl])))) := fun it na' s' y8 y9 y10 ok' q1 q2 q3 q4 q5 => by
        have ff : Fr [s.length + 1] s' (s'.set (s.length + 1) (Ob.lst (mkI n :: (its.map It.vl ++ [it.vl])))) := Fr.refl.set (by simp)
        refine ⟨its ++ [it], na', _, _, _, _, _, rfl, by simp [hil], fun z hz => ?_, by rw [get_set_self q1]; simp, by rw [get_set_ne (by omega), stOf_app]; exact q2, ?_, (q4.fr ff (by simp; omega) (by simp; omega)).mono (by omega), q5.set (Or.inr (by omega))⟩
        · rcases List.mem_append.mp hz with hz | hz
          · exact hok z hz
          · simp at hz; subst hz; exact ok'
        · rw [get_set_ne (by omega), q3]
          simp only [lastK]
          rw [lastK_app i (by omega), List.take_append_of_le_length (by omega), List.take_of_length_le (by omega)]
      have app : ∀ {s' : Sto} {it : It}, s'[s.length + 1]? = some (.lst (mkI n :: its.map It.vl)) → oAppend (.ref (s.length + 1)) [it.vl] s' = some (.non, s'.set (s.length + 1) (Ob.lst (mkI n :: (its.map It.vl ++ [it.vl])))) := fun q => by
        rw [oAppend_lst q (limC (by simp; omega))]
        rfl
      by_cases hw : way < 2
      · have hw' : (way : Int) < 2 := by omega
        simp [hw, hw']
        refine draw D5 (by omega) (by omega) (by omega) fun r s6 hr D6 f6 => ?_
        have h16 := f6.at h15 (nn _ (by omega))
        have h26 := f6.at h25 (nn _ (by omega))
        have h36 := f6.at h35 (nn _ (by omega))
        have F6 := F5.trans f6
        have hcs : c < (stOf n its).length := by rw [stOf_len]; exact hcn
        obtain ⟨bb, hbb⟩ : ∃ bb : Bool, bb = decide ((r : Int) < (items : Int) / 2) := ⟨_, rfl⟩
        simp [opSet_lst h26, ixN_nat hcs, ← hbb]
        have ff : Fr [s.length + 3] s6 (s6.set (s.length + 3) (Ob.lst (((stOf n its).map Vl.bl).set c (.bl bb)))) := Fr.refl.set (by simp)
        have k1 : (s6.set (s.length + 3) (Ob.lst (((stOf n its).map Vl.bl).set c (.bl bb))))[s.length + 3]? = some (.lst (((stOf n its).set c bb).map Vl.bl)) := by rw [get_set_self h26, List.map_set]
        have k2 := ff.at h16 (by simp)
        have k3 := ff.at h36 (by simp)
        have D7 := D6.fr ff (by simp; omega) (by simp; omega)
        have F7 : Fr [d, l] s (s6.set (s.length + 3) (Ob.lst (((stOf n its).map Vl.bl).set c (.bl bb)))) := F6.set (Or.inr (by omega))
        generalize (s6.set (s.length + 3) (Ob.lst (((stOf n its).map Vl.bl).set c (.bl bb)))) = s7 at ff k1 k2 k3 D7 F7
        have lg : ((c : Nat) : Int).natAbs.log2 < 1920 := by
          have : ((c : Nat) : Int).natAbs = c := by omega
          rw [this]
          have : ∀ j : Fin 8, j.val.log2 < 1920 := by decide
          exact this ⟨c, by omega⟩
        have ln : ("n" : Str).length + (Str.ofString (toString ((c : Nat) : Int))).length ≤ LIM := by
          have : ∀ j : Fin 8, ("n" : Str).length + (Str.ofString (toString ((j.val : Nat) : Int))).length ≤ 1000000 := by decide +kernel
          exact limB (this ⟨c, by omega⟩)
        have hget : ((stOf n its).set c bb)[c]? = some bb := List.getElem?_set_self hcs
        have hopx : opIx (.ref (s.length + 3)) (.int (c : Nat)) s7 = some (.bl bb, s7) := by
          rw [opIx_lst k1, atN, List.getElem?_map, hget]
          rfl
        simp [oStr_int lg, WO_addS]
        refine ⟨ln, ?_⟩
        cases bb with
        | true =>
          have ap : oAppend (.ref (s.length + 1)) [.tup [.tup [.str "stand", .str ("n" ++ Str.ofString (Int.repr (c : Nat))), .int (c : Nat)]]] s7 = some (.non, s7.set (s.length + 1) (Ob.lst (mkI n :: (its.map It.vl ++ [(It.stand c true).vl])))) := app (it := .stand c true) k2
          simp [hopx, kd_lst k2, ap]
          exact endT (.stand c true) na s7 _ _ _ hcn k2 k1 k3 (D7.mono (by omega)) F7
        | false =>
          have ap : oAppend (.ref (s.length + 1)) [.tup [.tup [.str "stand", .str ("n" ++ Str.ofString (Int.repr (c : Nat))), .non]]] s7 = some (.non, s7.set (s.length + 1) (Ob.lst (mkI n :: (its.map It.vl ++ [(It.stand c false).vl])))) := app (it := .stand c false) k2
          simp [hopx, kd_lst k2, ap]
          exact endT (.stand c false) na s7 _ _ _ hcn k2 k1 k3 (D7.mono (by omega)) F7
      · have hw' : ¬ (way : Int) < 2 := by omega
        by_cases ha : na < 200
        · have ap : oAppend (.ref (s.length + 1)) [.tup [.tup [.str "ask", .int (c : Nat)]]] s5 = some (.non, s5.set (s.length + 1) (Ob.lst (mkI n :: (its.map It.vl ++ [(It.ask c).vl])))) := app (it := .ask c) h15
          simp [hw, hw', ha, kd_lst h15, ap]
          exact endT (.ask c) (na + 1) s5 _ _ _ hcn h15 h25 h35 (D5.mono (by omega)) F5
        · have ap : oAppend (.ref (s.length + 1)) [.tup []] s5 = some (.non, s5.set (s.length + 1) (Ob.lst (mkI n :: (its.map It.vl ++ [It.no.vl])))) := app (it := .no) h15
          simp [hw, hw', ha, kd_lst h15, ap]
          exact endT .no na s5 _ _ _ trivial h15 h25 h35 (D5.mono (by omega)) F5
  · rintro lo s2 ⟨its, na, x3, x8, x9, x10, x11, rfl, hil, hok, g1, g2, g3, D2, F2⟩
    rw [rng_len2] at hil g3 D2
    have e : ((items : Int) - 1).toNat = items - 1 := by omega
    rw [e] at hil g3 D2
    simp [oTuple_lst g1]
    rw [← hil] at g3
    exact k its (s.length + 5) s2 (by omega) hok g3 (by omega) (D2.mono (by omega)) F2
end
end K36

/-! L36: the law -/
namespace K36
open PySem L2 Sm
theorem qs_pre {its : List It} {j : Nat} : ∀ k, j ≤ k → qsOf its j <+: qsOf its k
  | 0, h => by
    have : j = 0 := by omega
    subst this
    exact List.prefix_refl _
  | k + 1, h => by
    by_cases e : j = k + 1
    · subst e; exact List.prefix_refl _
    · have := qs_pre (its := its) (j := j) k (by omega)
      exact this.trans (List.prefix_append _ _)
theorem qs_get {its : List It} {j c : Nat} (h : its[j]? = some (.ask c)) : (qsOf its its.length)[(qsOf its j).length]? = some (j + 1, c) := by
  have hj := (List.getElem?_eq_some_iff.mp h).1
  have p := qs_pre (its := its) (j := j + 1) its.length (by omega)
  have e : qsOf its (j + 1) = qsOf its j ++ [(j + 1, c)] := by simp only [qsOf, h]
  obtain ⟨t, ht⟩ := p
  rw [← ht, e, List.append_assoc]
  simp
structure Lw (s : Sto) (d l c0 a b fc ap mr hr tr gr n : Nat) (its : List It) (i bd lt fg wt wg : Nat) (told L T G : List Int) : Prop where
  W : Wd s a b fc ap bd mr hr lt fg wt wg n its told L G
  D : Dk s d l (c0 + 60 * i)
  tl : told.length = (qsOf its i).length
  sT : s[tr]? = some (.lst (T.map Vl.int))
  sG : s[gr]? = some (.lst (G.map Vl.int))
  R : Rls L T
  hL : ∀ x ∈ L, -1 ≤ x ∧ x ≤ its.length
  hG : ∀ x ∈ G, -1 ≤ x ∧ x ≤ its.length + 1
  sep : ∀ (c : Nat) (x y : Int), L[c]? = some x → G[c]? = some y → x < y
  dl : ∀ x ∈ [d, l, tr, gr], (x < a ∨ b ≤ x) ∧ x ∉ [fc, bd, lt, fg, wt, wg]
  nd : tr ∉ [d, l] ∧ gr ∉ [d, l] ∧ tr ≠ gr
theorem mem_set' {α : Type} {xs : List α} {i : Nat} {v x : α} (h : x ∈ xs.set i v) : x ∈ xs ∨ x = v := List.mem_or_eq_of_mem_set h
theorem get_set_cases {xs : List Int} {c c' : Nat} {v x : Int} (h : (xs.set c v)[c']? = some x) : (c' = c ∧ x = v) ∨ (c' ≠ c ∧ xs[c']? = some x) := by
  by_cases e : c' = c
  · subst e
    have hl := (List.getElem?_eq_some_iff.mp h).1
    rw [List.length_set] at hl
    rw [List.getElem?_set_self hl] at h
    exact Or.inl ⟨rfl, (Option.some.inj h).symm⟩
  · rw [List.getElem?_set_ne (Ne.symm e)] at h
    exact Or.inr ⟨e, h⟩
theorem set_same {xs : List Int} {c : Nat} {x : Int} (h : xs[c]? = some x) : xs.set c x = xs := by
  refine List.ext_getElem? fun q => ?_
  by_cases z : q = c
  · subst z; rw [List.getElem?_set_self (List.getElem?_eq_some_iff.mp h).1, h]
  · rw [List.getElem?_set_ne (Ne.symm z)]
theorem rl_le {x t : Int} (h : rl x t) : x ≤ t ∧ 0 ≤ t := by rcases h with ⟨rfl, rfl⟩ | ⟨rfl, _⟩ <;> omega
/-- the counts stay apart -/
theorem apart {L G : List Int} {c m : Nat} {ans x t g : Int} (sep : ∀ (c : Nat) (x y : Int), L[c]? = some x → G[c]? = some y → x < y) (hx : L[c]? = some x) (hg : G[c]? = some g) (hr : rl x t) (hm : 1 ≤ m) (h01 : ans = 0 ∨ ans = 1) (h1 : (m : Int) ≤ t → ans = 0) (h2 : t < (m : Int) → g ≤ m → ans = 1) :
    ∀ (c' : Nat) (x y : Int), (newL L c m ans)[c']? = some x → (newG G c m ans)[c']? = some y → x < y := by
  intro c' x' y' e1 e2
  have s0 := sep c x g hx hg
  rcases h01 with rfl | rfl
  · have el : newL L c m 0 = if x < m then L.set c m else L := by simp [newL, hx]
    have eg : newG G c m 0 = G := by simp [newG]
    rw [eg] at e2
    rw [el] at e1
    by_cases q : x < m
    · rw [if_pos q] at e1
      rcases get_set_cases e1 with ⟨rfl, rfl⟩ | ⟨_, e1⟩
      · rw [hg] at e2
        cases e2
        have : ¬ (m : Int) ≤ t := by rcases hr with ⟨rfl, rfl⟩ | ⟨rfl, _⟩ <;> omega
        rcases Int.lt_or_le (m : Int) g with z | z
        · exact z
        · have := h2 (by omega) z
          omega
      · exact sep c' x' y' e1 e2
    · rw [if_neg q] at e1
      exact sep c' x' y' e1 e2
  · have el : newL L c m 1 = L := by simp [newL]
    have eg : newG G c m 1 = if (m : Int) < g then G.set c m else G := by simp [newG, hg]
    rw [el] at e1
    rw [eg] at e2
    by_cases q : (m : Int) < g
    · rw [if_pos q] at e2
      rcases get_set_cases e2 with ⟨rfl, rfl⟩ | ⟨_, e2⟩
      · rw [hx] at e1
        cases e1
        have := rl_le hr
        rcases Int.lt_or_le t (m : Int) with z | z
        · omega
        · have := h1 z
          omega
      · exact sep c' x' y' e1 e2
    · rw [if_neg q] at e2
      exact sep c' x' y' e1 e2
/-- behind i items -/
def LaI (ns : List Int) (d l c0 a b fc ap mr hr tr gr n : Nat) (its : List It) (i : Nat) (lo : Lo) (s : Sto) : Prop := ∃ (bd lt fg wt wg num : Nat) (told L T G : List Int) (x9 x10 x11 x12 x13 : Option Vl), lo = [some (.scr ns), some (.ref d), some (.int (n : Nat)), some (.int ((its.length + 1 : Nat) : Int)), some (stV n its), some (.ref tr), some (.ref fc), some (.ref gr), some (.int (num : Nat)), x9, x10, x11, x12, x13] ∧ Lw s d l c0 a b fc ap mr hr tr gr n its (i - 1) bd lt fg wt wg told L T G
theorem rls_set {L T : List Int} {c m : Nat} {x t : Int} (R : Rls L T) (hx : L[c]? = some x) (ht : T[c]? = some t) (hm : 1 ≤ m) : Rls (newL L c m 0) (T.set c (if t < (m : Int) then (m : Int) else t)) := by
  have el : newL L c m 0 = if x < m then L.set c m else L := by simp [newL, hx]
  have hr := R.2 c x t hx ht
  refine ⟨by rw [newL_len, List.length_set]; exact R.1, fun i u v h1 h2 => ?_⟩
  rw [el] at h1
  rcases get_set_cases h2 with ⟨rfl, rfl⟩ | ⟨hne, h2⟩
  · by_cases q : x < (m : Int)
    · rw [if_pos q] at h1
      rcases get_set_cases h1 with ⟨_, rfl⟩ | ⟨z, _⟩
      · have : t < (m : Int) := by rcases hr with ⟨rfl, rfl⟩ | ⟨rfl, _⟩ <;> omega
        rw [if_pos this]
        exact Or.inr ⟨rfl, by omega⟩
      · exact absurd rfl z
    · rw [if_neg q] at h1
      rw [hx] at h1
      cases h1
      have : ¬ t < (m : Int) := by rcases hr with ⟨rfl, rfl⟩ | ⟨rfl, _⟩ <;> omega
      rw [if_neg this]
      exact hr
  · by_cases q : x < (m : Int)
    · rw [if_pos q] at h1
      rcases get_set_cases h1 with ⟨z, _⟩ | ⟨_, h1⟩
      · exact absurd z hne
      · exact R.2 i u v h1 h2
    · rw [if_neg q] at h1
      exact R.2 i u v h1 h2
theorem newG_set {G : List Int} {c m : Nat} {g : Int} (hg : G[c]? = some g) : G.set c (if (m : Int) < g then (m : Int) else g) = newG G c m 1 := by
  have eg : newG G c m 1 = if (m : Int) < g then G.set c m else G := by simp [newG, hg]
  rw [eg]
  by_cases q : (m : Int) < g
  · rw [if_pos q, if_pos q]
  · rw [if_neg q, if_neg q, set_same hg]
def LaJ (ns : List Int) (d l c0 a b fc ap mr hr tr gr n : Nat) (its : List It) (p : Nat) (lo : Lo) (s : Sto) : Prop := LaI ns d l c0 a b fc ap mr hr tr gr n its 1 lo s
theorem repr0 {s : Sto} : oRepr [.int 0] s = some (.str "0", s) := by
  have e1 : (PyData.int 0).showable = true := by decide
  have e2 : (PyData.int 0).shown = ("0" : Str) := by decide
  have e3 : ("0" : Str).length ≤ LIM := limB (by decide)
  simp only [oRepr, toD, e1, e2, e3, decide_true, Bool.and_self, if_true]
theorem pure_law : ∀ ns : List Int, ns.length ≤ 63 → ∃ st, m_law [.scr ns] [] = .ok (.bl true) st := by
  intro ns hns
  have key : WE (m_law [.scr ns]) [] (fun v _ => v = .bl true) NoX := by
    unfold m_law b_law
    generalize hKn : (sIf (tAndM (tVal (eOp opEq (eOp opMod (eVar 8) (eC (.int 20))) (eC (.int 0)))) (tNotM (tVal (eCall (arg 4 m__law_known) (aCons (eVar 1) (aCons (eVar 6) (aCons (eVar 5) (aCons (eVar 7) aNil)))))))) (sRet (eC (.bl false))) sNil) = bK
    simp
    refine deck hns fun d l s1 D1 f1 => ?_
    simp
    refine draw D1 (by omega) (by omega) (by omega) fun r1 s2 h1 D2 f2 => ?_
    simp
    refine draw D2 (by omega) (by omega) (by omega) fun r2 s3 h2 D3 f3 => ?_
    have e1 : (1 : Int) + (r1 : Nat) = ((r1 + 1 : Nat) : Int) := by omega
    have e2 : (200 : Int) + (r2 : Nat) = ((r2 + 200 : Nat) : Int) := by omega
    simp
    rw [e1, e2]
    generalize hn : r1 + 1 = n
    generalize hit : r2 + 200 = items
    refine builtS D3 (by omega) (by omega) (by omega) (by omega) (by omega) fun its tr s4 hl hok hT htr D4 f4 => ?_
    have dl4 := D4.lt
    have trl := lt_of_get hT
    have ltd := D3.lt
    simp [WE_eMake]
    refine factsS (by omega) (by omega) (by omega) hok fun s5 a b ap bd mr hr lt fg wt wg W5 ha hbs f5 => ?_
    have T5 := f5.at hT (by simp)
    have D5 := D4.new f5
    subst hl
    have om := opMul_one (s := s5 ++ [Ob.lst [Vl.int ((its.length + 1 : Nat) : Int)]]) (a := s5.length) (x := Vl.int ((its.length + 1 : Nat) : Int)) (n := n) get_last (by omega)
    simp at om
    have ei : (its.length : Int) + 1 = ((its.length + 1 : Nat) : Int) := by omega
    simp [om]
    generalize hs6 : s5 ++ [Ob.lst [Vl.int ((its.length : Int) + 1)], Ob.lst (List.replicate n (Vl.int ((its.length : Int) + 1)))] = s6
    have f6 : Fr [] s5 s6 := hs6 ▸ Fr.refl.app _
    have g6 : s6[s5.length + 1]? = some (.lst ((List.replicate n ((its.length + 1 : Nat) : Int)).map Vl.int)) := by rw [← hs6]; simp
    clear hs6 om
    have W6 := W5.fr f6 (by simp)
    have hout := W5.out
    have hwb := W5.hb
    have fcl : s4.length < s5.length := by
      have := lt_of_get W5.fa
      omega
    have start : Lw s6 d l (2 + 3 * (its.length + 1)) a b s4.length ap mr hr tr (s5.length + 1) n its 0 bd lt fg wt wg [] (lastK n (List.replicate n (-1)) its its.length) (lastK n (List.replicate n 0) its its.length) (List.replicate n ((its.length + 1 : Nat) : Int)) := by
      refine ⟨W6, (D5.new f6).mono (by omega), rfl, f6.at T5 (by simp), g6, rls_last _, fun x hx => ?_, fun x hx => ?_, fun c x y hx hy => ?_, ?_, ?_⟩
      · exact last_le (B := its.length) (fun x hx => by have := List.eq_of_mem_replicate hx; omega) its.length (Nat.le_refl _) x hx
      · have := List.eq_of_mem_replicate hx
        omega
      · have q1 := last_le (B := its.length) (n := n) (l0 := List.replicate n (-1)) (its := its) (fun x hx => by have := List.eq_of_mem_replicate hx; omega) its.length (Nat.le_refl _) x (List.mem_of_getElem? hx)
        have q2 := List.eq_of_mem_replicate (List.mem_of_getElem? hy)
        omega
      · intro x hx
        simp at hbs
        simp at hx
        rcases hx with rfl | rfl | rfl | rfl
        · exact ⟨Or.inl (by omega), by simp; omega⟩
        · exact ⟨Or.inl (by omega), by simp; omega⟩
        · exact ⟨Or.inl (by omega), by simp; omega⟩
        · exact ⟨Or.inr (by omega), by simp; omega⟩
      · simp; omega
    show WS (loopX _ _ (enmL (mkI n :: its.map It.vl))) _ _ _
    refine loopX_inv (LaI ns d l (2 + 3 * (its.length + 1)) a b s4.length ap mr hr tr (s5.length + 1) n its) ?_ ?_ ?_
    · exact ⟨bd, lt, fg, wt, wg, 0, [], _, _, _, none, none, none, none, none, rfl, start⟩
    · clear start W6 g6 f6 W5 hout
      generalize s5.length + 1 = gr
      generalize s4.length = fc
      have hc0 : 2 + 3 * (its.length + 1) ≤ 3000 := by omega
      have hits : its.length ≤ 900 ∧ 1 ≤ its.length := by omega
      have hn8 : n ≤ 8 := by omega
      generalize 2 + 3 * (its.length + 1) = c0 at hc0
      rintro i v lo s7 hv ⟨bd, lt, fg, wt, wg, num, told, L, T, G, x9, x10, x11, x12, x13, rfl, Lw7⟩
      obtain ⟨x, hx, rfl⟩ := enm_get hv
      have hil : i < its.length + 1 := by
        have := (List.getElem?_eq_some_iff.mp hx).1
        simpa using this
      cases i with
      | zero =>
        simp at hx
        subst hx
        unfold mkI
        simp
        refine loopX_inv (LaJ ns d l c0 a b fc ap mr hr tr gr n its) ⟨bd, lt, fg, wt, wg, num, told, L, T, G, _, _, _, _, _, rfl, Lw7⟩ ?_ ?_
        · rintro p v lo s8 hv ⟨bd, lt, fg, wt, wg, num, told, L, T, G, x9, x10, x11, x12, x13, rfl, Lw8⟩
          obtain ⟨k, _, rfl⟩ := get_map hv
          unfold mkV
          simp
          exact ⟨bd, lt, fg, wt, wg, num, told, L, T, G, _, _, _, _, _, rfl, Lw8⟩
        · rintro lo s8 ⟨bd, lt, fg, wt, wg, num, told, L, T, G, x9, x10, x11, x12, x13, rfl, Lw8⟩
          exact ⟨bd, lt, fg, wt, wg, num, told, L, T, G, _, _, _, _, _, rfl, Lw8⟩
      | succ j =>
        simp only [List.getElem?_cons_succ] at hx
        obtain ⟨it, hit, rfl⟩ := get_map hx
        have hjl : j < its.length := by omega
        simp only [Nat.add_sub_cancel] at Lw7
        have skip : ∀ {x9 x10 x11 x12 x13 : Option Vl}, (∀ c, it ≠ .ask c) → LaI ns d l c0 a b fc ap mr hr tr gr n its (j + 1 + 1) [some (.scr ns), some (.ref d), some (.int (n : Nat)), some (.int ((its.length + 1 : Nat) : Int)), some (stV n its), some (.ref tr), some (.ref fc), some (.ref gr), some (.int (num : Nat)), x9, x10, x11, x12, x13] s7 := fun hne => by
          obtain ⟨W, D, tl, sT, sG, R, hL, hG, sep, dl, nd⟩ := Lw7
          refine ⟨bd, lt, fg, wt, wg, num, told, L, T, G, _, _, _, _, _, rfl, W, D.mono (by omega), ?_, sT, sG, R, hL, hG, sep, dl, nd⟩
          rw [tl]
          simp only [Nat.add_sub_cancel, qsOf, hit]
          cases it with
          | no => simp
          | stand c b => simp
          | ask c => exact absurd rfl (hne c)
        cases it with
        | no =>
          simp [It.vl, WS_loopX_nil]
          exact skip (by simp)
        | stand c bb =>
          simp [It.vl, WS_loopX_nil, WS_loopX_cons]
          exact skip (by simp)
        | ask c =>
          have hcn : c < n := hok _ (List.mem_of_getElem? hit)
          obtain ⟨W, D, tl, sT, sG, R, hL, hG, sep, dl, nd⟩ := Lw7
          have pL : c < L.length := by rw [W.ll]; exact hcn
          have pT : c < T.length := by rw [← R.1]; exact pL
          have pG : c < G.length := by rw [W.bds.len]; exact pL
          have hx : L[c]? = some L[c] := List.getElem?_eq_getElem pL
          have ht : T[c]? = some T[c] := List.getElem?_eq_getElem pT
          have hg : G[c]? = some G[c] := List.getElem?_eq_getElem pG
          have hrl := R.2 c _ _ hx ht
          generalize L[c] = x at hx hrl
          generalize T[c] = t at ht hrl
          generalize G[c] = g at hg
          have ej : ((j : Int) + 1) = ((j + 1 : Nat) : Int) := by omega
          simp [It.vl, WS_loopX_nil, WS_loopX_cons]
          rw [ej]
          refine answerS D (by omega) sT sG ht hg fun ans s8 h01 ha1 ha2 D8 f8 => ?_
          have o2 : ∀ x ∈ [d, l], (x < a ∨ b ≤ x) ∧ x ∉ [fc, bd, lt, fg, wt, wg] := fun x hx => dl x (by simp at hx ⊢; omega)
          have W8 := W.fr f8 o2
          have T8 := f8.at sT nd.1
          have G8 := f8.at sG nd.2.1
          have fa8 : s8[fc]? = some (.ins 5 [("story", stV n its), ("told", .tup (told.map Vl.int)), ("asked_pairs", .ref ap), ("bounds", .ref bd)]) := W8.fa
          simp [WE_eMeth]
          rw [methW_ins (m := "tell") (tab := tabA 1 tab_tell) (mf := arg 2 m_Facts_tell) fa8 rfl (by simp [getS])]
          simp
          have ap8 := apart sep hx hg hrl (m := j + 1) (by omega) h01 ha1 ha2
          refine tellS W8 hn8 hits.1 (by omega) (by rw [tl]; exact qs_get hit) h01 hcn (by omega) (by omega) hL hG ap8 fun v9 s9 bd' lt' fg' wt' wg' W9 hnew f9 => ?_
          have dlt : ∀ x ∈ [d, l, tr, gr], x < s8.length := fun x hx => by
            have := D8.lt
            have := lt_of_get T8
            have := lt_of_get G8
            simp at hx
            omega
          have dl9 : ∀ x ∈ [d, l, tr, gr], (x < a ∨ b ≤ x) ∧ x ∉ [fc, bd', lt', fg', wt', wg'] := fun x hx => by
            refine ⟨(dl x hx).1, ?_⟩
            have h1 := (dl x hx).2
            have h2 := dlt x hx
            simp at h1 hnew ⊢
            omega
          have nfc : ∀ x ∈ [d, l, tr, gr], x ∉ [fc] := fun x hx => by
            have h1 := (dl x hx).2
            simp at h1 ⊢
            omega
          have D9 := D8.fr f9 (nfc _ (by simp)) (nfc _ (by simp))
          have T9 := f9.at T8 (nfc _ (by simp))
          have G9 := f9.at G8 (nfc _ (by simp))
          have tl9 : (told ++ [ans]).length = (qsOf its (j + 1)).length := by
            simp only [qsOf, hit]
            simp [tl]
          have fin : ∀ (T' : List Int) (K : RK) (s10 : Sto) (x13 : Option Vl), Wd s10 a b fc ap bd' mr hr lt' fg' wt' wg' n its (told ++ [ans]) (newL L c (j + 1) ans) (newG G c (j + 1) ans) → Dk s10 d l (c0 + 60 * j + 1) → s10[tr]? = some (.lst (T'.map Vl.int)) → s10[gr]? = some (.lst ((newG G c (j + 1) ans).map Vl.int)) → Rls (newL L c (j + 1) ans) T' → (∀ lo s', LaI ns d l c0 a b fc ap mr hr tr gr n its (j + 1 + 1) lo s' → K.nx lo s') →
              WS bK
                [some (.scr ns), some (.ref d), some (.int (n : Nat)), some (.int ((its.length + 1 : Nat) : Int)), some (stV n its), some (.ref tr), some (.ref fc), some (.ref gr), some (.int ((num + 1 : Nat) : Int)), some (.int ((j + 1 : Nat) : Int)), some (It.ask c).vl, some (.tup [.str "ask", .int (c : Nat)]), some (.int (c : Nat)), x13] s10 K := fun T' K s10 x13 W' D' sT' sG' R' hK => by
            rw [← hKn]
            have hL' : ∀ x ∈ newL L c (j + 1) ans, -1 ≤ x ∧ x ≤ its.length := fun y hy => by
              unfold newL at hy
              split at hy
              · exact hL y hy
              · rw [hx] at hy
                simp only at hy
                split at hy
                · rcases mem_set' hy with z | rfl
                  · exact hL y z
                  · omega
                · exact hL y hy
            have hG' : ∀ x ∈ newG G c (j + 1) ans, -1 ≤ x ∧ x ≤ its.length + 1 := fun y hy => by
              unfold newG at hy
              split at hy
              · rw [hg] at hy
                simp only at hy
                split at hy
                · rcases mem_set' hy with z | rfl
                  · exact hG y z
                  · omega
                · exact hG y hy
              · exact hG y hy
            have o9 : ∀ x ∈ [d, l], (x < a ∨ b ≤ x) ∧ x ∉ [fc, bd', lt', fg', wt', wg'] := fun x hx => dl9 x (by simp at hx ⊢; omega)
            have done : ∀ s11, Dk s11 d l (c0 + 60 * j + 60) → Fr [d, l] s10 s11 → K.nx [some (.scr ns), some (.ref d), some (.int (n : Nat)), some (.int ((its.length + 1 : Nat) : Int)), some (stV n its), some (.ref tr), some (.ref fc), some (.ref gr), some (.int ((num + 1 : Nat) : Int)), some (.int ((j + 1 : Nat) : Int)), some (It.ask c).vl, some (.tup [.str "ask", .int (c : Nat)]), some (.int (c : Nat)), x13] s11 := fun s11 D11 f11 =>
              hK _ _ ⟨bd', lt', fg', wt', wg', num + 1, told ++ [ans], _, T', _, _, _, _, _, _, rfl, W'.fr f11 o9, D11.mono (by omega), tl9, f11.at sT' nd.1, f11.at sG' nd.2.1, R', hL', hG', ap8, dl9, nd⟩
            by_cases hmod : ((num : Int) + 1) % 20 = 0
            · simp [hmod]
              refine knownS D' (by omega) W' o9 sT' sG' nd.1 nd.2.1 R' hn8 hits.1 hits.2 hL' hG' fun s11 D11 f11 => ?_
              simp
              exact done s11 (D11.mono (by omega)) f11
            · simp [hmod]
              exact done s10 (D'.mono (by omega)) Fr.refl
          have o1 : opIx (.ref tr) (.int (c : Nat)) s9 = some (.int t, s9) := by rw [opIx_lst T9, atN, List.getElem?_map, ht]; rfl
          have o2 : opIx (.ref gr) (.int (c : Nat)) s9 = some (.int g, s9) := by rw [opIx_lst G9, atN, List.getElem?_map, hg]; rfl
          have trn : ∀ x ∈ [d, l, gr], x ∉ [tr] := fun x hx => by
            have := nd
            simp at this hx ⊢
            omega
          have grn : ∀ x ∈ [d, l, tr], x ∉ [gr] := fun x hx => by
            have := nd
            simp at this hx ⊢
            omega
          rcases h01 with rfl | rfl
          · obtain ⟨w, hw⟩ : ∃ w : Int, w = (if t < ((j + 1 : Nat) : Int) then ((j + 1 : Nat) : Int) else t) := ⟨_, rfl⟩
            have hw' : (if t < (j : Int) + 1 then (j : Int) + 1 else t) = w := hw.symm
            simp [o1, opSet_lst T9, ixN_nat pT, hw']
            have ff : Fr [tr] s9 (s9.set tr (Ob.lst ((T.map Vl.int).set c (.int w)))) := Fr.refl.set (by simp)
            have e2 : newG G c (j + 1) 0 = G := by simp [newG]
            refine fin (T.set c w) _ _ _ (W9.fr ff (fun x hx => by simp at hx; subst hx; exact dl9 _ (by simp))) (D9.fr ff (trn _ (by simp)) (trn _ (by simp))) (by rw [get_set_self T9, List.map_set]) (by rw [e2]; exact ff.at G9 (trn _ (by simp))) (by rw [hw]; exact rls_set R hx ht (by omega)) fun lo s' h => (by show WS (loopX _ _ []) _ _ _; rw [WS_loopX_nil]; exact h)
          · obtain ⟨w, hw⟩ : ∃ w : Int, w = (if ((j + 1 : Nat) : Int) < g then ((j + 1 : Nat) : Int) else g) := ⟨_, rfl⟩
            have hw' : (if (j : Int) + 1 < g then (j : Int) + 1 else g) = w := hw.symm
            simp [o2, opSet_lst G9, ixN_nat pG, hw']
            have ff : Fr [gr] s9 (s9.set gr (Ob.lst ((G.map Vl.int).set c (.int w)))) := Fr.refl.set (by simp)
            have e1 : newL L c (j + 1) 1 = L := by simp [newL]
            have e2 : G.set c w = newG G c (j + 1) 1 := by rw [hw]; exact newG_set hg
            refine fin T _ _ _ (W9.fr ff (fun x hx => by simp at hx; subst hx; exact dl9 _ (by simp))) (D9.fr ff (grn _ (by simp)) (grn _ (by simp))) (ff.at T9 (grn _ (by simp))) (by rw [get_set_self G9, ← e2, List.map_set]) (by rw [e1]; exact R) fun lo s' h => (by show WS (loopX _ _ []) _ _ _; rw [WS_loopX_nil]; exact h)
    · rintro lo s7 ⟨bd, lt, fg, wt, wg, num, told, L, T, G, x9, x10, x11, x12, x13, rfl, Lw7⟩
      rw [enm_len] at Lw7
      simp at Lw7
      obtain ⟨W, D, tl, sT, sG, R, hL, hG, sep, dl, nd⟩ := Lw7
      simp
      refine knownS D (by omega) W (fun x hx => dl x (by simp at hx ⊢; omega)) sT sG nd.1 nd.2.1 R (by omega) (by omega) (by omega) hL hG fun s8 D8 f8 => ?_
      have W8 := W.fr f8 (fun x hx => dl x (by simp at hx ⊢; omega))
      have fa8 : s8[s4.length]? = some (.ins 5 [("story", stV n its), ("told", .tup (told.map Vl.int)), ("asked_pairs", .ref ap), ("bounds", .ref bd)]) := W8.fa
      simp [WE_eLenO, fa8, tab_UlenU]
      refine lenS W8 tl fun s9 => ?_
      simp [repr0]
  obtain ⟨a, s', e, rfl⟩ := key.get
  exact ⟨s', e⟩
end K36

open PySem PySem.W PyProof.Rows
set_option maxRecDepth 100000 in
set_option maxHeartbeats 0 in
theorem PySem.Challenge.cw_maybegone_k36_long_stories_holds : PySem.Challenge.rw_maybegone_k36_long_stories.Holds := by
  w_on; o_law; k_head; (case hw => w_witness2)
  k_fill
  refine Sm.walk_G (l := PySem.Challenge.rw_maybegone_k36_long_stories) (n := 63) (k := 7) (x := "_law_script") (m := K36.m_law) rfl (by decide) rfl ⟨rfl, by decide, by decide⟩ (fun w h Y => PySem.W.kIn_of Y) ?F K36.pure_law
  case F =>
    intro w mg fa h KX G hmg
    refine' K36.all_mk KX G hmg ?aC_Heap ?aC_Bounds ?aC_Facts ?a_holders_of ?a_moments_of ?a_questions_of ?a_numbered ?a__law_deck ?a__law_draw ?a__law_built ?a__law_answer ?a__law_known ?a_law ?in_Heap ?ma_Heap_apply ?ma_Heap_held_lists ?ma_Heap_reached_flags ?in_Bounds ?ma_Bounds_chain ?ma_Bounds_clash ?ma_Bounds_copied ?ma_Bounds_keep_gone ?ma_Bounds_keep_there ?ma_Bounds_take_reached ?in_Facts ?ma_Facts_UlenU ?ma_Facts_fate ?ma_Facts_tell ?ma_Facts_window ?l_HeapU_initU ?c_HeapU_initU ?k_HeapU_initU ?l_Heap_apply ?c_Heap_apply ?k_Heap_apply ?l_Heap_held_lists ?c_Heap_held_lists ?k_Heap_held_lists ?l_Heap_reached_flags ?c_Heap_reached_flags ?k_Heap_reached_flags ?l_holders_of ?c_holders_of ?k_holders_of ?l_moments_of ?c_moments_of ?k_moments_of ?l_questions_of ?c_questions_of ?k_questions_of ?l_BoundsU_initU ?c_BoundsU_initU ?k_BoundsU_initU ?l_Bounds_copied ?c_Bounds_copied ?k_Bounds_copied ?l_Bounds_keep_there ?c_Bounds_keep_there ?k_Bounds_keep_there ?l_Bounds_keep_gone ?c_Bounds_keep_gone ?k_Bounds_keep_gone ?l_Bounds_take_reached ?c_Bounds_take_reached ?k_Bounds_take_reached ?l_numbered ?c_numbered ?k_numbered ?l_Bounds_chain ?c_Bounds_chain ?k_Bounds_chain ?l_Bounds_clash ?c_Bounds_clash ?k_Bounds_clash ?l_Facts_tell ?c_Facts_tell ?k_Facts_tell ?l_FactsU_initU ?lT_FactsU_initU ?lE_FactsU_initU_0 ?c_FactsU_initU ?k_FactsU_initU ?l_FactsU_lenU ?c_FactsU_lenU ?k_FactsU_lenU ?l_Facts_fate ?c_Facts_fate ?k_Facts_fate ?l_Facts_window ?c_Facts_window ?k_Facts_window ?l__law_deck ?c__law_deck ?k__law_deck ?l__law_draw ?c__law_draw ?k__law_draw ?l__law_built ?c__law_built ?k__law_built ?l__law_answer ?c__law_answer ?k__law_answer ?l__law_known ?c__law_known ?k__law_known ?l_law ?c_law ?k_law ?pg_Heap ?hd_Heap ?po_Heap ?sa_Heap ?mm_Heap ?kc_Heap ?ii_Heap ?na_Heap_asked_pairs ?na_Heap_bounds ?na_Heap_first_gone ?na_Heap_holders ?na_Heap_kept_cells ?na_Heap_last_there ?na_Heap_moments ?na_Heap_standing ?na_Heap_story ?na_Heap_strong ?na_Heap_told ?na_Heap_why_gone ?na_Heap_why_there ?mi_Heap_apply ?mi_Heap_held_lists ?mi_Heap_reached_flags ?pg_Bounds ?hd_Bounds ?po_Bounds ?sa_Bounds ?mm_Bounds ?kc_Bounds ?ii_Bounds ?na_Bounds_asked_pairs ?na_Bounds_bounds ?na_Bounds_first_gone ?na_Bounds_holders ?na_Bounds_kept_cells ?na_Bounds_last_there ?na_Bounds_moments ?na_Bounds_standing ?na_Bounds_story ?na_Bounds_strong ?na_Bounds_told ?na_Bounds_why_gone ?na_Bounds_why_there ?mi_Bounds_chain ?mi_Bounds_clash ?mi_Bounds_copied ?mi_Bounds_keep_gone ?mi_Bounds_keep_there ?mi_Bounds_take_reached ?pg_Facts ?hd_Facts ?po_Facts ?sa_Facts ?mm_Facts ?kc_Facts ?ii_Facts ?na_Facts_asked_pairs ?na_Facts_bounds ?na_Facts_first_gone ?na_Facts_holders ?na_Facts_kept_cells ?na_Facts_last_there ?na_Facts_moments ?na_Facts_standing ?na_Facts_story ?na_Facts_strong ?na_Facts_told ?na_Facts_why_gone ?na_Facts_why_there ?mi_Facts_UlenU ?mi_Facts_fate ?mi_Facts_tell ?mi_Facts_window ?z_abs ?z_enumerate ?z_int ?z_len ?z_list ?z_max ?z_min ?z_range ?z_repr ?z_str ?z_tuple
    (case aC_Heap => k_is)
    (case aC_Bounds => k_is)
    (case aC_Facts => k_is)
    (case a_holders_of => k_is)
    (case a_moments_of => k_is)
    (case a_questions_of => k_is)
    (case a_numbered => k_is)
    (case a__law_deck => k_is)
    (case a__law_draw => k_is)
    (case a__law_built => k_is)
    (case a__law_answer => k_is)
    (case a__law_known => k_is)
    (case a_law => k_is)
    (case in_Heap => k_is)
    (case ma_Heap_apply => k_is)
    (case ma_Heap_held_lists => k_is)
    (case ma_Heap_reached_flags => k_is)
    (case in_Bounds => k_is)
    (case ma_Bounds_chain => k_is)
    (case ma_Bounds_clash => k_is)
    (case ma_Bounds_copied => k_is)
    (case ma_Bounds_keep_gone => k_is)
    (case ma_Bounds_keep_there => k_is)
    (case ma_Bounds_take_reached => k_is)
    (case in_Facts => k_is)
    (case ma_Facts_UlenU => k_is)
    (case ma_Facts_fate => k_is)
    (case ma_Facts_tell => k_is)
    (case ma_Facts_window => k_is)
    (case l_HeapU_initU => k_is)
    (case c_HeapU_initU => k_is)
    (case k_HeapU_initU => k_is)
    (case l_Heap_apply => k_is)
    (case c_Heap_apply => k_is)
    (case k_Heap_apply => k_is)
    (case l_Heap_held_lists => k_is)
    (case c_Heap_held_lists => k_is)
    (case k_Heap_held_lists => k_is)
    (case l_Heap_reached_flags => k_is)
    (case c_Heap_reached_flags => k_is)
    (case k_Heap_reached_flags => k_is)
    (case l_holders_of => k_is)
    (case c_holders_of => k_is)
    (case k_holders_of => k_is)
    (case l_moments_of => k_is)
    (case c_moments_of => k_is)
    (case k_moments_of => k_is)
    (case l_questions_of => k_is)
    (case c_questions_of => k_is)
    (case k_questions_of => k_is)
    (case l_BoundsU_initU => k_is)
    (case c_BoundsU_initU => k_is)
    (case k_BoundsU_initU => k_is)
    (case l_Bounds_copied => k_is)
    (case c_Bounds_copied => k_is)
    (case k_Bounds_copied => k_is)
    (case l_Bounds_keep_there => k_is)
    (case c_Bounds_keep_there => k_is)
    (case k_Bounds_keep_there => k_is)
    (case l_Bounds_keep_gone => k_is)
    (case c_Bounds_keep_gone => k_is)
    (case k_Bounds_keep_gone => k_is)
    (case l_Bounds_take_reached => k_is)
    (case c_Bounds_take_reached => k_is)
    (case k_Bounds_take_reached => k_is)
    (case l_numbered => k_is)
    (case c_numbered => k_is)
    (case k_numbered => k_is)
    (case l_Bounds_chain => k_is)
    (case c_Bounds_chain => k_is)
    (case k_Bounds_chain => k_is)
    (case l_Bounds_clash => k_is)
    (case c_Bounds_clash => k_is)
    (case k_Bounds_clash => k_is)
    (case l_Facts_tell => k_is)
    (case c_Facts_tell => k_is)
    (case k_Facts_tell => k_is)
    (case l_FactsU_initU => k_is)
    (case lT_FactsU_initU => k_is)
    (case lE_FactsU_initU_0 => k_is)
    (case c_FactsU_initU => k_is)
    (case k_FactsU_initU => k_is)
    (case l_FactsU_lenU => k_is)
    (case c_FactsU_lenU => k_is)
    (case k_FactsU_lenU => k_is)
    (case l_Facts_fate => k_is)
    (case c_Facts_fate => k_is)
    (case k_Facts_fate => k_is)
    (case l_Facts_window => k_is)
    (case c_Facts_window => k_is)
    (case k_Facts_window => k_is)
    (case l__law_deck => k_is)
    (case c__law_deck => k_is)
    (case k__law_deck => k_is)
    (case l__law_draw => k_is)
    (case c__law_draw => k_is)
    (case k__law_draw => k_is)
    (case l__law_built => k_is)
    (case c__law_built => k_is)
    (case k__law_built => k_is)
    (case l__law_answer => k_is)
    (case c__law_answer => k_is)
    (case k__law_answer => k_is)
    (case l__law_known => k_is)
    (case c__law_known => k_is)
    (case k__law_known => k_is)
    (case l_law => k_is)
    (case c_law => k_is)
    (case k_law => k_is)
    (case pg_Heap => k_is)
    (case hd_Heap => k_is)
    (case po_Heap => k_is)
    (case sa_Heap => k_is)
    (case mm_Heap => k_is)
    (case kc_Heap => k_is)
    (case ii_Heap => k_is)
    (case na_Heap_asked_pairs => k_is)
    (case na_Heap_bounds => k_is)
    (case na_Heap_first_gone => k_is)
    (case na_Heap_holders => k_is)
    (case na_Heap_kept_cells => k_is)
    (case na_Heap_last_there => k_is)
    (case na_Heap_moments => k_is)
    (case na_Heap_standing => k_is)
    (case na_Heap_story => k_is)
    (case na_Heap_strong => k_is)
    (case na_Heap_told => k_is)
    (case na_Heap_why_gone => k_is)
    (case na_Heap_why_there => k_is)
    (case mi_Heap_apply => k_is)
    (case mi_Heap_held_lists => k_is)
    (case mi_Heap_reached_flags => k_is)
    (case pg_Bounds => k_is)
    (case hd_Bounds => k_is)
    (case po_Bounds => k_is)
    (case sa_Bounds => k_is)
    (case mm_Bounds => k_is)
    (case kc_Bounds => k_is)
    (case ii_Bounds => k_is)
    (case na_Bounds_asked_pairs => k_is)
    (case na_Bounds_bounds => k_is)
    (case na_Bounds_first_gone => k_is)
    (case na_Bounds_holders => k_is)
    (case na_Bounds_kept_cells => k_is)
    (case na_Bounds_last_there => k_is)
    (case na_Bounds_moments => k_is)
    (case na_Bounds_standing => k_is)
    (case na_Bounds_story => k_is)
    (case na_Bounds_strong => k_is)
    (case na_Bounds_told => k_is)
    (case na_Bounds_why_gone => k_is)
    (case na_Bounds_why_there => k_is)
    (case mi_Bounds_chain => k_is)
    (case mi_Bounds_clash => k_is)
    (case mi_Bounds_copied => k_is)
    (case mi_Bounds_keep_gone => k_is)
    (case mi_Bounds_keep_there => k_is)
    (case mi_Bounds_take_reached => k_is)
    (case pg_Facts => k_is)
    (case hd_Facts => k_is)
    (case po_Facts => k_is)
    (case sa_Facts => k_is)
    (case mm_Facts => k_is)
    (case kc_Facts => k_is)
    (case ii_Facts => k_is)
    (case na_Facts_asked_pairs => k_is)
    (case na_Facts_bounds => k_is)
    (case na_Facts_first_gone => k_is)
    (case na_Facts_holders => k_is)
    (case na_Facts_kept_cells => k_is)
    (case na_Facts_last_there => k_is)
    (case na_Facts_moments => k_is)
    (case na_Facts_standing => k_is)
    (case na_Facts_story => k_is)
    (case na_Facts_strong => k_is)
    (case na_Facts_told => k_is)
    (case na_Facts_why_gone => k_is)
    (case na_Facts_why_there => k_is)
    (case mi_Facts_UlenU => k_is)
    (case mi_Facts_fate => k_is)
    (case mi_Facts_tell => k_is)
    (case mi_Facts_window => k_is)
    (case z_abs => k_is)
    (case z_enumerate => k_is)
    (case z_int => k_is)
    (case z_len => k_is)
    (case z_list => k_is)
    (case z_max => k_is)
    (case z_min => k_is)
    (case z_range => k_is)
    (case z_repr => k_is)
    (case z_str => k_is)
    (case z_tuple => k_is)
